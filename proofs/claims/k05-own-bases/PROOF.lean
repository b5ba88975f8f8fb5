import PyProof.Rows.All
import Wide.All
import OpenK.AllK
import Wide.FinOn
import HandS.ForMost
import HandS.Wide
import HandS.ForExc
import HandS.TryMany
import HandS.TryOnly
import HandS.Lambda
import HandS.Nested
import HandS.IsInst
import HandS.Defaults
import HandS.ExcIs
import HandS.TupAny
import HandS.Comp
import HandS.Deep
import KE.SortData
import PyProof.DictRoadsH
import PyProof.DictMoreH
import HandS.DictTup
import HandS.Zip
import HandS.TupMul
import HandS.TupLen
import HandS.Conv
import HandS.DictComp
import HandS.Property
import HandS.OwnEq
import OpenK.KMeth
import OpenK.KOps
import KE.SortKeyHeap
import HandS.SortKw
import HandS.EndTab
import KE.KNestM
import HandS.Style
import HandS.TupSets
import HandS.TupLe
import HandS.Flow
import PySem.Challenge.RW_tilesglued_k05_own_bases
set_option Elab.async false
set_option linter.all false
set_option maxRecDepth 100000
set_option maxHeartbeats 4000000
/-! A layer of plain data over the hand layer: values as data D, slots O (unset, data, an owned list), judgements EE (an expression gives data), EO (.. something owned), ET (a test), WS (a statement). -/
namespace TG
open PySem PySem.Spec PyProof.Rows L2

/-! ### data -/
inductive D where
  | non | bl (b : Bool) | int (i : Int) | str (s : Str) | ty (n : String) | tup (ds : List D) | lst (ds : List D)
  | cst (ds : List D) | dct (ks vs : List D) | dci (ns : List Int) (vs : List D) | obj (c : Str) (ns : List Str) (ds : List D)
/-- what a slot holds: nothing known, data, a list (a dict, an instance) of its own -/
inductive O where
  | un | va (d : D) | ml (ds : List D) | rf (a : Addr) | md (ks vs : List D) | mi (ns : List Int) (vs : List D) | mo (a : Addr) (c : Str) (ns : List Str) (ds : List D)
mutual
def D.py : D → PyData
  | .non => .none
  | .bl b => .bool b
  | .int i => .int i
  | .str s => .str s
  | .ty _ => .none
  | .tup ds => .tuple (D.pys ds)
  | .lst ds => .list (D.pys ds)
  | .cst _ => .none
  | .dct _ _ => .none
  | .dci _ _ => .none
  | .obj _ _ _ => .none
def D.pys : List D → List PyData
  | [] => []
  | d :: r => D.py d :: D.pys r
end
mutual
/-- no classes within, the texts small -/
def D.plain : D → Bool
  | .ty _ => false
  | .cst _ => false
  | .dct _ _ => false
  | .dci _ _ => false
  | .obj _ _ _ => false
  | .tup ds => D.plains ds
  | .lst ds => D.plains ds
  | .str s => PyData.strOk s
  | _ => true
def D.plains : List D → Bool
  | [] => true
  | d :: r => D.plain d && D.plains r
end
mutual
def D.depth : D → Nat
  | .tup ds => D.depths ds + 1
  | .lst ds => D.depths ds + 1
  | _ => 0
def D.depths : List D → Nat
  | [] => 0
  | d :: r => max (D.depth d) (D.depths r)
end
mutual
/-- a key: an int, a tuple of such -/
def D.hk : D → Bool
  | .int _ => true
  | .tup ds => D.hks ds
  | _ => false
def D.hks : List D → Bool
  | [] => true
  | d :: r => D.hk d && D.hks r
end
/-- a key that stands in a dict of tuples -/
def D.hkt : D → Bool
  | .tup ds => D.hks ds
  | _ => false
def D.key (d : D) : Bool := d.hkt && decide (d.depth ≤ 8)
/-! ### dicts whose keys are tuples of ints, of tuples, .. -/
mutual
def hashP : PyData → Int
  | .int i => hashInt i
  | .tuple xs => reduceHash (Builtin.Tuple.tupleHashOf (hashPs xs))
  | _ => 0
def hashPs : List PyData → List Int
  | [] => []
  | d :: r => hashP d :: hashPs r
end
abbrev Dx := List (PyData × Addr × Value)
def entP (x : PyData × Addr × Value) : DictEntry := ⟨hashP x.1, .ref x.2.1, x.2.2⟩
def DictX (a : Addr) (xs : Dx) : HO := .ext fun h => (a == sysModules) = false ∧ xs.length ≤ sizeLine ∧ ∃ o es ep, h.get? a = some o ∧ o.ExactDict ∧ o.data = .dict es ep ∧ es.toList = xs.map entP
theorem dictX_ne {a : Addr} {xs : Dx} : (∀ ps, DictX a xs ≠ .tbl ps) ∧ (∀ ys, DictX a xs ≠ .lst ys) ∧ (∀ ys, DictX a xs ≠ .tup ys) ∧ ∀ o u, DictX a xs ≠ .frz o u :=
  ⟨fun ps z => (by unfold DictX at z; cases z), fun ps z => (by unfold DictX at z; cases z), fun ps z => (by unfold DictX at z; cases z), fun o u z => (by unfold DictX at z; cases z)⟩
/-- the keys of an int dict -/
def intKs (ns : List Int) (us : List V) : List (Key × V) := (ns.map Sum.inl).zip us

mutual
inductive Rep (K : PySem.W.Frag) (G : Hp) : V → D → Prop
  | non : Rep K G .non .non
  | bl (b : Bool) : Rep K G (.bl b) (.bl b)
  | int (i : Int) : Rep K G (.int i) (.int i)
  | str (s : Str) : Rep K G (.str s) (.str s)
  | ty (n : String) : Rep K G (.ty n) (.ty n)
  | tup {a : Addr} {xs : List V} {ds : List D} : SqT K G a xs → RepL K G xs ds → Rep K G (.ref a) (.tup ds)
  | lst {a : Addr} {xs : List V} {ds : List D} : G a = some (.lst xs) → RepL K G xs ds → Rep K G (.ref a) (.lst ds)
  | cst {a : Addr} {xs : List V} {ds : List D} : SqL K G a xs → RepL K G xs ds → Rep K G (.ref a) (.cst ds)
  | dct {a : Addr} {o : Obj} {xs : Dx} {us : List V} {ks vs : List D} : G a = some (.frz o (DictX a xs)) → xs.map (·.1) = D.pys ks → (D.pys ks).Nodup → RepL K G (xs.map fun x => V.ref x.2.1) ks → Vals us (xs.map (·.2.2)) → RepL K G us vs → ks.all D.key = true → Rep K G (.ref a) (.dct ks vs)
  | dci {a : Addr} {o : Obj} {ns : List Int} {us : List V} {vs : List D} : G a = some (.frz o (.dK (intKs ns us))) → ns.Nodup → ns.length = us.length → RepL K G us vs → Rep K G (.ref a) (.dci ns vs)
  | obj {a C dx : Addr} {c : Str} {ns : List Str} {us : List V} {ds : List D} : PySem.W.nsIn K mainGlobals c = some (some (.ref C)) → G a = some (.ins C dx (ns.zip us)) → ns.length = us.length → RepL K G us ds → Rep K G (.ref a) (.obj c ns ds)
inductive RepL (K : PySem.W.Frag) (G : Hp) : List V → List D → Prop
  | nil : RepL K G [] []
  | cons {v : V} {vs : List V} {d : D} {ds : List D} : Rep K G v d → RepL K G vs ds → RepL K G (v :: vs) (d :: ds)
end

/-- all that stood stands, the tables of code objects grown -/
structure Ex (H H' : Hp) : Prop where
  keep : ∀ a o, H a = some o → (∀ ps, o ≠ .tbl ps) → H' a = some o
  tb : ∀ a ps, H a = some (.tbl ps) → ∃ ps', H' a = some (.tbl ps')
theorem Ex.app {H H' : Hp} (e : Ex H H') (a : Addr) (o : HO) (h : H a = some o) (n : ∀ ps, o ≠ .tbl ps := by intro ps z; cases z) : H' a = some o := e.keep a o h n
theorem Ex.refl (H : Hp) : Ex H H := ⟨fun _ _ h _ => h, fun _ ps h => ⟨ps, h⟩⟩
theorem Ex.trans {H H1 H2 : Hp} (a : Ex H H1) (b : Ex H1 H2) : Ex H H2 := ⟨fun x o h n => b.keep x o (a.keep x o h n) n, fun x ps h => let ⟨ps', h'⟩ := a.tb x ps h; b.tb x ps' h'⟩
theorem Ex.some_ {H H' : Hp} (e : Ex H H') {a : Addr} {o : HO} (h : H a = some o) : ∃ o', H' a = some o' := by
  by_cases q : ∃ ps, o = .tbl ps
  · obtain ⟨ps, rfl⟩ := q
    obtain ⟨ps', h'⟩ := e.tb a ps h
    exact ⟨_, h'⟩
  · exact ⟨o, e.keep a o h fun ps z => q ⟨ps, z⟩⟩
theorem Ex.back {H H' : Hp} (e : Ex H H') {a : Addr} (h : H' a = none) : H a = none := by
  cases q : H a with
  | none => rfl
  | some o =>
    obtain ⟨o', h'⟩ := e.some_ q
    rw [h'] at h; cases h
theorem Ex.of {H H' : Hp} (h : ∀ a o, H a = some o → H' a = some o) : Ex H H' := ⟨fun a o e _ => h a o e, fun a ps e => ⟨ps, h a _ e⟩⟩
theorem Ex.new {H : Hp} {p : Addr} {o : HO} (h : H p = none) : Ex H (upd H p o) := .of fun a u e => by
  rw [upd_ne (ne_of_none e h)]; exact e
theorem Ex.rd {H H' : Hp} {a : Addr} {u : HO} (e : Ex H H') (h : Rd H a u) (n : ∀ ps, u ≠ .tbl ps := by intro ps z; cases z) : Rd H' a u := by
  rcases h with h | ⟨o, h⟩
  · exact .inl (e.keep a _ h n)
  · exact .inr ⟨o, e.app a _ h⟩
theorem Ex.l {K : PySem.W.Frag} {H H' : Hp} {a : Addr} {xs : List V} (e : Ex H H') (h : H a = some (.lst xs)) : SqL K H' a xs := .inl (.inl (e.app _ _ h))
theorem Ex.lc {K : PySem.W.Frag} {H H' : Hp} {a : Addr} {xs : List V} (e : Ex H H') (h : SqL K H a xs) : SqL K H' a xs := h.elim (fun h => .inl (e.rd h)) .inr
theorem Ex.t {K : PySem.W.Frag} {H H' : Hp} {a : Addr} {xs : List V} (e : Ex H H') (h : SqT K H a xs) : SqT K H' a xs := h.elim (fun h => .inl (e.rd h)) .inr
theorem Ex.upd2 {G H : Hp} (e : Ex G H) {p : Addr} {o : HO} : Ex (upd G p o) (upd H p o) := by
  refine ⟨fun b u h n => ?_, fun b ps h => ?_⟩
  · by_cases hb : b = p
    · subst hb; rw [upd_same] at h ⊢; exact h
    · rw [upd_ne hb] at h ⊢; exact e.keep b u h n
  · by_cases hb : b = p
    · subst hb; rw [upd_same] at h ⊢; exact ⟨ps, h⟩
    · rw [upd_ne hb] at h ⊢; exact e.tb b ps h
theorem Ex.mut {H H' : Hp} {p : Addr} {o : HO} (e : Ex H H') (h : H p = none) : Ex H (upd H' p o) := by
  refine ⟨fun a u ha n => ?_, fun a ps ha => ?_⟩
  · rw [upd_ne (ne_of_none ha h)]; exact e.keep a u ha n
  · rw [upd_ne (ne_of_none ha h)]; exact e.tb a ps ha
/-! ### the tables of code objects that lambdas are made from -/
/-- the tables that may be written: each with the name that its code objects bear -/
class TbT where
  T : List (Addr × Str)
def Tb [TbT] (H : Hp) : Prop := LamX.Tabs TbT.T H
theorem tb_upd [TbT] {H : Hp} {p : Addr} {o : HO} (t : Tb H) (h : ∀ u, H p = some u → (∀ ps, u ≠ .tbl ps) ∧ ∀ q, u ≠ LamX.CodeO p q) : Tb (upd H p o) := fun x hx => by
  obtain ⟨ps, h1, h2, h3⟩ := t x hx
  have n1 : x.1 ≠ p := fun z => (h _ (z ▸ h1)).1 ps rfl
  refine ⟨ps, by rw [upd_ne n1]; exact h1, h2, fun pos cv hc => ?_⟩
  obtain ⟨c, e1, e2⟩ := h3 pos cv hc
  have n2 : c ≠ p := fun z => by
    subst z
    exact (h _ e2).2 x.2 rfl
  exact ⟨c, e1, by rw [upd_ne n2]; exact e2⟩
theorem tb_new [TbT] {H : Hp} {p : Addr} {o : HO} (t : Tb H) (h : H p = none) : Tb (upd H p o) := tb_upd t fun u e => by rw [h] at e; cases e
theorem lst_ne {xs : List V} : (∀ ps, HO.lst xs ≠ .tbl ps) ∧ ∀ c q, HO.lst xs ≠ LamX.CodeO c q := ⟨fun ps z => (by cases z), fun c q z => (by unfold LamX.CodeO at z; cases z)⟩
theorem tb_lst [TbT] {H : Hp} {p : Addr} {xs : List V} {o : HO} (t : Tb H) (h : H p = some (.lst xs)) : Tb (upd H p o) := tb_upd t fun u e => by
  rw [h] at e; cases e; exact ⟨lst_ne.1, fun q => lst_ne.2 p q⟩

section
variable {K : PySem.W.Frag} {G G' : Hp}
mutual
theorem Rep.mono (e : Ex G G') : ∀ {d : D} {v : V}, Rep K G v d → Rep K G' v d
  | .non, _, h => by cases h; exact .non
  | .bl _, _, h => by cases h; exact .bl _
  | .int _, _, h => by cases h; exact .int _
  | .str _, _, h => by cases h; exact .str _
  | .ty _, _, h => by cases h; exact .ty _
  | .tup _, _, h => by
    cases h with
    | tup h r => exact .tup (e.t h) (RepL.mono e r)
  | .lst _, _, h => by
    cases h with
    | lst h r => exact .lst (e.app _ _ h) (RepL.mono e r)
  | .cst _, _, h => by
    cases h with
    | cst h r => exact .cst (e.lc h) (RepL.mono e r)
  | .dct _ _, _, h => by
    cases h with
    | dct h k n r w t q => exact .dct (e.app _ _ h) k n (RepL.mono e r) w (RepL.mono e t) q
  | .dci _ _, _, h => by
    cases h with
    | dci h n l r => exact .dci (e.app _ _ h) n l (RepL.mono e r)
  | .obj _ _ _, _, h => by
    cases h with
    | obj c h l r => exact .obj c (e.app _ _ h) l (RepL.mono e r)
theorem RepL.mono (e : Ex G G') : ∀ {ds : List D} {vs : List V}, RepL K G vs ds → RepL K G' vs ds
  | [], _, .nil => .nil
  | _ :: _, _, .cons h r => .cons (Rep.mono e h) (RepL.mono e r)
end
theorem RepL.length : ∀ {ds : List D} {vs : List V}, RepL K G vs ds → vs.length = ds.length
  | [], _, .nil => rfl
  | _ :: _, _, .cons _ r => congrArg (· + 1) (RepL.length r)
theorem RepL.get : ∀ {ds : List D} {vs : List V} {i : Nat} {d : D}, RepL K G vs ds → ds[i]? = some d → ∃ v, vs[i]? = some v ∧ Rep K G v d
  | [], _, _, _, .nil, e => by simp at e
  | _ :: _, _, 0, _, .cons h _, e => by simp at e; subst e; exact ⟨_, rfl, h⟩
  | _ :: _, _, i + 1, _, .cons _ r, e => by
    obtain ⟨v, h1, h2⟩ := RepL.get (i := i) r (by simpa using e)
    exact ⟨v, by simpa using h1, h2⟩
theorem RepL.getV : ∀ {ds : List D} {vs : List V} {i : Nat} {v : V}, RepL K G vs ds → vs[i]? = some v → ∃ d, ds[i]? = some d ∧ Rep K G v d
  | [], _, _, _, .nil, e => by simp at e
  | _ :: _, _, 0, _, .cons h _, e => by simp at e; subst e; exact ⟨_, rfl, h⟩
  | _ :: _, _, i + 1, _, .cons _ r, e => by
    obtain ⟨v, h1, h2⟩ := RepL.getV (i := i) r (by simpa using e)
    exact ⟨v, by simpa using h1, h2⟩
theorem RepL.append : ∀ {ds es : List D} {vs ws : List V}, RepL K G vs ds → RepL K G ws es → RepL K G (vs ++ ws) (ds ++ es)
  | [], _, _, _, .nil, s => s
  | _ :: _, _, _, _, .cons h r, s => .cons h (RepL.append r s)
theorem RepL.one {v : V} {d : D} (h : Rep K G v d) : RepL K G [v] [d] := .cons h .nil
theorem RepL.take : ∀ {ds : List D} {vs : List V} (n : Nat), RepL K G vs ds → RepL K G (vs.take n) (ds.take n)
  | _, _, 0, _ => .nil
  | [], _, _ + 1, .nil => .nil
  | _ :: _, _, n + 1, .cons h r => .cons h (RepL.take n r)
theorem RepL.drop : ∀ {ds : List D} {vs : List V} (n : Nat), RepL K G vs ds → RepL K G (vs.drop n) (ds.drop n)
  | _, _, 0, r => r
  | [], _, _ + 1, .nil => .nil
  | _ :: _, _, n + 1, .cons _ r => RepL.drop n r
theorem RepL.dropLast {ds : List D} {vs : List V} (r : RepL K G vs ds) : RepL K G vs.dropLast ds.dropLast := by
  rw [List.dropLast_eq_take, List.dropLast_eq_take, r.length]; exact r.take _
theorem RepL.set : ∀ {ds : List D} {vs : List V} {d : D} {v : V} (i : Nat), RepL K G vs ds → Rep K G v d → RepL K G (vs.set i v) (ds.set i d)
  | [], _, _, _, _, .nil, _ => .nil
  | _ :: _, _, _, _, 0, .cons _ r, h => .cons h r
  | _ :: _, _, _, _, i + 1, .cons q r, h => .cons q (RepL.set i r h)
end

/-! ### no lists within: nothing of it can be a list that is changed later -/
mutual
def D.noL : D → Bool
  | .lst _ => false
  | .cst _ => false
  | .tup ds => D.noLs ds
  | .dct ks vs => D.noLs ks && D.noLs vs
  | .dci _ vs => D.noLs vs
  | .obj _ _ ds => D.noLs ds
  | _ => true
def D.noLs : List D → Bool
  | [] => true
  | d :: r => D.noL d && D.noLs r
end
section
variable {K : PySem.W.Frag} {G : Hp} {a : Addr} {xs : List V}
def del (G : Hp) (a : Addr) : Hp := fun b => if b = a then none else G b
theorem del_same : del G a a = none := if_pos rfl
theorem del_ne {b : Addr} (h : b ≠ a) : del G a b = G b := if_neg h
theorem del_ex : Ex (del G a) G := .of fun b o e => by
  by_cases h : b = a
  · subst h; rw [del_same] at e; cases e
  · rw [del_ne h] at e; exact e
theorem ex_del {F : Hp} (e : Ex F G) (h : F a = none) : Ex F (del G a) := by
  refine ⟨fun b o q n => ?_, fun b ps q => ?_⟩
  · rw [del_ne (ne_of_none q h)]; exact e.keep b o q n
  · rw [del_ne (ne_of_none q h)]; exact e.tb b ps q
theorem SqT.del {b : Addr} {ys : List V} (ha : G a = some (.lst xs)) (h : SqT K G b ys) : SqT K (del G a) b ys := by
  rcases h with (h | ⟨o, h⟩) | h
  · exact .inl (.inl (by rw [del_ne (ne_of h ha (by intro z; cases z))]; exact h))
  · exact .inl (.inr ⟨o, by rw [del_ne (ne_of h ha (by intro z; cases z))]; exact h⟩)
  · exact .inr h
mutual
theorem Rep.del (ha : G a = some (.lst xs)) : ∀ {d : D} {v : V}, Rep K G v d → d.noL = true → Rep K (del G a) v d
  | .non, _, h, _ => by cases h; exact .non
  | .bl _, _, h, _ => by cases h; exact .bl _
  | .int _, _, h, _ => by cases h; exact .int _
  | .str _, _, h, _ => by cases h; exact .str _
  | .ty _, _, h, _ => by cases h; exact .ty _
  | .tup _, _, h, n => by
    cases h with
    | tup h r => exact .tup (SqT.del ha h) (RepL.del ha r n)
  | .lst _, _, _, n => by exact absurd n (by simp [D.noL])
  | .cst _, _, _, n => by exact absurd n (by simp [D.noL])
  | .dct ks vs, _, h, n => by
    have n' : (D.noLs ks && D.noLs vs) = true := n
    rw [Bool.and_eq_true] at n'
    cases h with
    | dct h k nd r w t q => exact .dct (by rw [del_ne (ne_of h ha (by intro z; cases z))]; exact h) k nd (RepL.del ha r n'.1) w (RepL.del ha t n'.2) q
  | .dci ns vs, _, h, n => by
    cases h with
    | dci h nd l r => exact .dci (by rw [del_ne (ne_of h ha (by intro z; cases z))]; exact h) nd l (RepL.del ha r n)
  | .obj _ _ ds, _, h, n => by
    cases h with
    | obj c h l r => exact .obj c (by rw [del_ne (ne_of h ha (by intro z; cases z))]; exact h) l (RepL.del ha r n)
theorem RepL.del (ha : G a = some (.lst xs)) : ∀ {ds : List D} {vs : List V}, RepL K G vs ds → D.noLs ds = true → RepL K (del G a) vs ds
  | [], _, .nil, _ => .nil
  | d :: r, _, .cons h t, n => by
    have n' : (D.noL d && D.noLs r) = true := n
    rw [Bool.and_eq_true] at n'
    exact .cons (Rep.del ha h n'.1) (RepL.del ha t n'.2)
end
end

/-! ### the slots -/
/-- what stands for v: H0 the heap at the def's entry, G what never changes, H all -/
def OOk (K : PySem.W.Frag) (H0 G H : Hp) : O → V → Prop
  | .un, _ => True
  | .va d, v => Rep K G v d
  | .ml ds, v => ∃ a xs, v = .ref a ∧ H a = some (.lst xs) ∧ G a = none ∧ H0 a = none ∧ RepL K G xs ds
  | .rf a, v => v = .ref a
  | .md ks vs, v => ∃ (a : Addr) (xs : Dx) (us : List V), v = .ref a ∧ H a = some (DictX a xs) ∧ G a = none ∧ H0 a = none ∧ xs.map (·.1) = D.pys ks ∧ (D.pys ks).Nodup ∧ RepL K G (xs.map fun x => V.ref x.2.1) ks ∧ Vals us (xs.map (·.2.2)) ∧ RepL K G us vs ∧ ks.all D.key = true
  | .mi ns vs, v => ∃ (a : Addr) (us : List V), v = .ref a ∧ H a = some (.dK (intKs ns us)) ∧ G a = none ∧ H0 a = none ∧ ns.Nodup ∧ ns.length = us.length ∧ RepL K G us vs
  | .mo a c ns ds, v => ∃ (C dx : Addr) (us : List V), v = .ref a ∧ PySem.W.nsIn K mainGlobals c = some (some (.ref C)) ∧ H a = some (.ins C dx (ns.zip us)) ∧ G a = none ∧ H0 a = none ∧ ns.length = us.length ∧ RepL K G us ds
def O.own : O → Bool
  | .ml _ => true
  | .md _ _ => true
  | .mi _ _ => true
  | .mo _ _ _ _ => true
  | _ => false
def Own (ρ : List O) (σ : L2.St) (i : Nat) (a : Addr) : Prop := (∃ o, ρ[i]? = some o ∧ o.own = true) ∧ σ[i]? = some (some (.ref a))
structure SOk [TbT] (K : PySem.W.Frag) (E : Hp × Hp) (ρ : List O) (σ : L2.St) (G H : Hp) : Prop where
  g0 : Ex E.1 G
  gh : Ex G H
  h0 : Ex E.2 H
  fr : ∀ b, E.1 b = none → G b ≠ none → E.2 b = none
  len : ρ.length = σ.length
  at' : ∀ (i : Nat) (o : O), ρ[i]? = some o → o = .un ∨ ∃ v, σ[i]? = some (some v) ∧ OOk K E.2 G H o v
  apart : ∀ (i j : Nat) (a : Addr), Own ρ σ i a → Own ρ σ j a → i = j
  tb : Tb H
/-- G, H grow -/
structure Grow [TbT] (G H G' H' : Hp) : Prop where
  g : Ex G G'
  h : Ex H H'
  gh : Ex G' H'
  fr : ∀ b, G b = none → G' b ≠ none → H b = none
  tb : Tb H → Tb H'

section
variable [TbT]
variable {K : PySem.W.Frag} {E : Hp × Hp} {ρ : List O} {σ : L2.St} {G H G' H' : Hp} {i : Nat} {a : Addr} {xs : List V} {ds : List D} {d : D} {v : V} {o : O}
theorem Grow.refl (e : Ex G H) : Grow G H G H := ⟨Ex.refl _, Ex.refl _, e, fun _ h q => absurd h q, id⟩
theorem Grow.trans {G2 H2 : Hp} (x : Grow G H G' H') (y : Grow G' H' G2 H2) : Grow G H G2 H2 := ⟨x.g.trans y.g, x.h.trans y.h, y.gh, fun b h q => by
  cases e : G' b with
  | none => exact x.h.back (y.fr b e q)
  | some o => exact x.fr b h (by rw [e]; simp), fun t => y.tb (x.tb t)⟩
/-- a new object of the part that never changes -/
theorem Grow.new {p : Addr} {u : HO} (e : Ex G H) (hp : H p = none) : Grow G H (upd G p u) (upd H p u) :=
  ⟨Ex.new (e.back hp), Ex.new hp, e.upd2, fun b h q => by
    by_cases z : b = p
    · rw [z]; exact hp
    · rw [upd_ne z] at q; exact absurd h q, fun t => tb_new t hp⟩
/-- a new object that may change -/
theorem Grow.newH {p : Addr} {u : HO} (e : Ex G H) (hp : H p = none) : Grow G H G (upd H p u) :=
  ⟨Ex.refl _, Ex.new hp, e.mut (e.back hp), fun b h q => absurd h q, fun t => tb_new t hp⟩
theorem Grow.none (x : Grow G H G' H') {u : HO} (h1 : H a = some u) (h2 : G a = none) : G' a = none := by
  cases z : G' a with
  | none => rfl
  | some w =>
    have := x.fr a h2 (by rw [z]; simp)
    rw [h1] at this; cases this
theorem OOk.grow (x : Grow G H G' H') (q : OOk K E.2 G H o v) : OOk K E.2 G' H' o v := by
  cases o with
  | un => trivial
  | va d => exact Rep.mono x.g q
  | rf a => exact q
  | ml ds =>
    obtain ⟨a, xs, e, h1, h2, h3, r⟩ := q
    exact ⟨a, xs, e, x.h.app a _ h1, x.none h1 h2, h3, r.mono x.g⟩
  | md ks vs =>
    obtain ⟨a, xs, us, e, h1, h2, h3, k, n, r, w, t, q⟩ := q
    exact ⟨a, xs, us, e, x.h.app a _ h1 dictX_ne.1, x.none h1 h2, h3, k, n, r.mono x.g, w, t.mono x.g, q⟩
  | mi ns vs =>
    obtain ⟨a, us, e, h1, h2, h3, n, l, r⟩ := q
    exact ⟨a, us, e, x.h.app a _ h1, x.none h1 h2, h3, n, l, r.mono x.g⟩
  | mo a c ns ds =>
    obtain ⟨C, dx, us, e, hc, h1, h2, h3, l, r⟩ := q
    exact ⟨C, dx, us, e, hc, x.h.app a _ h1, x.none h1 h2, h3, l, r.mono x.g⟩
omit [TbT] in
theorem OOk.h0 {K : PySem.W.Frag} {H0 H1 G H : Hp} {o : O} {v : V} (q : OOk K H1 G H o v) (e : Ex H0 H1) : OOk K H0 G H o v := by
  cases o with
  | un => trivial
  | va d => exact q
  | rf a => exact q
  | ml ds => obtain ⟨a, xs, e1, h1, h2, h3, r⟩ := q; exact ⟨a, xs, e1, h1, h2, e.back h3, r⟩
  | md ks vs => obtain ⟨a, xs, us, e1, h1, h2, h3, r⟩ := q; exact ⟨a, xs, us, e1, h1, h2, e.back h3, r⟩
  | mi ns vs => obtain ⟨a, us, e1, h1, h2, h3, r⟩ := q; exact ⟨a, us, e1, h1, h2, e.back h3, r⟩
  | mo a c ns ds => obtain ⟨C, dx, us, e1, c, h1, h2, h3, r⟩ := q; exact ⟨C, dx, us, e1, c, h1, h2, e.back h3, r⟩
theorem SOk.grow (S : SOk K E ρ σ G H) (x : Grow G H G' H') : SOk K E ρ σ G' H' := by
  refine ⟨S.g0.trans x.g, x.gh, S.h0.trans x.h, fun b h q => ?_, S.len, fun i o e => ?_, S.apart, x.tb S.tb⟩
  · cases e : G b with
    | none => exact S.h0.back (x.fr b e q)
    | some u => exact S.fr b h (by rw [e]; simp)
  · rcases S.at' i o e with h | ⟨v, h1, h2⟩
    · exact .inl h
    · exact .inr ⟨v, h1, h2.grow x⟩
theorem SOk.get (S : SOk K E ρ σ G H) (h : ρ[i]? = some (.va d)) : ∃ v, σ[i]? = some (some v) ∧ Rep K G v d := by
  rcases S.at' i _ h with h | h
  · cases h
  · exact h
theorem SOk.getL (S : SOk K E ρ σ G H) (h : ρ[i]? = some (.ml ds)) : ∃ a xs, σ[i]? = some (some (.ref a)) ∧ H a = some (.lst xs) ∧ G a = none ∧ E.2 a = none ∧ RepL K G xs ds := by
  rcases S.at' i _ h with h | ⟨v, h1, a, xs, e, h2, h3, h4, r⟩
  · cases h
  · subst e; exact ⟨a, xs, h1, h2, h3, h4, r⟩
omit [TbT] in
theorem set_at {α : Type} {l : List α} {i j : Nat} {x y : α} (h : (l.set i x)[j]? = some y) : (i = j ∧ y = x ∧ i < l.length) ∨ (i ≠ j ∧ l[j]? = some y) := by
  rw [List.getElem?_set] at h
  by_cases e : i = j
  · rw [if_pos e] at h
    by_cases l' : i < l.length
    · rw [if_pos l'] at h; exact .inl ⟨e, (Option.some.inj h).symm, l'⟩
    · rw [if_neg l'] at h; cases h
  · rw [if_neg e] at h; exact .inr ⟨e, h⟩
/-- a slot is stored -/
theorem SOk.set (S : SOk K E ρ σ G H) (i : Nat) (q : OOk K E.2 G H o v) (n : o.own = true → ∀ (j : Nat) b, Own ρ σ j b → v ≠ .ref b) : SOk K E (ρ.set i o) (σ.set i (some v)) G H := by
  refine ⟨S.g0, S.gh, S.h0, S.fr, by rw [List.length_set, List.length_set]; exact S.len, fun j u e => ?_, fun j k b hj hk => ?_, S.tb⟩
  · rcases set_at e with ⟨rfl, rfl, l⟩ | ⟨ne, e⟩
    · refine .inr ⟨v, ?_, q⟩
      rw [List.getElem?_set_self (by rw [← S.len]; exact l)]
    · rcases S.at' j u e with h | ⟨v', h1, h2⟩
      · exact .inl h
      · exact .inr ⟨v', by rw [List.getElem?_set_ne ne]; exact h1, h2⟩
  · obtain ⟨⟨oj, ej, pj⟩, sj⟩ := hj
    obtain ⟨⟨ok, ek, pk⟩, sk⟩ := hk
    rcases set_at ej with ⟨hj, hoj, lj⟩ | ⟨nj, ej'⟩ <;> rcases set_at ek with ⟨hk, hok, lk⟩ | ⟨nk, ek'⟩
    · exact hj.symm.trans hk
    · subst hj; subst hoj
      rw [List.getElem?_set_self (by rw [← S.len]; exact lj)] at sj
      rw [List.getElem?_set_ne nk] at sk
      exact absurd (Option.some.inj (Option.some.inj sj)) (n pj k b ⟨⟨ok, ek', pk⟩, sk⟩)
    · subst hk; subst hok
      rw [List.getElem?_set_self (by rw [← S.len]; exact lk)] at sk
      rw [List.getElem?_set_ne nj] at sj
      exact absurd (Option.some.inj (Option.some.inj sk)) (n pk j b ⟨⟨oj, ej', pj⟩, sj⟩)
    · rw [List.getElem?_set_ne nj] at sj
      rw [List.getElem?_set_ne nk] at sk
      exact S.apart j k b ⟨⟨oj, ej', pj⟩, sj⟩ ⟨⟨ok, ek', pk⟩, sk⟩
theorem SOk.own_at (S : SOk K E ρ σ G H) (h : Own ρ σ i a) : (∃ u, H a = some u) ∧ G a = none ∧ E.2 a = none := by
  obtain ⟨⟨o, e, p⟩, s⟩ := h
  rcases S.at' i o e with z | ⟨v, h1, h2⟩
  · subst z; exact absurd p Bool.false_ne_true
  rw [s] at h1; cases h1
  cases o with
  | un => exact absurd p Bool.false_ne_true
  | va d => exact absurd p Bool.false_ne_true
  | rf a => exact absurd p Bool.false_ne_true
  | ml ds => obtain ⟨b, xs, e1, k1, k2, k3, _⟩ := h2; cases e1; exact ⟨⟨_, k1⟩, k2, k3⟩
  | md ks vs => obtain ⟨b, xs, us, e1, k1, k2, k3, _⟩ := h2; cases e1; exact ⟨⟨_, k1⟩, k2, k3⟩
  | mi ns vs => obtain ⟨b, us, e1, k1, k2, k3, _⟩ := h2; cases e1; exact ⟨⟨_, k1⟩, k2, k3⟩
  | mo b c ns ds => obtain ⟨C, dx, us, e1, _, k1, k2, k3, _⟩ := h2; cases e1; exact ⟨⟨_, k1⟩, k2, k3⟩
omit [TbT] in
/-- slots are forgotten -/
inductive Le : List O → List O → Prop
  | nil : Le [] []
  | un {o : O} {ρ ρ' : List O} : Le ρ ρ' → Le (o :: ρ) (.un :: ρ')
  | eq {o : O} {ρ ρ' : List O} : Le ρ ρ' → Le (o :: ρ) (o :: ρ')
omit [TbT] in
theorem Le.at {ρ ρ' : List O} (l : Le ρ ρ') : ∀ {i : Nat} {o : O}, ρ'[i]? = some o → o = .un ∨ ρ[i]? = some o := by
  induction l with
  | nil => intro i o h; simp at h
  | un _ ih =>
    intro i o h
    cases i with
    | zero => simp at h; exact .inl h.symm
    | succ i => simpa using ih (by simpa using h)
  | eq _ ih =>
    intro i o h
    cases i with
    | zero => exact .inr h
    | succ i => simpa using ih (by simpa using h)
omit [TbT] in
theorem Le.len {ρ ρ' : List O} (l : Le ρ ρ') : ρ.length = ρ'.length := by
  induction l with
  | nil => rfl
  | un _ ih => simp [ih]
  | eq _ ih => simp [ih]
omit [TbT] in
theorem Le.refl : ∀ ρ : List O, Le ρ ρ
  | [] => .nil
  | _ :: r => .eq (Le.refl r)
theorem SOk.le {ρ' : List O} (S : SOk K E ρ σ G H) (l : Le ρ ρ') : SOk K E ρ' σ G H := by
  refine ⟨S.g0, S.gh, S.h0, S.fr, by rw [← l.len]; exact S.len, fun i o e => ?_, fun i j a hi hj => ?_, S.tb⟩
  · rcases l.at e with h | h
    · exact .inl h
    · exact S.at' i o h
  · obtain ⟨⟨oi, ei, pi⟩, si⟩ := hi
    obtain ⟨⟨oj, ej, pj⟩, sj⟩ := hj
    rcases l.at ei with h | h
    · subst h; exact absurd pi Bool.false_ne_true
    rcases l.at ej with h' | h'
    · subst h'; exact absurd pj Bool.false_ne_true
    exact S.apart i j a ⟨⟨oi, h, pi⟩, si⟩ ⟨⟨oj, h', pj⟩, sj⟩
end

/-! ### exceptions: what the context takes -/
/-- whatever X takes -/
def WA (X : Cx) : WX := fun cls d σ H => ∃ W : WX, Takes X W ∧ W cls d σ H
theorem takes_acc {X : Cx} : Takes X (WA X) := fun u s' ⟨a, B, sI, pins, σ, H, cls, d, e, I, nb, up, sky, na, os, ag, W, t, w⟩ => t u s' ⟨a, B, sI, pins, σ, H, cls, d, e, I, nb, up, sky, na, os, ag, w⟩
/-- exceptions wished: by the class's name, the slots -/
abbrev Exs := Str → List O → Prop
/-- no exception leaves -/
abbrev noX : Exs := fun _ _ => False
/-- the slots and the heaps, and that the wished exceptions are taken -/
structure SOx [TbT] (X : Cx) (ex : Exs) (E : Hp × Hp) (ρ : List O) (σ : L2.St) (G H : Hp) : Prop extends SOk X.K E ρ σ G H where
  xo : ∀ n ρ', ex n ρ' → ∀ C, X.mg n = some (.ref C) → ∀ σ' G' H', SOk X.K E ρ' σ' G' H' → Ex G G' → WA X (.ref C) none σ' H'
section
variable [TbT] {X : Cx} {ex : Exs} {E : Hp × Hp} {ρ ρ' : List O} {σ σ' : L2.St} {G H G' H' : Hp}
theorem SOx.at (S : SOx X ex E ρ σ G H) (S' : SOk X.K E ρ' σ' G' H') (e : Ex G G') : SOx X ex E ρ' σ' G' H' := ⟨S', fun n ρ1 h C hm σ1 G1 H1 S1 e1 => S.xo n ρ1 h C hm σ1 G1 H1 S1 (e.trans e1)⟩
theorem SOx.grow (S : SOx X ex E ρ σ G H) (x : Grow G H G' H') : SOx X ex E ρ σ G' H' := S.at (S.toSOk.grow x) x.g
theorem SOx.le (S : SOx X ex E ρ σ G H) (l : Le ρ ρ') : SOx X ex E ρ' σ G H := S.at (S.toSOk.le l) (Ex.refl _)
instance : CoeOut (SOx X ex E ρ σ G H) (SOk X.K E ρ σ G H) := ⟨SOx.toSOk⟩
/-- no exception -/
theorem SOk.nox (S : SOk X.K E ρ σ G H) : SOx X noX E ρ σ G H := ⟨S, fun _ _ h => h.elim⟩
end
end TG
/-! Judgements over plain data and their rules: expressions. -/
namespace TG
open PySem PySem.Spec PyProof.Rows L2
variable [TbT]

/-! ### a piece of syntax's own meaning as a reading -/
section
variable {X : Cx}
def tSem (X : Cx) (e : Expr) : TE := fun σ H Q => ∀ (pins : List (Addr × Obj)) (s : Shared), Inv X pins σ H s → wpAny (model X.prog X.w) X.A (eval e X.env) (EP X pins σ Q) X.xe s
def tSemT (X : Cx) (e : Expr) : TT := fun σ H Q => ∀ (pins : List (Addr × Obj)) (s : Shared), Inv X pins σ H s → wpAny (model X.prog X.w) X.A (isTrue e X.env (eval e X.env)) (TP X pins σ Q) X.xe s
def tSemW (X : Cx) (e : Expr) : TT := fun σ H Q => ∀ (whole : Sem Value) (pins : List (Addr × Obj)) (s : Shared), Inv X pins σ H s → wpAny (model X.prog X.w) X.A (isTrue e X.env whole) (TP X pins σ Q) X.xe s
def tSemA (X : Cx) (es : List Expr) : TA := fun σ H Q => ∀ (pos : Pos) (pins : List (Addr × Obj)) (s : Shared), Inv X pins σ H s → wpAny (model X.prog X.w) X.A (spliced (backTo pos (starEach es X.env))) (AP X pins σ Q) X.xe s
def tSemS (X : Cx) (st : Stmt) : TS := fun D σ H => ∀ (pins : List (Addr × Obj)) (s : Shared), Inv X pins σ H s → wpAny (model X.prog X.w) X.A (exec st X.env) (SP X pins D) X.xe s
def tSemSs (X : Cx) (st : List Stmt) : TS := fun D σ H => ∀ (pins : List (Addr × Obj)) (s : Shared), Inv X pins σ H s → wpAny (model X.prog X.w) X.A (execs st X.env) (SP X pins D) X.xe s
omit [TbT] in
theorem sem_pe {e : Expr} : PE X e (tSem X e) := ⟨fun pins s _ _ _ I h => h pins s I⟩
omit [TbT] in
theorem sem_pt {e : Expr} : PT X e (tSemT X e) := ⟨fun pins s _ _ _ I h => h pins s I⟩
omit [TbT] in
theorem sem_pw {e : Expr} : PW X e (tSemW X e) := ⟨fun wh pins s _ _ _ I h => h wh pins s I⟩
omit [TbT] in
theorem sem_pa {es : List Expr} : PA X es (tSemA X es) := ⟨fun pos pins s _ _ _ I h => h pos pins s I⟩
omit [TbT] in
theorem sem_ps {st : Stmt} : PS X st (tSemS X st) := ⟨fun pins s _ _ _ I h => h pins s I⟩
omit [TbT] in
theorem sem_pss {st : List Stmt} : PSs X st (tSemSs X st) := ⟨fun pins s _ _ _ I h => h pins s I⟩
omit [TbT] in
theorem of_pe {e : Expr} {t : TE} (h : PE X e t) {σ : L2.St} {H : Hp} {Q : VK} (q : t σ H Q) : tSem X e σ H Q := fun pins s I => h.run pins s σ H Q I q
omit [TbT] in
theorem of_pt {e : Expr} {t : TT} (h : PT X e t) {σ : L2.St} {H : Hp} {Q : Bool → Hp → Prop} (q : t σ H Q) : tSemT X e σ H Q := fun pins s I => h.run pins s σ H Q I q
omit [TbT] in
theorem of_pw {e : Expr} {t : TT} (h : PW X e t) {σ : L2.St} {H : Hp} {Q : Bool → Hp → Prop} (q : t σ H Q) : tSemW X e σ H Q := fun wh pins s I => h.run wh pins s σ H Q I q
omit [TbT] in
theorem of_pa {es : List Expr} {t : TA} (h : PA X es t) {σ : L2.St} {H : Hp} {Q : List V → Hp → Prop} (q : t σ H Q) : tSemA X es σ H Q := fun pos pins s I => h.run pos pins s σ H Q I q
omit [TbT] in
theorem of_ps {st : Stmt} {t : TS} (h : PS X st t) {σ : L2.St} {H : Hp} {D : Ends} (q : t D σ H) : tSemS X st D σ H := fun pins s I => h.run pins s σ H D I q
omit [TbT] in
theorem of_pss {st : List Stmt} {t : TS} (h : PSs X st t) {σ : L2.St} {H : Hp} {D : Ends} (q : t D σ H) : tSemSs X st D σ H := fun pins s I => h.run pins s σ H D I q
omit [TbT] in
theorem tSem_mono {e : Expr} {σ : L2.St} {H : Hp} {Q Q' : VK} (h : tSem X e σ H Q) (k : ∀ v H', Q v H' → Q' v H') : tSem X e σ H Q' :=
  fun pins s I => thn (h pins s I) fun _ _ ⟨v, H', I', r, q⟩ => ⟨v, H', I', r, k v H' q⟩
omit [TbT] in
theorem tSemT_mono {e : Expr} {σ : L2.St} {H : Hp} {Q Q' : Bool → Hp → Prop} (h : tSemT X e σ H Q) (k : ∀ v H', Q v H' → Q' v H') : tSemT X e σ H Q' :=
  fun pins s I => thn (h pins s I) fun _ _ ⟨H', I', q⟩ => ⟨H', I', k _ H' q⟩
omit [TbT] in
theorem tSemW_mono {e : Expr} {σ : L2.St} {H : Hp} {Q Q' : Bool → Hp → Prop} (h : tSemW X e σ H Q) (k : ∀ v H', Q v H' → Q' v H') : tSemW X e σ H Q' :=
  fun wh pins s I => thn (h wh pins s I) fun _ _ ⟨H', I', q⟩ => ⟨H', I', k _ H' q⟩
omit [TbT] in
theorem tSemA_mono {es : List Expr} {σ : L2.St} {H : Hp} {Q Q' : List V → Hp → Prop} (h : tSemA X es σ H Q) (k : ∀ v H', Q v H' → Q' v H') : tSemA X es σ H Q' :=
  fun pos pins s I => thn (h pos pins s I) fun _ _ ⟨v, H', I', r, q⟩ => ⟨v, H', I', r, k v H' q⟩

/-! ### the judgements -/
/-- e gives something of P, owned or data; nothing else changes -/
structure EO (X : Cx) (ex : Exs) (e : Expr) (ρ : List O) (P : O → Prop) : Prop where
  run : ∀ (E : Hp × Hp) (σ : L2.St) (G H : Hp), SOx X ex E ρ σ G H →
  tSem X e σ H fun v H' => ∃ o G', Grow G H G' H' ∧ OOk X.K H G' H' o v ∧ P o
instance {X : Cx} {ex : Exs} {e : Expr} {ρ : List O} {P : O → Prop} : CoeFun (EO X ex e ρ P) (fun _ => ∀ (E : Hp × Hp) (σ : L2.St) (G H : Hp), SOx X ex E ρ σ G H →   tSem X e σ H fun v H' => ∃ o G', Grow G H G' H' ∧ OOk X.K H G' H' o v ∧ P o) := ⟨EO.run⟩

/-- e gives the data d -/
structure EE (X : Cx) (ex : Exs) (e : Expr) (ρ : List O) (d : D) : Prop where
  run : ∀ (E : Hp × Hp) (σ : L2.St) (G H : Hp), SOx X ex E ρ σ G H →
  tSem X e σ H fun v H' => ∃ G', Grow G H G' H' ∧ Rep X.K G' v d
instance {X : Cx} {ex : Exs} {e : Expr} {ρ : List O} {d : D} : CoeFun (EE X ex e ρ d) (fun _ => ∀ (E : Hp × Hp) (σ : L2.St) (G H : Hp), SOx X ex E ρ σ G H →   tSem X e σ H fun v H' => ∃ G', Grow G H G' H' ∧ Rep X.K G' v d) := ⟨EE.run⟩

structure ET (X : Cx) (ex : Exs) (e : Expr) (ρ : List O) (b : Bool) : Prop where
  run : ∀ (E : Hp × Hp) (σ : L2.St) (G H : Hp), SOx X ex E ρ σ G H →
  tSemT X e σ H fun c H' => c = b ∧ ∃ G', Grow G H G' H'
instance {X : Cx} {ex : Exs} {e : Expr} {ρ : List O} {b : Bool} : CoeFun (ET X ex e ρ b) (fun _ => ∀ (E : Hp × Hp) (σ : L2.St) (G H : Hp), SOx X ex E ρ σ G H →   tSemT X e σ H fun c H' => c = b ∧ ∃ G', Grow G H G' H') := ⟨ET.run⟩

structure EW (X : Cx) (ex : Exs) (e : Expr) (ρ : List O) (b : Bool) : Prop where
  run : ∀ (E : Hp × Hp) (σ : L2.St) (G H : Hp), SOx X ex E ρ σ G H →
  tSemW X e σ H fun c H' => c = b ∧ ∃ G', Grow G H G' H'
instance {X : Cx} {ex : Exs} {e : Expr} {ρ : List O} {b : Bool} : CoeFun (EW X ex e ρ b) (fun _ => ∀ (E : Hp × Hp) (σ : L2.St) (G H : Hp), SOx X ex E ρ σ G H →   tSemW X e σ H fun c H' => c = b ∧ ∃ G', Grow G H G' H') := ⟨EW.run⟩

structure EA (X : Cx) (ex : Exs) (es : List Expr) (ρ : List O) (ds : List D) : Prop where
  run : ∀ (E : Hp × Hp) (σ : L2.St) (G H : Hp), SOx X ex E ρ σ G H →
  tSemA X es σ H fun vs H' => ∃ G', Grow G H G' H' ∧ RepL X.K G' vs ds
instance {X : Cx} {ex : Exs} {es : List Expr} {ρ : List O} {ds : List D} : CoeFun (EA X ex es ρ ds) (fun _ => ∀ (E : Hp × Hp) (σ : L2.St) (G H : Hp), SOx X ex E ρ σ G H →   tSemA X es σ H fun vs H' => ∃ G', Grow G H G' H' ∧ RepL X.K G' vs ds) := ⟨EA.run⟩

variable {ex : Exs} {ρ : List O} {e a b c : Expr} {es : List Expr} {d d1 d2 : D} {ds : List D} {pos : Pos} {i j : Int} {x : Str}
theorem EO.mono {P P' : O → Prop} (h : EO X ex e ρ P) (k : ∀ o, P o → P' o) : EO X ex e ρ P' := ⟨fun E σ G H S =>
  tSem_mono (h E σ G H S) fun _ _ ⟨o, G', g, r, p⟩ => ⟨o, G', g, r, k o p⟩⟩
theorem EE.eo (h : EE X ex e ρ d) : EO X ex e ρ (fun o => o = .va d) := ⟨fun E σ G H S =>
  tSem_mono (h E σ G H S) fun _ _ ⟨G', g, r⟩ => ⟨.va d, G', g, r, rfl⟩⟩
theorem EE.is (h : EE X ex e ρ d1) (q : d1 = d2) : EE X ex e ρ d2 := q ▸ h
theorem ET.is {b1 b2 : Bool} (h : ET X ex e ρ b1) (q : b1 = b2) : ET X ex e ρ b2 := q ▸ h
omit [TbT] in
/-- an owned list becomes data -/
theorem OOk.freeze {K : PySem.W.Frag} {H0 G H : Hp} {o : O} {v : V} (e : Ex G H) (q : OOk K H0 G H o v) (P : D → Prop) (hva : ∀ d, o = .va d → P d) (hml : ∀ ds, o = .ml ds → P (.lst ds)) (hn : (∃ d, o = .va d) ∨ ∃ ds, o = .ml ds) :
    ∃ d G', Ex G G' ∧ Ex G' H ∧ (∀ b, G b = none → G' b ≠ none → H0 b = none) ∧ Rep K G' v d ∧ P d := by
  rcases hn with ⟨d, rfl⟩ | ⟨ds, rfl⟩
  · exact ⟨d, G, Ex.refl _, e, fun b h q => absurd h q, q, hva d rfl⟩
  · obtain ⟨a, xs, rfl, h1, h2, h3, r⟩ := q
    refine ⟨.lst ds, upd G a (.lst xs), Ex.new h2, ?_, fun b h q => ?_, .lst upd_same (r.mono (Ex.new h2)), hml ds rfl⟩
    · refine ⟨fun b u h n => ?_, fun b ps h => ?_⟩
      · by_cases z : b = a
        · subst z; rw [upd_same] at h; cases h; exact h1
        · rw [upd_ne z] at h; exact e.keep b u h n
      · by_cases z : b = a
        · subst z; rw [upd_same] at h; cases h
        · rw [upd_ne z] at h; exact e.tb b ps h
    · by_cases z : b = a
      · subst z; exact h3
      · rw [upd_ne z] at q; exact absurd h q
theorem EO.ee {P : O → Prop} (h : EO X ex e ρ P) (hd : ∀ o, P o → o = .va d ∨ ∃ ds, o = .ml ds ∧ d = .lst ds) : EE X ex e ρ d := ⟨fun E σ G H S =>
  tSem_mono (h E σ G H S) fun v H' ⟨o, G', g, r, p⟩ => by
    have hn : (∃ d, o = .va d) ∨ ∃ ds, o = .ml ds := by
      rcases hd o p with h | ⟨ds, h, _⟩
      · exact .inl ⟨_, h⟩
      · exact .inr ⟨_, h⟩
    obtain ⟨d', G2, e1, e2, f, r', q⟩ := OOk.freeze g.gh r (fun x => x = d) (fun x hx => by
      rcases hd o p with h | ⟨_, h, _⟩ <;> rw [hx] at h <;> cases h
      rfl) (fun x hx => by
      rcases hd o p with h | ⟨_, h, h2⟩ <;> rw [hx] at h <;> cases h
      exact h2.symm) hn
    subst q
    refine ⟨G2, ⟨g.g.trans e1, g.h, e2, fun b h q => ?_, g.tb⟩, r'⟩
    cases z : G' b with
    | none => exact f b z q
    | some u => exact g.fr b h (by rw [z]; simp)⟩
theorem ee_lst (h : EO X ex e ρ (fun o => o = .ml ds)) : EE X ex e ρ (.lst ds) := h.ee fun o p => .inr ⟨ds, p, rfl⟩
theorem ee_va (h : EO X ex e ρ (fun o => o = .va d)) : EE X ex e ρ d := h.ee fun o p => .inl p

/-! ### names, constants -/
theorem ee_var (i : Nat) (hr : ρ[i]? = some (.va d)) (hN : X.N[i]? = some x := by rfl) (hv : Vis X.env.scope x := by first | exact Or.inl rfl | exact Or.inr (Or.inl rfl) | exact Or.inr (Or.inr rfl)) (hd : (x == ("__debug__" : Str)) = false := by decide)
    (hcd : (x == ("__classdict__" : Str)) = false := by decide) : EE X ex (.Name x pos) ρ d := ⟨fun E σ G H S => by
  obtain ⟨v, h1, r⟩ := S.get hr
  exact of_pe (pe_var hN hv hd hcd) ⟨v, h1, G, .refl S.gh, r⟩⟩
theorem ee_int {k} : EE X ex (.Constant (.int i) k pos) ρ (.int i) := ⟨fun E σ G H S => of_pe pe_int ⟨G, .refl S.gh, .int i⟩⟩
theorem ee_bl {t : Bool} {k} : EE X ex (.Constant (.bool t) k pos) ρ (.bl t) := ⟨fun E σ G H S => of_pe pe_bl ⟨G, .refl S.gh, .bl t⟩⟩
theorem ee_non {k} : EE X ex (.Constant .none k pos) ρ .non := ⟨fun E σ G H S => of_pe pe_non ⟨G, .refl S.gh, .non⟩⟩
theorem ee_str {t : Str} {k} : EE X ex (.Constant (.str t) k pos) ρ (.str t) := ⟨fun E σ G H S => of_pe pe_str ⟨G, .refl S.gh, .str t⟩⟩
/-- a constant of the module -/
theorem ee_glob {v : V} {u : Value} (hg : Gl X x) (hm : X.mg x = some u) (r : RelV v u) (hr : ∀ G, Rep X.K G v d) (hd : (x == ("__debug__" : Str)) = false := by decide) : EE X ex (.Name x pos) ρ d := ⟨fun E σ G H S =>
  of_pe (pe_glob hg hm r hd) ⟨G, .refl S.gh, hr G⟩⟩
/-- a built-in class as a value -/
theorem ee_ty {n : String} (hg : Gl X x) (hm : X.mg x = none) (hv : bootBuiltins x = some (.type n)) (hn : x ≠ "__name__" := by decide) (hd : (x == ("__debug__" : Str)) = false := by decide) : EE X ex (.Name x pos) ρ (.ty n) := ⟨fun E σ G H S =>
  of_pe (pe_bltn (v := .ty n) hg hm hv rfl hn hd) ⟨G, .refl S.gh, .ty n⟩⟩

/-! ### operators -/
/-- a two-place operation on data -/
def BinD (X : Cx) (r : R2) (d1 d2 d : D) : Prop := ∀ (G H : Hp) (v w : V) (Q : VK), Ex G H → Rep X.K G v d1 → Rep X.K G w d2 → (∀ u G' H', Grow G H G' H' → Rep X.K G' u d → Q u H') → r v w H Q
theorem ee_bin {op : Operator} {r : R2} (ho : OpR X (binaryOp op) r) (hr : BinD X r d1 d2 d) (ha : EE X ex a ρ d1) (hb : EE X ex b ρ d2) : EE X ex (.BinOp a op b pos) ρ d := ⟨fun E σ G H S =>
  of_pe (pe_op ho sem_pe sem_pe) (tSem_mono (ha E σ G H S) fun v H1 ⟨G1, g1, r1⟩ => tSem_mono (hb E σ G1 H1 (S.grow g1)) fun w H2 ⟨G2, g2, r2⟩ =>
    hr G2 H2 v w _ g2.gh (r1.mono g2.g) r2 fun u G3 H3 g3 r3 => ⟨G3, (g1.trans g2).trans g3, r3⟩)⟩
theorem ee_cmp {op : CmpOp} {r : R2} (ho : OpR X (compareOp op) r) (hr : BinD X r d1 d2 d) (ha : EE X ex a ρ d1) (hb : EE X ex b ρ d2) (hm : behindInMarks op b = false) : EE X ex (.Compare a [op] [b] pos) ρ d := ⟨fun E σ G H S =>
  of_pe (pe_cmpR ho sem_pe sem_pe hm) (tSem_mono (ha E σ G H S) fun v H1 ⟨G1, g1, r1⟩ => tSem_mono (hb E σ G1 H1 (S.grow g1)) fun w H2 ⟨G2, g2, r2⟩ =>
    hr G2 H2 v w _ g2.gh (r1.mono g2.g) r2 fun u G3 H3 g3 r3 => ⟨G3, (g1.trans g2).trans g3, r3⟩)⟩
theorem et_cmp {op : CmpOp} {r : R2} {t : Bool} (ho : OpR X (compareOp op) r) (hr : BinD X r d1 d2 (.bl t)) (ha : EE X ex a ρ d1) (hb : EE X ex b ρ d2) (hm : behindInMarks op b = false) : ET X ex (.Compare a [op] [b] pos) ρ t := ⟨fun E σ G H S =>
  of_pt (pt_cmpR ho sem_pe sem_pe hm) (tSem_mono (ha E σ G H S) fun v H1 ⟨G1, g1, r1⟩ => tSem_mono (hb E σ G1 H1 (S.grow g1)) fun w H2 ⟨G2, g2, r2⟩ =>
    hr G2 H2 v w _ g2.gh (r1.mono g2.g) r2 fun u G3 H3 g3 r3 => by cases r3; exact ⟨t, rfl, rfl, G3, (g1.trans g2).trans g3⟩)⟩
theorem bin_I0 {f : Int → Int → V} {g : Int → Int → D} (h : ∀ G i j, Rep X.K G (f i j) (g i j)) : BinD X (rI0 f) (.int i) (.int j) (g i j) := fun G H v w Q e r1 r2 q => by
  cases r1; cases r2
  exact ⟨i, j, rfl, rfl, q _ G H (.refl e) (h G i j)⟩
theorem bin_I {C : Int → Int → Prop} {f : Int → Int → V} {g : Int → Int → D} (hc : C i j) (h : ∀ G i j, Rep X.K G (f i j) (g i j)) : BinD X (rI C f) (.int i) (.int j) (g i j) := fun G H v w Q e r1 r2 q => by
  cases r1; cases r2
  exact ⟨i, j, rfl, rfl, hc, q _ G H (.refl e) (h G i j)⟩
theorem ee_add (ha : EE X ex a ρ (.int i)) (hb : EE X ex b ρ (.int j)) : EE X ex (.BinOp a .Add b pos) ρ (.int (i + j)) := ee_bin op_add (bin_I0 (g := fun i j => .int (i + j)) fun _ _ _ => .int _) ha hb
theorem ee_sub (ha : EE X ex a ρ (.int i)) (hb : EE X ex b ρ (.int j)) : EE X ex (.BinOp a .Sub b pos) ρ (.int (i - j)) := ee_bin op_sub (bin_I0 (g := fun i j => .int (i - j)) fun _ _ _ => .int _) ha hb
/-- * where the factors together are below a million bits -/
theorem ee_mul (ha : EE X ex a ρ (.int i)) (hb : EE X ex b ρ (.int j)) (hc : CMulW i j) : EE X ex (.BinOp a .Mult b pos) ρ (.int (i * j)) := ee_bin op_mulW (bin_I (g := fun i j => .int (i * j)) hc fun _ _ _ => .int _) ha hb
/-- // by any divisor but 0 below 2 ^ 9000 -/
def CDivV (_ j : Int) : Prop := j ≠ 0 ∧ j.natAbs.log2 < 9000
omit [TbT] in
theorem op_fdivV : OpR X (binaryOp .FloorDiv) (rI CDivV fun i j => .int (i.fdiv j)) := opI fun i j _ _ _ _ _ hc q => floordiv_int hc.1 q (.inl (PyProof.noPylong_of_log2 hc.2))
theorem ee_fdiv (ha : EE X ex a ρ (.int i)) (hb : EE X ex b ρ (.int j)) (hc : CDivV i j) : EE X ex (.BinOp a .FloorDiv b pos) ρ (.int (i.fdiv j)) := ee_bin op_fdivV (bin_I (g := fun i j => .int (i.fdiv j)) hc fun _ _ _ => .int _) ha hb
/-- // by a positive divisor -/
theorem ee_div (ha : EE X ex a ρ (.int i)) (hb : EE X ex b ρ (.int j)) (hc : CDivW i j) : EE X ex (.BinOp a .FloorDiv b pos) ρ (.int (i / j)) := ee_bin op_fdivW (bin_I (g := fun i j => .int (i / j)) hc fun _ _ _ => .int _) ha hb
theorem ee_mod (ha : EE X ex a ρ (.int i)) (hb : EE X ex b ρ (.int j)) (hc : 0 < j) : EE X ex (.BinOp a .Mod b pos) ρ (.int (i % j)) := ee_bin op_mod (bin_I (C := fun _ j => 0 < j) (g := fun i j => .int (i % j)) hc fun _ _ _ => .int _) ha hb
theorem ee_pow (ha : EE X ex a ρ (.int i)) (hb : EE X ex b ρ (.int j)) (hc : CPow i j) : EE X ex (.BinOp a .Pow b pos) ρ (.int (i ^ j.toNat)) := ee_bin op_pow (bin_I (g := fun i j => .int (i ^ j.toNat)) hc fun _ _ _ => .int _) ha hb
theorem ee_neg (ha : EE X ex a ρ (.int i)) : EE X ex (.UnaryOp .USub a pos) ρ (.int (-i)) := ⟨fun E σ G H S =>
  of_pe (pe_un un_neg sem_pe) (tSem_mono (ha E σ G H S) fun v H1 ⟨G1, g1, r1⟩ => by cases r1; exact ⟨i, rfl, G1, g1, .int _⟩)⟩

/-! ### comparisons of ints -/
theorem ee_lt (ha : EE X ex a ρ (.int i)) (hb : EE X ex b ρ (.int j)) : EE X ex (.Compare a [.Lt] [b] pos) ρ (.bl (decide (i < j))) := ee_cmp op_lt (bin_I0 (g := fun i j => .bl (decide (i < j))) fun _ _ _ => .bl _) ha hb (nomark _)
theorem ee_le (ha : EE X ex a ρ (.int i)) (hb : EE X ex b ρ (.int j)) : EE X ex (.Compare a [.LtE] [b] pos) ρ (.bl (decide (i ≤ j))) := ee_cmp op_le (bin_I0 (g := fun i j => .bl (decide (i ≤ j))) fun _ _ _ => .bl _) ha hb (nomark _)
theorem ee_gt (ha : EE X ex a ρ (.int i)) (hb : EE X ex b ρ (.int j)) : EE X ex (.Compare a [.Gt] [b] pos) ρ (.bl (decide (j < i))) := ee_cmp op_gt (bin_I0 (g := fun i j => .bl (decide (j < i))) fun _ _ _ => .bl _) ha hb (nomark _)
theorem ee_ge (ha : EE X ex a ρ (.int i)) (hb : EE X ex b ρ (.int j)) : EE X ex (.Compare a [.GtE] [b] pos) ρ (.bl (decide (j ≤ i))) := ee_cmp op_ge (bin_I0 (g := fun i j => .bl (decide (j ≤ i))) fun _ _ _ => .bl _) ha hb (nomark _)
theorem et_lt (ha : EE X ex a ρ (.int i)) (hb : EE X ex b ρ (.int j)) : ET X ex (.Compare a [.Lt] [b] pos) ρ (decide (i < j)) := et_cmp op_lt (bin_I0 (g := fun i j => .bl (decide (i < j))) fun _ _ _ => .bl _) ha hb (nomark _)
theorem et_le (ha : EE X ex a ρ (.int i)) (hb : EE X ex b ρ (.int j)) : ET X ex (.Compare a [.LtE] [b] pos) ρ (decide (i ≤ j)) := et_cmp op_le (bin_I0 (g := fun i j => .bl (decide (i ≤ j))) fun _ _ _ => .bl _) ha hb (nomark _)
theorem et_gt (ha : EE X ex a ρ (.int i)) (hb : EE X ex b ρ (.int j)) : ET X ex (.Compare a [.Gt] [b] pos) ρ (decide (j < i)) := et_cmp op_gt (bin_I0 (g := fun i j => .bl (decide (j < i))) fun _ _ _ => .bl _) ha hb (nomark _)
theorem et_ge (ha : EE X ex a ρ (.int i)) (hb : EE X ex b ρ (.int j)) : ET X ex (.Compare a [.GtE] [b] pos) ρ (decide (j ≤ i)) := et_cmp op_ge (bin_I0 (g := fun i j => .bl (decide (j ≤ i))) fun _ _ _ => .bl _) ha hb (nomark _)

/-! ### == and != of any data -/
omit [TbT] in
mutual
theorem D.canLay : ∀ d : D, d.plain = true → d.py.canLay0 = true
  | .non, _ => rfl
  | .bl _, _ => rfl
  | .int _, _ => rfl
  | .str _, h => h
  | .ty _, h => by cases h
  | .cst _, h => by cases h
  | .dct _ _, h => by cases h
  | .dci _ _, h => by cases h
  | .obj _ _ _, h => by cases h
  | .tup ds, h => D.canLays ds h
  | .lst ds, h => D.canLays ds h
theorem D.canLays : ∀ ds : List D, D.plains ds = true → PyData.canLayAll0 (D.pys ds) = true
  | [], _ => rfl
  | d :: r, h => by
    have h' : (D.plain d && D.plains r) = true := h
    rw [Bool.and_eq_true] at h'
    show (PyData.canLay0 d.py && PyData.canLayAll0 (D.pys r)) = true
    rw [D.canLay d h'.1, D.canLays r h'.2]; rfl
end
omit [TbT] in
mutual
theorem D.depth_py : ∀ d : D, d.py.depth ≤ d.depth
  | .non => Nat.le_refl _
  | .bl _ => Nat.le_refl _
  | .int _ => Nat.le_refl _
  | .str _ => Nat.le_refl _
  | .ty _ => Nat.le_refl _
  | .cst _ => Nat.le_refl _
  | .dct _ _ => Nat.le_refl _
  | .dci _ _ => Nat.le_refl _
  | .obj _ _ _ => Nat.le_refl _
  | .tup ds => Nat.succ_le_succ (D.depths_py ds)
  | .lst ds => Nat.succ_le_succ (D.depths_py ds)
theorem D.depths_py : ∀ ds : List D, PyData.depthAll (D.pys ds) ≤ D.depths ds
  | [] => Nat.le_refl _
  | d :: r => by
    have h1 := D.depth_py d
    have h2 := D.depths_py r
    show max d.py.depth (PyData.depthAll (D.pys r)) ≤ max d.depth (D.depths r)
    omega
end
/-- may be compared by == -/
def D.cmp (d : D) : Bool := d.plain && decide (d.depth ≤ 64)
omit [TbT] in
theorem D.shaped {d : D} (h : d.cmp = true) : SeqAt.shaped d.py = true := by
  have h' : (d.plain && decide (d.depth ≤ 64)) = true := h
  rw [Bool.and_eq_true] at h'
  unfold SeqAt.shaped
  rw [D.canLay d h'.1, decide_eq_true (Nat.le_trans (D.depth_py d) (of_decide_eq_true h'.2))]; rfl
def D.eqv (d e : D) : Bool := PyData.eqv d.py e.py
omit [TbT] in
mutual
theorem Rep.dp {K : PySem.W.Frag} {G H : Hp} (e : Ex G H) : ∀ {d : D} {v : V}, Rep K G v d → d.plain = true → Dp K H v d.py
  | .non, _, h, _ => by cases h; exact .non
  | .bl _, _, h, _ => by cases h; exact .bl _
  | .int _, _, h, _ => by cases h; exact .int _
  | .str _, _, h, _ => by cases h; exact .str _
  | .ty _, _, _, h => by cases h
  | .cst _, _, _, h => by cases h
  | .dct _ _, _, _, h => by cases h
  | .dci _ _, _, _, h => by cases h
  | .obj _ _ _, _, _, h => by cases h
  | .tup _, _, h, p => by
    cases h with
    | tup h r => exact .tup (e.t h) (RepL.dp e r p)
  | .lst _, _, h, p => by
    cases h with
    | lst h r => exact .lst (e.l h) (RepL.dp e r p)
theorem RepL.dp {K : PySem.W.Frag} {G H : Hp} (e : Ex G H) : ∀ {ds : List D} {vs : List V}, RepL K G vs ds → D.plains ds = true → DpAll K H vs (D.pys ds)
  | [], _, .nil, _ => .nil
  | d :: r, _, .cons h t, p => by
    have h' : (D.plain d && D.plains r) = true := p
    rw [Bool.and_eq_true] at h'
    exact .cons (Rep.dp e h h'.1) (RepL.dp e t h'.2)
end
omit [TbT] in
theorem D.plain_of {d : D} (h : d.cmp = true) : d.plain = true := (Bool.and_eq_true_iff.mp h).1
theorem bin_eq (h1 : d1.cmp = true) (h2 : d2.cmp = true) : BinD X (rEqD X.K) d1 d2 (.bl (D.eqv d1 d2)) := fun G H v w Q e r1 r2 q =>
  ⟨d1.py, d2.py, r1.dp e (D.plain_of h1), r2.dp e (D.plain_of h2), D.shaped h1, D.shaped h2, q _ G H (.refl e) (.bl _)⟩
theorem bin_ne (h1 : d1.cmp = true) (h2 : d2.cmp = true) : BinD X (rNeD X.K) d1 d2 (.bl (!D.eqv d1 d2)) := fun G H v w Q e r1 r2 q =>
  ⟨d1.py, d2.py, r1.dp e (D.plain_of h1), r2.dp e (D.plain_of h2), D.shaped h1, D.shaped h2, q _ G H (.refl e) (.bl _)⟩
theorem ee_eq (hu : X.A.units + 64 < cLine) (ha : EE X ex a ρ d1) (hb : EE X ex b ρ d2) (h1 : d1.cmp = true) (h2 : d2.cmp = true) : EE X ex (.Compare a [.Eq] [b] pos) ρ (.bl (D.eqv d1 d2)) := ee_cmp (op_eqD hu) (bin_eq h1 h2) ha hb (nomark _)
theorem ee_ne (hu : X.A.units + 64 < cLine) (ha : EE X ex a ρ d1) (hb : EE X ex b ρ d2) (h1 : d1.cmp = true) (h2 : d2.cmp = true) : EE X ex (.Compare a [.NotEq] [b] pos) ρ (.bl (!D.eqv d1 d2)) := ee_cmp (op_neD hu) (bin_ne h1 h2) ha hb (nomark _)
theorem et_eq (hu : X.A.units + 64 < cLine) (ha : EE X ex a ρ d1) (hb : EE X ex b ρ d2) (h1 : d1.cmp = true) (h2 : d2.cmp = true) : ET X ex (.Compare a [.Eq] [b] pos) ρ (D.eqv d1 d2) := et_cmp (op_eqD hu) (bin_eq h1 h2) ha hb (nomark _)
theorem et_ne (hu : X.A.units + 64 < cLine) (ha : EE X ex a ρ d1) (hb : EE X ex b ρ d2) (h1 : d1.cmp = true) (h2 : d2.cmp = true) : ET X ex (.Compare a [.NotEq] [b] pos) ρ (!D.eqv d1 d2) := et_cmp (op_neD hu) (bin_ne h1 h2) ha hb (nomark _)
omit [TbT] in
/-- of ints -/
theorem eqv_int (i j : Int) : D.eqv (.int i) (.int j) = decide (i = j) := Bool.beq_eq_decide_eq i j
omit [TbT] in
theorem eqv_bl (i j : Bool) : D.eqv (.bl i) (.bl j) = (i == j) := rfl
theorem ee_eqI (hu : X.A.units + 64 < cLine) (ha : EE X ex a ρ (.int i)) (hb : EE X ex b ρ (.int j)) : EE X ex (.Compare a [.Eq] [b] pos) ρ (.bl (decide (i = j))) := eqv_int i j ▸ ee_eq hu ha hb rfl rfl
theorem ee_neI (hu : X.A.units + 64 < cLine) (ha : EE X ex a ρ (.int i)) (hb : EE X ex b ρ (.int j)) : EE X ex (.Compare a [.NotEq] [b] pos) ρ (.bl (!decide (i = j))) := eqv_int i j ▸ ee_ne hu ha hb rfl rfl
theorem et_eqI (hu : X.A.units + 64 < cLine) (ha : EE X ex a ρ (.int i)) (hb : EE X ex b ρ (.int j)) : ET X ex (.Compare a [.Eq] [b] pos) ρ (decide (i = j)) := eqv_int i j ▸ et_eq hu ha hb rfl rfl
theorem et_neI (hu : X.A.units + 64 < cLine) (ha : EE X ex a ρ (.int i)) (hb : EE X ex b ρ (.int j)) : ET X ex (.Compare a [.NotEq] [b] pos) ρ (!decide (i = j)) := eqv_int i j ▸ et_ne hu ha hb rfl rfl
/-- is None -/
def D.isN : D → Bool
  | .non => true
  | _ => false
omit [TbT] in
theorem Rep.isN {K : PySem.W.Frag} {G : Hp} {v : V} {d : D} (r : Rep K G v d) : decide (v = .non) = d.isN := by
  cases r <;> rfl
theorem ee_isN {k pos'} (ha : EE X ex a ρ d) : EE X ex (.Compare a [.Is] [.Constant .none k pos'] pos) ρ (.bl d.isN) := ⟨fun E σ G H S =>
  of_pe (pe_cmp (pc_isN sem_pe) rfl) (tSem_mono (ha E σ G H S) fun v H1 ⟨G1, g1, r1⟩ => ⟨G1, g1, by rw [r1.isN]; exact .bl _⟩)⟩
theorem et_isN {k pos'} (ha : EE X ex a ρ d) : ET X ex (.Compare a [.Is] [.Constant .none k pos'] pos) ρ d.isN := ⟨fun E σ G H S =>
  of_pt (pt_cmp (pc_isN sem_pe) rfl) (tSem_mono (ha E σ G H S) fun v H1 ⟨G1, g1, r1⟩ => ⟨_, rfl, r1.isN, G1, g1⟩)⟩
theorem et_notN {k pos'} (ha : EE X ex a ρ d) : ET X ex (.Compare a [.IsNot] [.Constant .none k pos'] pos) ρ (!d.isN) := ⟨fun E σ G H S =>
  of_pt (pt_cmp (pc_notN sem_pe) rfl) (tSem_mono (ha E σ G H S) fun v H1 ⟨G1, g1, r1⟩ => ⟨_, rfl, by rw [r1.isN], G1, g1⟩)⟩

/-! ### tests -/
/-- the value of a bool as a test -/
theorem et_val {t : Bool} (h : EE X ex e ρ (.bl t)) (he : ∀ whole, isTrue e X.env whole = (do let v ← whole; standAt e.pos; holding [v] (truthy v)) := by intro _; rfl) : ET X ex e ρ t := ⟨fun E σ G H S =>
  of_pt (pt_val sem_pe he) (tSem_mono (h E σ G H S) fun v H1 ⟨G1, g1, r1⟩ => by cases r1; exact ⟨t, rfl, rfl, G1, g1⟩)⟩
theorem EW.et {t : Bool} (h : EW X ex e ρ t) : ET X ex e ρ t := ⟨fun E σ G H S pins s I => h E σ G H S _ pins s I⟩
theorem ew_and1 {t : Bool} (h : ET X ex a ρ t) : EW X ex (.BoolOp .And [a] pos) ρ t := ⟨fun E σ G H S => of_pw (pw_and1 sem_pt) (h E σ G H S)⟩
theorem ew_or1 {t : Bool} (h : ET X ex a ρ t) : EW X ex (.BoolOp .Or [a] pos) ρ t := ⟨fun E σ G H S => of_pw (pw_or1 sem_pt) (h E σ G H S)⟩
theorem ew_and {t u : Bool} {rest : List Expr} (h : ET X ex a ρ t) (k : t = true → EW X ex (.BoolOp .And (b :: rest) pos) ρ u) : EW X ex (.BoolOp .And (a :: b :: rest) pos) ρ (t && u) := ⟨fun E σ G H S =>
  of_pw (pw_and sem_pt sem_pw) (tSemT_mono (h E σ G H S) fun c H1 ⟨e1, G1, g1⟩ => by
    subst e1
    cases c with
    | true => rw [if_pos rfl]; exact tSemW_mono (k rfl E σ G1 H1 (S.grow g1)) fun c2 H2 ⟨e2, G2, g2⟩ => ⟨e2, G2, g1.trans g2⟩
    | false => rw [if_neg Bool.false_ne_true]; exact ⟨rfl, G1, g1⟩)⟩
theorem ew_or {t u : Bool} {rest : List Expr} (h : ET X ex a ρ t) (k : t = false → EW X ex (.BoolOp .Or (b :: rest) pos) ρ u) : EW X ex (.BoolOp .Or (a :: b :: rest) pos) ρ (t || u) := ⟨fun E σ G H S =>
  of_pw (pw_or sem_pt sem_pw) (tSemT_mono (h E σ G H S) fun c H1 ⟨e1, G1, g1⟩ => by
    subst e1
    cases c with
    | true => rw [if_pos rfl]; exact ⟨rfl, G1, g1⟩
    | false => rw [if_neg Bool.false_ne_true]; exact tSemW_mono (k rfl E σ G1 H1 (S.grow g1)) fun c2 H2 ⟨e2, G2, g2⟩ => ⟨e2, G2, g1.trans g2⟩)⟩
theorem et_not {t : Bool} (h : ET X ex a ρ t) : ET X ex (.UnaryOp .Not a pos) ρ (!t) := ⟨fun E σ G H S => of_pt (pt_not sem_pt) (tSemT_mono (h E σ G H S) fun c H1 ⟨e1, G1, g1⟩ => ⟨by rw [e1], G1, g1⟩)⟩
/-- .. as values -/
theorem ee_one {op} (h : EE X ex a ρ d) : EE X ex (.BoolOp op [a] pos) ρ d := ⟨fun E σ G H S => of_pe (pe_one sem_pe) (h E σ G H S)⟩
theorem ee_and {t u : Bool} {rest : List Expr} (h : EE X ex a ρ (.bl t)) (k : t = true → EE X ex (.BoolOp .And (b :: rest) pos) ρ (.bl u)) : EE X ex (.BoolOp .And (a :: b :: rest) pos) ρ (.bl (t && u)) := ⟨fun E σ G H S =>
  of_pe (pe_and sem_pe sem_pe) (tSem_mono (h E σ G H S) fun v H1 ⟨G1, g1, r1⟩ => by
    cases r1
    refine ⟨t, rfl, ?_⟩
    cases t with
    | true => rw [if_pos rfl]; exact tSem_mono (k rfl E σ G1 H1 (S.grow g1)) fun c2 H2 ⟨G2, g2, r2⟩ => ⟨G2, g1.trans g2, r2⟩
    | false => rw [if_neg Bool.false_ne_true]; exact ⟨G1, g1, .bl _⟩)⟩
theorem ee_or {t u : Bool} {rest : List Expr} (h : EE X ex a ρ (.bl t)) (k : t = false → EE X ex (.BoolOp .Or (b :: rest) pos) ρ (.bl u)) : EE X ex (.BoolOp .Or (a :: b :: rest) pos) ρ (.bl (t || u)) := ⟨fun E σ G H S =>
  of_pe (pe_or sem_pe sem_pe) (tSem_mono (h E σ G H S) fun v H1 ⟨G1, g1, r1⟩ => by
    cases r1
    refine ⟨t, rfl, ?_⟩
    cases t with
    | true => rw [if_pos rfl]; exact ⟨G1, g1, .bl _⟩
    | false => rw [if_neg Bool.false_ne_true]; exact tSem_mono (k rfl E σ G1 H1 (S.grow g1)) fun c2 H2 ⟨G2, g2, r2⟩ => ⟨G2, g1.trans g2, r2⟩)⟩
theorem ee_not {t : Bool} (h : EE X ex a ρ (.bl t)) : EE X ex (.UnaryOp .Not a pos) ρ (.bl (!t)) := ⟨fun E σ G H S =>
  of_pe (pe_not sem_pe) (tSem_mono (h E σ G H S) fun v H1 ⟨G1, g1, r1⟩ => by cases r1; exact ⟨t, rfl, G1, g1, .bl _⟩)⟩
theorem ee_if {t : Bool} (hc : ET X ex c ρ t) (h1 : t = true → EE X ex a ρ d1) (h2 : t = false → EE X ex b ρ d2) : EE X ex (.IfExp c a b pos) ρ (if t then d1 else d2) := ⟨fun E σ G H S =>
  of_pe (pe_ifExp sem_pt sem_pe sem_pe) (tSemT_mono (hc E σ G H S) fun k H1 ⟨e1, G1, g1⟩ => by
    subst e1
    cases k with
    | true => rw [if_pos rfl]; exact tSem_mono (h1 rfl E σ G1 H1 (S.grow g1)) fun c2 H2 ⟨G2, g2, r2⟩ => ⟨G2, g1.trans g2, r2⟩
    | false => rw [if_neg Bool.false_ne_true]; exact tSem_mono (h2 rfl E σ G1 H1 (S.grow g1)) fun c2 H2 ⟨G2, g2, r2⟩ => ⟨G2, g1.trans g2, r2⟩)⟩

/-! ### arguments, tuples, lists -/
theorem ea_nil : EA X ex [] ρ [] := ⟨fun E σ G H S => of_pa pa_nil ⟨G, .refl S.gh, .nil⟩⟩
theorem ea_cons (h : EE X ex e ρ d) (t : EA X ex es ρ ds) (hs : starEach (e :: es) X.env = (false, eval e X.env) :: starEach es X.env := by rfl) : EA X ex (e :: es) ρ (d :: ds) := ⟨fun E σ G H S =>
  of_pa (pa_cons sem_pe sem_pa hs) (tSem_mono (h E σ G H S) fun v H1 ⟨G1, g1, r1⟩ => tSemA_mono (t E σ G1 H1 (S.grow g1)) fun vs H2 ⟨G2, g2, r2⟩ => ⟨G2, g1.trans g2, .cons (r1.mono g2.g) r2⟩)⟩
omit [TbT] in
theorem len_ok {ds : List D} (h : Nat.ble ds.length 64 = true) : ds.length ≤ sizeLine := Nat.le_trans (Nat.le_of_ble_eq_true h) (by decide)
theorem ee_tup {k} (h : EA X ex es ρ ds) (hl : ds.length ≤ sizeLine := by exact len_ok rfl) : EE X ex (.Tuple es k pos) ρ (.tup ds) := ⟨fun E σ G H S =>
  of_pe (pe_tup sem_pa) (tSemA_mono (h E σ G H S) fun vs H1 ⟨G1, g1, r1⟩ => ⟨by rw [r1.length]; exact hl, fun p hp =>
    have g2 := Grow.new (u := .tup vs) g1.gh hp
    ⟨_, g1.trans g2, .tup (.inl (.inl upd_same)) (r1.mono g2.g)⟩⟩)⟩
theorem eo_lst (h : EA X ex es ρ ds) (hl : ds.length ≤ sizeLine := by exact len_ok rfl) : EO X ex (.List es pos) ρ (fun o => o = .ml ds) := ⟨fun E σ G H S =>
  of_pe (pe_lst sem_pa) (tSemA_mono (h E σ G H S) fun vs H1 ⟨G1, g1, r1⟩ => ⟨by rw [r1.length]; exact hl, fun p hp =>
    have g2 := Grow.newH (u := .lst vs) g1.gh hp
    ⟨.ml ds, _, g1.trans g2, ⟨p, vs, rfl, upd_same, g1.gh.back hp, g1.h.back hp, r1⟩, rfl⟩⟩)⟩

/-! ### an item -/
def D.items : D → Option (List D)
  | .tup ds => some ds
  | .lst ds => some ds
  | .cst ds => some ds
  | _ => none
omit [TbT] in
theorem RepL.atI {K : PySem.W.Frag} {G : Hp} {ds : List D} {xs : List V} {n : Int} {d : D} (r : RepL K G xs ds) (h : atI ds n = some d) : ∃ v, atI xs n = some v ∧ Rep K G v d := by
  unfold L2.atI at h ⊢
  rw [r.length]
  cases e : ixN ds.length n with
  | none => rw [e] at h; cases h
  | some j =>
    rw [e] at h
    exact r.get h
theorem bin_ix (hi : d1.items = some ds) (ha : atI ds i = some d) : BinD X (rIx X.K) d1 (.int i) d := fun G H v w Q e r1 r2 q => by
  cases r2
  cases r1 with
  | tup h r =>
    cases hi
    obtain ⟨u, hu, ru⟩ := r.atI ha
    exact .inr (.inl ⟨_, _, i, u, rfl, rfl, e.t h, hu, q u G H (.refl e) ru⟩)
  | lst h r =>
    cases hi
    obtain ⟨u, hu, ru⟩ := r.atI ha
    exact .inl ⟨_, _, i, u, rfl, rfl, e.l h, hu, q u G H (.refl e) ru⟩
  | cst h r =>
    cases hi
    obtain ⟨u, hu, ru⟩ := r.atI ha
    exact .inl ⟨_, _, i, u, rfl, rfl, e.lc h, hu, q u G H (.refl e) ru⟩
  | _ => cases hi
theorem ee_ix (ha : EE X ex a ρ d1) (hb : EE X ex b ρ (.int i)) (hi : d1.items = some ds) (h : atI ds i = some d) (hs : PlainIx b := by exact fun _ _ => rfl) : EE X ex (.Subscript a b pos) ρ d := ⟨fun E σ G H S =>
  of_pe (pe_ix ix_seq sem_pe sem_pe hs) (tSem_mono (ha E σ G H S) fun v H1 ⟨G1, g1, r1⟩ => tSem_mono (hb E σ G1 H1 (S.grow g1)) fun w H2 ⟨G2, g2, r2⟩ =>
    bin_ix hi h G2 H2 v w _ g2.gh (r1.mono g2.g) r2 fun u G3 H3 g3 r3 => ⟨G3, (g1.trans g2).trans g3, r3⟩)⟩

/-! ### calls of built-ins -/
/-- a built-in on data -/
def CalD (X : Cx) (r : List V → Hp → VK → Prop) (ds : List D) (P : O → Prop) : Prop := ∀ (G H : Hp) (vs : List V) (Q : VK), Ex G H → RepL X.K G vs ds → (∀ u o G' H', Grow G H G' H' → OOk X.K H G' H' o u → P o → Q u H') → r vs H Q
theorem eo_blt {id : String} {r : List V → Hp → VK → Prop} {P : O → Prop} {p : Pos} (hc : CallR X (.builtin id) r) (hr : CalD X r ds P) (hg : Gl X x) (hm : X.mg x = none) (hv : bootBuiltins x = some (.builtin id)) (ha : EA X ex (e :: es) ρ ds) (hn : x ≠ "__name__" := by decide) (hdb : (x == ("__debug__" : Str)) = false := by decide)
    (he : starEach (e :: es) X.env = (false, eval e X.env) :: starEach es X.env := by rfl) (hpl : (backTo pos (starEach es X.env)).any (·.1) = false := by rfl) : EO X ex (.Call (.Name x p) (e :: es) [] pos) ρ P := ⟨fun E σ G H S =>
  of_pe (pe_callB hc hg hm hv sem_pa hn hdb he hpl) (tSemA_mono (ha E σ G H S) fun vs H1 ⟨G1, g1, r1⟩ =>
    hr G1 H1 vs _ g1.gh r1 fun u o G2 H2 g2 q p => ⟨o, G2, g1.trans g2, q.h0 g1.h, p⟩)⟩
theorem eo_cty {T : String} {r : List V → Hp → VK → Prop} {P : O → Prop} {p : Pos} (hc : CallR X (.type T) r) (hr : CalD X r ds P) (hg : Gl X x) (hm : X.mg x = none) (hv : bootBuiltins x = some (.type T)) (ha : EA X ex (e :: es) ρ ds) (hn : x ≠ "__name__" := by decide) (hdb : (x == ("__debug__" : Str)) = false := by decide)
    (he : starEach (e :: es) X.env = (false, eval e X.env) :: starEach es X.env := by rfl) (hpl : (backTo pos (starEach es X.env)).any (·.1) = false := by rfl) : EO X ex (.Call (.Name x p) (e :: es) [] pos) ρ P := ⟨fun E σ G H S =>
  of_pe (pe_callTy hc hg hm hv sem_pa hn hdb he hpl) (tSemA_mono (ha E σ G H S) fun vs H1 ⟨G1, g1, r1⟩ =>
    hr G1 H1 vs _ g1.gh r1 fun u o G2 H2 g2 q p => ⟨o, G2, g1.trans g2, q.h0 g1.h, p⟩)⟩
omit [TbT] in
theorem RepL.of1 {K : PySem.W.Frag} {G : Hp} {vs : List V} {d : D} (r : RepL K G vs [d]) : ∃ v, vs = [v] ∧ Rep K G v d := by
  cases r with
  | cons h t => cases t; exact ⟨_, rfl, h⟩
omit [TbT] in
theorem RepL.of2 {K : PySem.W.Frag} {G : Hp} {vs : List V} {d e : D} (r : RepL K G vs [d, e]) : ∃ v w, vs = [v, w] ∧ Rep K G v d ∧ Rep K G w e := by
  cases r with
  | cons h t =>
    cases t with
    | cons h' t' => cases t'; exact ⟨_, _, rfl, h, h'⟩
variable {p : Pos}
theorem ee_abs (hg : Gl X "abs") (hm : X.mg "abs" = none) (ha : EA X ex [e] ρ [.int i]) (he : starEach [e] X.env = (false, eval e X.env) :: starEach [] X.env := by rfl) (hpl : (backTo pos (starEach [] X.env)).any (·.1) = false := by rfl) : EE X ex (.Call (.Name "abs" p) [e] [] pos) ρ (.int (if i < 0 then -i else i)) :=
  ee_va (eo_blt call_abs (fun G H vs Q e r q => by
    obtain ⟨v, rfl, r1⟩ := r.of1
    cases r1
    exact ⟨i, rfl, q _ (.va _) G H (.refl e) (.int _) rfl⟩) hg hm (by decide +kernel) ha (by decide) (by decide) he hpl)
theorem ee_toInt (hg : Gl X "int") (hm : X.mg "int" = none) (ha : EA X ex [e] ρ [.int i]) (he : starEach [e] X.env = (false, eval e X.env) :: starEach [] X.env := by rfl) (hpl : (backTo pos (starEach [] X.env)).any (·.1) = false := by rfl) : EE X ex (.Call (.Name "int" p) [e] [] pos) ρ (.int i) :=
  ee_va (eo_cty call_int1 (fun G H vs Q e r q => by
    obtain ⟨v, rfl, r1⟩ := r.of1
    cases r1
    exact .inl ⟨i, rfl, q _ (.va _) G H (.refl e) (.int _) rfl⟩) hg hm (by decide +kernel) ha (by decide) (by decide) he hpl)
theorem ee_len (hg : Gl X "len") (hm : X.mg "len" = none) (ha : EA X ex [e] ρ [d]) (hi : d.items = some ds) (he : starEach [e] X.env = (false, eval e X.env) :: starEach [] X.env := by rfl) (hpl : (backTo pos (starEach [] X.env)).any (·.1) = false := by rfl) : EE X ex (.Call (.Name "len" p) [e] [] pos) ρ (.int ds.length) :=
  ee_va (eo_blt call_len_seq (fun G H vs Q e r q => by
    obtain ⟨v, rfl, r1⟩ := r.of1
    cases r1 with
    | tup h r2 =>
      cases hi
      exact ⟨_, _, rfl, .inr (e.t h), q _ (.va (.int _)) G H (.refl e) (by rw [r2.length]; exact .int _) rfl⟩
    | lst h r2 =>
      cases hi
      exact ⟨_, _, rfl, .inl (e.l h), q _ (.va (.int _)) G H (.refl e) (by rw [r2.length]; exact .int _) rfl⟩
    | cst h r2 =>
      cases hi
      exact ⟨_, _, rfl, .inl (e.lc h), q _ (.va (.int _)) G H (.refl e) (by rw [r2.length]; exact .int _) rfl⟩
    | _ => cases hi) hg hm (by decide +kernel) ha (by decide) (by decide) he hpl)
/-- the type of data, as isinstance asks -/
def D.tyN : D → String
  | .non => "NoneType"
  | .bl _ => "bool"
  | .int _ => "int"
  | .str _ => "str"
  | .ty _ => ""
  | .cst _ => ""
  | .dct _ _ => ""
  | .dci _ _ => ""
  | .obj _ _ _ => ""
  | .tup _ => "tuple"
  | .lst _ => "list"
omit [TbT] in
theorem Rep.tyX {K : PySem.W.Frag} {G H : Hp} {v : V} {d : D} (e : Ex G H) (r : Rep K G v d) (h : d.tyN ≠ "") : TyX K H v (.type d.tyN) := by
  cases r with
  | non => exact .base .non
  | bl b => exact .base (.bl b)
  | int b => exact .base (.int b)
  | str b => exact .base (.str b)
  | ty n => exact absurd rfl h
  | cst _ _ => exact absurd rfl h
  | dct _ _ _ _ _ _ _ => exact absurd rfl h
  | dci _ _ _ _ => exact absurd rfl h
  | obj _ _ _ _ => exact absurd rfl h
  | tup h' r =>
    rcases h' with (h' | ⟨o, h'⟩) | ⟨o, _, _, h', c, _⟩
    · exact .base (.tup (e.app _ _ h'))
    · exact .fTuple (e.app _ _ h')
    · exact .kTuple h' c
  | lst h' r =>
    exact .base (.lst (e.app _ _ h'))
theorem ee_isi {n : String} {t : Bool} (hg : Gl X "isinstance") (hm : X.mg "isinstance" = none) (ha : EA X ex [a, b] ρ [d, .ty n]) (hk : kitB d.tyN n = some t) (hn : d.tyN ≠ "") (he : starEach [a, b] X.env = (false, eval a X.env) :: starEach [b] X.env := by rfl) (hpl : (backTo pos (starEach [b] X.env)).any (·.1) = false := by rfl) : EE X ex (.Call (.Name "isinstance" p) [a, b] [] pos) ρ (.bl t) :=
  ee_va (eo_blt call_isi (fun G H vs Q e r q => by
    obtain ⟨v, w, rfl, r1, r2⟩ := r.of2
    cases r2
    exact ⟨v, _, _, _, t, rfl, .ty n, r1.tyX e hn, kit_ty hk, q _ (.va _) G H (.refl e) (.bl _) rfl⟩) hg hm (by decide +kernel) ha (by decide) (by decide) he hpl)
/-- isinstance(d, tuple | list | int | bool | str) -/
def isAT (t n : String) : Bool := t == n || (t == "bool" && n == "int")
def D.isA (d : D) (n : String) : Bool := isAT d.tyN n
def isAName (n : String) : Bool := n == "bool" || n == "int" || n == "str" || n == "tuple" || n == "list"
def tyNames : List String := ["NoneType", "bool", "int", "str", "tuple", "list"]
omit [TbT] in
theorem kitB_names : ∀ t ∈ tyNames, ∀ n ∈ ["bool", "int", "str", "tuple", "list"], kitB t n = some (isAT t n) := by decide +kernel
omit [TbT] in
theorem tyN_mem {d : D} (h : d.tyN ≠ "") : d.tyN ∈ tyNames := by
  cases d <;> first
    | exact absurd rfl h
    | simp [D.tyN, tyNames]
omit [TbT] in
theorem kitB_isA {d : D} {n : String} (hn : isAName n = true) (h : d.tyN ≠ "") : kitB d.tyN n = some (d.isA n) := by
  refine kitB_names _ (tyN_mem h) n ?_
  simp only [isAName, Bool.or_eq_true, beq_iff_eq] at hn
  rcases hn with (((h | h) | h) | h) | h <;> (subst h; simp)
theorem ee_isA {n : String} (hg : Gl X "isinstance") (hm : X.mg "isinstance" = none) (ha : EA X ex [a, b] ρ [d, .ty n]) (hk : isAName n = true) (hn : d.tyN ≠ "") (he : starEach [a, b] X.env = (false, eval a X.env) :: starEach [b] X.env := by rfl) (hpl : (backTo pos (starEach [b] X.env)).any (·.1) = false := by rfl) : EE X ex (.Call (.Name "isinstance" p) [a, b] [] pos) ρ (.bl (d.isA n)) := ee_isi hg hm ha (kitB_isA hk hn) hn he hpl

/-! ### calls of the text's defs -/
/-- a def's promise over data -/
structure Spc where
  S : List D → (O → Prop) → Prop
  mono : ∀ ds (Q Q' : O → Prop), (∀ o, Q o → Q' o) → S ds Q → S ds Q'
/-- a function: the arguments by x, what it asks of them, what comes back -/
def Spc.fn {α : Type} (args : α → List D) (pre : α → Prop) (res : α → O) : Spc := ⟨fun ds Q => ∃ x, ds = args x ∧ pre x ∧ Q (res x), fun _ _ _ k ⟨x, e, p, q⟩ => ⟨x, e, p, k _ q⟩⟩
/-- .. by a relation -/
def Spc.rel {α : Type} (args : α → List D) (pre : α → Prop) (post : α → O → Prop) : Spc := ⟨fun ds Q => ∃ x, ds = args x ∧ pre x ∧ ∀ o, post x o → Q o, fun _ _ _ k ⟨x, e, p, q⟩ => ⟨x, e, p, fun o h => k _ (q o h)⟩⟩
def spOf (K : PySem.W.Frag) (S : Spc) : Sp := fun vs H Q _ => Tb H ∧ ∃ ds G, Ex G H ∧ RepL K G vs ds ∧ S.S ds fun o => ∀ v G' H', Grow G H G' H' → OOk K H G' H' o v → Q v H'
section
variable {CX : CXT} {k : Nat} {f : Addr} {fd : FuncData} {ps : List Str} {S : Spc} {P : O → Prop} {dvs : List V} {dds : List D} {dus : List Value}
/-- f(..) : the written arguments, then the defaults -/
theorem eo_call (F : FnOk X.prog X.w X.K X.mg X.base CX k f fd ps (spOf X.K S)) (hr : Room k X.A) (hm : X.mg x = some (.ref f)) (hk : PySem.W.keepIn X.K (.ref f) = true) (hb : Binds X.K fd ps dus) (hd : Vals dvs dus) (hD : ∀ G, RepL X.K G dvs dds) (hx : Passes CX X E0)
    (ha : EA X ex (e :: es) ρ ds) (hq : S.S (ds ++ dds) P) (hg : Gl X x := by rfl) (hdb : (x == ("__debug__" : Str)) = false := by decide) (he : starEach (e :: es) X.env = (false, eval e X.env) :: starEach es X.env := by rfl) (hpl : (backTo pos (starEach es X.env)).any (·.1) = false := by rfl) :
    EO X ex (.Call (.Name x p) (e :: es) [] pos) ρ P := ⟨fun E σ G H Sk =>
  of_pe (pe_call F hr hg hm hk hb hd hx sem_pa hdb he hpl) (tSemA_mono (ha E σ G H Sk) fun vs H1 ⟨G1, g1, r1⟩ =>
    ⟨g1.tb Sk.tb, ds ++ dds, G1, g1.gh, r1.append (hD G1), S.mono _ _ _ (fun o hP v G2 H2 g2 q => ⟨o, G2, g1.trans g2, q.h0 g1.h, hP⟩) hq⟩)⟩
theorem eo_call0 (F : FnOk X.prog X.w X.K X.mg X.base CX k f fd ps (spOf X.K S)) (hr : Room k X.A) (hm : X.mg x = some (.ref f)) (hk : PySem.W.keepIn X.K (.ref f) = true) (hb : Binds X.K fd ps dus) (hd : Vals dvs dus) (hD : ∀ G, RepL X.K G dvs dds) (hx : Passes CX X E0)
    (hq : S.S dds P) (hg : Gl X x := by rfl) (hdb : (x == ("__debug__" : Str)) = false := by decide) :
    EO X ex (.Call (.Name x p) [] [] pos) ρ P := ⟨fun E σ G H Sk =>
  of_pe (pe_call0 F hr hg hm hk hb hd hx hdb) ⟨Sk.tb, dds, G, Sk.gh, hD G, S.mono _ _ _ (fun o hP v G2 H2 g2 q => ⟨o, G2, g2, q, hP⟩) hq⟩⟩
end
end
end TG
/-! Statements over plain data. -/
namespace TG
open PySem PySem.Spec PyProof.Rows L2
variable [TbT]

structure Eds where
  nx : List O → Prop
  rt : O → Prop
  bk : List O → Prop := fun _ => False
  ct : List O → Prop := fun _ => False
/-- what comes back of a def -/
structure ROk (K : PySem.W.Frag) (E : Hp × Hp) (o : O) (v : V) (G H : Hp) : Prop where
  g0 : Ex E.1 G
  gh : Ex G H
  h0 : Ex E.2 H
  fr : ∀ b, E.1 b = none → G b ≠ none → E.2 b = none
  ok : OOk K E.2 G H o v
  tb : Tb H
def lift (K : PySem.W.Frag) (E : Hp × Hp) (G : Hp) (W : Eds) : Ends where
  nx := fun σ' H' => ∃ ρ' G', SOk K E ρ' σ' G' H' ∧ Ex G G' ∧ W.nx ρ'
  rt := fun v H' => ∃ o G', ROk K E o v G' H' ∧ W.rt o
  bk := fun σ' H' => ∃ ρ' G', SOk K E ρ' σ' G' H' ∧ Ex G G' ∧ W.bk ρ'
  ct := fun σ' H' => ∃ ρ' G', SOk K E ρ' σ' G' H' ∧ Ex G G' ∧ W.ct ρ'
structure WS (X : Cx) (ex : Exs) (st : Stmt) (ρ : List O) (W : Eds) : Prop where
  run : ∀ (E : Hp × Hp) (σ : L2.St) (G H : Hp), SOx X ex E ρ σ G H → tSemS X st (lift X.K E G W) σ H
instance {X : Cx} {ex : Exs} {st : Stmt} {ρ : List O} {W : Eds} : CoeFun (WS X ex st ρ W) (fun _ => ∀ (E : Hp × Hp) (σ : L2.St) (G H : Hp), SOx X ex E ρ σ G H → tSemS X st (lift X.K E G W) σ H) := ⟨WS.run⟩

structure WSs (X : Cx) (ex : Exs) (st : List Stmt) (ρ : List O) (W : Eds) : Prop where
  run : ∀ (E : Hp × Hp) (σ : L2.St) (G H : Hp), SOx X ex E ρ σ G H → tSemSs X st (lift X.K E G W) σ H
instance {X : Cx} {ex : Exs} {st : List Stmt} {ρ : List O} {W : Eds} : CoeFun (WSs X ex st ρ W) (fun _ => ∀ (E : Hp × Hp) (σ : L2.St) (G H : Hp), SOx X ex E ρ σ G H → tSemSs X st (lift X.K E G W) σ H) := ⟨WSs.run⟩

section
variable {X : Cx} {ex : Exs} {ρ : List O} {e : Expr} {st : Stmt} {rest : List Stmt} {W : Eds} {d : D} {ds : List D} {pos pos' : Pos} {i : Nat} {x : Str}
omit [TbT] in
theorem tSemS_mono {W W' : Ends} {σ : L2.St} {H : Hp} (h : tSemS X st W σ H) (n : ∀ σ H, W.nx σ H → W'.nx σ H) (r : ∀ v H, W.rt v H → W'.rt v H) (b : ∀ σ H, W.bk σ H → W'.bk σ H) (c : ∀ σ H, W.ct σ H → W'.ct σ H) : tSemS X st W' σ H := fun pins s I =>
  thn (h pins s I) fun f s' q => by
    cases f with
    | next => obtain ⟨σ', H', I', q⟩ := q; exact ⟨σ', H', I', n _ _ q⟩
    | brk => obtain ⟨σ', H', I', q⟩ := q; exact ⟨σ', H', I', b _ _ q⟩
    | cont => obtain ⟨σ', H', I', q⟩ := q; exact ⟨σ', H', I', c _ _ q⟩
    | ret u => obtain ⟨v, σ', H', I', rv, q⟩ := q; exact ⟨v, σ', H', I', rv, r _ _ q⟩
omit [TbT] in
theorem tSemSs_mono {sts : List Stmt} {W W' : Ends} {σ : L2.St} {H : Hp} (h : tSemSs X sts W σ H) (n : ∀ σ H, W.nx σ H → W'.nx σ H) (r : ∀ v H, W.rt v H → W'.rt v H) (b : ∀ σ H, W.bk σ H → W'.bk σ H) (c : ∀ σ H, W.ct σ H → W'.ct σ H) : tSemSs X sts W' σ H := fun pins s I =>
  thn (h pins s I) fun f s' q => by
    cases f with
    | next => obtain ⟨σ', H', I', q⟩ := q; exact ⟨σ', H', I', n _ _ q⟩
    | brk => obtain ⟨σ', H', I', q⟩ := q; exact ⟨σ', H', I', b _ _ q⟩
    | cont => obtain ⟨σ', H', I', q⟩ := q; exact ⟨σ', H', I', c _ _ q⟩
    | ret u => obtain ⟨v, σ', H', I', rv, q⟩ := q; exact ⟨v, σ', H', I', rv, r _ _ q⟩
theorem up_ex {K : PySem.W.Frag} {E : Hp × Hp} {G G1 : Hp} (e : Ex G G1) {P : List O → Prop} {σ : L2.St} {H : Hp} (h : ∃ ρ' G', SOk K E ρ' σ G' H ∧ Ex G1 G' ∧ P ρ') : ∃ ρ' G', SOk K E ρ' σ G' H ∧ Ex G G' ∧ P ρ' :=
  let ⟨ρ', G', S, x, p⟩ := h; ⟨ρ', G', S, e.trans x, p⟩
theorem WSs.go {sts : List Stmt} (h : WSs X ex sts ρ W) {E : Hp × Hp} {σ : L2.St} {G G1 H : Hp} (S : SOx X ex E ρ σ G1 H) (e : Ex G G1) : tSemSs X sts (lift X.K E G W) σ H :=
  tSemSs_mono (h E σ G1 H S) (fun _ _ => up_ex e) (fun _ _ h => h) (fun _ _ => up_ex e) (fun _ _ => up_ex e)
theorem WS.go (h : WS X ex st ρ W) {E : Hp × Hp} {σ : L2.St} {G G1 H : Hp} (S : SOx X ex E ρ σ G1 H) (e : Ex G G1) : tSemS X st (lift X.K E G W) σ H :=
  tSemS_mono (h E σ G1 H S) (fun _ _ => up_ex e) (fun _ _ h => h) (fun _ _ => up_ex e) (fun _ _ => up_ex e)
theorem WSs.mono {sts : List Stmt} {W' : Eds} (h : WSs X ex sts ρ W) (n : ∀ ρ, W.nx ρ → W'.nx ρ) (r : ∀ o, W.rt o → W'.rt o) (b : ∀ ρ, W.bk ρ → W'.bk ρ) (c : ∀ ρ, W.ct ρ → W'.ct ρ) : WSs X ex sts ρ W' := ⟨fun E σ G H S =>
  tSemSs_mono (h E σ G H S) (fun _ _ ⟨a, b', s, x, p⟩ => ⟨a, b', s, x, n _ p⟩) (fun _ _ ⟨a, b', s, p⟩ => ⟨a, b', s, r _ p⟩) (fun _ _ ⟨a, b', s, x, p⟩ => ⟨a, b', s, x, b _ p⟩) (fun _ _ ⟨a, b', s, x, p⟩ => ⟨a, b', s, x, c _ p⟩)⟩
theorem WS.mono {W' : Eds} (h : WS X ex st ρ W) (n : ∀ ρ, W.nx ρ → W'.nx ρ) (r : ∀ o, W.rt o → W'.rt o) (b : ∀ ρ, W.bk ρ → W'.bk ρ) (c : ∀ ρ, W.ct ρ → W'.ct ρ) : WS X ex st ρ W' := ⟨fun E σ G H S =>
  tSemS_mono (h E σ G H S) (fun _ _ ⟨a, b', s, x, p⟩ => ⟨a, b', s, x, n _ p⟩) (fun _ _ ⟨a, b', s, p⟩ => ⟨a, b', s, r _ p⟩) (fun _ _ ⟨a, b', s, x, p⟩ => ⟨a, b', s, x, b _ p⟩) (fun _ _ ⟨a, b', s, x, p⟩ => ⟨a, b', s, x, c _ p⟩)⟩

/-! ### blocks -/
theorem ws_nil (h : W.nx ρ) : WSs X ex [] ρ W := ⟨fun E σ G H S => of_pss pss_nil ⟨ρ, G, S, Ex.refl _, h⟩⟩
/-- a statement, then the rest -/
theorem ws_cons (h : WS X ex st ρ { W with nx := fun ρ' => WSs X ex rest ρ' W }) : WSs X ex (st :: rest) ρ W := ⟨fun E σ G H S =>
  of_pss (pss_cons sem_ps sem_pss) (tSemS_mono (h E σ G H S) (fun _ _ ⟨ρ', G', S', x, q⟩ => q.go (S.at S' x) x) (fun _ _ h => h) (fun _ _ h => h) (fun _ _ h => h))⟩
theorem ws_one (h : WS X ex st ρ W) : WSs X ex [st] ρ W := ⟨fun E σ G H S => of_pss (pss_one sem_ps) (h E σ G H S)⟩
/-- a word between a statement and the rest -/
theorem ws_cut (M : List O → Prop) (h : WS X ex st ρ { W with nx := M }) (k : ∀ ρ', M ρ' → WSs X ex rest ρ' W) : WSs X ex (st :: rest) ρ W := ws_cons (h.mono k (fun _ h => h) (fun _ h => h) (fun _ h => h))
/-- slots forgotten -/
theorem ws_le {sts : List Stmt} {ρ' : List O} (l : Le ρ ρ') (h : WSs X ex sts ρ' W) : WSs X ex sts ρ W := ⟨fun E σ G H S => h E σ G H (S.le l)⟩
theorem ws_le1 {ρ' : List O} (l : Le ρ ρ') (h : WS X ex st ρ' W) : WS X ex st ρ W := ⟨fun E σ G H S => h E σ G H (S.le l)⟩

/-! ### small statements -/
theorem ws_pass (h : W.nx ρ) : WS X ex (.Pass pos) ρ W := ⟨fun E σ G H S => of_ps ps_pass ⟨ρ, G, S, Ex.refl _, h⟩⟩
theorem ws_break (h : W.bk ρ) : WS X ex (.Break pos) ρ W := ⟨fun E σ G H S => of_ps ps_break ⟨ρ, G, S, Ex.refl _, h⟩⟩
theorem ws_continue (h : W.ct ρ) : WS X ex (.Continue pos) ρ W := ⟨fun E σ G H S => of_ps ps_continue ⟨ρ, G, S, Ex.refl _, h⟩⟩
theorem ws_ret {P : O → Prop} (h : EO X ex e ρ P) (k : ∀ o, P o → W.rt o) : WS X ex (.Return (some e) pos) ρ W := ⟨fun E σ G H S =>
  of_ps (ps_ret sem_pe) (tSem_mono (h E σ G H S) fun v H1 ⟨o, G1, g, q, p⟩ => by
    have S1 := S.grow g
    exact ⟨o, G1, ⟨S1.g0, S1.gh, S1.h0, S1.fr, q.h0 S.h0, S1.tb⟩, k o p⟩)⟩
theorem ws_retE (h : EE X ex e ρ d) (k : W.rt (.va d)) : WS X ex (.Return (some e) pos) ρ W := ws_ret h.eo fun o p => p ▸ k
theorem ws_retN (k : W.rt (.va .non)) : WS X ex (.Return none pos) ρ W := ⟨fun E σ G H S =>
  of_ps ps_retN ⟨.va .non, G, ⟨S.g0, S.gh, S.h0, S.fr, .non, S.tb⟩, k⟩⟩
/-- return xs, a list of its own -/
theorem ws_retM (i : Nat) (hr : ρ[i]? = some (.ml ds)) (k : W.rt (.ml ds)) (hN : X.N[i]? = some x := by rfl) (hv : Vis X.env.scope x := by first | exact Or.inl rfl | exact Or.inr (Or.inl rfl) | exact Or.inr (Or.inr rfl)) (hd : (x == ("__debug__" : Str)) = false := by decide)
    (hcd : (x == ("__classdict__" : Str)) = false := by decide) : WS X ex (.Return (some (.Name x pos)) pos') ρ W := ⟨fun E σ G H S => by
  obtain ⟨a, xs, h1, h2, h3, h4, r⟩ := S.getL hr
  exact of_ps (ps_ret (pe_var hN hv hd hcd)) ⟨.ref a, h1, .ml ds, G, ⟨S.g0, S.gh, S.h0, S.fr, ⟨a, xs, rfl, h2, h3, h4, r⟩, S.tb⟩, k⟩⟩
/-- an expression whose value is dropped -/
theorem ws_expr {P : O → Prop} (h : EO X ex e ρ P) (k : W.nx ρ) (hs : swapsWith e none pos.line X.env = pure false := by rfl) : WS X ex (.Expr e pos) ρ W := ⟨fun E σ G H S =>
  of_ps (ps_expr sem_pe hs) (tSem_mono (h E σ G H S) fun v H1 ⟨o, G1, g, q, p⟩ => ⟨ρ, G1, S.grow g, g.g, k⟩)⟩

/-! ### if -/
theorem ws_if {c : Expr} {A B : List Stmt} {t : Bool} (hc : ET X ex c ρ t) (h1 : t = true → WSs X ex A ρ W) (h2 : t = false → WSs X ex B ρ W) : WS X ex (.If c A B pos) ρ W := ⟨fun E σ G H S =>
  of_ps (ps_if sem_pt sem_pss sem_pss) (tSemT_mono (hc E σ G H S) fun b H1 ⟨e, G1, g⟩ => by
    subst e
    cases b with
    | true => rw [if_pos rfl]; exact (h1 rfl).go (S.grow g) g.g
    | false => rw [if_neg Bool.false_ne_true]; exact (h2 rfl).go (S.grow g) g.g)⟩

/-! ### x = e -/
theorem set_own {K : PySem.W.Frag} {E : Hp × Hp} {ρ : List O} {σ : L2.St} {G H G' H' : Hp} {o : O} {v : V} (S : SOk K E ρ σ G H) (g : Grow G H G' H') (q : OOk K H G' H' o v) (i : Nat) : SOk K E (ρ.set i o) (σ.set i (some v)) G' H' :=
  (S.grow g).set i (q.h0 S.h0) fun ho j b w => by
    obtain ⟨⟨u, hu⟩, _, _⟩ := S.own_at w
    intro z
    subst z
    have no : H b = none := by
      cases o with
      | ml ds => obtain ⟨a, xs, e, h1, h2, h3, r⟩ := q; cases e; exact h3
      | md ks vs => obtain ⟨a, xs, us, e, h1, h2, h3, r⟩ := q; cases e; exact h3
      | mi ns vs => obtain ⟨a, us, e, h1, h2, h3, r⟩ := q; cases e; exact h3
      | mo a c ns ds => obtain ⟨C, dx, us, e, c, h1, h2, h3, r⟩ := q; cases e; exact h3
      | un => exact absurd ho Bool.false_ne_true
      | va d => exact absurd ho Bool.false_ne_true
      | rf a => exact absurd ho Bool.false_ne_true
    rw [no] at hu; cases hu
theorem ws_set (i : Nat) {P : O → Prop} (h : EO X ex e ρ P) (k : ∀ o, P o → W.nx (ρ.set i o)) (hN : X.N.Nodup) (hi : X.N[i]? = some x := by rfl) (hx : Loc X.env.scope x := by first | exact Or.inl rfl | exact Or.inr rfl) (hs : swapsWith e (some (.Name x pos')) pos.line X.env = pure false := by rfl) (hf : X.fn x = true ∨ X.env.scope.names.lookup x = some .local := by first | exact .inl rfl | exact .inr rfl) :
    WS X ex (.Assign [.Name x pos'] e pos) ρ W := ⟨fun E σ G H S =>
  of_ps (ps_set hN hi hx sem_pe hs hf) (tSem_mono (h E σ G H S) fun v H1 ⟨o, G1, g, q, p⟩ => ⟨_, G1, set_own S.toSOk g q i, g.g, k o p⟩)⟩
theorem ws_setE (i : Nat) (h : EE X ex e ρ d) (k : W.nx (ρ.set i (.va d))) (hN : X.N.Nodup) (hi : X.N[i]? = some x := by rfl) (hx : Loc X.env.scope x := by first | exact Or.inl rfl | exact Or.inr rfl) (hs : swapsWith e (some (.Name x pos')) pos.line X.env = pure false := by rfl) (hf : X.fn x = true ∨ X.env.scope.names.lookup x = some .local := by first | exact .inl rfl | exact .inr rfl) :
    WS X ex (.Assign [.Name x pos'] e pos) ρ W := ws_set i h.eo (fun o p => p ▸ k) hN hi hx hs hf
theorem ws_setM (i : Nat) (h : EO X ex e ρ (fun o => o = .ml ds)) (k : W.nx (ρ.set i (.ml ds))) (hN : X.N.Nodup) (hi : X.N[i]? = some x := by rfl) (hx : Loc X.env.scope x := by first | exact Or.inl rfl | exact Or.inr rfl) (hs : swapsWith e (some (.Name x pos')) pos.line X.env = pure false := by rfl) (hf : X.fn x = true ∨ X.env.scope.names.lookup x = some .local := by first | exact .inl rfl | exact .inr rfl) :
    WS X ex (.Assign [.Name x pos'] e pos) ρ W := ws_set i h (fun o p => p ▸ k) hN hi hx hs hf
/-- a, b = e1, e2 with local names -/
theorem ws_par (i j : Nat) {x y : Str} {a b : Expr} {d1 d2 : D} {px py pt : Pos} {kt k2 pt2} (ha : EA X ex [a, b] ρ [d1, d2]) (k : W.nx ((ρ.set i (.va d1)).set j (.va d2))) (hN : X.N.Nodup) (hc : X.calm = true := by rfl) (hi : X.N[i]? = some x := by rfl) (hj : X.N[j]? = some y := by rfl) (hij : i ≠ j := by decide)
    (hx : X.env.scope.names.lookup x = some .local := by rfl) (hy : X.env.scope.names.lookup y = some .local := by rfl) (hw : swappedStores [.Tuple [.Name x px, .Name y py] kt pt] (.Tuple [a, b] k2 pt2) X.env = pure (some [x, y]) := by rfl)
    (hs : swapsWithSole [.Tuple [.Name x px, .Name y py] kt pt] (.Tuple [a, b] k2 pt2) pos.line X.env = pure false := by rfl) :
    WS X ex (.Assign [.Tuple [.Name x px, .Name y py] kt pt] (.Tuple [a, b] k2 pt2) pos) ρ W := ⟨fun E σ G H S =>
  of_ps (ps_par hc hN hi hj hij hx hy sem_pa hw hs) (tSemA_mono (ha E σ G H S) fun vs H1 ⟨G1, g, r⟩ => by
    obtain ⟨v, w, rfl, r1, r2⟩ := r.of2
    refine ⟨v, w, rfl, _, G1, ?_, g.g, k⟩
    exact ((S.grow g).set i (o := .va d1) r1 fun h => absurd h Bool.false_ne_true).set j (o := .va d2) r2 fun h => absurd h Bool.false_ne_true)⟩
/-- x += e of ints -/
theorem ws_iadd (i : Nat) {n m : Int} (hr : ρ[i]? = some (.va (.int n))) (h : EE X ex e ρ (.int m)) (k : W.nx (ρ.set i (.va (.int (n + m))))) (hN : X.N.Nodup) (hi : X.N[i]? = some x := by rfl) (hx : Loc X.env.scope x := by first | exact Or.inl rfl | exact Or.inr rfl) (hf : X.fn x = true ∨ X.env.scope.names.lookup x = some .local := by first | exact .inl rfl | exact .inr rfl) :
    WS X ex (.AugAssign (.Name x pos') .Add e pos) ρ W := ⟨fun E σ G H S => by
  obtain ⟨v, h1, r⟩ := S.get hr
  cases r
  exact of_ps (ps_aug hN hi hx sem_pe ip_add hf) ⟨_, h1, tSem_mono (h E σ G H S) fun w H1 ⟨G1, g, r1⟩ => by
    cases r1
    exact ⟨n, m, rfl, rfl, _, G1, (S.grow g).set i (o := .va (.int (n + m))) (.int _) fun h => absurd h Bool.false_ne_true, g.g, k⟩⟩⟩

/-! ### lists of one's own -/
omit [TbT] in
/-- what else is owned stays where the object at a changes -/
theorem OOk.stay {K : PySem.W.Frag} {H0 G G' H H' : Hp} {o : O} {v : V} {a : Addr} (q : OOk K H0 G H o v) (e : Ex G G') (hg : ∀ b, b ≠ a → G b = none → G' b = none) (hh : ∀ b, b ≠ a → H' b = H b) (n : o.own = true → v ≠ .ref a) : OOk K H0 G' H' o v := by
  cases o with
  | un => trivial
  | va d => exact Rep.mono e q
  | rf a => exact q
  | ml fs =>
    obtain ⟨b, zs, rfl, k1, k2, k3, r⟩ := q
    have nb : b ≠ a := fun z => n rfl (congrArg V.ref z)
    exact ⟨b, zs, rfl, by rw [hh b nb]; exact k1, hg b nb k2, k3, r.mono e⟩
  | md ks vs =>
    obtain ⟨b, xs, us, rfl, k1, k2, k3, k, nd, r, w, t, q⟩ := q
    have nb : b ≠ a := fun z => n rfl (congrArg V.ref z)
    exact ⟨b, xs, us, rfl, by rw [hh b nb]; exact k1, hg b nb k2, k3, k, nd, r.mono e, w, t.mono e, q⟩
  | mi ns vs =>
    obtain ⟨b, us, rfl, k1, k2, k3, nd, l, r⟩ := q
    have nb : b ≠ a := fun z => n rfl (congrArg V.ref z)
    exact ⟨b, us, rfl, by rw [hh b nb]; exact k1, hg b nb k2, k3, nd, l, r.mono e⟩
  | mo b c ns ds =>
    obtain ⟨C, dx, us, rfl, hc, k1, k2, k3, l, r⟩ := q
    have nb : b ≠ a := fun z => n rfl (congrArg V.ref z)
    exact ⟨C, dx, us, rfl, hc, by rw [hh b nb]; exact k1, hg b nb k2, k3, l, r.mono e⟩
/-- the object that slot i owns changes -/
theorem SOk.ownTo {K : PySem.W.Frag} {E : Hp × Hp} {σ : L2.St} {G H : Hp} {a : Addr} {o o' : O} {u' : HO} (S : SOk K E ρ σ G H) (hr : ρ[i]? = some o) (ho : o.own = true) (h1 : σ[i]? = some (some (.ref a))) (ht : Tb (upd H a u')) (hq : OOk K E.2 G (upd H a u') o' (.ref a)) :
    SOk K E (ρ.set i o') σ G (upd H a u') := by
  have wi : Own ρ σ i a := ⟨⟨_, hr, ho⟩, h1⟩
  obtain ⟨_, h3, h4⟩ := S.own_at wi
  refine ⟨S.g0, S.gh.mut h3, S.h0.mut h4, S.fr, by rw [List.length_set]; exact S.len, fun j u e => ?_, fun j k b hj hk => ?_, ht⟩
  · rcases set_at e with ⟨hj, hu, l⟩ | ⟨ne, e'⟩
    · subst hj hu
      exact .inr ⟨.ref a, h1, hq⟩
    · rcases S.at' j u e' with h | ⟨v, s, q⟩
      · exact .inl h
      · refine .inr ⟨v, s, q.stay (a := a) (Ex.refl _) (fun _ _ h => h) (fun b nb => upd_ne nb) fun ow z => ?_⟩
        subst z
        exact ne (S.apart i j a wi ⟨⟨_, e', ow⟩, s⟩)
  · have back : ∀ j, Own (ρ.set i o') σ j b → Own ρ σ j b := fun j ⟨⟨o2, e, p⟩, s⟩ => by
      rcases set_at e with ⟨hj, _, l⟩ | ⟨ne, e'⟩
      · subst hj; exact ⟨⟨_, hr, ho⟩, s⟩
      · exact ⟨⟨o2, e', p⟩, s⟩
    exact S.apart j k b (back j hj) (back k hk)
/-- the list in slot i changes -/
theorem SOk.lstTo {K : PySem.W.Frag} {E : Hp × Hp} {σ : L2.St} {G H : Hp} {a : Addr} {xs ys : List V} {es : List D} (S : SOk K E ρ σ G H) (hr : ρ[i]? = some (.ml ds)) (h1 : σ[i]? = some (some (.ref a))) (h2 : H a = some (.lst xs)) (h3 : G a = none) (h4 : E.2 a = none) (r : RepL K G ys es) :
    SOk K E (ρ.set i (.ml es)) σ G (upd H a (.lst ys)) := S.ownTo hr rfl h1 (tb_lst S.tb h2) ⟨a, ys, rfl, upd_same, h3, h4, r⟩
/-- xs.append(e) -/
theorem ws_append (i : Nat) {cpos apos npos : Pos} (hr : ρ[i]? = some (.ml ds)) (h : EE X ex e ρ d) (hl : ds.length < sizeLine) (k : W.nx (ρ.set i (.ml (ds ++ [d])))) (hN : X.N[i]? = some x := by rfl) (hv : Vis X.env.scope x := by first | exact Or.inl rfl | exact Or.inr (Or.inl rfl) | exact Or.inr (Or.inr rfl)) (hd : (x == ("__debug__" : Str)) = false := by decide)
    (hcd : (x == ("__classdict__" : Str)) = false := by decide) (hbase : attributeBase (.Name x npos) "append" X.env (eval (.Name x npos) X.env) = eval (.Name x npos) X.env := by rfl)
    (hfew : ((backTo cpos (starEach [e] X.env)).all (fun x => !x.1) && (backToKw cpos (keywordEach [] X.env)).all (fun x => x.1.isSome)
      && decide (([e] : List Expr).length + ([] : List Keyword).length + (if ([] : List Keyword).isEmpty then 0 else 1) < 30)) = true := by rfl)
    (hline : (apos.endLine == cpos.line) = true := by rfl) (hst : starEach [e] X.env = (false, eval e X.env) :: starEach [] X.env := by rfl) (hplain : (backTo cpos (starEach [] X.env)).any (·.1) = false := by rfl)
    (hs : swapsWith (.Call (.Attribute (.Name x npos) "append" apos) [e] [] cpos) none pos.line X.env = pure false := by rfl) :
    WS X ex (.Expr (.Call (.Attribute (.Name x npos) "append" apos) [e] [] cpos) pos) ρ W := ⟨fun E σ G H S => by
  obtain ⟨a, xs, h1, h2, h3, h4, r⟩ := S.getL hr
  refine of_ps (ps_expr (pe_bm PySem.F.plainAttrs_list PySem.F.slot_list_append PySem.F.type_list_append mt_append (pe_var hN hv hd hcd) (pa_cons sem_pe pa_nil hst) hbase hfew hline hst hplain) hs) ?_
  refine ⟨.ref a, h1, .inl ⟨rfl, xs, .inl (.inl h2)⟩, tSem_mono (h E σ G H S) fun v H1 ⟨G1, g, r1⟩ => ?_⟩
  have S1 := S.grow g
  obtain ⟨a', xs', h1', h2', h3', h4', r'⟩ := S1.getL hr
  rw [h1] at h1'; cases h1'
  refine ⟨a, xs', v, rfl, rfl, h2', by rw [r'.length]; exact hl, _, G1, S1.lstTo hr h1 h2' h3' h4' (r'.append (.one r1)), g.g, k⟩⟩
/-- x = xs.pop() -/
theorem ws_pop (i j : Nat) {y : Str} {cpos apos npos ypos : Pos} (hr : ρ[i]? = some (.ml ds)) (hne : ds[ds.length - 1]? = some d) (k : W.nx ((ρ.set i (.ml ds.dropLast)).set j (.va d))) (hNd : X.N.Nodup) (hN : X.N[i]? = some x := by rfl) (hj : X.N[j]? = some y := by rfl) (hv : Vis X.env.scope x := by first | exact Or.inl rfl | exact Or.inr (Or.inl rfl) | exact Or.inr (Or.inr rfl)) (hd : (x == ("__debug__" : Str)) = false := by decide)
    (hcd : (x == ("__classdict__" : Str)) = false := by decide) (hbase : attributeBase (.Name x npos) "pop" X.env (eval (.Name x npos) X.env) = eval (.Name x npos) X.env := by rfl) (hline : (apos.endLine == cpos.line) = true := by rfl) (hx : Loc X.env.scope y := by first | exact Or.inl rfl | exact Or.inr rfl)
    (hs : swapsWith (.Call (.Attribute (.Name x npos) "pop" apos) [] [] cpos) (some (.Name y ypos)) pos.line X.env = pure false := by rfl) (hf : X.fn y = true ∨ X.env.scope.names.lookup y = some .local := by first | exact .inl rfl | exact .inr rfl) :
    WS X ex (.Assign [.Name y ypos] (.Call (.Attribute (.Name x npos) "pop" apos) [] [] cpos) pos) ρ W := ⟨fun E σ G H S => by
  obtain ⟨a, xs, h1, h2, h3, h4, r⟩ := S.getL hr
  have hne' : xs[xs.length - 1]? = xs[ds.length - 1]? := by rw [r.length]
  obtain ⟨v, hv1, rv⟩ := r.get hne
  refine of_ps (ps_set hNd hj hx (pe_bm0 PySem.F.plainAttrs_list PySem.F.slot_list_pop PySem.F.type_list_pop mt_pop (pe_var hN hv hd hcd) hbase hline) hs hf) ?_
  refine ⟨.ref a, h1, .inl ⟨rfl, xs, .inl (.inl h2)⟩, a, xs, v, rfl, rfl, h2, hne'.trans hv1, ?_⟩
  refine ⟨_, G, ((S.lstTo hr h1 h2 h3 h4 r.dropLast).set j (o := .va d) rv fun h => absurd h Bool.false_ne_true), Ex.refl _, k⟩⟩
/-- xs.clear() -/
theorem ws_clear (i : Nat) {cpos apos npos : Pos} (hr : ρ[i]? = some (.ml ds)) (k : W.nx (ρ.set i (.ml []))) (hN : X.N[i]? = some x := by rfl) (hv : Vis X.env.scope x := by first | exact Or.inl rfl | exact Or.inr (Or.inl rfl) | exact Or.inr (Or.inr rfl)) (hd : (x == ("__debug__" : Str)) = false := by decide)
    (hcd : (x == ("__classdict__" : Str)) = false := by decide) (hbase : attributeBase (.Name x npos) "clear" X.env (eval (.Name x npos) X.env) = eval (.Name x npos) X.env := by rfl) (hline : (apos.endLine == cpos.line) = true := by rfl)
    (hs : swapsWith (.Call (.Attribute (.Name x npos) "clear" apos) [] [] cpos) none pos.line X.env = pure false := by rfl) :
    WS X ex (.Expr (.Call (.Attribute (.Name x npos) "clear" apos) [] [] cpos) pos) ρ W := ⟨fun E σ G H S => by
  obtain ⟨a, xs, h1, h2, h3, h4, r⟩ := S.getL hr
  refine of_ps (ps_expr (pe_bm0 PySem.F.plainAttrs_list PySem.F.slot_list_clear PySem.F.type_list_clear mt_clear (pe_var hN hv hd hcd) hbase hline) hs) ?_
  exact ⟨.ref a, h1, .inl ⟨rfl, xs, .inl (.inl h2)⟩, a, xs, rfl, rfl, h2, _, G, S.lstTo hr h1 h2 h3 h4 .nil, Ex.refl _, k⟩⟩

/-! ### an owned object as data -/
/-- what slot i owns does not change any more -/
theorem SOk.toData {K : PySem.W.Frag} {E : Hp × Hp} {σ : L2.St} {G H H' : Hp} {a : Addr} {o : O} {d : D} {u : HO} (S : SOk K E ρ σ G H) (hr : ρ[i]? = some o) (ho : o.own = true) (h1 : σ[i]? = some (some (.ref a))) (hh : ∀ b, b ≠ a → H' b = H b) (ha : H' a = some u) (nt : ∀ ps, u ≠ .tbl ps) (ht : Tb H')
    (rd : Rep K (upd G a u) (.ref a) d) : SOk K E (ρ.set i (.va d)) σ (upd G a u) H' := by
  have wi : Own ρ σ i a := ⟨⟨_, hr, ho⟩, h1⟩
  obtain ⟨_, h3, h4⟩ := S.own_at wi
  have ex : Ex (upd G a u) H' := by
    refine ⟨fun b w h n => ?_, fun b ps h => ?_⟩
    · by_cases z : b = a
      · subst z; rw [upd_same] at h; cases h; exact ha
      · rw [upd_ne z] at h; rw [hh b z]; exact S.gh.keep b w h n
    · by_cases z : b = a
      · subst z; rw [upd_same] at h; exact absurd (Option.some.inj h) (nt ps)
      · rw [upd_ne z] at h; rw [hh b z]; exact S.gh.tb b ps h
  have hE : Ex E.2 H' := by
    refine ⟨fun b w h n => ?_, fun b ps h => ?_⟩
    · rw [hh b (ne_of_none h h4)]; exact S.h0.keep b w h n
    · rw [hh b (ne_of_none h h4)]; exact S.h0.tb b ps h
  refine ⟨S.g0.trans (Ex.new h3), ex, hE, fun b h q => ?_, by rw [List.length_set]; exact S.len, fun j w e => ?_, fun j k b hj hk => ?_, ht⟩
  · by_cases z : b = a
    · subst z; exact h4
    · rw [upd_ne z] at q; exact S.fr b h q
  · rcases set_at e with ⟨hj, hu, l⟩ | ⟨ne, e'⟩
    · subst hj hu
      exact .inr ⟨.ref a, h1, rd⟩
    · rcases S.at' j w e' with h | ⟨v, s, q⟩
      · exact .inl h
      · refine .inr ⟨v, s, q.stay (a := a) (Ex.new h3) (fun b nb h => by rw [upd_ne nb]; exact h) hh fun ow z => ?_⟩
        subst z
        exact ne (S.apart i j a wi ⟨⟨_, e', ow⟩, s⟩)
  · have back : ∀ j, Own (ρ.set i (.va d)) σ j b → Own ρ σ j b := fun j ⟨⟨o2, e, p⟩, s⟩ => by
      rcases set_at e with ⟨hj, ho, l⟩ | ⟨ne, e'⟩
      · subst hj ho; exact absurd p Bool.false_ne_true
      · exact ⟨⟨o2, e', p⟩, s⟩
    exact S.apart j k b (back j hj) (back k hk)
theorem SOk.frozen {K : PySem.W.Frag} {E : Hp × Hp} {σ : L2.St} {G H : Hp} (S : SOk K E ρ σ G H) (hr : ρ[i]? = some (.ml ds)) : ∃ a xs, σ[i]? = some (some (.ref a)) ∧ H a = some (.lst xs) ∧ G a = none ∧ E.2 a = none ∧ RepL K G xs ds ∧ SOk K E (ρ.set i (.va (.lst ds))) σ (upd G a (.lst xs)) H := by
  obtain ⟨a, xs, h1, h2, h3, h4, r⟩ := S.getL hr
  exact ⟨a, xs, h1, h2, h3, h4, r, S.toData hr rfl h1 (fun _ _ => rfl) h2 lst_ne.1 S.tb (.lst upd_same (r.mono (Ex.new h3)))⟩
/-- from here on the list does not change any more -/
theorem ws_freeze (i : Nat) {sts : List Stmt} (hr : ρ[i]? = some (.ml ds)) (h : WSs X ex sts (ρ.set i (.va (.lst ds))) W) : WSs X ex sts ρ W := ⟨fun E σ G H S => by
  obtain ⟨a, xs, h1, h2, h3, h4, r, S'⟩ := S.frozen hr
  exact h.go (S.at S' (Ex.new h3)) (Ex.new h3)⟩
/-- the borrowed list is given back -/
theorem unfreeze {K : PySem.W.Frag} {E : Hp × Hp} {σ : L2.St} {G H G' H' : Hp} {a : Addr} {xs : List V} (S : SOk K E ρ σ G H) (h2 : H a = some (.lst xs)) (h3 : G a = none) (g : Grow (upd G a (.lst xs)) H G' H') : Grow G H (del G' a) H' := by
  refine ⟨⟨fun b u e n => ?_, fun b ps e => ?_⟩, g.h, del_ex.trans g.gh, fun b h q => ?_, g.tb⟩
  · have nb : b ≠ a := ne_of_none e h3
    rw [del_ne nb]
    exact g.g.keep b u (by rw [upd_ne nb]; exact e) n
  · have nb : b ≠ a := ne_of_none e h3
    rw [del_ne nb]
    exact g.g.tb b ps (by rw [upd_ne nb]; exact e)
  · by_cases z : b = a
    · subst z; rw [del_same] at q; exact absurd rfl q
    · rw [del_ne z] at q; exact g.fr b (by rw [upd_ne z]; exact h) q
theorem ee_bor (i : Nat) (hr : ρ[i]? = some (.ml ds)) (h : EE X ex e (ρ.set i (.va (.lst ds))) d) (hn : d.noL = true) : EE X ex e ρ d := ⟨fun E σ G H S => by
  obtain ⟨a, xs, h1, h2, h3, h4, r, S'⟩ := S.frozen hr
  refine tSem_mono (h E σ _ H (S.at S' (Ex.new h3))) fun v H' ⟨G', g, rv⟩ => ⟨del G' a, unfreeze S.toSOk h2 h3 g, ?_⟩
  exact rv.del (g.g.app a _ upd_same) hn⟩
theorem et_bor (i : Nat) {t : Bool} (hr : ρ[i]? = some (.ml ds)) (h : ET X ex e (ρ.set i (.va (.lst ds))) t) : ET X ex e ρ t := ⟨fun E σ G H S => by
  obtain ⟨a, xs, h1, h2, h3, h4, r, S'⟩ := S.frozen hr
  exact tSemT_mono (h E σ _ H (S.at S' (Ex.new h3))) fun v H' ⟨q, G', g⟩ => ⟨q, del G' a, unfreeze S.toSOk h2 h3 g⟩⟩
/-- .. where a new list of plain items comes back -/
theorem eo_bor (i : Nat) {es : List D} (hr : ρ[i]? = some (.ml ds)) (h : EO X ex e (ρ.set i (.va (.lst ds))) (fun o => o = .ml es)) (hn : D.noLs es = true) : EO X ex e ρ (fun o => o = .ml es) := ⟨fun E σ G H S => by
  obtain ⟨a, xs, h1, h2, h3, h4, r, S'⟩ := S.frozen hr
  refine tSem_mono (h E σ _ H (S.at S' (Ex.new h3))) fun v H' ⟨o, G', g, q, p⟩ => ?_
  subst p
  obtain ⟨b, ys, e1, k1, k2, k3, r'⟩ := q
  refine ⟨.ml es, del G' a, unfreeze S.toSOk h2 h3 g, ⟨b, ys, e1, k1, ?_, k3, r'.del (g.g.app a _ upd_same) hn⟩, rfl⟩
  by_cases z : b = a
  · subst z; exact del_same
  · rw [del_ne z]; exact k2⟩
theorem SOk.forget {K : PySem.W.Frag} {E : Hp × Hp} {σ : L2.St} {G H : Hp} (S : SOk K E ρ σ G H) (i : Nat) : SOk K E (ρ.set i .un) σ G H := by
  refine ⟨S.g0, S.gh, S.h0, S.fr, by rw [List.length_set]; exact S.len, fun j u e => ?_, fun j k b hj hk => ?_, S.tb⟩
  · rcases set_at e with ⟨hj, hu, l⟩ | ⟨ne, e'⟩
    · exact .inl hu
    · exact S.at' j u e'
  · have back : ∀ j, Own (ρ.set i .un) σ j b → Own ρ σ j b := fun j ⟨⟨o, e, p⟩, s⟩ => by
      rcases set_at e with ⟨hj, ho, l⟩ | ⟨ne, e'⟩
      · subst hj ho; exact absurd p Bool.false_ne_true
      · exact ⟨⟨o, e', p⟩, s⟩
    exact S.apart j k b (back j hj) (back k hk)
/-- y = xs, a list of one's own that changes its name -/
theorem ws_move (i j : Nat) {y : Str} {npos ypos : Pos} (hr : ρ[i]? = some (.ml ds)) (hij : i ≠ j) (k : W.nx ((ρ.set i .un).set j (.ml ds))) (hNd : X.N.Nodup) (hN : X.N[i]? = some x := by rfl) (hj : X.N[j]? = some y := by rfl) (hv : Vis X.env.scope x := by first | exact Or.inl rfl | exact Or.inr (Or.inl rfl) | exact Or.inr (Or.inr rfl)) (hd : (x == ("__debug__" : Str)) = false := by decide)
    (hcd : (x == ("__classdict__" : Str)) = false := by decide) (hx : Loc X.env.scope y := by first | exact Or.inl rfl | exact Or.inr rfl)
    (hs : swapsWith (.Name x npos) (some (.Name y ypos)) pos.line X.env = pure false := by rfl) (hf : X.fn y = true ∨ X.env.scope.names.lookup y = some .local := by first | exact .inl rfl | exact .inr rfl) :
    WS X ex (.Assign [.Name y ypos] (.Name x npos) pos) ρ W := ⟨fun E σ G H S => by
  obtain ⟨a, xs, h1, h2, h3, h4, r⟩ := S.getL hr
  refine of_ps (ps_set hNd hj hx (pe_var hN hv hd hcd) hs hf) ⟨.ref a, h1, _, G, ?_, Ex.refl _, k⟩
  have S1 : SOk X.K E (ρ.set i .un) σ G H := S.forget i
  refine S1.set j (o := .ml ds) ⟨a, xs, rfl, h2, h3, h4, r⟩ fun _ m b w z => ?_
  cases z
  obtain ⟨⟨o, e, p⟩, s⟩ := w
  rcases set_at e with ⟨hj, ho, l⟩ | ⟨ne, e'⟩
  · subst hj ho; exact absurd p Bool.false_ne_true
  · exact ne (S.apart i m a ⟨⟨_, hr, rfl⟩, h1⟩ ⟨⟨o, e', p⟩, s⟩)⟩
end
end TG
/-! Loops, comprehensions, defs over plain data. -/
namespace TG
open PySem PySem.Spec PyProof.Rows L2
variable [TbT]

section
variable {X : Cx} {ex : Exs} {ρ : List O} {e : Expr} {body : List Stmt} {W : Eds} {d : D} {ds : List D} {pos pos' : Pos} {i : Nat} {x : Str}
/-- slots may be forgotten ahead of R -/
def Up (R : List O → Prop) (ρ : List O) : Prop := ∃ ρ', Le ρ ρ' ∧ R ρ'
omit [TbT] in
theorem Up.of {R : List O → Prop} (h : R ρ) : Up R ρ := ⟨ρ, Le.refl ρ, h⟩
theorem sok_up {K : PySem.W.Frag} {E : Hp × Hp} {σ : L2.St} {G H : Hp} {R : List O → Prop} (S : SOk K E ρ σ G H) (h : Up R ρ) : ∃ ρ', SOk K E ρ' σ G H ∧ R ρ' := let ⟨ρ', l, r⟩ := h; ⟨ρ', S.le l, r⟩

/-! ### while -/
theorem ws_while {c : Expr} (R : Nat → List O → Prop) (m0 : Nat) (h0 : Up (R m0) ρ) (hp : PassesOwn (model X.prog X.w) X.A X.env X.xe)
    (hs : ∀ m ρ, R m ρ → ∃ t, ET X ex c ρ t ∧ (t = true → WSs X ex body ρ { nx := fun ρ' => ∃ m', m' < m ∧ Up (R m') ρ', ct := fun ρ' => ∃ m', m' < m ∧ Up (R m') ρ', bk := W.nx, rt := W.rt }) ∧ (t = false → W.nx ρ)) : WS X ex (.While c body [] pos) ρ W := ⟨fun E σ G H S =>
  of_ps (ps_while hp sem_pt sem_pss) ⟨fun m σ' H' => ∃ ρ' G', SOk X.K E ρ' σ' G' H' ∧ Ex G G' ∧ R m ρ', ⟨m0, let ⟨ρ', S', r⟩ := sok_up S.toSOk h0; ⟨ρ', G, S', Ex.refl _, r⟩⟩, fun m σ' H' ⟨ρ1, G1, S1, x1, r1⟩ => by
    obtain ⟨t, ht, h1, h2⟩ := hs m ρ1 r1
    refine tSemT_mono (ht E σ' G1 H' (S.at S1 x1)) fun b H2 ⟨eb, G2, g2⟩ => ?_
    subst eb
    cases b with
    | true =>
      rw [if_pos rfl]
      refine ⟨fun σ3 H3 => ∃ ρ3 G3, SOk X.K E ρ3 σ3 G3 H3 ∧ Ex G G3 ∧ ∃ m', m' < m ∧ Up (R m') ρ3, fun σ3 H3 ⟨ρ3, G3, S3, x3, m', lt, u⟩ => ?_, (h1 rfl).go (S.at (S1.grow g2) (x1.trans g2.g)) (x1.trans g2.g)⟩
      obtain ⟨ρ4, S4, r4⟩ := sok_up S3 u
      exact ⟨m', lt, ρ4, G3, S4, x3, r4⟩
    | false =>
      rw [if_neg Bool.false_ne_true]
      exact ⟨ρ1, G2, S1.grow g2, x1.trans g2.g, h2 rfl⟩⟩⟩

/-! ### for -/
/-- a target's own meaning -/
def tSemG (X : Cx) (tg : Expr) : L2.TG := fun v σ H Q => ∀ (pins : List (Addr × Obj)) (s : Shared) (u : Value), Inv X pins σ H s → RelV v u → wpAny (model X.prog X.w) X.A (assign tg X.env u) (fun _ s' => ∃ σ' H', Inv X pins σ' H' s' ∧ Q σ' H') X.xe s
def tSemGs (X : Cx) (ts : List Expr) : TGs := fun vs σ H Q => ∀ (pins : List (Addr × Obj)) (s : Shared) (us : List Value), Inv X pins σ H s → Vals vs us → wpAny (model X.prog X.w) X.A (assignInOrder ((assignEach ts X.env).map (·.2)) us) (fun _ s' => ∃ σ' H', Inv X pins σ' H' s' ∧ Q σ' H') X.xe s
omit [TbT] in
theorem sem_pg {tg : Expr} : PG X tg (tSemG X tg) := ⟨fun pins s _ _ _ u _ I r h => h pins s u I r⟩
omit [TbT] in
theorem sem_pgs {ts : List Expr} : PGs X ts (tSemGs X ts) := ⟨fun pins s _ _ _ us _ I r h => h pins s us I r⟩
omit [TbT] in
theorem of_pg {tg : Expr} {t : L2.TG} (h : PG X tg t) {v : V} {σ : L2.St} {H : Hp} {Q : L2.St → Hp → Prop} (q : t v σ H Q) : tSemG X tg v σ H Q := fun pins s u I r => h.run pins s σ H v u Q I r q
omit [TbT] in
theorem of_pgs {ts : List Expr} {t : TGs} (h : PGs X ts t) {vs : List V} {σ : L2.St} {H : Hp} {Q : L2.St → Hp → Prop} (q : t vs σ H Q) : tSemGs X ts vs σ H Q := fun pins s us I r => h.run pins s σ H vs us Q I r q
omit [TbT] in
theorem tSemG_mono {tg : Expr} {v : V} {σ : L2.St} {H : Hp} {Q Q' : L2.St → Hp → Prop} (h : tSemG X tg v σ H Q) (k : ∀ σ' H', Q σ' H' → Q' σ' H') : tSemG X tg v σ H Q' := fun pins s u I r => thn (h pins s u I r) fun _ _ ⟨σ', H', I', q⟩ => ⟨σ', H', I', k _ _ q⟩
omit [TbT] in
theorem tSemGs_mono {ts : List Expr} {vs : List V} {σ : L2.St} {H : Hp} {Q Q' : L2.St → Hp → Prop} (h : tSemGs X ts vs σ H Q) (k : ∀ σ' H', Q σ' H' → Q' σ' H') : tSemGs X ts vs σ H Q' := fun pins s us I r => thn (h pins s us I r) fun _ _ ⟨σ', H', I', q⟩ => ⟨σ', H', I', k _ _ q⟩
/-- the target takes d: the slots ρ become ρ' -/
structure ATg (X : Cx) (tg : Expr) (d : D) (ρ ρ' : List O) : Prop where
  run : ∀ (E : Hp × Hp) (σ : L2.St) (G H : Hp) (v : V), SOk X.K E ρ σ G H → Rep X.K G v d → tSemG X tg v σ H fun σ' H' => H' = H ∧ SOk X.K E ρ' σ' G H
instance {X : Cx} {tg : Expr} {d : D} {ρ ρ' : List O} : CoeFun (ATg X tg d ρ ρ') (fun _ => ∀ (E : Hp × Hp) (σ : L2.St) (G H : Hp) (v : V), SOk X.K E ρ σ G H → Rep X.K G v d → tSemG X tg v σ H fun σ' H' => H' = H ∧ SOk X.K E ρ' σ' G H) := ⟨ATg.run⟩

structure ATgs (X : Cx) (ts : List Expr) (ds : List D) (ρ ρ' : List O) : Prop where
  run : ∀ (E : Hp × Hp) (σ : L2.St) (G H : Hp) (vs : List V), SOk X.K E ρ σ G H → RepL X.K G vs ds → tSemGs X ts vs σ H fun σ' H' => H' = H ∧ SOk X.K E ρ' σ' G H
instance {X : Cx} {ts : List Expr} {ds : List D} {ρ ρ' : List O} : CoeFun (ATgs X ts ds ρ ρ') (fun _ => ∀ (E : Hp × Hp) (σ : L2.St) (G H : Hp) (vs : List V), SOk X.K E ρ σ G H → RepL X.K G vs ds → tSemGs X ts vs σ H fun σ' H' => H' = H ∧ SOk X.K E ρ' σ' G H) := ⟨ATgs.run⟩

theorem at_name (i : Nat) (hN : X.N.Nodup) (hi : X.N[i]? = some x := by rfl) (hx : Loc X.env.scope x := by first | exact Or.inl rfl | exact Or.inr rfl) (hf : X.fn x = true ∨ X.env.scope.names.lookup x = some .local := by first | exact .inl rfl | exact .inr rfl) : ATg X (.Name x pos) d ρ (ρ.set i (.va d)) := ⟨fun E σ G H v S r =>
  of_pg (pg_name hN hi hx hf) ⟨rfl, S.set i (o := .va d) r fun h => absurd h Bool.false_ne_true⟩⟩
theorem ats_nil : ATgs X [] [] ρ ρ := ⟨fun E σ G H vs S r => by
  cases r
  exact of_pgs pgs_nil ⟨rfl, rfl, S⟩⟩
theorem ats_cons {tg : Expr} {ts : List Expr} {ρ1 ρ2 : List O} (h : ATg X tg d ρ ρ1) (t : ATgs X ts ds ρ1 ρ2) (hs : (assignEach (tg :: ts) X.env).map (·.2) = assign tg X.env :: (assignEach ts X.env).map (·.2) := by rfl) : ATgs X (tg :: ts) (d :: ds) ρ ρ2 := ⟨fun E σ G H vs S r => by
  cases r with
  | cons r1 r2 =>
    refine of_pgs (pgs_cons sem_pg sem_pgs hs) ⟨_, _, rfl, tSemG_mono (h E σ G H _ S r1) fun σ' H' ⟨e, S'⟩ => ?_⟩
    subst e
    exact t E σ' G _ _ S' r2⟩
theorem at_tup {ts : List Expr} {k : Nat} {ρ1 : List O} (h : ATgs X ts ds ρ ρ1) (hc : X.calm = true := by rfl) (hn : (assignEach ts X.env).length = ds.length := by rfl) (hst : (assignEach ts X.env).findIdx? (·.1) = none := by rfl) : ATg X (.Tuple ts k pos) (.tup ds) ρ ρ1 := ⟨fun E σ G H v S r => by
  cases r with
  | tup h1 r1 =>
    exact of_pg (pg_tup hc sem_pgs hn hst) ⟨_, _, rfl, S.gh.t h1, by rw [r1.length], h E σ G H _ S r1⟩⟩
/-- a, b = e: e a tuple -/
theorem ws_unpack {ts : List Expr} {k : Nat} {ρ1 : List O} {pt : Pos} (h : EE X ex e ρ d) (ht : ATg X (.Tuple ts k pt) d ρ ρ1) (n : W.nx ρ1) (hs : swapsWithSole [.Tuple ts k pt] e pos.line X.env = pure false := by rfl) (hw : swappedStores [.Tuple ts k pt] e X.env = pure none := by rfl)
    (h1 : (assignEach [.Tuple ts k pt] X.env).map (·.2) = [assign (.Tuple ts k pt) X.env] := by rfl) : WS X ex (.Assign [.Tuple ts k pt] e pos) ρ W := ⟨fun E σ G H S =>
  of_ps (ps_asg sem_pe sem_pg hs hw h1) (tSem_mono (h E σ G H S) fun v H1 ⟨G1, g, r⟩ => tSemG_mono (ht E σ G1 H1 v (S.grow g) r) fun σ' H' ⟨e, S'⟩ => by
    subst e
    exact ⟨ρ1, G1, S', g.g, n⟩)⟩

/-- the invariant of a for over items: R by the turn -/
theorem ws_forL {iter tg : Expr} (R : Nat → List O → Prop) (h : EE X ex iter ρ (.lst ds)) (h0 : Up (R 0) ρ) (hp : PassesOwn (model X.prog X.w) X.A X.env X.xe)
    (hs : ∀ k d ρ, ds[k]? = some d → R k ρ → ∃ ρ', ATg X tg d ρ ρ' ∧ WSs X ex body ρ' { nx := Up (R (k + 1)), ct := Up (R (k + 1)), bk := W.nx, rt := W.rt }) (hd : ∀ ρ, R ds.length ρ → W.nx ρ) (hc : X.calm = true := by rfl)
    (hf : ∀ x, foldedSetIterable iter X.env x = pure x := by intro _; rfl) : WS X ex (.For tg iter body [] pos) ρ W := ⟨fun E σ G H S =>
  of_ps (ps_for hp hc (pi_list sem_pe) sem_pg sem_pss hf) (tSem_mono (h E σ G H S) fun v H1 ⟨G1, g, r⟩ => by
    cases r with
    | @lst a xs _ hl rl =>
      refine ⟨a, rfl, ⟨xs, g.gh.l hl⟩, for_list (K := X.K) (a := a) (xs := xs) (fun k σ' H' => ∃ ρ' G', SOk X.K E ρ' σ' G' H' ∧ Ex G1 G' ∧ R k ρ') ?_ (fun k σ' H' _ ⟨ρ', G', S', x', _⟩ => S'.gh.l (x'.app _ _ hl)) (fun k y σ' H' hk ⟨ρ', G', S', x', r'⟩ => ?_) fun σ' H' ⟨ρ', G', S', x', r'⟩ => ?_⟩
      · obtain ⟨ρ', S', r'⟩ := sok_up (S.grow g).toSOk h0
        exact ⟨ρ', G1, S', Ex.refl _, r'⟩
      · obtain ⟨d, hd', rd⟩ := rl.getV hk
        obtain ⟨ρ2, ht, hb⟩ := hs k d ρ' hd' r'
        refine tSemG_mono (ht E σ' G' H' y S' (rd.mono x')) fun σ2 H2 ⟨e, S2⟩ => ?_
        subst e
        have up : ∀ {σ3 : L2.St} {H3 : Hp}, (∃ ρ3 G3, SOk X.K E ρ3 σ3 G3 H3 ∧ Ex G' G3 ∧ Up (R (k + 1)) ρ3) → ∃ ρ' G', SOk X.K E ρ' σ3 G' H3 ∧ Ex G1 G' ∧ R (k + 1) ρ' := fun {σ3 H3} ⟨ρ3, G3, S3, x3, u⟩ => by
          obtain ⟨ρ4, S4, r4⟩ := sok_up S3 u
          exact ⟨ρ4, G3, S4, x'.trans x3, r4⟩
        exact tSemSs_mono (hb E σ2 G' _ (S.at S2 (g.g.trans x'))) (fun _ _ q => up q) (fun _ _ q => q) (fun _ _ ⟨ρ3, G3, S3, x3, q⟩ => ⟨ρ3, G3, S3, (g.g.trans x').trans x3, q⟩) (fun _ _ q => up q)
      · rw [rl.length] at r'
        exact ⟨ρ', G', S', g.g.trans x', hd ρ' r'⟩)⟩
theorem ws_forT {iter tg : Expr} (R : Nat → List O → Prop) (h : EE X ex iter ρ (.tup ds)) (h0 : Up (R 0) ρ) (hp : PassesOwn (model X.prog X.w) X.A X.env X.xe)
    (hs : ∀ k d ρ, ds[k]? = some d → R k ρ → ∃ ρ', ATg X tg d ρ ρ' ∧ WSs X ex body ρ' { nx := Up (R (k + 1)), ct := Up (R (k + 1)), bk := W.nx, rt := W.rt }) (hd : ∀ ρ, R ds.length ρ → W.nx ρ) (hc : X.calm = true := by rfl)
    (hf : ∀ x, foldedSetIterable iter X.env x = pure x := by intro _; rfl) : WS X ex (.For tg iter body [] pos) ρ W := ⟨fun E σ G H S =>
  of_ps (ps_for hp hc (pi_tup sem_pe) sem_pg sem_pss hf) (tSem_mono (h E σ G H S) fun v H1 ⟨G1, g, r⟩ => by
    cases r with
    | @tup a xs _ hl rl =>
      refine ⟨a, rfl, ⟨xs, g.gh.t hl⟩, for_tup (K := X.K) (a := a) (xs := xs) (fun k σ' H' => ∃ ρ' G', SOk X.K E ρ' σ' G' H' ∧ Ex G1 G' ∧ R k ρ') ?_ (fun k σ' H' _ ⟨ρ', G', S', x', _⟩ => S'.gh.t (x'.t hl)) (fun k y σ' H' hk ⟨ρ', G', S', x', r'⟩ => ?_) fun σ' H' ⟨ρ', G', S', x', r'⟩ => ?_⟩
      · obtain ⟨ρ', S', r'⟩ := sok_up (S.grow g).toSOk h0
        exact ⟨ρ', G1, S', Ex.refl _, r'⟩
      · obtain ⟨d, hd', rd⟩ := rl.getV hk
        obtain ⟨ρ2, ht, hb⟩ := hs k d ρ' hd' r'
        refine tSemG_mono (ht E σ' G' H' y S' (rd.mono x')) fun σ2 H2 ⟨e, S2⟩ => ?_
        subst e
        have up : ∀ {σ3 : L2.St} {H3 : Hp}, (∃ ρ3 G3, SOk X.K E ρ3 σ3 G3 H3 ∧ Ex G' G3 ∧ Up (R (k + 1)) ρ3) → ∃ ρ' G', SOk X.K E ρ' σ3 G' H3 ∧ Ex G1 G' ∧ R (k + 1) ρ' := fun {σ3 H3} ⟨ρ3, G3, S3, x3, u⟩ => by
          obtain ⟨ρ4, S4, r4⟩ := sok_up S3 u
          exact ⟨ρ4, G3, S4, x'.trans x3, r4⟩
        exact tSemSs_mono (hb E σ2 G' _ (S.at S2 (g.g.trans x'))) (fun _ _ q => up q) (fun _ _ q => q) (fun _ _ ⟨ρ3, G3, S3, x3, q⟩ => ⟨ρ3, G3, S3, (g.g.trans x').trans x3, q⟩) (fun _ _ q => up q)
      · rw [rl.length] at r'
        exact ⟨ρ', G', S', g.g.trans x', hd ρ' r'⟩)⟩
theorem sok_turn {K : PySem.W.Frag} {E : Hp × Hp} {G G1 G' : Hp} {R : List O → Prop} (x' : Ex G1 G') {σ3 : L2.St} {H3 : Hp} (h : ∃ ρ3 G3, SOk K E ρ3 σ3 G3 H3 ∧ Ex G' G3 ∧ Up R ρ3) : ∃ ρ' G', SOk K E ρ' σ3 G' H3 ∧ Ex G1 G' ∧ R ρ' := by
  obtain ⟨ρ3, G3, S3, x3, u⟩ := h
  obtain ⟨ρ4, S4, r4⟩ := sok_up S3 u
  exact ⟨ρ4, G3, S4, x'.trans x3, r4⟩
/-- for k in range(n) -/
theorem ws_forR {a tg : Expr} {p cpos : Pos} {n : Int} (R : Nat → List O → Prop) (hm : X.mg "range" = none) (h : EA X ex [a] ρ [.int n]) (h0 : Up (R 0) ρ) (hp : PassesOwn (model X.prog X.w) X.A X.env X.xe)
    (hs : ∀ (k : Nat) ρ, (k : Int) < n → R k ρ → ∃ ρ', ATg X tg (.int (k : Int)) ρ ρ' ∧ WSs X ex body ρ' { nx := Up (R (k + 1)), ct := Up (R (k + 1)), bk := W.nx, rt := W.rt }) (hd : ∀ ρ, R n.toNat ρ → W.nx ρ)
    (hn : -(2 ^ 62) ≤ n ∧ n < 2 ^ 62) (hc : X.calm = true := by rfl) (hg : Gl X "range" := by rfl)
    (hst : starEach [a] X.env = [(false, eval a X.env)] := by rfl) (hf : ∀ x, foldedSetIterable (.Call (.Name "range" p) [a] [] cpos) X.env x = pure x := by intro _; rfl) : WS X ex (.For tg (.Call (.Name "range" p) [a] [] cpos) body [] pos) ρ W := ⟨fun E σ G H S =>
  of_ps (ps_for hp hc (pi_range1 hg hm sem_pa hst) sem_pg sem_pss hf) (tSemA_mono (h E σ G H S) fun vs H1 ⟨G1, g, r⟩ => by
    obtain ⟨v, rfl, r1⟩ := r.of1
    cases r1
    refine ⟨n, rfl, hn.1, hn.2, for_range (lo := 0) (n := n.toNat) (fun k σ' H' => ∃ ρ' G', SOk X.K E ρ' σ' G' H' ∧ Ex G1 G' ∧ R k ρ') ?_ (fun k σ' H' hk ⟨ρ', G', S', x', r'⟩ => ?_) fun σ' H' ⟨ρ', G', S', x', r'⟩ => ⟨ρ', G', S', g.g.trans x', hd ρ' r'⟩⟩
    · obtain ⟨ρ', S', r'⟩ := sok_up (S.grow g).toSOk h0
      exact ⟨ρ', G1, S', Ex.refl _, r'⟩
    · obtain ⟨ρ2, ht, hb⟩ := hs k ρ' (by omega) r'
      rw [Int.zero_add]
      refine tSemG_mono (ht E σ' G' H' _ S' (.int _)) fun σ2 H2 ⟨e, S2⟩ => ?_
      subst e
      exact tSemSs_mono (hb E σ2 G' _ (S.at S2 (g.g.trans x'))) (fun _ _ q => sok_turn (G := G) x' q) (fun _ _ q => q) (fun _ _ ⟨ρ3, G3, S3, x3, q⟩ => ⟨ρ3, G3, S3, (g.g.trans x').trans x3, q⟩) (fun _ _ q => sok_turn (G := G) x' q))⟩
/-- for k in range(lo, hi) -/
theorem ws_forR2 {a b tg : Expr} {p cpos : Pos} {lo n : Int} (R : Nat → List O → Prop) (hm : X.mg "range" = none) (h : EA X ex [a, b] ρ [.int lo, .int n]) (h0 : Up (R 0) ρ) (hp : PassesOwn (model X.prog X.w) X.A X.env X.xe)
    (hs : ∀ (k : Nat) ρ, lo + (k : Int) < n → R k ρ → ∃ ρ', ATg X tg (.int (lo + (k : Int))) ρ ρ' ∧ WSs X ex body ρ' { nx := Up (R (k + 1)), ct := Up (R (k + 1)), bk := W.nx, rt := W.rt }) (hd : ∀ ρ, R (n - lo).toNat ρ → W.nx ρ)
    (hn : -(2 ^ 62) ≤ lo ∧ lo < 2 ^ 62 ∧ -(2 ^ 62) ≤ n ∧ n < 2 ^ 62) (hc : X.calm = true := by rfl) (hg : Gl X "range" := by rfl)
    (hst : starEach [a, b] X.env = [(false, eval a X.env), (false, eval b X.env)] := by rfl) (hst2 : starEach [b] X.env = [(false, eval b X.env)] := by rfl) (hf : ∀ x, foldedSetIterable (.Call (.Name "range" p) [a, b] [] cpos) X.env x = pure x := by intro _; rfl) : WS X ex (.For tg (.Call (.Name "range" p) [a, b] [] cpos) body [] pos) ρ W := ⟨fun E σ G H S =>
  of_ps (ps_for hp hc (pi_range2 hg hm sem_pa hst hst2) sem_pg sem_pss hf) (tSemA_mono (h E σ G H S) fun vs H1 ⟨G1, g, r⟩ => by
    obtain ⟨v, w, rfl, r1, r2⟩ := r.of2
    cases r1; cases r2
    refine ⟨lo, n, rfl, hn, for_range (lo := lo) (n := (n - lo).toNat) (fun k σ' H' => ∃ ρ' G', SOk X.K E ρ' σ' G' H' ∧ Ex G1 G' ∧ R k ρ') ?_ (fun k σ' H' hk ⟨ρ', G', S', x', r'⟩ => ?_) fun σ' H' ⟨ρ', G', S', x', r'⟩ => ⟨ρ', G', S', g.g.trans x', hd ρ' r'⟩⟩
    · obtain ⟨ρ', S', r'⟩ := sok_up (S.grow g).toSOk h0
      exact ⟨ρ', G1, S', Ex.refl _, r'⟩
    · obtain ⟨ρ2, ht, hb⟩ := hs k ρ' (by omega) r'
      refine tSemG_mono (ht E σ' G' H' _ S' (.int _)) fun σ2 H2 ⟨e, S2⟩ => ?_
      subst e
      exact tSemSs_mono (hb E σ2 G' _ (S.at S2 (g.g.trans x'))) (fun _ _ q => sok_turn (G := G) x' q) (fun _ _ q => q) (fun _ _ ⟨ρ3, G3, S3, x3, q⟩ => ⟨ρ3, G3, S3, (g.g.trans x').trans x3, q⟩) (fun _ _ q => sok_turn (G := G) x' q))⟩
end

/-! ### a def keeps its promise -/
/-- the slots at the entry -/
def slots (n : Nat) (ds : List D) : List O := ds.map O.va ++ List.replicate (n - ds.length) .un
theorem sok_start {K : PySem.W.Frag} {G H : Hp} {vs : List V} {ds : List D} {N : List Str} (tb : Tb H) (e : Ex G H) (r : RepL K G vs ds) : SOk K (G, H) (slots N.length ds) (start N vs) G H := by
  have hlen := r.length
  refine ⟨Ex.refl _, e, Ex.refl _, fun b h q => absurd h q, ?_, fun i o h => ?_, fun i j a hi _ => ?_, tb⟩
  · unfold slots L2.start
    rw [List.length_append, List.length_append, List.length_map, List.length_map, List.length_replicate, List.length_replicate, hlen]
  · unfold slots at h
    by_cases hi : i < ds.length
    · rw [List.getElem?_append_left (by rw [List.length_map]; exact hi), List.getElem?_map] at h
      cases hd : ds[i]? with
      | none => rw [hd] at h; cases h
      | some d =>
        rw [hd] at h
        obtain rfl : O.va d = o := Option.some.inj h
        obtain ⟨v, hv, rv⟩ := r.get hd
        refine .inr ⟨v, ?_, rv⟩
        unfold L2.start
        rw [List.getElem?_append_left (by rw [List.length_map, hlen]; exact hi), List.getElem?_map, hv]; rfl
    · rw [List.getElem?_append_right (by rw [List.length_map]; omega), List.getElem?_replicate] at h
      split at h
      · exact .inl (Option.some.inj h).symm
      · cases h
  · obtain ⟨⟨o, h, p⟩, _⟩ := hi
    unfold slots at h
    by_cases hi : i < ds.length
    · rw [List.getElem?_append_left (by rw [List.length_map]; exact hi), List.getElem?_map] at h
      cases hd : ds[i]? with
      | none => rw [hd] at h; cases h
      | some d =>
        rw [hd] at h
        obtain rfl : O.va d = o := Option.some.inj h
        exact absurd p Bool.false_ne_true
    · rw [List.getElem?_append_right (by rw [List.length_map]; omega), List.getElem?_replicate] at h
      split at h
      · obtain rfl := Option.some.inj h
        exact absurd p Bool.false_ne_true
      · cases h
section
variable {P : Program} {w : World} {K : PySem.W.Frag} {mg : Str → Option Value} {base : Heap}
/-- from the body's walk to the def's promise -/
theorem spec_ok {X : Cx} {S : Spc} {N : List Str} {body : List Stmt} {vs : List V} {H : Hp} {Q : VK} {E : XK} (hK : X.K = K) (h : spOf K S vs H Q E)
    (hb : ∀ ds (P : O → Prop), S.S ds P → WSs X noX body (slots N.length ds) { nx := fun _ => P (.va .non), rt := P }) :
    tSemSs X body { nx := fun _ H' => Q .non H', rt := Q } (start N vs) H := by
  subst hK
  obtain ⟨tb, ds, G, e, r, h⟩ := h
  refine tSemSs_mono (hb ds _ h (G, H) _ G H (sok_start tb e r).nox) (fun σ' H' ⟨ρ', G', S', x, q⟩ => ?_) (fun v H' ⟨o, G', R, q⟩ => ?_) (fun _ _ ⟨_, _, _, _, q⟩ => q.elim) (fun _ _ ⟨_, _, _, _, q⟩ => q.elim)
  · exact q .non G' H' ⟨S'.g0, S'.h0, S'.gh, S'.fr, fun _ => S'.tb⟩ .non
  · exact q v G' H' ⟨R.g0, R.h0, R.gh, R.fr, fun _ => R.tb⟩ R.ok
end
end TG
/-! Defs of the text over plain data: what stands (DefT), what may be called (Cal), the law's end. -/
namespace TG
open PySem PySem.Spec PyProof.Rows L2
variable [TbT]

/-- a def of the module's top, with its defaults -/
structure DefT (K : PySem.W.Frag) (mg : Str → Option Value) (x : Str) (st : Stmt) (ps : List Str) (dvs : List V) : Prop where
  ex : ∃ (f : Addr) (fd : FuncData), FunD K x x (defArgs st) (defBody st) (defScope st) dvs [] f fd ∧ mg x = some (.ref f) ∧ ∀ j ≤ dvs.length, ∃ ds, Vals (dvs.drop j) ds ∧ Binds K fd ps ds
/-- a def that keeps its promise, called with some of its defaults (dds) left out -/
structure Cal (P : Program) (w : World) (K : PySem.W.Frag) (mg : Str → Option Value) (base : Heap) (k : Nat) (x : Str) (S : Spc) (dds : List D) : Prop where
  ex : ∃ (f : Addr) (fd : FuncData) (ps : List Str) (dvs : List V) (dus : List Value), FnOk P w K mg base CX0 k f fd ps (spOf K S) ∧ mg x = some (.ref f) ∧ PySem.W.keepIn K (.ref f) = true ∧ Binds K fd ps dus ∧ Vals dvs dus ∧ ∀ G, RepL K G dvs dds
section
variable {P : Program} {w : World} {K : PySem.W.Frag} {mg : Str → Option Value} {base : Heap} {x : Str} {st : Stmt} {ps : List Str} {dvs : List V} {k : Nat} {S : Spc}
/-- the def's own heap of facts, once -/
theorem DefT.fn (T : DefT K mg x st ps dvs) {N : List Str} (Sc : FnScope N ps (defScope st)) (len : ∀ ds Q, S.S ds Q → ds.length = ps.length)
    (hbody : ∀ (f : Addr) (cdv : Value) (A : Around) (outer : List Env) (s : Shared) (H : Hp), Room k (A.deeper (envOfC x (defScope st) s.heap.objs.size f cdv)) → ∀ ds (Q : O → Prop), S.S ds Q →
      WSs (cxOf CX0 P w K mg base N x (defScope st) f cdv A outer s H E0).nox noX (defBody st) (slots N.length ds) { nx := fun _ => Q (.va .non), rt := Q }) :
    ∃ (f : Addr) (fd : FuncData), FnOk P w K mg base CX0 (k + 1) f fd ps (spOf K S) ∧ mg x = some (.ref f) ∧ PySem.W.keepIn K (.ref f) = true ∧ ∀ j ≤ dvs.length, ∃ ds, Vals (dvs.drop j) ds ∧ Binds K fd ps ds := by
  obtain ⟨f, fd, F, hm, hb⟩ := T.ex
  refine ⟨f, fd, F.ok Sc (fun vs H Q E ⟨_, ds, G, e, r, h⟩ => ?_) (fun cdv A outer s H vs Q E hr h => ?_), hm, F.kp, hb⟩
  · rw [r.length]; exact len ds _ h
  · exact ⟨tSemSs (cxOf CX0 P w K mg base N x (defScope st) f cdv A outer s H E).nox _, PSs.nox sem_pss, spec_ok (X := (cxOf CX0 P w K mg base N x (defScope st) f cdv A outer s H E).nox) rfl h fun ds P hS => hbody f cdv A outer s H hr ds P hS⟩
theorem cal_of (h : ∃ (f : Addr) (fd : FuncData), FnOk P w K mg base CX0 k f fd ps (spOf K S) ∧ mg x = some (.ref f) ∧ PySem.W.keepIn K (.ref f) = true ∧ ∀ j ≤ dvs.length, ∃ ds, Vals (dvs.drop j) ds ∧ Binds K fd ps ds)
    (j : Nat) (hj : j ≤ dvs.length) {dds : List D} (hd : ∀ G, RepL K G (dvs.drop j) dds) : Cal P w K mg base k x S dds := by
  obtain ⟨f, fd, F, hm, hk, hb⟩ := h
  obtain ⟨ds, r, b⟩ := hb j hj
  exact ⟨f, fd, ps, dvs.drop j, ds, F, hm, hk, b, r, hd⟩
theorem Cal.mono {j : Nat} {dds : List D} (C : Cal P w K mg base k x S dds) (h : k ≤ j) : Cal P w K mg base j x S dds := by
  obtain ⟨f, fd, ps, dvs, dus, F, r⟩ := C.ex
  exact ⟨f, fd, ps, dvs, dus, F.mono h, r⟩
theorem Cal.imp {S' : Spc} {dds : List D} (C : Cal P w K mg base k x S dds) (h : ∀ ds Q, S'.S ds Q → S.S ds Q) : Cal P w K mg base k x S' dds := by
  obtain ⟨f, fd, ps, dvs, dus, F, r⟩ := C.ex
  exact ⟨f, fd, ps, dvs, dus, F.imp (fun vs H Q E ⟨tb, ds, G, e, r, q⟩ => ⟨tb, ds, G, e, r, h _ _ q⟩), r⟩
end
section
variable {X : Cx} {ex : Exs} {ρ : List O} {e : Expr} {es : List Expr} {d : D} {ds dds : List D} {pos p : Pos} {k : Nat} {x : Str} {S : Spc} {P : O → Prop}
theorem eo_cal (C : Cal X.prog X.w X.K X.mg X.base k x S dds) (hr : Room k X.A) (ha : EA X ex (e :: es) ρ ds) (hq : S.S (ds ++ dds) P) (hg : Gl X x := by rfl) (hdb : (x == ("__debug__" : Str)) = false := by decide) (he : starEach (e :: es) X.env = (false, eval e X.env) :: starEach es X.env := by rfl) (hpl : (backTo pos (starEach es X.env)).any (·.1) = false := by rfl) :
    EO X ex (.Call (.Name x p) (e :: es) [] pos) ρ P := by
  obtain ⟨f, fd, ps, dvs, dus, F, hm, hk, hb, hv, hd⟩ := C.ex
  exact eo_call F hr hm hk hb hv hd pass0 ha hq hg hdb he hpl
theorem eo_cal0 (C : Cal X.prog X.w X.K X.mg X.base k x S dds) (hr : Room k X.A) (hq : S.S dds P) (hg : Gl X x := by rfl) (hdb : (x == ("__debug__" : Str)) = false := by decide) : EO X ex (.Call (.Name x p) [] [] pos) ρ P := by
  obtain ⟨f, fd, ps, dvs, dus, F, hm, hk, hb, hv, hd⟩ := C.ex
  exact eo_call0 F hr hm hk hb hv hd pass0 hq hg hdb
theorem ee_cal (C : Cal X.prog X.w X.K X.mg X.base k x S dds) (hr : Room k X.A) (ha : EA X ex (e :: es) ρ ds) (hq : S.S (ds ++ dds) (fun o => o = .va d)) (hg : Gl X x := by rfl) (hdb : (x == ("__debug__" : Str)) = false := by decide) (he : starEach (e :: es) X.env = (false, eval e X.env) :: starEach es X.env := by rfl) (hpl : (backTo pos (starEach es X.env)).any (·.1) = false := by rfl) :
    EE X ex (.Call (.Name x p) (e :: es) [] pos) ρ d := ee_va (eo_cal C hr ha hq hg hdb he hpl)
omit [TbT] in
theorem fn_call {α : Type} {args : α → List D} {pre : α → Prop} {res : α → O} {Q : O → Prop} (y : α) (e : ds = args y) (h : pre y) (q : Q (res y)) : (Spc.fn args pre res).S ds Q := ⟨y, e, h, q⟩
omit [TbT] in
theorem rel_call {α : Type} {args : α → List D} {pre : α → Prop} {post : α → O → Prop} {Q : O → Prop} (y : α) (e : ds = args y) (h : pre y) (q : ∀ o, post y o → Q o) : (Spc.rel args pre post).S ds Q := ⟨y, e, h, q⟩
/-- the slots written out -/
theorem ws_norm {sts : List Stmt} {W : Eds} {ρ ρ' : List O} (e : ρ = ρ') (h : WSs X ex sts ρ' W) : WSs X ex sts ρ W := e ▸ h
omit [TbT] in
theorem nox_own {Y : Cx} : PassesOwn (model Y.nox.prog Y.nox.w) Y.nox.A Y.nox.env Y.nox.xe := PassesOwn.never
end
/-! ### built-ins by their names -/
omit [TbT] in
theorem bt_int : bootBuiltins "int" = some (.type "int") := by decide +kernel
omit [TbT] in
theorem bt_bool : bootBuiltins "bool" = some (.type "bool") := by decide +kernel
omit [TbT] in
theorem bt_str : bootBuiltins "str" = some (.type "str") := by decide +kernel
omit [TbT] in
theorem bt_tuple : bootBuiltins "tuple" = some (.type "tuple") := by decide +kernel
omit [TbT] in
theorem bt_list : bootBuiltins "list" = some (.type "list") := by decide +kernel

/-! ### the law's end -/
def lawS : Spc := Spc.fn (α := List Int) (fun ns => [.cst (ns.map .int)]) (fun ns => ns.length ≤ 63) (fun _ => .va (.bl true))
omit [TbT] in
theorem repL_ints {K : PySem.W.Frag} {G : Hp} : ∀ ns : List Int, RepL K G (ns.map V.int) (ns.map D.int)
  | [] => .nil
  | n :: r => .cons (.int n) (repL_ints r)
theorem law_sp (K : PySem.W.Frag) (H : Hp) (a : Addr) (ns : List Int) (hl : ns.length ≤ 63) (tb : Tb H) (hS : SqL K H a (ns.map V.int)) : spOf K lawS [.ref a] H (fun v _ => v = .bl true) fun _ _ _ => False :=
  ⟨tb, [.cst (ns.map .int)], H, Ex.refl _, .cons (.cst hS (repL_ints ns)) .nil, ns, rfl, hl, fun v G' H' g q => by
    have q' : Rep K G' v (.bl true) := q
    cases q'; rfl⟩
/-- what the last theorem wants of the law's def -/
theorem law_fin {P : Program} {w : World} {K : PySem.W.Frag} {mg : Str → Option Value} {k : Nat} {fa : Addr} {x : Str} {st : Stmt} (hfa : mg x = some (.ref fa)) (T : DefT K mg x st ["script"] [])
    (hb : ∀ (f : Addr) (fd : FuncData), FunD K x x (defArgs st) (defBody st) (defScope st) [] [] f fd → ∀ (s : Shared) (u : Value), BindsTo s fd ⟨[u], []⟩ [("script", u)])
    (h : ∀ base : Heap, K.In base → base.Ns mainGlobals mg → ∀ (f : Addr) (fd : FuncData), FunD K x x (defArgs st) (defBody st) (defScope st) [] [] f fd → FnOk P w K mg base CX0 k f fd ["script"] (spOf K lawS)) :
    ∃ fd : FuncData, (∀ (s : Shared) (u : Value), BindsTo s fd ⟨[u], []⟩ [("script", u)]) ∧ ∀ base : Heap, K.In base → base.Ns mainGlobals mg → FnOk P w K mg base CX0 k fa fd ["script"] (spOf K lawS) := by
  obtain ⟨f, fd, F, hm, _⟩ := T.ex
  rw [hfa] at hm; cases hm
  exact ⟨fd, hb _ _ F, fun base h1 h2 => h base h1 h2 _ _ F⟩
/-- the same as DefT.fn at a given address -/
theorem FunD.okD {P : Program} {w : World} {K : PySem.W.Frag} {mg : Str → Option Value} {base : Heap} {x : Str} {st : Stmt} {ps : List Str} {dvs : List V} {k : Nat} {S : Spc} {f : Addr} {fd : FuncData} (F : FunD K x x (defArgs st) (defBody st) (defScope st) dvs [] f fd) {N : List Str} (Sc : FnScope N ps (defScope st)) (len : ∀ ds Q, S.S ds Q → ds.length = ps.length)
    (hbody : ∀ (f : Addr) (cdv : Value) (A : Around) (outer : List Env) (s : Shared) (H : Hp), Room k (A.deeper (envOfC x (defScope st) s.heap.objs.size f cdv)) → ∀ ds (Q : O → Prop), S.S ds Q →
      WSs (cxOf CX0 P w K mg base N x (defScope st) f cdv A outer s H E0).nox noX (defBody st) (slots N.length ds) { nx := fun _ => Q (.va .non), rt := Q }) : FnOk P w K mg base CX0 (k + 1) f fd ps (spOf K S) := by
  refine F.ok Sc (fun vs H Q E ⟨_, ds, G, e, r, h⟩ => ?_) (fun cdv A outer s H vs Q E hr h => ?_)
  · rw [r.length]; exact len ds _ h
  · exact ⟨tSemSs (cxOf CX0 P w K mg base N x (defScope st) f cdv A outer s H E).nox _, PSs.nox sem_pss, spec_ok (X := (cxOf CX0 P w K mg base N x (defScope st) f cdv A outer s H E).nox) rfl h fun ds P hS => hbody f cdv A outer s H hr ds P hS⟩
/-- a def without defaults, as the end finds it -/
theorem defT_mk {K : PySem.W.Frag} {mg : Str → Option Value} {x : Str} {st : Stmt} {ps : List Str} {f : Addr} {oc : Value} {od an : Option Addr} {osl : Array (Option Value)} {kV doc pm cdv ct : Value} (hm : mg x = some (.ref f))
    (l : K.lookup f = some ⟨oc, od, .func (PySem.W.fnOf x x (defArgs st) (defBody st) (defScope st) .none kV doc pm an cdv ct), osl⟩) (c : PySem.W.codeIn K cdv x = true) (kp : PySem.W.keepIn K (.ref f) = true)
    (h : ∀ (kV doc pm : Value) (an : Option Addr) (cdv ct : Value) (us : List Value), us.length = ps.length → bindArgs (PySem.W.fnOf x x (defArgs st) (defBody st) (defScope st) .none kV doc pm an cdv ct) ⟨us, []⟩ = pure (ps.zip us)) : DefT K mg x st ps [] := by
  have F : FunD K x x (defArgs st) (defBody st) (defScope st) [] [] f _ := ⟨⟨oc, od, .none, kV, doc, pm, an, cdv, ct, osl, rfl, l, c, .inl ⟨rfl, rfl⟩, .inl rfl⟩, kp⟩
  exact ⟨f, _, F, hm, fun j hj => ⟨[], by rw [List.drop_nil]; exact .nil, F.bindsN h⟩⟩
/-- one with defaults -/
theorem defT_mkD {K : PySem.W.Frag} {mg : Str → Option Value} {x : Str} {st : Stmt} {ps : List Str} {f : Addr} {dvs : List V} {oc : Value} {od an : Option Addr} {osl : Array (Option Value)} {dV kV doc pm cdv ct : Value} (hm : mg x = some (.ref f))
    (l : K.lookup f = some ⟨oc, od, .func (PySem.W.fnOf x x (defArgs st) (defBody st) (defScope st) dV kV doc pm an cdv ct), osl⟩) (c : PySem.W.codeIn K cdv x = true) (kp : PySem.W.keepIn K (.ref f) = true) (hd : dvs ≠ [])
    (hD : ∃ (T : Addr) (o : Obj) (its : List Value) (n : Nat), dV = .ref T ∧ K.lookup T = some o ∧ o.data = .seq its.toArray n ∧ Vals dvs its) (hl : dvs.length ≤ ps.length)
    (h : ∀ j ≤ dvs.length, ∀ (T : Addr) (kV doc pm : Value) (an : Option Addr) (cdv ct : Value) (us its : List Value), us.length + (dvs.length - j) = ps.length → its.length = dvs.length →
      ∃ k, bindArgs (PySem.W.fnOf x x (defArgs st) (defBody st) (defScope st) (.ref T) kV doc pm an cdv ct) ⟨us, []⟩ = seqItems? (.ref T) >>= k ∧ k (some its.toArray) = pure (ps.zip (us ++ its.drop j))) : DefT K mg x st ps dvs := by
  have F : FunD K x x (defArgs st) (defBody st) (defScope st) dvs [] f _ := ⟨⟨oc, od, dV, kV, doc, pm, an, cdv, ct, osl, rfl, l, c, .inr ⟨hd, hD⟩, .inl rfl⟩, kp⟩
  exact ⟨f, _, F, hm, fun j hj => F.binds1 (ps.length - (dvs.length - j)) j hd (by omega) fun T kV doc pm an cdv ct us its hu hi => h j hj T kV doc pm an cdv ct us its (by omega) hi⟩
end TG
/-! Small things that the walks use; sizes; fractions. -/
namespace TG
open PySem PySem.Spec PyProof.Rows L2
variable [TbT]
omit [TbT] in
theorem up_intro {R : List O → Prop} {ρ ρ' : List O} (r : R ρ') (l : Le ρ ρ') : Up R ρ := ⟨ρ', l, r⟩
/-- the length of a list or tuple that stands in a slot -/
theorem ws_len {X : Cx} {ex : Exs} {ρ : List O} {sts : List Stmt} {W : Eds} {d : D} {ds : List D} (i : Nat) (hr : ρ[i]? = some (.va d)) (hi : d.items = some ds) (h : ds.length ≤ sizeLine → WSs X ex sts ρ W) : WSs X ex sts ρ W := ⟨fun E σ G H S pins s I => by
  obtain ⟨v, _, r⟩ := S.get hr
  cases r with
  | tup h1 r1 =>
    cases hi
    obtain ⟨_, _, _, z⟩ := I.tuple (S.gh.t h1)
    rw [r1.length] at z
    exact h z E σ G H S pins s I
  | lst h1 r1 =>
    cases hi
    obtain ⟨_, _, _, z⟩ := I.list (S.gh.l h1)
    rw [r1.length] at z
    exact h z E σ G H S pins s I
  | cst h1 r1 =>
    cases hi
    obtain ⟨_, _, _, z⟩ := I.list (S.gh.lc h1)
    rw [r1.length] at z
    exact h z E σ G H S pins s I
  | _ => cases hi⟩
omit [TbT] in
theorem line_lt {n : Nat} (h : n ≤ sizeLine) : -(2 ^ 62) ≤ (n : Int) ∧ (n : Int) < 2 ^ 62 := by
  rw [sizeLine_eq] at h
  omega
omit [TbT] in
mutual
theorem eqv_self : ∀ d : D, d.plain = true → D.eqv d d = true
  | .non, _ => rfl
  | .bl b, _ => by simp [D.eqv, D.py, PyData.eqv]
  | .int i, _ => by simp [D.eqv, D.py, PyData.eqv]
  | .str x, _ => by simp [D.eqv, D.py, PyData.eqv]
  | .ty _, h => by cases h
  | .cst _, h => by cases h
  | .dct _ _, h => by cases h
  | .dci _ _, h => by cases h
  | .obj _ _ _, h => by cases h
  | .tup ds, h => eqvs_self ds h
  | .lst ds, h => eqvs_self ds h
theorem eqvs_self : ∀ ds : List D, D.plains ds = true → PyData.eqvAll (D.pys ds) (D.pys ds) = true
  | [], _ => rfl
  | d :: r, h => by
    have h' : (D.plain d && D.plains r) = true := h
    rw [Bool.and_eq_true] at h'
    show (PyData.eqv d.py d.py && PyData.eqvAll (D.pys r) (D.pys r)) = true
    rw [show PyData.eqv d.py d.py = true from eqv_self d h'.1, eqvs_self r h'.2]; rfl
end
omit [TbT] in
theorem plains_get : ∀ {ds : List D} {k : Nat} {d : D}, D.plains ds = true → ds[k]? = some d → d.plain = true
  | [], _, _, _, e => by simp at e
  | a :: r, 0, d, h, e => by
    have h' : (D.plain a && D.plains r) = true := h
    rw [Bool.and_eq_true] at h'
    simp at e; subst e; exact h'.1
  | a :: r, k + 1, d, h, e => by
    have h' : (D.plain a && D.plains r) = true := h
    rw [Bool.and_eq_true] at h'
    exact plains_get (k := k) h'.2 (by simpa using e)
omit [TbT] in
theorem depths_get : ∀ {ds : List D} {k : Nat} {d : D}, ds[k]? = some d → d.depth ≤ D.depths ds
  | [], _, _, e => by simp at e
  | a :: r, 0, d, e => by
    simp at e; subst e
    exact Nat.le_max_left _ _
  | a :: r, k + 1, d, e => Nat.le_trans (depths_get (k := k) (by simpa using e)) (Nat.le_max_right _ _)
omit [TbT] in
theorem tyN_plain {d : D} (h : d.plain = true) : d.tyN ≠ "" := by
  cases d <;> first
    | (cases h; done)
    | simp [D.tyN]
omit [TbT] in
/-- a list or a tuple -/
theorem isA_items : ∀ {d : D}, (d.isA "list" || d.isA "tuple") = true → ∃ ds, d.items = some ds ∧ d.plain = D.plains ds ∧ d.depth = D.depths ds + 1
  | .non, h => absurd (show (isAT "NoneType" "list" || isAT "NoneType" "tuple") = true from h) (by decide)
  | .bl _, h => absurd (show (isAT "bool" "list" || isAT "bool" "tuple") = true from h) (by decide)
  | .int _, h => absurd (show (isAT "int" "list" || isAT "int" "tuple") = true from h) (by decide)
  | .str _, h => absurd (show (isAT "str" "list" || isAT "str" "tuple") = true from h) (by decide)
  | .ty _, h => absurd (show (isAT "" "list" || isAT "" "tuple") = true from h) (by decide)
  | .tup ds, _ => ⟨ds, rfl, rfl, rfl⟩
  | .lst ds, _ => ⟨ds, rfl, rfl, rfl⟩
  | .dci _ _, h => absurd (show (isAT "" "list" || isAT "" "tuple") = true from h) (by decide)
  | .cst _, h => absurd (show (isAT "" "list" || isAT "" "tuple") = true from h) (by decide)
  | .dct _ _, h => absurd (show (isAT "" "list" || isAT "" "tuple") = true from h) (by decide)
  | .obj _ _ _, h => absurd (show (isAT "" "list" || isAT "" "tuple") = true from h) (by decide)
omit [TbT] in
theorem isA_flat : ∀ {d : D}, (d.isA "list" || d.isA "tuple") = false → d.depth = 0
  | .non, _ => rfl
  | .bl _, _ => rfl
  | .int _, _ => rfl
  | .str _, _ => rfl
  | .ty _, _ => rfl
  | .cst _, _ => rfl
  | .dct _ _, _ => rfl
  | .dci _ _, _ => rfl
  | .obj _ _ _, _ => rfl
  | .tup _, h => absurd (show (isAT "tuple" "list" || isAT "tuple" "tuple") = false from h) (by decide)
  | .lst _, h => absurd (show (isAT "list" "list" || isAT "list" "tuple") = false from h) (by decide)
omit [TbT] in
theorem atI_of {ds : List D} {k : Nat} (h : k < ds.length) : atI ds (k : Int) = some (ds[k]'h) := atI_nat (List.getElem?_eq_getElem h)

/-! ### sizes -/
def Sz (n : Nat) (x : Int) : Prop := x.natAbs < 2 ^ n
omit [TbT] in
theorem Sz.mono {m n : Nat} {x : Int} (h : Sz m x) (l : m ≤ n) : Sz n x := Nat.lt_of_lt_of_le h (Nat.pow_le_pow_right (by decide) l)
omit [TbT] in
theorem Sz.mulW {m n : Nat} {x y : Int} (h : Sz m x) (k : Sz n y) (hm : 0 < m := by decide) (hn : 0 < n := by decide) (l : m + n ≤ 1000000 := by decide) : CMulW x y := wide_mul h k hm hn l
omit [TbT] in
theorem Sz.mul {m n : Nat} {x y : Int} (h : Sz m x) (k : Sz n y) : Sz (m + n) (x * y) := wide_lt h k
omit [TbT] in
theorem Sz.add {m n : Nat} {x y : Int} (h : Sz m x) (k : Sz n y) : Sz (max m n + 1) (x + y) := by
  have h1 := h.mono (Nat.le_max_left m n)
  have h2 := k.mono (Nat.le_max_right m n)
  unfold Sz at *
  rw [Nat.pow_succ]
  omega
omit [TbT] in
theorem Sz.sub {m n : Nat} {x y : Int} (h : Sz m x) (k : Sz n y) : Sz (max m n + 1) (x - y) := by
  have h1 := h.mono (Nat.le_max_left m n)
  have h2 := k.mono (Nat.le_max_right m n)
  unfold Sz at *
  rw [Nat.pow_succ]
  omega
omit [TbT] in
theorem Sz.le {n : Nat} {x y : Int} (h : Sz n y) (l : x.natAbs ≤ y.natAbs) : Sz n x := Nat.lt_of_le_of_lt l h
omit [TbT] in
theorem Sz.neg {n : Nat} {x : Int} (h : Sz n x) : Sz n (-x) := by unfold Sz at *; omega
omit [TbT] in
theorem Sz.nn {n : Nat} {x : Int} (h0 : 0 ≤ x) (h : x < 2 ^ n) : Sz n x := by
  unfold Sz
  have : ((2 ^ n : Nat) : Int) = (2 : Int) ^ n := by simp
  omega
omit [TbT] in
theorem Sz.div {n : Nat} {x y : Int} (h0 : y ≠ 0) (h : Sz n y) (hn : 0 < n := by decide) (l : n ≤ 9000 := by decide) : CDivV x y := ⟨h0, Nat.lt_of_lt_of_le (PySem.Flt.log2_lt_of hn h) l⟩
omit [TbT] in
theorem sz_lit {n : Nat} {x : Int} (h : decide (x.natAbs < 2 ^ n) = true) : Sz n x := (of_decide_eq_true h : x.natAbs < 2 ^ n)

/-! ### fractions: n / d in lowest terms, the denominator positive -/
/-- what both are divided by -/
def fg (n d : Int) : Int := if d < 0 then -(Int.gcd n d : Int) else (Int.gcd n d : Int)
def fN (n d : Int) : Int := n.fdiv (fg n d)
def fD (n d : Int) : Int := d.fdiv (fg n d)
omit [TbT] in
theorem gcd_pos {n d : Int} (h : d ≠ 0) : 0 < (Int.gcd n d : Int) := by
  have : 0 < Int.gcd n d := Int.gcd_pos_of_ne_zero_right n h
  omega
omit [TbT] in
theorem gcd_le {n d : Int} (h : d ≠ 0) : Int.gcd n d ≤ d.natAbs := Nat.le_of_dvd (Int.natAbs_pos.mpr h) (Int.gcd_dvd_natAbs_right n d)
omit [TbT] in
theorem fg_ne {n d : Int} (h : d ≠ 0) : fg n d ≠ 0 := by
  have := gcd_pos (n := n) h
  unfold fg
  split <;> omega
omit [TbT] in
theorem fg_sz {k : Nat} {n d : Int} (h : d ≠ 0) (hs : Sz k d) : Sz k (fg n d) := by
  have := gcd_le (n := n) h
  unfold fg Sz at *
  split <;> omega
omit [TbT] in
theorem fg_dvd_n (n d : Int) : fg n d ∣ n := by
  unfold fg
  split
  · exact Int.neg_dvd.mpr (Int.gcd_dvd_left ..)
  · exact Int.gcd_dvd_left ..
omit [TbT] in
theorem fg_dvd_d (n d : Int) : fg n d ∣ d := by
  unfold fg
  split
  · exact Int.neg_dvd.mpr (Int.gcd_dvd_right ..)
  · exact Int.gcd_dvd_right ..
omit [TbT] in
theorem fdiv_mul {a b : Int} (h : b ∣ a) : a.fdiv b * b = a := Int.fdiv_mul_cancel h
omit [TbT] in
theorem fN_mul {n d : Int} : fN n d * fg n d = n := fdiv_mul (fg_dvd_n n d)
omit [TbT] in
theorem fD_mul {n d : Int} : fD n d * fg n d = d := fdiv_mul (fg_dvd_d n d)
omit [TbT] in
theorem fg_sign {n d : Int} (h : d ≠ 0) : 0 < d * fg n d := by
  have := gcd_pos (n := n) h
  unfold fg
  split
  · rw [Int.mul_neg, ← Int.neg_mul]
    exact Int.mul_pos (by omega) this
  · exact Int.mul_pos (by omega) this
omit [TbT] in
theorem fD_pos {n d : Int} (h : d ≠ 0) : 0 < fD n d := by
  have h1 := fg_sign (n := n) h
  have h2 := @fD_mul n d
  have h3 := fg_ne (n := n) h
  by_cases c : 0 < fD n d
  · exact c
  · exfalso
    have : fD n d * (fg n d * fg n d) ≤ 0 := by
      have q : 0 ≤ fg n d * fg n d := by
        rcases Int.lt_or_gt_of_ne h3 with z | z
        · exact Int.le_of_lt (Int.mul_pos_of_neg_of_neg z z)
        · exact Int.le_of_lt (Int.mul_pos z z)
      have := Int.mul_le_mul_of_nonneg_right (Int.not_lt.mp c) q
      rwa [Int.zero_mul] at this
    rw [← Int.mul_assoc, h2] at this
    omega
omit [TbT] in
theorem fN_cross {n d : Int} : fN n d * d = n * fD n d := by
  have h1 := @fN_mul n d
  have h2 := @fD_mul n d
  calc fN n d * d = fN n d * (fD n d * fg n d) := by rw [h2]
    _ = (fN n d * fg n d) * fD n d := by rw [Int.mul_comm (fD n d), Int.mul_assoc]
    _ = n * fD n d := by rw [h1]
omit [TbT] in
theorem natAbs_le_mul {a b : Int} (h : b ≠ 0) : a.natAbs ≤ (a * b).natAbs := by
  rw [Int.natAbs_mul]
  exact Nat.le_mul_of_pos_right _ (Int.natAbs_pos.mpr h)
omit [TbT] in
theorem fN_le {n d : Int} (h : d ≠ 0) : (fN n d).natAbs ≤ n.natAbs := by
  have := natAbs_le_mul (a := fN n d) (fg_ne (n := n) h)
  rwa [fN_mul] at this
omit [TbT] in
theorem fD_le {n d : Int} (h : d ≠ 0) : (fD n d).natAbs ≤ d.natAbs := by
  have := natAbs_le_mul (a := fD n d) (fg_ne (n := n) h)
  rwa [fD_mul] at this
omit [TbT] in
theorem fg_gcd {n d : Int} : (fg n d).natAbs = Int.gcd n d := by
  unfold fg
  split <;> omega
omit [TbT] in
theorem f_gcd {n d : Int} (h : d ≠ 0) : Int.gcd (fN n d) (fD n d) = 1 := by
  have e : Int.gcd (fN n d * fg n d) (fD n d * fg n d) = Int.gcd (fN n d) (fD n d) * (fg n d).natAbs := Int.gcd_mul_right ..
  rw [fN_mul, fD_mul, fg_gcd] at e
  have p : 0 < Int.gcd n d := by have := gcd_pos (n := n) h; omega
  have : Int.gcd (fN n d) (fD n d) * Int.gcd n d = 1 * Int.gcd n d := by rw [← e, Nat.one_mul]
  exact Nat.eq_of_mul_eq_mul_right p this
omit [TbT] in
/-- Euclid's step -/
theorem gcd_turn (x y : Nat) : Nat.gcd y (x % y) = Nat.gcd x y := by
  rw [Nat.gcd_comm x y, Nat.gcd_rec y x, Nat.gcd_comm]
omit [TbT] in
theorem natAbs_if (a : Int) : (if a < 0 then -a else a) = (a.natAbs : Int) := by
  split <;> omega
/-- a fraction as data -/
abbrev fr (n d : Int) : D := .tup [.int n, .int d]
end TG

namespace TG
open PySem PySem.Spec PyProof.Rows L2
variable [TbT]
omit [TbT] in
theorem mul_ne {a b : Int} (h : a ≠ 0) (k : b ≠ 0) : a * b ≠ 0 := Int.mul_ne_zero h k
omit [TbT] in
theorem Sz.mulE {m n : Nat} {x y : Int} (h : Sz m x) (k : Sz n y) (hm : 0 < m := by decide) (hn : 0 < n := by decide) (l : m + n ≤ 1000000 := by decide) : CMulW x y := h.mulW k hm hn l
/-- a fraction in lowest terms, small -/
structure FrOk (k : Nat) (p q : Int) : Prop where
  pos : 0 < q
  one : Int.gcd p q = 1
  num : Sz k p
  den : Sz k q
omit [TbT] in
theorem FrOk.ne {k : Nat} {p q : Int} (h : FrOk k p q) : q ≠ 0 := Int.ne_of_gt h.pos
omit [TbT] in
theorem FrOk.mono {k j : Nat} {p q : Int} (h : FrOk k p q) (l : k ≤ j) : FrOk j p q := ⟨h.pos, h.one, h.num.mono l, h.den.mono l⟩
omit [TbT] in
theorem fr_ok {k : Nat} {n d : Int} (h : d ≠ 0) (hn : Sz k n) (hd : Sz k d) : FrOk k (fN n d) (fD n d) := ⟨fD_pos h, f_gcd h, hn.le (fN_le h), hd.le (fD_le h)⟩
omit [TbT] in
theorem fr_add {k j : Nat} {a b c d : Int} (h1 : FrOk k a b) (h2 : FrOk j c d) : FrOk (k + j + 1) (fN (a * d + c * b) (b * d)) (fD (a * d + c * b) (b * d)) :=
  fr_ok (mul_ne h1.ne h2.ne) (((h1.num.mul h2.den).add (h2.num.mul h1.den)).mono (by omega)) ((h1.den.mul h2.den).mono (by omega))
omit [TbT] in
theorem fr_sub {k j : Nat} {a b c d : Int} (h1 : FrOk k a b) (h2 : FrOk j c d) : FrOk (k + j + 1) (fN (a * d - c * b) (b * d)) (fD (a * d - c * b) (b * d)) :=
  fr_ok (mul_ne h1.ne h2.ne) (((h1.num.mul h2.den).sub (h2.num.mul h1.den)).mono (by omega)) ((h1.den.mul h2.den).mono (by omega))
omit [TbT] in
theorem fr_mul {k j : Nat} {a b c d : Int} (h1 : FrOk k a b) (h2 : FrOk j c d) : FrOk (k + j) (fN (a * c) (b * d)) (fD (a * c) (b * d)) :=
  fr_ok (mul_ne h1.ne h2.ne) (h1.num.mul h2.num) (h1.den.mul h2.den)
omit [TbT] in
theorem fg_one {n : Int} : fg n 1 = 1 := by
  unfold fg
  rw [if_neg (by decide), Int.gcd_one]; rfl
omit [TbT] in
theorem fN_one {n : Int} : fN n 1 = n := by unfold fN; rw [fg_one, Int.fdiv_one]
omit [TbT] in
theorem fD_one {n : Int} : fD n 1 = 1 := by unfold fD; rw [fg_one]; rfl
omit [TbT] in
theorem fr_unique {a b c d : Int} (hb : 0 < b) (hd : 0 < d) (h1 : Int.gcd a b = 1) (h2 : Int.gcd c d = 1) (e : a * d = c * b) : a = c ∧ b = d := by
  have k1 : b ∣ d := by
    have : b ∣ a * d := ⟨c, by rw [e, Int.mul_comm]⟩
    have q := Int.dvd_gcd_mul_iff_dvd_mul.mpr this
    rw [Int.gcd_comm, h1] at q
    simpa using q
  have k2 : d ∣ b := by
    have : d ∣ c * b := ⟨a, by rw [← e, Int.mul_comm]⟩
    have q := Int.dvd_gcd_mul_iff_dvd_mul.mpr this
    rw [Int.gcd_comm, h2] at q
    simpa using q
  have eb : b = d := Int.le_antisymm (Int.le_of_dvd hd k1) (Int.le_of_dvd hb k2)
  subst eb
  exact ⟨Int.eq_of_mul_eq_mul_right (Int.ne_of_gt hb) e, rfl⟩
omit [TbT] in
/-- the value, by cross products -/
theorem fr_eq {p q n d : Int} (hq : 0 < q) (h1 : Int.gcd p q = 1) (hd : d ≠ 0) (e : p * d = n * q) : fN n d = p ∧ fD n d = q := by
  have k := @fN_cross n d
  refine fr_unique (fD_pos hd) hq (f_gcd hd) h1 ?_
  refine Int.eq_of_mul_eq_mul_right hd ?_
  calc fN n d * q * d = (fN n d * d) * q := by rw [Int.mul_assoc, Int.mul_comm q, ← Int.mul_assoc]
    _ = n * fD n d * q := by rw [k]
    _ = n * q * fD n d := by rw [Int.mul_assoc, Int.mul_comm (fD n d), ← Int.mul_assoc]
    _ = p * d * fD n d := by rw [e]
    _ = p * fD n d * d := by rw [Int.mul_assoc, Int.mul_comm d, ← Int.mul_assoc]
omit [TbT] in
theorem fr_self {p q : Int} (hq : 0 < q) (h1 : Int.gcd p q = 1) : fN p q = p ∧ fD p q = q := fr_eq hq h1 (Int.ne_of_gt hq) rfl
omit [TbT] in
theorem fD_whole {m d : Int} (hd : 0 < d) : fN (m * d) d = m ∧ fD (m * d) d = 1 := fr_eq (by decide) (by rw [Int.gcd_one]) (Int.ne_of_gt hd) (by rw [Int.mul_one])
omit [TbT] in
theorem gcd_rest {p q : Int} : Int.gcd (p % q) q = Int.gcd p q := by
  have e : p = p % q + q * (p / q) := by rw [Int.add_comm]; exact (Int.mul_ediv_add_emod p q).symm
  conv => rhs; rw [e]
  exact (Int.gcd_add_mul_left_left q (p % q) (p / q)).symm
omit [TbT] in
/-- ints in a list -/
theorem map_snoc (ns : List Int) (x : Int) : ns.map D.int ++ [D.int x] = (ns ++ [x]).map D.int := by simp
omit [TbT] in
theorem atI_ints {ns : List Int} {k : Nat} (h : k < ns.length) : atI (ns.map D.int) (k : Int) = some (.int (ns.getD k 0)) := by
  refine atI_nat ?_
  rw [List.getElem?_map, List.getElem?_eq_getElem h]
  simp [List.getD, h]
omit [TbT] in
theorem getD_range {ns : List Int} {k : Nat} {lo hi : Int} (hn : ∀ n ∈ ns, lo ≤ n ∧ n < hi) (h : k < ns.length) : lo ≤ ns.getD k 0 ∧ ns.getD k 0 < hi := by
  have : ns.getD k 0 = ns[k] := by simp [List.getD, h]
  rw [this]
  exact hn _ (List.getElem_mem h)
omit [TbT] in
theorem arith_pre {k j : Nat} {a b c d : Int} (h1 : FrOk k a b) (h2 : FrOk j c d) (hk : k ≤ 2000) (hj : j ≤ 2000) : b ≠ 0 ∧ d ≠ 0 ∧ Sz 2000 a ∧ Sz 2000 b ∧ Sz 2000 c ∧ Sz 2000 d :=
  ⟨h1.ne, h2.ne, h1.num.mono hk, h1.den.mono hk, h2.num.mono hj, h2.den.mono hj⟩
omit [TbT] in
theorem atI_lit {ns : List Int} (k : Nat) {i : Int} (e : i = (k : Int)) (h : k < ns.length) : atI (ns.map D.int) i = some (.int (ns.getD k 0)) := by
  subst e; exact atI_ints h
omit [TbT] in
theorem set_self {ρ : List O} {i : Nat} {o : O} (h : ρ[i]? = some o) : ρ.set i o = ρ := by
  apply List.ext_getElem?
  intro j
  rw [List.getElem?_set]
  by_cases e : i = j
  · subst e
    rw [if_pos rfl, if_pos (List.getElem?_eq_some_iff.mp h).1, h]
  · rw [if_neg e]
/-- the data in slot i, told by P alone -/
theorem ws_abs {X : Cx} {ex : Exs} {ρ : List O} {sts : List Stmt} {W : Eds} {d : D} (i : Nat) (P : D → Prop) (hr : ρ[i]? = some (.va d)) (hp : P d) (h : ∀ d', P d' → WSs X ex sts (ρ.set i (.va d')) W) : WSs X ex sts ρ W := by
  have := h d hp
  rwa [set_self hr] at this
theorem ws_cutU {X : Cx} {ex : Exs} {ρ : List O} {st : Stmt} {rest : List Stmt} {W : Eds} (M : List O → Prop) (h : WS X ex st ρ { W with nx := Up M }) (k : ∀ ρ', M ρ' → WSs X ex rest ρ' W) : WSs X ex (st :: rest) ρ W :=
  ws_cut (Up M) h fun ρ' ⟨_, l, m⟩ => ws_le l (k _ m)
end TG
/-! Exceptions over plain data: raise, defs that raise, try .. except X (as e). -/
namespace TG
open PySem PySem.Spec PyProof.Rows L2
variable [TbT]

/-- an own exception class of the text, without an __init__ of its own -/
structure ExcT (K : PySem.W.Frag) (mg : Str → Option Value) (n : Str) : Prop where
  ex : ∃ C, mg n = some (.ref C) ∧ PySem.W.excIn K C [.type "ValueError", .type "Exception", .type "BaseException", .type "object"] "ValueError.__new__" = true ∧ PySem.W.keepIn K (.ref C) = true ∧
    PySem.W.subIn K (.ref C) (.type "BaseException") = some true ∧ PySem.W.typeIn K (.ref C) = some (.type "type") ∧ ExcC K C
/-- a raised error of class n is (is not) one of class m -/
structure SubT (K : PySem.W.Frag) (mg : Str → Option Value) (n m : Str) (b : Bool) : Prop where
  ex : ∃ D, mg m = some (.ref D) ∧ ∀ C, mg n = some (.ref C) → PySem.W.exmOne K (.ref C) (.ref D) = some b ∧ PySem.W.kitOne K (.ref C) (.ref D) = some b
/-- .. of a built-in class -/
structure SubB (K : PySem.W.Frag) (mg : Str → Option Value) (n : Str) (t : String) (b : Bool) : Prop where
  ex : ∀ C, mg n = some (.ref C) → PySem.W.kitOne K (.ref C) (.type t) = some b
/-- a def's promise over data, exceptions by their names -/
structure SpcX where
  S : List D → (O → Prop) → (Str → Prop) → Prop
  mono : ∀ ds (Q Q' : O → Prop) (E E' : Str → Prop), (∀ o, Q o → Q' o) → (∀ n, E n → E' n) → S ds Q E → S ds Q' E'
def spOfX (K : PySem.W.Frag) (mg : Str → Option Value) (S : SpcX) : Sp := fun vs H Q E => Tb H ∧ ∃ ds G, Ex G H ∧ RepL K G vs ds ∧ S.S ds (fun o => ∀ v G' H', Grow G H G' H' → OOk K H G' H' o v → Q v H') fun n => ∀ C G' H', mg n = some (.ref C) → Grow G H G' H' → E (.ref C) none H'
/-- a promise of a def that does not raise, as one of a def that might -/
def Spc.x (S : Spc) : SpcX := ⟨fun ds Q _ => S.S ds Q, fun ds Q Q' _ _ k _ h => S.mono ds Q Q' k h⟩

section
variable {X : Cx} {ex : Exs} {ρ : List O} {e : Expr} {es : List Expr} {st : Stmt} {rest : List Stmt} {W : Eds} {d : D} {ds dds : List D} {pos p p2 npos : Pos} {i k : Nat} {x n : Str}
/-- raise X('..') -/
theorem ws_raise {m : Str} {j : Nat} (T : ExcT X.K X.mg x) (h : ex x ρ) (hc : X.calm = true := by rfl) (hg : Gl X x := by rfl) (hdb : (x == ("__debug__" : Str)) = false := by decide) :
    WS X ex (.Raise (some (.Call (.Name x p) [.Constant (.str m) j p2] [] npos)) none pos) ρ W := ⟨fun E σ G H S => by
  obtain ⟨C, g1, g2, g3, g4, g5, _⟩ := T.ex
  exact of_ps (ps_raise hc takes_acc (pmk_own PySem.F.excBase_ValueError g2 g1 g3 (raises_own g4 g5) hg hdb)) (S.xo x ρ h C g1 σ G H S.toSOk (Ex.refl _))⟩

/-! ### calls that may raise -/
structure CalX (P : Program) (w : World) (K : PySem.W.Frag) (mg : Str → Option Value) (base : Heap) (k : Nat) (x : Str) (S : SpcX) (dds : List D) : Prop where
  ex : ∃ (f : Addr) (fd : FuncData) (ps : List Str) (dvs : List V) (dus : List Value), FnOk P w K mg base (L2.CX P w) k f fd ps (spOfX K mg S) ∧ mg x = some (.ref f) ∧ PySem.W.keepIn K (.ref f) = true ∧ Binds K fd ps dus ∧ Vals dvs dus ∧ ∀ G, RepL K G dvs dds
theorem run_fnSD {CX : CXT} {f : Addr} {fd : FuncData} {ps : List Str} {sp : Sp} {σ : L2.St} {E : XK} {pins : List (Addr × Obj)} {H : Hp} {s : Shared} {Q : VK} {us dus : List Value} {vs dvs : List V} (F : FnOk X.prog X.w X.K X.mg X.base CX k f fd ps sp) (hr : Room k X.A) (hb : Binds X.K fd ps dus) (hd : Vals dvs dus) (hx : PassesAt CX X σ E)
    (I : Inv X pins σ H s) (r : Vals vs us) (h : sp (vs ++ dvs) H Q E) : wpAny (model X.prog X.w) X.A (call (.ref f) us) (EP X pins σ Q) X.xe s := by
  have r2 : Vals (vs ++ dvs) (us ++ dus) := r.append hd
  have hl : (us ++ dus).length = ps.length := by rw [← r2.length]; exact F.len _ _ _ _ h
  refine wpAny_call (codeAny_mono (F.run X.A X.stack s H ⟨us, []⟩ (us ++ dus) (vs ++ dvs) Q E hr I.env0 (hb s us I.kIn hl) r2 h) fun r s' hq => ?_)
  cases r with
  | error e => exact hx pins H s e s' I hq
  | ok fl =>
    cases fl with
    | ret u => exact I.after hq
    | next => exact False.elim hq
    | brk => exact False.elim hq
    | cont => exact False.elim hq
theorem eo_calX {P : O → Prop} {S : SpcX} (C : CalX X.prog X.w X.K X.mg X.base k x S dds) (hr : Room k X.A) (ha : EA X ex (e :: es) ρ ds) (hq : S.S (ds ++ dds) P fun n => ex n ρ) (hg : Gl X x := by rfl) (hdb : (x == ("__debug__" : Str)) = false := by decide) (he : starEach (e :: es) X.env = (false, eval e X.env) :: starEach es X.env := by rfl) (hpl : (backTo pos (starEach es X.env)).any (·.1) = false := by rfl) :
    EO X ex (.Call (.Name x p) (e :: es) [] pos) ρ P := ⟨fun E σ G H Sk => by
  obtain ⟨f, fd, ps, dvs, dus, F, hm, hk, hb, hv, hd⟩ := C.ex
  intro pins s I
  refine wpAny_Call_Name_kw (ld_glob I hg hm ?_ hdb)
  refine PySem.W.callWith_K (h₀ := X.base) I.ok.mod.kin hk (thn (ha E σ G H Sk pos pins s I) fun us s1 ⟨vs, H1, I1, r, G1, g1, r1⟩ => ⟨I1.kIn, ?_⟩) he hpl
  refine run_fnSD F hr hb hv (passAt takes_acc σ) I1 r ?_
  exact ⟨g1.tb Sk.tb, ds ++ dds, G1, g1.gh, r1.append (hd G1), S.mono _ _ _ _ _ (fun o hP v G2 H2 g2 q => ⟨o, G2, g1.trans g2, q.h0 g1.h, hP⟩) (fun n hn C G2 H2 hC g2 => Sk.xo n ρ hn C hC σ G2 H2 (Sk.toSOk.grow (g1.trans g2)) (g1.trans g2).g) hq⟩⟩
/-- a def that does not raise may be called so, too -/
theorem eo_cal0X {P : O → Prop} {S : SpcX} (C : CalX X.prog X.w X.K X.mg X.base k x S dds) (hr : Room k X.A) (hq : S.S dds P fun n => ex n ρ) (hg : Gl X x := by rfl) (hdb : (x == ("__debug__" : Str)) = false := by decide) :
    EO X ex (.Call (.Name x p) [] [] pos) ρ P := ⟨fun E σ G H Sk => by
  obtain ⟨f, fd, ps, dvs, dus, F, hm, hk, hb, hv, hd⟩ := C.ex
  intro pins s I
  refine wpAny_Call_Name_kw (ld_glob I hg hm ?_ hdb)
  refine PySem.W.callWith_K0 I.kIn hk (run_fnSD (us := []) (vs := []) F hr hb hv (passAt takes_acc σ) I .nil ?_)
  exact ⟨Sk.tb, dds, G, Sk.gh, hd G, S.mono _ _ _ _ _ (fun o hP v G2 H2 g2 q => ⟨o, G2, g2, q, hP⟩) (fun n hn C G2 H2 hC g2 => Sk.xo n ρ hn C hC σ G2 H2 (Sk.toSOk.grow g2) g2.g) hq⟩⟩

/-! ### try -/
theorem lift_mono {K : PySem.W.Frag} {E : Hp × Hp} {G G1 H : Hp} {σ : L2.St} {sts : List Stmt} {Y : Cx} (e : Ex G G1) (h : tSemSs Y sts (lift K E G1 W) σ H) : tSemSs Y sts (lift K E G W) σ H :=
  tSemSs_mono h (fun _ _ => up_ex e) (fun _ _ h => h) (fun _ _ => up_ex e) (fun _ _ => up_ex e)
/-- how a suite's context comes -/
abbrev Suite (X : Cx) (a : Addr) (oe : Obj) (pn : List (Addr × Obj)) : Cx := X.suite a ((a, oe) :: pn)
/-- try: body, except c: suite. exb: the errors that the body may raise; each of them is caught (what the suite wants), or passed on -/
theorem ws_try {c : Str} {exb : Exs} {b₀ : Stmt} {suite body : List Stmt} {np pos' : Pos} {Cc : Addr} (hgc : X.mg c = some (.ref Cc))
    (hbody : ∀ (pn : List (Addr × Obj)) (xe : Value → Shared → Prop), PassesOwn (model X.prog X.w) X.A X.env xe → WSs (X.tr pn xe) exb body ρ W)
    (hx : ∀ n ρ', exb n ρ' → ∃ b, (∀ C, X.mg n = some (.ref C) → PySem.W.exmOne X.K (.ref C) (.ref Cc) = some b) ∧ (b = true → ∀ C, X.mg n = some (.ref C) → ∀ (a : Addr) (oe : Obj) (pn : List (Addr × Obj)), Zc (.ref C) none oe → (∃ vs, oe.data = .fields vs) → WSs (Suite X a oe pn) noX (b₀ :: suite) ρ' W) ∧ (b = false → ex n ρ'))
    (hs : X.stack = X.env :: X.outer := by rfl) (hf : X.env.frame = some X.env.locals := by rfl) (hg : Gl X c := by rfl) (hdb : (c == ("__debug__" : Str)) = false := by decide) :
    WS X ex (.Try body [.ExceptHandler (some (.Name c np)) none (b₀ :: suite) pos'] [] [] pos) ρ W := ⟨fun E σ G H S => by
  refine of_ps (ps_try_only (Wout := WA X) (tb := fun WX D σ H => ∀ (pn : List (Addr × Obj)) (xe : Value → Shared → Prop), Takes (X.tr pn xe) WX → PassesOwn (model X.prog X.w) X.A X.env xe → tSemSs (X.tr pn xe) body D σ H)
    (ts := fun a cls d D σ H => ∀ (oe : Obj) (pn : List (Addr × Obj)), Zc cls d oe → (∃ vs, oe.data = .fields vs) → tSemSs (Suite X a oe pn) (b₀ :: suite) D σ H) hs hf ⟨hg, hdb, .inl hgc⟩ takes_acc
    (fun WX pn xe tk po => ⟨fun pins s σ H D I h => h pn xe tk po pins s I⟩) (fun a oe cls d pn hz hv => ⟨fun pins s σ H D I h => h oe pn hz hv pins s I⟩)) fun pn xe tk po => ?_
  refine hbody pn xe po E σ G H ⟨S.toSOk, fun n ρ' hn C hC σ' G' H' S' e => ⟨_, tk, ?_⟩⟩
  obtain ⟨b, h1, h2, h3⟩ := hx n ρ' hn
  refine ⟨b, h1 C hC, fun hb a ha oe pn' hz hv => ?_, fun hb => S.xo n ρ' (h3 hb) C hC σ' G' H' S' e⟩
  exact lift_mono e (h2 hb C hC a oe pn' hz hv E σ' G' H' (SOk.nox (X := Suite X a oe pn') S'))⟩
/-- the name's slot is empty behind the suite -/
def Eds.gone (W : Eds) (i : Nat) : Eds := { nx := fun ρ => W.nx (ρ.set i .un), rt := W.rt, bk := fun ρ => W.bk (ρ.set i .un), ct := fun ρ => W.ct (ρ.set i .un) }
theorem SOk.gone {K : PySem.W.Frag} {E : Hp × Hp} {σ : L2.St} {G H : Hp} (S : SOk K E ρ σ G H) (i : Nat) : SOk K E (ρ.set i .un) (σ.set i none) G H := by
  refine ⟨S.g0, S.gh, S.h0, S.fr, by rw [List.length_set, List.length_set]; exact S.len, fun j u e => ?_, fun j k b hj hk => ?_, S.tb⟩
  · rcases set_at e with ⟨hj, hu, l⟩ | ⟨ne, e'⟩
    · exact .inl hu
    · rcases S.at' j u e' with h | ⟨v, s, q⟩
      · exact .inl h
      · exact .inr ⟨v, by rw [List.getElem?_set_ne ne]; exact s, q⟩
  · have back : ∀ j, Own (ρ.set i .un) (σ.set i none) j b → Own ρ σ j b := fun j ⟨⟨o, e, p⟩, s⟩ => by
      rcases set_at e with ⟨hj, ho, l⟩ | ⟨ne, e'⟩
      · subst hj ho; exact absurd p Bool.false_ne_true
      · rw [List.getElem?_set_ne ne] at s
        exact ⟨⟨o, e', p⟩, s⟩
    exact S.apart j k b (back j hj) (back k hk)
theorem lift_gone {K : PySem.W.Frag} {E : Hp × Hp} {G : Hp} {i : Nat} {σ : L2.St} {H : Hp} {sts : List Stmt} {Y : Cx} (h : tSemSs Y sts (lift K E G (W.gone i)) σ H) :
    tSemSs Y sts { nx := fun σ' H' => (lift K E G W).nx (σ'.set i none) H', rt := (lift K E G W).rt, bk := fun σ' H' => (lift K E G W).bk (σ'.set i none) H', ct := fun σ' H' => (lift K E G W).ct (σ'.set i none) H' } σ H :=
  tSemSs_mono h (fun _ _ ⟨ρ', G', S, e, q⟩ => ⟨_, G', S.gone i, e, q⟩) (fun _ _ h => h) (fun _ _ ⟨ρ', G', S, e, q⟩ => ⟨_, G', S.gone i, e, q⟩) (fun _ _ ⟨ρ', G', S, e, q⟩ => ⟨_, G', S.gone i, e, q⟩)
/-- try: body, except c as y: suite (y in slot i) -/
theorem ws_tryAs {c y : Str} {exb : Exs} {b₀ : Stmt} {suite body : List Stmt} {np pos' : Pos} {Cc : Addr} (i : Nat) (hgc : X.mg c = some (.ref Cc)) (hNd : X.N.Nodup)
    (hbody : ∀ (pn : List (Addr × Obj)) (xe : Value → Shared → Prop), PassesOwn (model X.prog X.w) X.A X.env xe → WSs (X.tr pn xe) exb body ρ W)
    (hx : ∀ n ρ', exb n ρ' → ∃ b, (∀ C, X.mg n = some (.ref C) → PySem.W.exmOne X.K (.ref C) (.ref Cc) = some b) ∧ (b = true → ∀ C, X.mg n = some (.ref C) → ∀ (a : Addr) (oe : Obj) (pn : List (Addr × Obj)), Zc (.ref C) none oe → (∃ vs, oe.data = .fields vs) → WSs (Suite X a oe pn) noX (b₀ :: suite) (ρ'.set i (.rf a)) (W.gone i)) ∧ (b = false → ex n ρ'))
    (hs : X.stack = X.env :: X.outer := by rfl) (hf : X.env.frame = some X.env.locals := by rfl) (hg : Gl X c := by rfl) (hdb : (c == ("__debug__" : Str)) = false := by decide) (hi : X.N[i]? = some y := by rfl) (hln : X.env.kindOf y = some .local := by rfl) :
    WS X ex (.Try body [.ExceptHandler (some (.Name c np)) (some y) (b₀ :: suite) pos'] [] [] pos) ρ W := ⟨fun E σ G H S => by
  refine of_ps (ps_try_as (Wout := WA X) (tb := fun WX D σ H => ∀ (pn : List (Addr × Obj)) (xe : Value → Shared → Prop), Takes (X.tr pn xe) WX → PassesOwn (model X.prog X.w) X.A X.env xe → tSemSs (X.tr pn xe) body D σ H)
    (ts := fun a cls d D σ H => ∀ (oe : Obj) (pn : List (Addr × Obj)), Zc cls d oe → (∃ vs, oe.data = .fields vs) → tSemSs (Suite X a oe pn) (b₀ :: suite) D σ H) hs hf hNd hi hln ⟨hg, hdb, .inl hgc⟩ takes_acc
    (fun WX pn xe tk po => ⟨fun pins s σ H D I h => h pn xe tk po pins s I⟩) (fun a oe cls d pn hz hv => ⟨fun pins s σ H D I h => h oe pn hz hv pins s I⟩)) fun pn xe tk po => ?_
  refine hbody pn xe po E σ G H ⟨S.toSOk, fun n ρ' hn C hC σ' G' H' S' e => ⟨_, tk, ?_⟩⟩
  obtain ⟨b, h1, h2, h3⟩ := hx n ρ' hn
  refine ⟨b, h1 C hC, fun hb a ha oe pn' hz hv => ?_, fun hb => S.xo n ρ' (h3 hb) C hC σ' G' H' S' e⟩
  refine lift_gone (lift_mono e (h2 hb C hC a oe pn' hz hv E _ G' H' (SOk.nox (X := Suite X a oe pn') ?_)))
  exact S'.set i (o := .rf a) rfl fun h => absurd h Bool.false_ne_true⟩
/-- isinstance(e, c) in an except suite, e the exception that was caught, c an own class -/
theorem ee_isE {Y : Cx} {a : Addr} {oe : Obj} {pn : List (Addr × Obj)} {c : Str} {b : Bool} {z : Str} {zp cp : Pos} {C Cc : Addr} (i : Nat) (hEC : ExcC Y.K C) (hz : Zc (.ref C) none oe) (hv : ∃ vs, oe.data = .fields vs) (hr : ρ[i]? = some (.rf a)) (hC : Y.mg c = some (.ref Cc)) (hk : PySem.W.kitOne Y.K (.ref C) (.ref Cc) = some b)
    (hm : Y.mg "isinstance" = none) (hg : Gl (Suite Y a oe pn) "isinstance" := by rfl) (hgc : Gl (Suite Y a oe pn) c := by rfl) (hN : Y.N[i]? = some z := by rfl) (hvz : Vis Y.env.scope z := by first | exact Or.inl rfl | exact Or.inr (Or.inl rfl) | exact Or.inr (Or.inr rfl)) (hd : (z == ("__debug__" : Str)) = false := by decide) (hcd : (z == ("__classdict__" : Str)) = false := by decide) (hdc : (c == ("__debug__" : Str)) = false := by decide)
    (he : starEach [.Name z zp, .Name c cp] (Suite Y a oe pn).env = (false, eval (.Name z zp) (Suite Y a oe pn).env) :: starEach [.Name c cp] (Suite Y a oe pn).env := by rfl) (he2 : starEach [.Name c cp] (Suite Y a oe pn).env = (false, eval (.Name c cp) (Suite Y a oe pn).env) :: starEach [] (Suite Y a oe pn).env := by rfl)
    (hpl : (backTo pos (starEach [.Name c cp] (Suite Y a oe pn).env)).any (·.1) = false := by rfl) : EE (Suite Y a oe pn) ex (.Call (.Name "isinstance" p) [.Name z zp, .Name c cp] [] pos) ρ (.bl b) := ⟨fun E σ G H S => by
  rcases S.at' i _ hr with h | ⟨v, s1, q⟩
  · cases h
  have q' : v = .ref a := q
  subst q'
  refine of_pe (pe_callB (call_isE hEC hz hv) hg hm (by decide +kernel) (pa_cons (pe_var (X := Suite Y a oe pn) hN hvz hd hcd) (pa_cons (pe_glob (X := Suite Y a oe pn) (v := .ref Cc) (u := .ref Cc) hgc hC rfl hdc) pa_nil he2) he) (by decide) (by decide) he hpl) ?_
  exact ⟨.ref a, s1, .ref Cc, .ref Cc, b, rfl, fun u h => h, hk, G, .refl S.gh, .bl b⟩⟩
/-- isinstance(e, ValueError) -/
theorem ee_isEb {Y : Cx} {a : Addr} {oe : Obj} {pn : List (Addr × Obj)} {t : String} {b : Bool} {z : Str} {zp cp : Pos} {C : Addr} (i : Nat) (hEC : ExcC Y.K C) (hz : Zc (.ref C) none oe) (hv : ∃ vs, oe.data = .fields vs) (hr : ρ[i]? = some (.rf a)) (hC : Y.mg x = none) (hbt : bootBuiltins x = some (.type t)) (hk : PySem.W.kitOne Y.K (.ref C) (.type t) = some b)
    (hm : Y.mg "isinstance" = none) (hg : Gl (Suite Y a oe pn) "isinstance" := by rfl) (hgc : Gl (Suite Y a oe pn) x := by rfl) (hN : Y.N[i]? = some z := by rfl) (hvz : Vis Y.env.scope z := by first | exact Or.inl rfl | exact Or.inr (Or.inl rfl) | exact Or.inr (Or.inr rfl)) (hd : (z == ("__debug__" : Str)) = false := by decide) (hcd : (z == ("__classdict__" : Str)) = false := by decide) (hdc : (x == ("__debug__" : Str)) = false := by decide) (hnn : x ≠ "__name__" := by decide)
    (he : starEach [.Name z zp, .Name x cp] (Suite Y a oe pn).env = (false, eval (.Name z zp) (Suite Y a oe pn).env) :: starEach [.Name x cp] (Suite Y a oe pn).env := by rfl) (he2 : starEach [.Name x cp] (Suite Y a oe pn).env = (false, eval (.Name x cp) (Suite Y a oe pn).env) :: starEach [] (Suite Y a oe pn).env := by rfl)
    (hpl : (backTo pos (starEach [.Name x cp] (Suite Y a oe pn).env)).any (·.1) = false := by rfl) : EE (Suite Y a oe pn) ex (.Call (.Name "isinstance" p) [.Name z zp, .Name x cp] [] pos) ρ (.bl b) := ⟨fun E σ G H S => by
  rcases S.at' i _ hr with h | ⟨v, s1, q⟩
  · cases h
  have q' : v = .ref a := q
  subst q'
  refine of_pe (pe_callB (call_isE hEC hz hv) hg hm (by decide +kernel) (pa_cons (pe_var (X := Suite Y a oe pn) hN hvz hd hcd) (pa_cons (pe_bltn (X := Suite Y a oe pn) (v := .ty t) (u := .type t) hgc hC hbt rfl hnn hdc) pa_nil he2) he) (by decide) (by decide) he hpl) ?_
  exact ⟨.ref a, s1, .ty t, .type t, b, rfl, fun u h => h, hk, G, .refl S.gh, .bl b⟩⟩
theorem ee_isX {Y : Cx} {a : Addr} {oe : Obj} {pn : List (Addr × Obj)} {c n z : Str} {b : Bool} {zp cp : Pos} {C : Addr} (i : Nat) (T : ExcT Y.K Y.mg n) (Sb : SubT Y.K Y.mg n c b) (hC : Y.mg n = some (.ref C)) (hz : Zc (.ref C) none oe) (hv : ∃ vs, oe.data = .fields vs) (hr : ρ[i]? = some (.rf a))
    (hm : Y.mg "isinstance" = none) (hg : Gl (Suite Y a oe pn) "isinstance" := by rfl) (hgc : Gl (Suite Y a oe pn) c := by rfl) (hN : Y.N[i]? = some z := by rfl) (hvz : Vis Y.env.scope z := by first | exact Or.inl rfl | exact Or.inr (Or.inl rfl) | exact Or.inr (Or.inr rfl)) (hd : (z == ("__debug__" : Str)) = false := by decide) (hcd : (z == ("__classdict__" : Str)) = false := by decide) (hdc : (c == ("__debug__" : Str)) = false := by decide)
    (he : starEach [.Name z zp, .Name c cp] (Suite Y a oe pn).env = (false, eval (.Name z zp) (Suite Y a oe pn).env) :: starEach [.Name c cp] (Suite Y a oe pn).env := by rfl) (he2 : starEach [.Name c cp] (Suite Y a oe pn).env = (false, eval (.Name c cp) (Suite Y a oe pn).env) :: starEach [] (Suite Y a oe pn).env := by rfl)
    (hpl : (backTo pos (starEach [.Name c cp] (Suite Y a oe pn).env)).any (·.1) = false := by rfl) : EE (Suite Y a oe pn) ex (.Call (.Name "isinstance" p) [.Name z zp, .Name c cp] [] pos) ρ (.bl b) := by
  obtain ⟨C', hC', _, _, _, _, EC⟩ := T.ex
  rw [hC] at hC'; cases hC'
  obtain ⟨D, hD, hk⟩ := Sb.ex
  exact ee_isE i EC hz hv hr hD (hk C hC).2 hm hg hgc hN hvz hd hcd hdc he he2 hpl
theorem ee_isXb {Y : Cx} {a : Addr} {oe : Obj} {pn : List (Addr × Obj)} {t : String} {n z : Str} {b : Bool} {zp cp : Pos} {C : Addr} (i : Nat) (T : ExcT Y.K Y.mg n) (Sb : SubB Y.K Y.mg n t b) (hC : Y.mg n = some (.ref C)) (hz : Zc (.ref C) none oe) (hv : ∃ vs, oe.data = .fields vs) (hr : ρ[i]? = some (.rf a)) (hx : Y.mg x = none) (hbt : bootBuiltins x = some (.type t))
    (hm : Y.mg "isinstance" = none) (hg : Gl (Suite Y a oe pn) "isinstance" := by rfl) (hgc : Gl (Suite Y a oe pn) x := by rfl) (hN : Y.N[i]? = some z := by rfl) (hvz : Vis Y.env.scope z := by first | exact Or.inl rfl | exact Or.inr (Or.inl rfl) | exact Or.inr (Or.inr rfl)) (hd : (z == ("__debug__" : Str)) = false := by decide) (hcd : (z == ("__classdict__" : Str)) = false := by decide) (hdc : (x == ("__debug__" : Str)) = false := by decide) (hnn : x ≠ "__name__" := by decide)
    (he : starEach [.Name z zp, .Name x cp] (Suite Y a oe pn).env = (false, eval (.Name z zp) (Suite Y a oe pn).env) :: starEach [.Name x cp] (Suite Y a oe pn).env := by rfl) (he2 : starEach [.Name x cp] (Suite Y a oe pn).env = (false, eval (.Name x cp) (Suite Y a oe pn).env) :: starEach [] (Suite Y a oe pn).env := by rfl)
    (hpl : (backTo pos (starEach [.Name x cp] (Suite Y a oe pn).env)).any (·.1) = false := by rfl) : EE (Suite Y a oe pn) ex (.Call (.Name "isinstance" p) [.Name z zp, .Name x cp] [] pos) ρ (.bl b) := by
  obtain ⟨C', hC', _, _, _, _, EC⟩ := T.ex
  rw [hC] at hC'; cases hC'
  exact ee_isEb i EC hz hv hr hx hbt (Sb.ex C hC) hm hg hgc hN hvz hd hcd hdc hnn he he2 hpl
end

/-! ### defs that may raise -/
section
variable {P : Program} {w : World} {K : PySem.W.Frag} {mg : Str → Option Value} {base : Heap} {x : Str} {st : Stmt} {ps : List Str} {dvs : List V} {k : Nat}
theorem DefT.fnX {S : SpcX} (T : DefT K mg x st ps dvs) {N : List Str} (Sc : FnScope N ps (defScope st)) (len : ∀ ds Q E, S.S ds Q E → ds.length = ps.length)
    (hbody : ∀ (f : Addr) (cdv : Value) (A : Around) (outer : List Env) (s : Shared) (H : Hp) (E : XK), Room k (A.deeper (envOfC x (defScope st) s.heap.objs.size f cdv)) → ∀ ds (Q : O → Prop) (EN : Str → Prop), S.S ds Q EN →
      WSs (cxOf (L2.CX P w) P w K mg base N x (defScope st) f cdv A outer s H E) (fun n _ => EN n) (defBody st) (slots N.length ds) { nx := fun _ => Q (.va .non), rt := Q }) :
    ∃ (f : Addr) (fd : FuncData), FnOk P w K mg base (L2.CX P w) (k + 1) f fd ps (spOfX K mg S) ∧ mg x = some (.ref f) ∧ PySem.W.keepIn K (.ref f) = true ∧ ∀ j ≤ dvs.length, ∃ ds, Vals (dvs.drop j) ds ∧ Binds K fd ps ds := by
  obtain ⟨f, fd, F, hm, hb⟩ := T.ex
  refine ⟨f, fd, F.ok Sc (fun vs H Q E ⟨_, ds, G, e, r, h⟩ => ?_) (fun cdv A outer s H vs Q E hr h => ?_), hm, F.kp, hb⟩
  · rw [r.length]; exact len ds _ _ h
  · obtain ⟨tb, ds, G, e, r, h⟩ := h
    refine ⟨tSemSs (cxOf (L2.CX P w) P w K mg base N x (defScope st) f cdv A outer s H E) _, sem_pss, ?_⟩
    refine tSemSs_mono (hbody f cdv A outer s H E hr ds _ _ h (G, H) _ G H ⟨sok_start tb e r, fun n ρ' hn C hC σ' G' H' S' e' => ⟨fun cls d _ H => E cls d H, takes_of rfl rfl rfl rfl, hn C G' H' hC ⟨S'.g0, S'.h0, S'.gh, S'.fr, fun _ => S'.tb⟩⟩⟩) (fun σ' H' ⟨ρ', G', S', x, q⟩ => ?_) (fun v H' ⟨o, G', R, q⟩ => ?_) (fun _ _ ⟨_, _, _, _, q⟩ => q.elim) (fun _ _ ⟨_, _, _, _, q⟩ => q.elim)
    · exact q .non G' H' ⟨S'.g0, S'.h0, S'.gh, S'.fr, fun _ => S'.tb⟩ .non
    · exact q v G' H' ⟨R.g0, R.h0, R.gh, R.fr, fun _ => R.tb⟩ R.ok
theorem calX_of {S : SpcX} (h : ∃ (f : Addr) (fd : FuncData), FnOk P w K mg base (L2.CX P w) k f fd ps (spOfX K mg S) ∧ mg x = some (.ref f) ∧ PySem.W.keepIn K (.ref f) = true ∧ ∀ j ≤ dvs.length, ∃ ds, Vals (dvs.drop j) ds ∧ Binds K fd ps ds)
    (j : Nat) (hj : j ≤ dvs.length) {dds : List D} (hd : ∀ G, RepL K G (dvs.drop j) dds) : CalX P w K mg base k x S dds := by
  obtain ⟨f, fd, F, hm, hk, hb⟩ := h
  obtain ⟨ds, r, b⟩ := hb j hj
  exact ⟨f, fd, ps, dvs.drop j, ds, F, hm, hk, b, r, hd⟩
theorem CalX.mono {S : SpcX} {j : Nat} {dds : List D} (C : CalX P w K mg base k x S dds) (h : k ≤ j) : CalX P w K mg base j x S dds := by
  obtain ⟨f, fd, ps, dvs, dus, F, r⟩ := C.ex
  exact ⟨f, fd, ps, dvs, dus, F.mono h, r⟩
end
omit [TbT] in
/-- a try's body in a def where no exception leaves, a def where some do -/
theorem own_tr {Y : Cx} {pn : List (Addr × Obj)} {xe : Value → Shared → Prop} (po : PassesOwn (model Y.prog Y.w) Y.A Y.env xe) : PassesOwn (model (Y.tr pn xe).prog (Y.tr pn xe).w) (Y.tr pn xe).A (Y.tr pn xe).env (Y.tr pn xe).xe := po
omit [TbT] in
theorem bt_ValueError : bootBuiltins "ValueError" = some (.type "ValueError") := by decide +kernel
/-! ### a test that certainly raises -/
structure EF (X : Cx) (ex : Exs) (e : Expr) (ρ : List O) : Prop where
  run : ∀ (E : Hp × Hp) (σ : L2.St) (G H : Hp), SOx X ex E ρ σ G H → tSemT X e σ H fun _ _ => False
theorem ef_isN {X : Cx} {ex : Exs} {ρ : List O} {a : Expr} {pos pos' : Pos} {k} (h : EO X ex a ρ (fun _ => False)) : EF X ex (.Compare a [.Is] [.Constant .none k pos'] pos) ρ := ⟨fun E σ G H S =>
  of_pt (pt_cmp (pc_isN sem_pe) rfl) (tSem_mono (h E σ G H S) fun v H1 ⟨_, _, _, _, f⟩ => f.elim)⟩
theorem ef_val {X : Cx} {ex : Exs} {ρ : List O} {e : Expr} (h : EO X ex e ρ (fun _ => False)) (he : ∀ whole, isTrue e X.env whole = (do let v ← whole; standAt e.pos; holding [v] (truthy v)) := by intro _; rfl) : EF X ex e ρ := ⟨fun E σ G H S =>
  of_pt (pt_val sem_pe he) (tSem_mono (h E σ G H S) fun v H1 ⟨_, _, _, _, f⟩ => f.elim)⟩
theorem ws_ifF {X : Cx} {ex : Exs} {ρ : List O} {W : Eds} {c : Expr} {A B : List Stmt} {pos : Pos} (hc : EF X ex c ρ) : WS X ex (.If c A B pos) ρ W := ⟨fun E σ G H S =>
  of_ps (ps_if sem_pt sem_pss sem_pss) (tSemT_mono (hc.run E σ G H S) fun b H1 f => f.elim)⟩
/-! ### constants of the module -/
structure ConT (K : PySem.W.Frag) (mg : Str → Option Value) (x : Str) (d : D) : Prop where
  ex : ∃ v u, mg x = some u ∧ RelV v u ∧ ∀ G, Rep K G v d
theorem ee_con {X : Cx} {ex : Exs} {ρ : List O} {d : D} {pos : Pos} {x : Str} (T : ConT X.K X.mg x d) (hg : Gl X x := by rfl) (hd : (x == ("__debug__" : Str)) = false := by decide) : EE X ex (.Name x pos) ρ d := by
  obtain ⟨v, u, hm, r, h⟩ := T.ex
  exact ee_glob hg hm r h hd
omit [TbT] in
theorem small_ok {n : Nat} (h : Nat.ble n 64 = true) : n ≤ sizeLine := Nat.le_trans (Nat.le_of_ble_eq_true h) (by decide)
omit [TbT] in
theorem rep_ktup {K : PySem.W.Frag} {a : Addr} {od : Option Addr} {its : List Value} {n : Nat} {sl : Array (Option Value)} {xs : List V} {ds : List D} (l : K.lookup a = some ⟨.type "tuple", od, .seq its.toArray n, sl⟩) (hs : its.length ≤ sizeLine) (v : Vals xs its) (r : ∀ G, RepL K G xs ds) (G : Hp) : Rep K G (.ref a) (.tup ds) :=
  .tup (.inr ⟨_, its.toArray, n, l, rfl, rfl, by rw [List.size_toArray]; exact hs, v⟩) (r G)
omit [TbT] in
theorem rep_klst {K : PySem.W.Frag} {a : Addr} {its : List Value} {n : Nat} {sl : Array (Option Value)} {xs : List V} {ds : List D} (l : K.lookup a = some ⟨.type "list", none, .seq its.toArray n, sl⟩) (hs : its.length ≤ sizeLine) (v : Vals xs its) (r : ∀ G, RepL K G xs ds) (G : Hp) : Rep K G (.ref a) (.cst ds) :=
  .cst (.inr ⟨_, its.toArray, n, l, rfl, rfl, rfl, by rw [List.size_toArray]; exact hs, v⟩) (r G)
omit [TbT] in
theorem sub_mk {K : PySem.W.Frag} {mg : Str → Option Value} {n m : Str} {b : Bool} {C D : Addr} (h1 : mg n = some (.ref C)) (h2 : mg m = some (.ref D)) (hb : PySem.W.subIn K (.ref D) (.type "BaseException") = some true) (hd : PySem.W.hasDictIn K D = true) (ht : PySem.W.typeIn K (.ref D) = some (.type "type"))
    (hs : PySem.W.subIn K (.ref C) (.ref D) = some b) (hk : PySem.W.kitOne K (.ref C) (.ref D) = some b) : SubT K mg n m b :=
  ⟨D, h2, fun C' h => by rw [h1] at h; cases h; exact ⟨PySem.W.exm_ref hb hd ht hs, hk⟩⟩
omit [TbT] in
theorem subB_mk {K : PySem.W.Frag} {mg : Str → Option Value} {n : Str} {t : String} {b : Bool} {C : Addr} (h1 : mg n = some (.ref C)) (hk : PySem.W.kitOne K (.ref C) (.type t) = some b) : SubB K mg n t b :=
  ⟨fun C' h => by rw [h1] at h; cases h; exact hk⟩
end TG
/-! Tuples and lists as a whole: +, slices, in, list(..), tuple(..); list comprehensions. -/
namespace TG
open PySem PySem.Spec PyProof.Rows L2
variable [TbT]

section
variable {X : Cx} {ex : Exs} {ρ : List O} {e a b : Expr} {es : List Expr} {d d1 d2 : D} {ds : List D} {pos p p2 : Pos} {i : Int} {x : Str}
omit [TbT] in
theorem RepL.nil_of {K : PySem.W.Frag} {G : Hp} {ds : List D} (r : RepL K G [] ds) : ds = [] := by cases r; rfl
omit [TbT] in
theorem RepL.nil_of' {K : PySem.W.Frag} {G : Hp} {vs : List V} (r : RepL K G vs []) : vs = [] := by cases r; rfl
/-! ### tuple + tuple -/
theorem bin_catT {es : List D} (hz : ds.length + es.length ≤ sizeLine) : BinD X (rCatA X.K) (.tup ds) (.tup es) (.tup (ds ++ es)) := fun G H v w Q e r1 r2 q => by
  cases r1 with
  | @tup _ xs1 _ h1 r1 =>
    cases r2 with
    | @tup _ xs2 _ h2 r2 =>
      refine ⟨_, _, _, _, rfl, rfl, e.t h1, e.t h2, by rw [r1.length, r2.length]; exact hz, fun z => ?_, fun _ z => ?_, fun _ _ p hp => ?_⟩
      · subst z
        obtain rfl := r1.nil_of
        exact q _ G H (.refl e) (.tup h2 r2)
      · subst z
        obtain rfl := r2.nil_of
        rw [List.append_nil] at q
        exact q _ G H (.refl e) (.tup h1 r1)
      · have g := Grow.new (u := .tup (xs1 ++ xs2)) e hp
        exact q _ _ _ g (.tup (.inl (.inl upd_same)) ((r1.append r2).mono g.g))
theorem ee_catT {es : List D} (ha : EE X ex a ρ (.tup ds)) (hb : EE X ex b ρ (.tup es)) (hz : ds.length + es.length ≤ sizeLine) : EE X ex (.BinOp a .Add b pos) ρ (.tup (ds ++ es)) := ee_bin op_catA (bin_catT hz) ha hb

/-! ### slices -/
def tSemP (X : Cx) (e : Option Expr) : TO := fun σ H Q => ∀ (pins : List (Addr × Obj)) (s : Shared), Inv X pins σ H s → wpAny (model X.prog X.w) X.A (evalPart e X.env) (fun u s' => ∃ o H', Inv X pins σ H' s' ∧ IsPart u o ∧ Q o H') X.xe s
omit [TbT] in
theorem sem_po {e : Option Expr} : PO X e (tSemP X e) := ⟨fun pins s σ H Q I h => h pins s I⟩
structure EPt (X : Cx) (ex : Exs) (e : Option Expr) (ρ : List O) (o : Option Int) : Prop where
  run : ∀ (E : Hp × Hp) (σ : L2.St) (G H : Hp), SOx X ex E ρ σ G H → tSemP X e σ H fun o' H' => o' = o ∧ ∃ G', Grow G H G' H'
instance {X : Cx} {ex : Exs} {e : Option Expr} {ρ : List O} {o : Option Int} : CoeFun (EPt X ex e ρ o) (fun _ => ∀ (E : Hp × Hp) (σ : L2.St) (G H : Hp), SOx X ex E ρ σ G H → tSemP X e σ H fun o' H' => o' = o ∧ ∃ G', Grow G H G' H') := ⟨EPt.run⟩

theorem ep_none : EPt X ex none ρ none := ⟨fun E σ G H S pins s I => po_none.run pins s σ H _ I ⟨rfl, G, .refl S.gh⟩⟩
theorem ep_some (h : EE X ex e ρ (.int i)) : EPt X ex (some e) ρ (some i) := ⟨fun E σ G H S pins s I => (po_some sem_pe).run pins s σ H _ I (tSem_mono (h E σ G H S) fun v H1 ⟨G1, g1, r1⟩ => by cases r1; exact ⟨i, rfl, rfl, G1, g1⟩)⟩
def cutD (ds : List D) (lo hi : Option Int) : List D := (ds.drop (HT.sIx ds.length 0 lo)).take (HT.sIx ds.length ds.length hi - HT.sIx ds.length 0 lo)
omit [TbT] in
theorem RepL.cut {K : PySem.W.Frag} {G : Hp} {ds : List D} {vs : List V} (r : RepL K G vs ds) (lo hi : Option Int) : RepL K G (cutV vs lo hi) (cutD ds lo hi) := by
  unfold cutV cutD
  rw [r.length]
  exact (r.drop _).take _
omit [TbT] in
theorem tSemP_mono {e : Option Expr} {σ : L2.St} {H : Hp} {Q Q' : Option Int → Hp → Prop} (h : tSemP X e σ H Q) (k : ∀ o H', Q o H' → Q' o H') : tSemP X e σ H Q' :=
  fun pins s I => thn (h pins s I) fun _ _ ⟨o, H', I', r, q⟩ => ⟨o, H', I', r, k o H' q⟩
variable {lo hi : Option Expr} {l h : Option Int}
theorem ee_slT {fs : List D} (ha : EE X ex a ρ (.tup ds)) (hl : EPt X ex lo ρ l) (hh : EPt X ex hi ρ h) (hres : cutD ds l h = fs) : EE X ex (.Subscript a (.Slice lo hi none p2) pos) ρ (.tup fs) := ⟨fun E σ G H S =>
  of_pe (pe_slice sl_tupA sem_pe sem_po sem_po) (tSem_mono (ha E σ G H S) fun v H1 ⟨G1, g1, r1⟩ => tSemP_mono (hl E σ G1 H1 (S.grow g1)) fun o1 H2 ⟨e1, G2, g2⟩ => tSemP_mono (hh E σ G2 H2 (S.grow (g1.trans g2))) fun o2 H3 ⟨e2, G3, g3⟩ => by
    subst e1 e2 hres
    have r3 := r1.mono (g2.trans g3).g
    cases r3 with
    | @tup _ xs _ h1 r =>
      refine ⟨_, _, rfl, g3.gh.t h1, fun w => ?_, fun _ p hp => ?_⟩
      · refine ⟨G3, (g1.trans g2).trans g3, ?_⟩
        have : cutD ds o1 o2 = ds := by
          unfold cutD
          rw [← r.length, w.1, w.2, List.drop_zero, Nat.sub_zero, r.length, List.take_length]
        rw [this]
        exact .tup h1 r
      · have g4 := Grow.new (u := .tup (cutV xs o1 o2)) g3.gh hp
        exact ⟨_, ((g1.trans g2).trans g3).trans g4, .tup (.inl (.inl upd_same)) ((r.cut o1 o2).mono g4.g)⟩)⟩
theorem eo_slL {fs : List D} (ha : EE X ex a ρ (.lst ds)) (hl : EPt X ex lo ρ l) (hh : EPt X ex hi ρ h) (hres : cutD ds l h = fs) : EO X ex (.Subscript a (.Slice lo hi none p2) pos) ρ (fun o => o = .ml fs) := ⟨fun E σ G H S =>
  of_pe (pe_slice sl_list sem_pe sem_po sem_po) (tSem_mono (ha E σ G H S) fun v H1 ⟨G1, g1, r1⟩ => tSemP_mono (hl E σ G1 H1 (S.grow g1)) fun o1 H2 ⟨e1, G2, g2⟩ => tSemP_mono (hh E σ G2 H2 (S.grow (g1.trans g2))) fun o2 H3 ⟨e2, G3, g3⟩ => by
    subst e1 e2 hres
    have r3 := r1.mono (g2.trans g3).g
    cases r3 with
    | @lst _ xs _ h1 r =>
      refine ⟨_, _, rfl, g3.gh.l h1, fun p hp => ?_⟩
      have g0 := (g1.trans g2).trans g3
      have g4 := Grow.newH (u := .lst (cutV xs o1 o2)) g3.gh hp
      exact ⟨.ml _, _, g0.trans g4, ⟨p, _, rfl, upd_same, g3.gh.back hp, g0.h.back hp, r.cut o1 o2⟩, rfl⟩)⟩

/-! ### in, not in: flat data -/
def D.flat : D → Bool
  | .non => true
  | .bl _ => true
  | .int _ => true
  | .str _ => true
  | _ => false
omit [TbT] in
theorem Rep.flat {K : PySem.W.Frag} {G : Hp} {v : V} {d : D} (r : Rep K G v d) (h : d.flat = true) : flatV v = true := by
  cases r <;> first | rfl | cases h
omit [TbT] in
theorem Rep.eqV {K : PySem.W.Frag} {G : Hp} {v w : V} {d e : D} (r : Rep K G v d) (s : Rep K G w e) (h : d.flat = true) (k : e.flat = true) : eqV v w = D.eqv d e := by
  cases r <;> first
    | cases h; done
    | (cases s <;> first | cases k; done | rfl)
omit [TbT] in
theorem RepL.flat {K : PySem.W.Frag} {G : Hp} : ∀ {vs : List V} {ds : List D}, RepL K G vs ds → ds.all D.flat = true → vs.all flatV = true
  | _, _, .nil, _ => rfl
  | _, _, .cons r t, h => by
    rw [List.all_cons, Bool.and_eq_true] at h ⊢
    exact ⟨r.flat h.1, t.flat h.2⟩
omit [TbT] in
theorem RepL.inV {K : PySem.W.Frag} {G : Hp} {v : V} {d : D} (r : Rep K G v d) (h : d.flat = true) : ∀ {vs : List V} {ds : List D}, RepL K G vs ds → ds.all D.flat = true → inV v vs = ds.any fun y => D.eqv y d
  | _, _, .nil, _ => rfl
  | _, _, .cons r' t, k => by
    rw [List.all_cons, Bool.and_eq_true] at k
    unfold L2.inV
    rw [List.any_cons, List.any_cons, r'.eqV r k.1 h]
    exact congrArg (_ || ·) (RepL.inV r h t k.2)
theorem bin_in {neg : Bool} (hi : d2.items = some ds) (hd : d1.flat = true) (hs : ds.all D.flat = true) : BinD X (rIn X.K neg) d1 d2 (.bl (if neg then !(ds.any fun y => D.eqv y d1) else ds.any fun y => D.eqv y d1)) := fun G H v w Q e r1 r2 q => by
  cases r2 with
  | tup h r =>
    cases hi
    exact ⟨_, _, rfl, .inr (e.t h), r1.flat hd, r.flat hs, by rw [RepL.inV r1 hd r hs]; exact q _ G H (.refl e) (.bl _)⟩
  | lst h r =>
    cases hi
    exact ⟨_, _, rfl, .inl (e.l h), r1.flat hd, r.flat hs, by rw [RepL.inV r1 hd r hs]; exact q _ G H (.refl e) (.bl _)⟩
  | cst h r =>
    cases hi
    exact ⟨_, _, rfl, .inl (e.lc h), r1.flat hd, r.flat hs, by rw [RepL.inV r1 hd r hs]; exact q _ G H (.refl e) (.bl _)⟩
  | _ => cases hi
omit [TbT] in
theorem any_ints {ns : List Int} {i : Int} : ((ns.map D.int).any fun y => D.eqv y (.int i)) = decide (i ∈ ns) := by
  induction ns with
  | nil => simp
  | cons n ns ih =>
    rw [List.map_cons, List.any_cons, ih, eqv_int, Bool.eq_iff_iff]
    by_cases h : n = i
    · subst h; simp
    · simp [h, Ne.symm h]
omit [TbT] in
theorem flat_ints {ns : List Int} : (ns.map D.int).all D.flat = true := by simp [D.flat]
theorem ee_in (ha : EE X ex a ρ d1) (hb : EE X ex b ρ d2) (hi : d2.items = some ds) (hd : d1.flat = true := by rfl) (hs : ds.all D.flat = true := by rfl) (hm : behindInMarks .In b = false := by rfl) : EE X ex (.Compare a [.In] [b] pos) ρ (.bl (ds.any fun y => D.eqv y d1)) := ee_cmp op_in_seq (bin_in (neg := false) hi hd hs) ha hb hm
theorem et_in (ha : EE X ex a ρ d1) (hb : EE X ex b ρ d2) (hi : d2.items = some ds) (hd : d1.flat = true := by rfl) (hs : ds.all D.flat = true := by rfl) (hm : behindInMarks .In b = false := by rfl) : ET X ex (.Compare a [.In] [b] pos) ρ (ds.any fun y => D.eqv y d1) := et_cmp op_in_seq (bin_in (neg := false) hi hd hs) ha hb hm
theorem ee_nin (ha : EE X ex a ρ d1) (hb : EE X ex b ρ d2) (hi : d2.items = some ds) (hd : d1.flat = true := by rfl) (hs : ds.all D.flat = true := by rfl) (hm : behindInMarks .NotIn b = false := by rfl) : EE X ex (.Compare a [.NotIn] [b] pos) ρ (.bl (!(ds.any fun y => D.eqv y d1))) := ee_cmp op_notIn_seq (bin_in (neg := true) hi hd hs) ha hb hm
theorem et_nin (ha : EE X ex a ρ d1) (hb : EE X ex b ρ d2) (hi : d2.items = some ds) (hd : d1.flat = true := by rfl) (hs : ds.all D.flat = true := by rfl) (hm : behindInMarks .NotIn b = false := by rfl) : ET X ex (.Compare a [.NotIn] [b] pos) ρ (!(ds.any fun y => D.eqv y d1)) := et_cmp op_notIn_seq (bin_in (neg := true) hi hd hs) ha hb hm

/-! ### list(..), tuple(..) -/
theorem cal_list (hi : d.items = some ds) : CalD X (fun xs H Q => ∃ p ys, xs = [.ref p] ∧ (SqL X.K H p ys ∨ SqT X.K H p ys) ∧ ∀ l, H l = none → Q (.ref l) (upd H l (.lst ys))) [d] (fun o => o = .ml ds) := fun G H vs Q e r q => by
  obtain ⟨v, rfl, r1⟩ := r.of1
  have fin : ∀ (ys : List V), RepL X.K G ys ds → ∀ l, H l = none → Q (.ref l) (upd H l (.lst ys)) := fun ys ry l hl =>
    q _ (.ml ds) _ _ (Grow.newH e hl) ⟨l, ys, rfl, upd_same, e.back hl, hl, ry⟩ rfl
  cases r1 with
  | tup h r2 => cases hi; exact ⟨_, _, rfl, .inr (e.t h), fin _ r2⟩
  | lst h r2 => cases hi; exact ⟨_, _, rfl, .inl (e.l h), fin _ r2⟩
  | cst h r2 => cases hi; exact ⟨_, _, rfl, .inl (e.lc h), fin _ r2⟩
  | _ => cases hi
theorem eo_list (hg : Gl X "list") (hm : X.mg "list" = none) (ha : EA X ex [e] ρ [d]) (hi : d.items = some ds) (he : starEach [e] X.env = (false, eval e X.env) :: starEach [] X.env := by rfl) (hpl : (backTo pos (starEach [] X.env)).any (·.1) = false := by rfl) : EO X ex (.Call (.Name "list" p) [e] [] pos) ρ (fun o => o = .ml ds) :=
  eo_cty call_list_of (cal_list hi) hg hm (by decide +kernel) ha (by decide) (by decide) he hpl
theorem ee_tuple (hg : Gl X "tuple") (hm : X.mg "tuple" = none) (ha : EA X ex [e] ρ [d]) (hi : d.items = some ds) (he : starEach [e] X.env = (false, eval e X.env) :: starEach [] X.env := by rfl) (hpl : (backTo pos (starEach [] X.env)).any (·.1) = false := by rfl) : EE X ex (.Call (.Name "tuple" p) [e] [] pos) ρ (.tup ds) :=
  ee_va (eo_cty call_tuple_of (fun G H vs Q e r q => by
    obtain ⟨v, rfl, r1⟩ := r.of1
    cases r1 with
    | tup h r2 => cases hi; exact ⟨_, _, rfl, .inr ⟨e.t h, q _ (.va _) G H (.refl e) (.tup h r2) rfl⟩⟩
    | @lst _ xs _ h r2 =>
      cases hi
      refine ⟨_, _, rfl, .inl ⟨e.l h, fun l hl => ?_⟩⟩
      have g := Grow.new (u := .tup xs) e hl
      exact q _ (.va _) _ _ g (.tup (.inl (.inl upd_same)) (r2.mono g.g)) rfl
    | @cst _ xs _ h r2 =>
      cases hi
      refine ⟨_, _, rfl, .inl ⟨e.lc h, fun l hl => ?_⟩⟩
      have g := Grow.new (u := .tup xs) e hl
      exact q _ (.va _) _ _ g (.tup (.inl (.inl upd_same)) (r2.mono g.g)) rfl
    | _ => cases hi) hg hm (by decide +kernel) ha (by decide) (by decide) he hpl)

/-! ### what is walked -/
/-- J walks over ds -/
def Wk (K : PySem.W.Frag) (G : Hp) (J : It) (ds : List D) : Prop := ∀ (i : Nat) (G' H : Hp), Ex G G' → Ex G' H → (∀ d, ds[i]? = some d → J.go i H ∧ ∀ x H', J.yld i H x H' → ∃ G2, Grow G' H G2 H' ∧ Rep K G2 x d) ∧ (ds.length ≤ i → J.stop i H)
def tSemI (X : Cx) (tg iter : Expr) : TI := fun σ H R => ∀ (pins : List (Addr × Obj)) (s : Shared), Inv X pins σ H s → wpAny (model X.prog X.w) X.A (eval iter X.env) (fun v s1 => wpAny (model X.prog X.w) X.A (pyIter v) (PIE X pins σ tg R) X.xe s1) X.xe s
omit [TbT] in
theorem sem_pi {tg iter : Expr} : PI X tg iter (tSemI X tg iter) := ⟨fun pins s _ _ _ I h => h pins s I⟩
omit [TbT] in
theorem of_pi {tg iter : Expr} {t : TI} (h : PI X tg iter t) {σ : L2.St} {H : Hp} {R : It → Hp → Prop} (q : t σ H R) : tSemI X tg iter σ H R := fun pins s I => h.run pins s σ H R I q
omit [TbT] in
theorem tSemI_mono {tg iter : Expr} {σ : L2.St} {H : Hp} {R R' : It → Hp → Prop} (h : tSemI X tg iter σ H R) (k : ∀ J H', R J H' → R' J H') : tSemI X tg iter σ H R' := fun pins s I =>
  thn (h pins s I) fun v s1 q => thn q fun u s2 ⟨it, fp, tn, J, H', e, I', T, t0, f, r⟩ => ⟨it, fp, tn, J, H', e, I', T, t0, f, k J H' r⟩
/-- iter walks over ds -/
structure EI (X : Cx) (ex : Exs) (tg iter : Expr) (ρ : List O) (ds : List D) : Prop where
  run : ∀ (E : Hp × Hp) (σ : L2.St) (G H : Hp), SOx X ex E ρ σ G H → tSemI X tg iter σ H fun J H' => ∃ G', Grow G H G' H' ∧ Wk X.K G' J ds
instance {X : Cx} {ex : Exs} {tg iter : Expr} {ρ : List O} {ds : List D} : CoeFun (EI X ex tg iter ρ ds) (fun _ => ∀ (E : Hp × Hp) (σ : L2.St) (G H : Hp), SOx X ex E ρ σ G H → tSemI X tg iter σ H fun J H' => ∃ G', Grow G H G' H' ∧ Wk X.K G' J ds) := ⟨EI.run⟩

variable {tg iter : Expr}
theorem ei_lst (h : EE X ex iter ρ (.lst ds)) : EI X ex tg iter ρ ds := ⟨fun E σ G H S =>
  of_pi (pi_list sem_pe) (tSem_mono (h E σ G H S) fun v H1 ⟨G1, g, r⟩ => by
    cases r with
    | @lst a xs _ hl rl =>
      refine ⟨a, rfl, ⟨xs, g.gh.l hl⟩, G1, g, fun i G' H' e1 e2 => ⟨fun d hd => ?_, fun hle => ⟨xs, e2.l (e1.app _ _ hl), by rw [rl.length]; exact hle⟩⟩⟩
      obtain ⟨v, hv, rv⟩ := rl.get hd
      refine ⟨⟨xs, v, e2.l (e1.app _ _ hl), hv⟩, fun x H2 ⟨e, hx⟩ => ?_⟩
      have := hx xs (e2.l (e1.app _ _ hl))
      rw [hv] at this; cases this
      subst e
      exact ⟨G', .refl e2, rv.mono e1⟩)⟩
theorem ei_tup (h : EE X ex iter ρ (.tup ds)) : EI X ex tg iter ρ ds := ⟨fun E σ G H S =>
  of_pi (pi_tup sem_pe) (tSem_mono (h E σ G H S) fun v H1 ⟨G1, g, r⟩ => by
    cases r with
    | @tup a xs _ hl rl =>
      refine ⟨a, rfl, ⟨xs, g.gh.t hl⟩, G1, g, fun i G' H' e1 e2 => ⟨fun d hd => ?_, fun hle => ⟨xs, e2.t (e1.t hl), by rw [rl.length]; exact hle⟩⟩⟩
      obtain ⟨v, hv, rv⟩ := rl.get hd
      refine ⟨⟨xs, v, e2.t (e1.t hl), hv⟩, fun x H2 ⟨e, hx⟩ => ?_⟩
      have := hx xs (e2.t (e1.t hl))
      rw [hv] at this; cases this
      subst e
      exact ⟨G', .refl e2, rv.mono e1⟩)⟩
def upTo (lo : Int) (n : Nat) : List D := (List.range n).map fun (k : Nat) => D.int (lo + (k : Int))
omit [TbT] in
theorem upTo_get {lo : Int} {n i : Nat} {d : D} (h : (upTo lo n)[i]? = some d) : i < n ∧ d = .int (lo + (i : Int)) := by
  unfold upTo at h
  rw [List.getElem?_map] at h
  by_cases hi : i < n
  · rw [List.getElem?_range hi] at h
    exact ⟨hi, (Option.some.inj h).symm⟩
  · rw [List.getElem?_eq_none (by rw [List.length_range]; omega)] at h
    cases h
omit [TbT] in
theorem upTo_get0 {n i : Nat} {d : D} (h : (upTo 0 n)[i]? = some d) : i < n ∧ d = .int (i : Int) := by
  have := upTo_get h
  rwa [Int.zero_add] at this
omit [TbT] in
theorem upTo_length {lo : Int} {n : Nat} : (upTo lo n).length = n := by unfold upTo; rw [List.length_map, List.length_range]
theorem wk_range {K : PySem.W.Frag} {G : Hp} {lo : Int} {n : Nat} : Wk K G (Itr lo n) (upTo lo n) := fun i G' H e1 e2 => ⟨fun d hd => by
  obtain ⟨hi, rfl⟩ := upTo_get hd
  exact ⟨hi, fun x H' ⟨e, hx⟩ => by subst e hx; exact ⟨G', .refl e2, .int _⟩⟩, fun hle => by rw [upTo_length] at hle; exact hle⟩
theorem ei_range {cpos : Pos} {n : Int} (hm : X.mg "range" = none) (h : EA X ex [a] ρ [.int n]) (hn : -(2 ^ 62) ≤ n ∧ n < 2 ^ 62) (hg : Gl X "range" := by rfl) (hst : starEach [a] X.env = [(false, eval a X.env)] := by rfl) : EI X ex tg (.Call (.Name "range" p) [a] [] cpos) ρ (upTo 0 n.toNat) := ⟨fun E σ G H S =>
  of_pi (pi_range1 hg hm sem_pa hst) (tSemA_mono (h E σ G H S) fun vs H1 ⟨G1, g, r⟩ => by
    obtain ⟨v, rfl, r1⟩ := r.of1
    cases r1
    exact ⟨n, rfl, hn.1, hn.2, G1, g, wk_range⟩)⟩
theorem ei_range2 {cpos : Pos} {lo n : Int} (hm : X.mg "range" = none) (h : EA X ex [a, b] ρ [.int lo, .int n]) (hn : -(2 ^ 62) ≤ lo ∧ lo < 2 ^ 62 ∧ -(2 ^ 62) ≤ n ∧ n < 2 ^ 62) (hg : Gl X "range" := by rfl) (hst : starEach [a, b] X.env = [(false, eval a X.env), (false, eval b X.env)] := by rfl) (hst2 : starEach [b] X.env = [(false, eval b X.env)] := by rfl) : EI X ex tg (.Call (.Name "range" p) [a, b] [] cpos) ρ (upTo lo (n - lo).toNat) := ⟨fun E σ G H S =>
  of_pi (pi_range2 hg hm sem_pa hst hst2) (tSemA_mono (h E σ G H S) fun vs H1 ⟨G1, g, r⟩ => by
    obtain ⟨v, w, rfl, r1, r2⟩ := r.of2
    cases r1; cases r2
    exact ⟨lo, n, rfl, hn, G1, g, wk_range⟩)⟩

/-! ### [elt for target in iter if test] -/
/-- the comprehension's own context -/
abbrev Blk (X : Cx) (s : Shared) (H : Hp) (scope : Scope) (cl : List (Str × Addr)) (C : Addr) (fp : List Addr) : Cx := X.blk s H scope (compEnvC scope cl C X.env) fp
/-- what a comprehension gives: f is none where the test fails -/
def pick (f : Nat → D → Option D) : Nat → List D → List D
  | _, [] => []
  | k, d :: r => (match f k d with | some y => [y] | none => []) ++ pick f (k + 1) r
omit [TbT] in
theorem pick_snoc (f : Nat → D → Option D) : ∀ (ds : List D) (k : Nat) (d : D), pick f k (ds ++ [d]) = pick f k ds ++ (match f (k + ds.length) d with | some y => [y] | none => [])
  | [], k, d => by simp [pick]
  | e :: r, k, d => by
    rw [List.cons_append]
    show _ ++ pick f (k + 1) (r ++ [d]) = (_ ++ pick f (k + 1) r) ++ _
    rw [pick_snoc f r (k + 1) d, List.append_assoc, List.length_cons, show k + 1 + r.length = k + (r.length + 1) by omega]
omit [TbT] in
theorem take_snoc {α : Type} {l : List α} {i : Nat} {x : α} (h : l[i]? = some x) : l.take (i + 1) = l.take i ++ [x] := by
  rw [List.take_add_one, h]; rfl
omit [TbT] in
theorem pick_all {f : Nat → D → D} : ∀ (ds : List D) (k : Nat), pick (fun k d => some (f k d)) k ds = ds.mapIdx fun j d => f (k + j) d
  | [], _ => rfl
  | d :: r, k => by
    show [f k d] ++ pick _ (k + 1) r = _
    rw [pick_all r (k + 1), List.mapIdx_cons]
    simp [Nat.add_assoc, Nat.add_comm 1]
omit [TbT] in
theorem pick_len {f : Nat → D → Option D} : ∀ (ds : List D) (k : Nat), (pick f k ds).length ≤ ds.length
  | [], _ => Nat.le_refl _
  | d :: r, k => by
    show (_ ++ pick f (k + 1) r).length ≤ r.length + 1
    rw [List.length_append]
    have := pick_len (f := f) r (k + 1)
    split <;> simp <;> omega
/-- a clause's tests -/
def tSemTs (X : Cx) (ifs : List Expr) : TT := fun σ H Q => ∀ (pins : List (Addr × Obj)) (s : Shared), Inv X pins σ H s →
  wpAny (model X.prog X.w) X.A (forIn ifs true fun c r => if r = true then do let ok ← isTrue c X.env (eval c X.env); pure (ForInStep.yield ok) else pure (ForInStep.yield r)) (TP X pins σ Q) X.xe s
omit [TbT] in
theorem sem_pts {ifs : List Expr} : PTs X ifs (tSemTs X ifs) := ⟨fun pins s _ _ _ I h => h pins s I⟩
structure ETs (X : Cx) (ex : Exs) (ifs : List Expr) (ρ : List O) (b : Bool) : Prop where
  run : ∀ (E : Hp × Hp) (σ : L2.St) (G H : Hp), SOx X ex E ρ σ G H → tSemTs X ifs σ H fun c H' => c = b ∧ ∃ G', Grow G H G' H'
instance {X : Cx} {ex : Exs} {ifs : List Expr} {ρ : List O} {b : Bool} : CoeFun (ETs X ex ifs ρ b) (fun _ => ∀ (E : Hp × Hp) (σ : L2.St) (G H : Hp), SOx X ex E ρ σ G H → tSemTs X ifs σ H fun c H' => c = b ∧ ∃ G', Grow G H G' H') := ⟨ETs.run⟩

theorem ets_nil : ETs X ex [] ρ true := ⟨fun E σ G H S pins s I => pts_nil.run pins s σ H _ I ⟨rfl, G, .refl S.gh⟩⟩
theorem ets_one {c : Expr} {t : Bool} (h : ET X ex c ρ t) : ETs X ex [c] ρ t := ⟨fun E σ G H S pins s I => (pts_one sem_pt).run pins s σ H _ I (h E σ G H S)⟩
omit [TbT] in
theorem tSemTs_mono {ifs : List Expr} {σ : L2.St} {H : Hp} {Q Q' : Bool → Hp → Prop} (h : tSemTs X ifs σ H Q) (k : ∀ v H', Q v H' → Q' v H') : tSemTs X ifs σ H Q' :=
  fun pins s I => thn (h pins s I) fun _ _ ⟨H', I', q⟩ => ⟨H', I', k _ H' q⟩
/-- slots of the block's names emptied -/
def wipeO (ρ : List O) : List Nat → List O
  | [] => ρ
  | v :: vs => (wipeO ρ vs).set v .un
theorem SOk.unset {K : PySem.W.Frag} {E : Hp × Hp} {σ : L2.St} {G H : Hp} (S : SOk K E ρ σ G H) (i : Nat) : SOk K E (ρ.set i .un) (σ.set i none) G H := S.gone i
theorem SOk.wipe {K : PySem.W.Frag} {E : Hp × Hp} {σ : L2.St} {G H : Hp} (S : SOk K E ρ σ G H) : ∀ vs : List Nat, SOk K E (wipeO ρ vs) (L2.wipe σ vs) G H
  | [] => S
  | v :: vs => (SOk.wipe S vs).unset v
omit [TbT] in
theorem wipe_set {σ : L2.St} {v : Option V} : ∀ {vs : List Nat} {i : Nat}, i ∈ vs → L2.wipe (σ.set i v) vs = L2.wipe σ vs
  | w :: vs, i, h => by
    show (L2.wipe (σ.set i v) vs).set w none = (L2.wipe σ vs).set w none
    by_cases hi : i ∈ vs
    · rw [wipe_set hi]
    · have e : i = w := by
        rcases List.mem_cons.mp h with h | h
        · exact h
        · exact absurd h hi
      subst e
      have : ∀ (us : List Nat) (τ : L2.St), (L2.wipe (τ.set i v) us).set i none = (L2.wipe τ us).set i none := fun us => by
        induction us with
        | nil => intro τ; show (τ.set i v).set i none = τ.set i none; rw [List.set_set]
        | cons u us ih =>
          intro τ
          show ((L2.wipe (τ.set i v) us).set u none).set i none = ((L2.wipe τ us).set u none).set i none
          by_cases hu : u = i
          · subst hu
            rw [List.set_set, List.set_set, ih τ]
          · rw [List.set_comm _ _ hu, List.set_comm _ _ hu, ih τ]
      exact this vs σ
/-- the block's target takes d; of the slots only the block's change -/
structure ATb (X : Cx) (vs : List Nat) (tg : Expr) (d : D) (ρ ρ' : List O) : Prop where
  run : ∀ (E : Hp × Hp) (σ : L2.St) (G H : Hp) (v : V), SOk X.K E ρ σ G H → Rep X.K G v d → tSemG X tg v σ H fun σ' H' => (H' = H ∧ ∀ G1 H1, Ex G G1 → SOk X.K E ρ σ G1 H1 → SOk X.K E ρ' σ' G1 H1) ∧ L2.wipe σ' vs = L2.wipe σ vs
instance {X : Cx} {vs : List Nat} {tg : Expr} {d : D} {ρ ρ' : List O} : CoeFun (ATb X vs tg d ρ ρ') (fun _ => ∀ (E : Hp × Hp) (σ : L2.St) (G H : Hp) (v : V), SOk X.K E ρ σ G H → Rep X.K G v d → tSemG X tg v σ H fun σ' H' => (H' = H ∧ ∀ G1 H1, Ex G G1 → SOk X.K E ρ σ G1 H1 → SOk X.K E ρ' σ' G1 H1) ∧ L2.wipe σ' vs = L2.wipe σ vs) := ⟨ATb.run⟩

structure ATbs (X : Cx) (vs : List Nat) (ts : List Expr) (ds : List D) (ρ ρ' : List O) : Prop where
  run : ∀ (E : Hp × Hp) (σ : L2.St) (G H : Hp) (ws : List V), SOk X.K E ρ σ G H → RepL X.K G ws ds → tSemGs X ts ws σ H fun σ' H' => (H' = H ∧ ∀ G1 H1, Ex G G1 → SOk X.K E ρ σ G1 H1 → SOk X.K E ρ' σ' G1 H1) ∧ L2.wipe σ' vs = L2.wipe σ vs
instance {X : Cx} {vs : List Nat} {ts : List Expr} {ds : List D} {ρ ρ' : List O} : CoeFun (ATbs X vs ts ds ρ ρ') (fun _ => ∀ (E : Hp × Hp) (σ : L2.St) (G H : Hp) (ws : List V), SOk X.K E ρ σ G H → RepL X.K G ws ds → tSemGs X ts ws σ H fun σ' H' => (H' = H ∧ ∀ G1 H1, Ex G G1 → SOk X.K E ρ σ G1 H1 → SOk X.K E ρ' σ' G1 H1) ∧ L2.wipe σ' vs = L2.wipe σ vs) := ⟨ATbs.run⟩

theorem ab_name {vs : List Nat} (i : Nat) (hv : i ∈ vs := by decide) (hN : X.N.Nodup) (hi : X.N[i]? = some x := by rfl) (hx : Loc X.env.scope x := by first | exact Or.inl rfl | exact Or.inr rfl) (hf : X.fn x = true ∨ X.env.scope.names.lookup x = some .local := by first | exact .inl rfl | exact .inr rfl) : ATb X vs (.Name x pos) d ρ (ρ.set i (.va d)) := ⟨fun E σ G H v S r =>
  of_pg (pg_name hN hi hx hf) ⟨⟨rfl, fun G1 H1 e S1 => S1.set i (o := .va d) (Rep.mono e r) fun h => absurd h Bool.false_ne_true⟩, wipe_set hv⟩⟩
theorem abs_nil {vs : List Nat} : ATbs X vs [] [] ρ ρ := ⟨fun E σ G H ws S r => by
  cases r
  exact of_pgs pgs_nil ⟨rfl, ⟨rfl, fun _ _ _ S1 => S1⟩, rfl⟩⟩
theorem abs_cons {vs : List Nat} {tg : Expr} {ts : List Expr} {ρ1 ρ2 : List O} (h : ATb X vs tg d ρ ρ1) (t : ATbs X vs ts ds ρ1 ρ2) (hs : (assignEach (tg :: ts) X.env).map (·.2) = assign tg X.env :: (assignEach ts X.env).map (·.2) := by rfl) : ATbs X vs (tg :: ts) (d :: ds) ρ ρ2 := ⟨fun E σ G H ws S r => by
  cases r with
  | cons r1 r2 =>
    refine of_pgs (pgs_cons sem_pg sem_pgs hs) ⟨_, _, rfl, tSemG_mono (h E σ G H _ S r1) fun σ' H' ⟨⟨e, S'⟩, q⟩ => ?_⟩
    subst e
    exact tSemGs_mono (t E σ' G _ _ (S' _ _ (Ex.refl _) S) r2) fun σ2 H2 ⟨⟨a, S2⟩, q2⟩ => ⟨⟨a, fun G1 H1 e1 S1 => S2 G1 H1 e1 (S' G1 H1 e1 S1)⟩, q2.trans q⟩⟩
theorem ab_tup {vs : List Nat} {ts : List Expr} {k : Nat} {ρ1 : List O} (h : ATbs X vs ts ds ρ ρ1) (hc : X.calm = true := by rfl) (hn : (assignEach ts X.env).length = ds.length := by rfl) (hst : (assignEach ts X.env).findIdx? (·.1) = none := by rfl) : ATb X vs (.Tuple ts k pos) (.tup ds) ρ ρ1 := ⟨fun E σ G H v S r => by
  cases r with
  | tup h1 r1 =>
    exact of_pg (pg_tup hc sem_pgs hn hst) ⟨_, _, rfl, S.gh.t h1, by rw [r1.length], h E σ G H _ S r1⟩⟩
/-- a turn of the comprehension -/
def LcTurn (X : Cx) (scope : Scope) (vs : List Nat) (tg elt : Expr) (ifs : List Expr) (ρ : List O) (ds : List D) (f : Nat → D → Option D) : Prop := ∀ (k : Nat) (d : D), ds[k]? = some d → ∃ (ρ2 : List O) (t : Bool),
  (∀ s H cl C fp, ATb (Blk X s H scope cl C fp) vs tg d (wipeO ρ vs) ρ2) ∧ (∀ s H cl C fp, ETs (Blk X s H scope cl C fp) noX ifs ρ2 t) ∧
  (t = true → ∃ y, f k d = some y ∧ ∀ s H cl C fp, EE (Blk X s H scope cl C fp) noX elt ρ2 y) ∧ (t = false → f k d = none)
theorem lc_run {vs : List Nat} {scope : Scope} {elt tg iter : Expr} {ifs : List Expr} {f : Nat → D → Option D} (hI : EI X ex tg iter ρ ds) (hl : ds.length ≤ sizeLine) (ht : LcTurn X scope vs tg elt ifs ρ ds f) {E : Hp × Hp} {σ : L2.St} {G H : Hp} (S : SOx X ex E ρ σ G H) {Q : VK}
    (q : ∀ v G' H', Grow G H G' H' → OOk X.K H G' H' (.ml (pick f 0 ds)) v → Q v H') :
    tLc (tSemI X tg iter) (fun v σ H Q => ∀ s H0 cl C fp, tSemG (Blk X s H0 scope cl C fp) tg v σ H Q) (fun σ H Q => ∀ s H0 cl C fp, tSemTs (Blk X s H0 scope cl C fp) ifs σ H Q) (fun σ H Q => ∀ s H0 cl C fp, tSem (Blk X s H0 scope cl C fp) elt σ H Q) vs σ H Q := by
  refine tSemI_mono (hI E σ G H S) fun J H1 ⟨G1, g1, wk⟩ => fun DD hD => ?_
  refine ⟨fun i m H' => m = ds.length - i ∧ i ≤ ds.length ∧ ∃ G2 ys, Grow G1 H1 G2 H' ∧ H' DD = some (.lst ys) ∧ G2 DD = none ∧ RepL X.K G2 ys (pick f 0 (ds.take i)), ⟨ds.length, by simp, Nat.zero_le _, G1, [], Grow.newH g1.gh hD, upd_same, g1.gh.back hD, .nil⟩, ?_⟩
  rintro i m H' ⟨rfl, hi, G2, ys, g2, hH, hG, r⟩
  have w := wk i G2 H' g2.g g2.gh
  by_cases hlt : i < ds.length
  · obtain ⟨go, yl⟩ := w.1 ds[i] (List.getElem?_eq_getElem hlt)
    refine .inr ⟨go, fun H'' => i < ds.length ∧ ∃ G2 ys, Grow G1 H1 G2 H'' ∧ H'' DD = some (.lst ys) ∧ G2 DD = none ∧ RepL X.K G2 ys (pick f 0 (ds.take (i + 1))), fun H'' ⟨_, z⟩ => ⟨ds.length - (i + 1), by omega, rfl, hlt, z⟩, fun x H3 hy => ?_⟩
    obtain ⟨G3, g3, rx⟩ := yl x H3 hy
    obtain ⟨ρ2, t, h1, h2, h3, h4⟩ := ht i _ (List.getElem?_eq_getElem hlt)
    have gg := g2.trans g3
    have S3 : SOk X.K E (wipeO ρ vs) (L2.wipe σ vs) G3 H3 := (S.toSOk.wipe vs).grow (g1.trans gg)
    have keepD : ∀ {G4 H4 : Hp}, Grow G3 H3 G4 H4 → H4 DD = some (.lst ys) ∧ G4 DD = none := fun {G4 H4} g => by
      refine ⟨g.h.app _ _ (g3.h.app _ _ hH), ?_⟩
      cases z : G4 DD with
      | none => rfl
      | some u =>
        have e3 : G3 DD = none := by
          cases z3 : G3 DD with
          | none => rfl
          | some u3 => exact absurd (g3.fr DD hG (by rw [z3]; simp)) (by rw [hH]; simp)
        exact absurd (g.fr DD e3 (by rw [z]; simp)) (by rw [g3.h.app _ _ hH]; simp)
    have pk := pick_snoc f (ds.take i) 0 ds[i]
    rw [← take_snoc (List.getElem?_eq_getElem hlt), Nat.zero_add, List.length_take, Nat.min_eq_left hi] at pk
    intro s0 H0 cl C fp
    refine tSemG_mono (h1 s0 H0 cl C fp E _ G3 H3 x S3 rx) fun σ2 H2 ⟨⟨e, S4'⟩, wq⟩ => ?_
    subst e
    have S4 := S4' _ _ (Ex.refl _) S3
    refine ⟨wq.trans ?_, fun s0 H0 cl C fp => tSemTs_mono (h2 s0 H0 cl C fp E σ2 G3 _ (SOk.nox (X := Blk X s0 H0 scope cl C fp) S4)) fun b H4 ⟨eb, G4, g4⟩ => ?_⟩
    · have : ∀ us : List Nat, L2.wipe (L2.wipe σ us) us = L2.wipe σ us := fun us => by
        have key : ∀ (us ws : List Nat), (∀ u ∈ us, u ∈ ws) → L2.wipe (L2.wipe σ us) ws = L2.wipe σ ws := fun us => by
          induction us with
          | nil => intro ws _; rfl
          | cons u us ih =>
            intro ws hm
            show L2.wipe ((L2.wipe σ us).set u none) ws = _
            rw [wipe_set (hm u List.mem_cons_self), ih ws fun u hu => hm u (List.mem_cons_of_mem _ hu)]
        exact key us us fun _ h => h
      exact this vs
    subst eb
    cases b with
    | true =>
      rw [if_pos rfl]
      obtain ⟨y, hf, hy⟩ := h3 rfl
      intro s0 H0 cl C fp
      refine tSem_mono (hy s0 H0 cl C fp E σ2 G4 H4 (SOk.nox (X := Blk X s0 H0 scope cl C fp) (S4.grow g4))) fun v H5 ⟨G5, g5, rv⟩ => ?_
      have g45 := g4.trans g5
      obtain ⟨k1, k2⟩ := keepD g45
      have gt := gg.trans g45
      refine ⟨ys, k1, ?_, hlt, G5, ys ++ [v], ?_, upd_same, k2, ?_⟩
      · rw [r.length]
        have := pick_len (f := f) (ds.take i) 0
        rw [List.length_take] at this
        omega
      · exact ⟨gt.g, gt.h.mut hD, gt.gh.mut k2, gt.fr, fun t => tb_lst (gt.tb t) k1⟩
      · rw [pk, hf]
        exact (r.mono (g3.trans g45).g).append (.one rv)
    | false =>
      rw [if_neg Bool.false_ne_true]
      obtain ⟨k1, k2⟩ := keepD g4
      refine ⟨hlt, G4, ys, gg.trans g4, k1, k2, ?_⟩
      rw [pk, h4 rfl, List.append_nil]
      exact r.mono (g3.trans g4).g
  · have e : i = ds.length := by omega
    subst e
    rw [List.take_length] at r
    refine .inl ⟨w.2 (Nat.le_refl _), q _ G2 H' (g1.trans g2) ⟨DD, ys, rfl, hH, hG, ?_, r⟩⟩
    exact g1.h.back hD
/-- [elt for target in iter if test] as a value -/
theorem eo_lc {scope : Scope} {elt tg iter : Expr} {ifs : List Expr} {f : Nat → D → Option D} (own : List (Str × Nat)) (hI : EI X ex tg iter ρ ds) (hN : X.N.Nodup) (ok : BlkOk X.N X.env.scope scope own) (hl : ds.length ≤ sizeLine) (ht : LcTurn X scope (own.map (·.2)) tg elt ifs ρ ds f) (hc : X.calm = true := by rfl) (hs : ∀ x, foldedSetIterable iter X.env x = pure x := by intro _; rfl) :
    EO X ex (.ListComp elt [⟨tg, iter, ifs, 0⟩] scope pos) ρ (fun o => o = .ml (pick f 0 ds)) := ⟨fun E σ G H S =>
  of_pe (pe_lc hc hN sem_pi ok (fun s H C cl fp => ⟨fun pins s1 σ H v u Q I r h => h s _ cl C fp pins s1 u I r⟩) (fun s H C cl fp => ⟨fun pins s1 σ H Q I h => h s _ cl C fp pins s1 I⟩) (fun s H C cl fp => ⟨fun pins s1 σ H Q I h => h s _ cl C fp pins s1 I⟩) hs)
    (lc_run hI hl ht S fun v G' H' g o => ⟨_, G', g, o, rfl⟩)⟩
/-- x = [elt for ..] on one line -/
theorem ws_setLc (i : Nat) {W : Eds} {y : Str} {py spos : Pos} {scope : Scope} {elt tg iter : Expr} {ifs : List Expr} {f : Nat → D → Option D} (own : List (Str × Nat)) (hI : EI X ex tg iter ρ ds) (hN : X.N.Nodup) (ok : BlkOk X.N X.env.scope scope own) (hl : ds.length ≤ sizeLine) (ht : LcTurn X scope (own.map (·.2)) tg elt ifs ρ ds f)
    (k : W.nx (ρ.set i (.ml (pick f 0 ds)))) (hc : X.calm = true := by rfl) (hy : X.N[i]? = some y := by rfl) (hyl : X.env.scope.names.lookup y = some .local := by rfl) (hsw : swapsWith (.ListComp elt [⟨tg, iter, ifs, 0⟩] scope pos) (some (.Name y py)) spos.line X.env = pure true := by exact sw_true rfl rfl rfl rfl) (hs : ∀ x, foldedSetIterable iter X.env x = pure x := by intro _; rfl) :
    WS X ex (.Assign [.Name y py] (.ListComp elt [⟨tg, iter, ifs, 0⟩] scope pos) spos) ρ W := ⟨fun E σ G H S =>
  of_ps (ps_setLc hc hN hy hyl hsw sem_pi ok (fun s H C cl fp => ⟨fun pins s1 σ H v u Q I r h => h s _ cl C fp pins s1 u I r⟩) (fun s H C cl fp => ⟨fun pins s1 σ H Q I h => h s _ cl C fp pins s1 I⟩) (fun s H C cl fp => ⟨fun pins s1 σ H Q I h => h s _ cl C fp pins s1 I⟩) hs)
    (lc_run hI hl ht S fun v G' H' g o => ⟨_, G', set_own S.toSOk g o i, g.g, k⟩)⟩
end
omit [TbT] in
theorem cat_ok {m n : Nat} (h : Nat.ble (m + n) 64 = true) : m + n ≤ sizeLine := Nat.le_trans (Nat.le_of_ble_eq_true h) (by decide)
omit [TbT] in
theorem len_ok3 {n : Nat} (h : n ≤ 1000000) : n ≤ sizeLine := Nat.le_trans h (by decide)
omit [TbT] in
theorem in_pm (i : Int) : ([D.int 1, D.int (-1)].any fun y => D.eqv y (.int i)) = decide (i = 1 ∨ i = -1) := by
  have := any_ints (ns := [1, -1]) (i := i)
  rw [show ([1, -1] : List Int).map D.int = [D.int 1, D.int (-1)] from rfl] at this
  rw [this, Bool.eq_iff_iff]
  simp
omit [TbT] in
/-- a slice of ints -/
theorem cut_ints {ns : List Int} (k : Nat) {i : Int} (e : i = (k : Int)) (h : k ≤ ns.length) : cutD (ns.map .int) (some i) none = (ns.drop k).map .int := by
  subst e
  unfold cutD
  rw [HT.sIx_nat, HT.sIx_none, List.length_map, Nat.min_eq_left h, ← List.map_drop, List.take_of_length_le (by rw [List.length_map, List.length_drop]; exact Nat.le_refl _)]
omit [TbT] in
theorem atI_at {ds : List D} {d : D} (k : Nat) {i : Int} (e : i = (k : Int)) (h : ds[k]? = some d) : atI ds i = some d := by
  subst e; exact atI_nat h
omit [TbT] in
theorem cut_lo {ds : List D} (k : Nat) {i : Int} (e : i = (k : Int)) (h : k ≤ ds.length) : cutD ds none (some i) = ds.take k := by
  subst e
  unfold cutD
  rw [HT.sIx_nat, HT.sIx_none, List.drop_zero, Nat.min_eq_left h, Nat.sub_zero]
omit [TbT] in
theorem getD_drop {ns : List Int} {j k : Nat} : (ns.drop j).getD k 0 = ns.getD (j + k) 0 := by simp [List.getD]
end TG
/-! sorted(..) of alike data. -/
namespace TG
open PySem PySem.Spec PyProof.Rows L2
variable [TbT]
/-- the order of data -/
def leD (a b : D) : Bool := PySem.W.dataLe false D.py a b
/-- sorted -/
def srt (ds : List D) : List D := ds.mergeSort leD
omit [TbT] in
theorem srt_len {ds : List D} : (srt ds).length = ds.length := List.length_mergeSort ds
def Rows (ds : List D) : Prop := PySem.W.AllAlike (ds.map D.py) ∧ PySem.W.Sortable (ds.map D.py)
omit [TbT] in
theorem rows_map {α : Type} {f : α → D} {l : List α} (hal : ∀ x y, PySem.W.alike (f x).py (f y).py = true) (ht : ∀ x, ∃ a r, (f x).py = .tuple (a :: r)) : Rows (l.map f) := by
  refine ⟨fun d hd e he => ?_, .inl fun d hd => ?_⟩
  · rw [List.map_map] at hd he
    obtain ⟨x, _, rfl⟩ := List.mem_map.mp hd
    obtain ⟨y, _, rfl⟩ := List.mem_map.mp he
    exact hal x y
  · rw [List.map_map] at hd
    obtain ⟨x, _, rfl⟩ := List.mem_map.mp hd
    exact ht x
omit [TbT] in
theorem rows_mapI {α : Type} {f : α → D} {l : List α} (hal : ∀ x, ∃ i, f x = .int i) : Rows (l.map f) := by
  refine ⟨fun d hd e he => ?_, .inr fun d hd => ?_⟩
  · rw [List.map_map] at hd he
    obtain ⟨x, _, rfl⟩ := List.mem_map.mp hd
    obtain ⟨y, _, rfl⟩ := List.mem_map.mp he
    obtain ⟨i, hi⟩ := hal x
    obtain ⟨j, hj⟩ := hal y
    show PySem.W.alike (f x).py (f y).py = true
    rw [hi, hj]; rfl
  · rw [List.map_map] at hd
    obtain ⟨x, _, rfl⟩ := List.mem_map.mp hd
    obtain ⟨i, hi⟩ := hal x
    have e : (D.py ∘ f) x = .int i := congrArg D.py hi
    rw [e]
    exact ⟨fun z => (by cases z), fun xs z => (by cases z)⟩
omit [TbT] in
/-- what neither is less of is equal -/
theorem leD_anti {d e : D} (hal : PySem.W.alike d.py e.py = true) (h1 : leD d e = true) (h2 : leD e d = true) : D.eqv d e = true := by
  have k1 : PySem.W.dataLt e.py d.py = false := by
    have : (!PySem.W.dataLt e.py d.py) = true := h1
    simpa using this
  have k2 : PySem.W.dataLt d.py e.py = false := by
    have : (!PySem.W.dataLt d.py e.py) = true := h2
    simpa using this
  have q : PySem.W.keyToks d.py = PySem.W.keyToks e.py := (listOrd PyProof.Rows.itemOrd).total _ _ k2 k1
  cases hq : D.eqv d e with
  | true => rfl
  | false =>
    have t := (PySem.W.toks_eqv d.py e.py hal).2 hq [.inl 0] [.inl 1]
    have z : PyProof.Rows.lexLt PyProof.Rows.itemOrd (PySem.W.keyToks d.py) (PySem.W.keyToks e.py) = false := k2
    rw [z, q, PySem.W.lex_pre] at t
    exact absurd t (by decide)
omit [TbT] in
theorem srt_pairwise (ds : List D) : (srt ds).Pairwise (fun a b => leD a b = true) := PySem.W.sort_pairwise (PySem.W.sortLe_total (listOrd PyProof.Rows.itemOrd) false fun d : D => PySem.W.keyToks d.py) ds
omit [TbT] in
theorem srt_perm {α : Type} {f : α → D} {l m : List α} (h : l.Perm m) (hal : ∀ x y, PySem.W.alike (f x).py (f y).py = true) (inj : ∀ x y, D.eqv (f x) (f y) = true → x = y) : srt (l.map f) = srt (m.map f) := by
  refine List.Perm.eq_of_pairwise (le := fun a b => leD a b = true) (fun a b ha hb h1 h2 => ?_) (srt_pairwise _) (srt_pairwise _) (((List.mergeSort_perm _ _).trans (h.map f)).trans (List.mergeSort_perm _ _).symm)
  obtain ⟨x, _, rfl⟩ := List.mem_map.mp (List.mem_mergeSort.mp ha)
  obtain ⟨y, _, rfl⟩ := List.mem_map.mp (List.mem_mergeSort.mp hb)
  rw [inj x y (leD_anti (hal x y) h1 h2)]
omit [TbT] in
/-- sorted data are the data of something -/
theorem srt_map {α : Type} {f : α → D} (l : List α) : srt (l.map f) = (l.mergeSort fun x y => leD (f x) (f y)).map f := (List.map_mergeSort (r := fun x y => leD (f x) (f y)) (s := leD) (f := f) (l := l) fun _ _ _ _ => rfl).symm
omit [TbT] in
/-- values that stand for data stand for a list's items -/
theorem each_repl {K : PySem.W.Frag} {G : Hp} : ∀ {us : List Value} {ds : List D}, PySem.W.EachIs (fun (u : Value) (d : D) => ∃ x, RelV x u ∧ Rep K G x d) us ds → ∃ xs, Vals xs us ∧ RepL K G xs ds
  | _, _, .nil => ⟨[], .nil, .nil⟩
  | _, _, .cons ⟨x, r, h⟩ t => by
    obtain ⟨xs, r2, h2⟩ := each_repl t
    exact ⟨x :: xs, .cons r r2, .cons h h2⟩
omit [TbT] in
theorem repl_each {K : PySem.W.Frag} {G : Hp} : ∀ {xs : List V} {us : List Value} {ds : List D}, Vals xs us → RepL K G xs ds → PySem.W.EachIs (fun (u : Value) (d : D) => ∃ x, RelV x u ∧ Rep K G x d) us ds
  | _, _, _, .nil, .nil => .nil
  | _, _, _, .cons r t, .cons h k => .cons ⟨_, r, h⟩ (repl_each t k)
omit [TbT] in
theorem repl_reads {X : Cx} {pins : List (Addr × Obj)} {σ : L2.St} {G H : Hp} {s : Shared} (I : Inv X pins σ H s) (e : Ex G H) : ∀ {xs : List V} {us : List Value} {ds : List D}, Vals xs us → RepL X.K G xs ds → D.plains ds = true → PySem.W.EachIs (fun (u : Value) (d : D) => ∃ as, Reads s.heap u d.py as) us ds
  | _, _, [], .nil, .nil, _ => .nil
  | _, _, d :: ds, .cons r t, .cons h k, p => by
    have p' : (D.plain d && D.plains ds) = true := p
    rw [Bool.and_eq_true] at p'
    exact .cons (Dp.reads I _ _ _ (h.dp e p'.1) r) (repl_reads I e t k p'.2)
def rSortedL (K : PySem.W.Frag) (A : Around) : List V → Hp → VK → Prop := fun vs H Q => ∃ (a : Addr) (xs : List V) (ds : List D) (G : Hp), vs = [V.ref a] ∧ SqL K H a xs ∧ Ex G H ∧ RepL K G xs ds ∧ D.plains ds = true ∧ Rows ds ∧ (∀ d ∈ ds, A.units + 2 + d.py.depth < cLine) ∧
  ∀ ys p, RepL K G ys (srt ds) → H p = none → Q (.ref p) (upd H p (.lst ys))
omit [TbT] in
theorem cr_sortedL {X : Cx} : CallR X (.builtin "sorted") (rSortedL X.K X.A) := by
  intro pins s σ H vs us Q I r h
  obtain ⟨a, xs, ds, G, rfl, hs, ex, rl, hp, hr, hu, q⟩ := h
  obtain ⟨its, rv, hl, hz⟩ := I.list hs
  obtain ⟨u, rfl, ru⟩ := L2.vals1 r
  obtain rfl : u = Value.ref a := ru
  have hlen : ds.length ≤ sizeLine := by rw [← rl.length]; exact hz
  refine PySem.W.sorted_data (bs := ds) (enc := D.py) hl.isList (repl_each rv rl) (repl_reads I ex rv rl hp) hr.1 hr.2 hlen hu fun out ho he => ?_
  obtain ⟨ys, h1, h2⟩ := each_repl he
  obtain ⟨n, hn⟩ := sortedAll_at s.heap its out.toArray
  refine ⟨.ref (s.heap.objs.size + 1), upd H (s.heap.objs.size + 1) (.lst ys), I.laid (t' := s.toks) (fun b o e => sortedAll_old e) (Nat.le_succ _) ⟨?_, out, n, h1, hn⟩, rfl, q _ _ h2 (I.hok.fresh (Nat.le_succ _))⟩
  rw [h1.length, ho]; exact hlen
section
variable {X : Cx} {ex : Exs} {ρ : List O} {e : Expr} {ds : List D} {d : D} {pos p : Pos}
/-- sorted(e), e a list -/
theorem eo_sorted {k : Nat} (hr : Room k X.A) (hg : Gl X "sorted") (hm : X.mg "sorted" = none) (ha : EA X ex [e] ρ [.lst ds]) (hp : D.plains ds = true) (hrow : Rows ds) (hd : D.depths ds ≤ 60) (he : starEach [e] X.env = (false, eval e X.env) :: starEach [] X.env := by rfl) (hpl : (backTo pos (starEach [] X.env)).any (·.1) = false := by rfl) : EO X ex (.Call (.Name "sorted" p) [e] [] pos) ρ (fun o => o = .ml (srt ds)) :=
  eo_blt cr_sortedL (fun G H vs Q e r q => by
    obtain ⟨v, rfl, r1⟩ := r.of1
    cases r1 with
    | lst h r2 =>
      refine ⟨_, _, ds, G, rfl, e.l h, e, r2, hp, hrow, fun d hd' => ?_, fun ys p hy hn => ?_⟩
      · have h1 := D.depth_py d
        obtain ⟨i, hi⟩ := List.mem_iff_getElem?.mp hd'
        have h2 := depths_get hi
        have := hr.units
        omega
      · have g2 := Grow.newH (u := .lst ys) e hn
        exact q _ (.ml (srt ds)) G _ g2 ⟨p, ys, rfl, upd_same, e.back hn, hn, hy⟩ rfl) hg hm (by decide +kernel) ha (by decide) (by decide) he hpl
end
section
variable {X : Cx} {ex : Exs} {ρ : List O} {e : Expr} {W : Eds} {pos : Pos}
/-- a, b = e: e a tuple told by a relation -/
theorem ws_unpackP {P : O → Prop} {ts : List Expr} {k : Nat} {pt : Pos} (h : EO X ex e ρ P) (hk : ∀ o, P o → ∃ d ρ1, o = .va d ∧ ATg X (.Tuple ts k pt) d ρ ρ1 ∧ W.nx ρ1) (hs : swapsWithSole [.Tuple ts k pt] e pos.line X.env = pure false := by rfl) (hw : swappedStores [.Tuple ts k pt] e X.env = pure none := by rfl)
    (h1 : (assignEach [.Tuple ts k pt] X.env).map (·.2) = [assign (.Tuple ts k pt) X.env] := by rfl) : WS X ex (.Assign [.Tuple ts k pt] e pos) ρ W := ⟨fun E σ G H S =>
  of_ps (ps_asg sem_pe sem_pg hs hw h1) (tSem_mono (h E σ G H S) fun v H1 ⟨o, G1, g, r, p⟩ => by
    obtain ⟨d, ρ1, rfl, ht, n⟩ := hk o p
    exact tSemG_mono (ht E σ G1 H1 v (S.grow g) r) fun σ' H' ⟨e, S'⟩ => by
      subst e
      exact ⟨ρ1, G1, S', g.g, n⟩)⟩
end
/-! ### lists that grow -/
section
variable {α β γ : Type}
omit [TbT] in
theorem getD_mem {l : List α} {k : Nat} {x : α} (h : k < l.length) : l.getD k x ∈ l := by
  have : l.getD k x = l[k] := by simp [List.getD, h]
  rw [this]; exact List.getElem_mem h
omit [TbT] in
theorem take_getD {l : List α} {k : Nat} (x : α) (h : k < l.length) : l.take (k + 1) = l.take k ++ [l.getD k x] := by
  refine take_snoc ?_
  simp [List.getD, h]
omit [TbT] in
theorem map_getK {f : α → D} {l : List α} {k : Nat} {d : D} (x : α) (h : (l.map f)[k]? = some d) : k < l.length ∧ d = f (l.getD k x) := by
  rw [List.getElem?_map] at h
  by_cases hk : k < l.length
  · rw [List.getElem?_eq_getElem hk] at h
    exact ⟨hk, by rw [← Option.some.inj h]; simp [List.getD, hk]⟩
  · rw [List.getElem?_eq_none (by omega)] at h; cases h
omit [TbT] in
/-- a loop that appends where p holds -/
theorem in_yesM {acc : List β} {l : List α} {p : α → Bool} {f : α → β} {g : β → γ} {k : Nat} {x : α} (h : k < l.length) (hp : p (l.getD k x) = true) : (acc ++ ((l.take (k + 1)).filter p).map f).map g = (acc ++ ((l.take k).filter p).map f).map g ++ [g (f (l.getD k x))] := by
  have e : [l.getD k x].filter p = [l.getD k x] := by rw [List.filter_cons_of_pos hp]; rfl
  rw [take_getD x h, List.filter_append, e]
  simp only [List.map_append, List.map_cons, List.map_nil, List.append_assoc]
omit [TbT] in
theorem in_noM {acc : List β} {l : List α} {p : α → Bool} {f : α → β} {g : β → γ} {k : Nat} {x : α} (h : k < l.length) (hp : p (l.getD k x) = false) : (acc ++ ((l.take (k + 1)).filter p).map f).map g = (acc ++ ((l.take k).filter p).map f).map g := by
  have e : [l.getD k x].filter p = [] := by rw [List.filter_cons_of_neg (by rw [hp]; exact Bool.false_ne_true)]; rfl
  rw [take_getD x h, List.filter_append, e, List.append_nil]
omit [TbT] in
theorem flat_next {l : List α} {f : α → List β} {g : β → γ} {k : Nat} {x : α} (h : k < l.length) : ((l.take (k + 1)).flatMap f).map g = ((l.take k).flatMap f ++ f (l.getD k x)).map g := by
  rw [take_getD x h, List.flatMap_append]; simp
omit [TbT] in
theorem map_next {l : List α} {f : α → γ} {k : Nat} {x : α} (h : k < l.length) : (l.take (k + 1)).map f = (l.take k).map f ++ [f (l.getD k x)] := by
  rw [take_getD x h, List.map_append]; rfl
omit [TbT] in
theorem flat_len {l : List α} {f : α → List β} {n : Nat} (h : ∀ x, (f x).length ≤ n) : (l.flatMap f).length ≤ l.length * n := by
  induction l with
  | nil => simp
  | cons x l ih =>
    rw [List.flatMap_cons, List.length_append, List.length_cons, Nat.succ_mul]
    have := h x
    omega
omit [TbT] in
theorem line_of {n : Nat} (h : n ≤ 100000) : n < sizeLine := Nat.lt_of_le_of_lt h (by decide)
end
end TG
/-! Keys that are tuples of ints, of tuples, ..: hash, ==, the library's kind of keys. -/
namespace TG
open PySem PySem.Spec PyProof.Rows L2
mutual
def hkP : PyData → Bool
  | .int _ => true
  | .tuple xs => hkPs xs
  | _ => false
def hkPs : List PyData → Bool
  | [] => true
  | d :: r => hkP d && hkPs r
end
mutual
/-- the tokens that hashing draws -/
def drawP : PyData → Nat
  | .int _ => 1
  | .tuple xs => drawPs xs + 1
  | _ => 0
def drawPs : List PyData → Nat
  | [] => 0
  | d :: r => drawP d + drawPs r
end
mutual
theorem hk_lay : ∀ d : PyData, hkP d = true → d.canLay0 = true
  | .int _, _ => rfl
  | .tuple xs, h => hks_lay xs h
  | .none, h => by cases h
  | .bool _, h => by cases h
  | .str _, h => by cases h
  | .list _, h => by cases h
  | .dict _, h => by cases h
theorem hks_lay : ∀ ds : List PyData, hkPs ds = true → PyData.canLayAll0 ds = true
  | [], _ => rfl
  | d :: r, h => by
    have h' : hkP d = true ∧ hkPs r = true := by simpa [hkPs] using h
    show (d.canLay0 && PyData.canLayAll0 r) = true
    rw [hk_lay d h'.1, hks_lay r h'.2]; rfl
end
mutual
theorem hk_inj {h : Heap} : ∀ (d e : PyData) (v : Value) (as bs : List Addr), Reads h v d as → Reads h v e bs → hkP d = true → hkP e = true → d = e
  | .int _, e, _, _, _, r, q, _, he => by
    cases r
    cases q; rfl
  | .tuple xs, e, _, _, _, r, q, hd, he => by
    cases r with
    | @tuple a o vs n _ _ h1 h2 h3 h4 =>
      cases q with
      | @tuple _ o' vs' n' ys _ k1 k2 k3 k4 =>
        rw [h1] at k1; cases k1
        rw [h3] at k3; cases k3
        exact congrArg PyData.tuple (hks_inj xs ys _ _ _ h4 k4 hd he)
      | list k1 k2 _ _ => rw [h1] at k1; cases k1; rw [h2] at k2; exact absurd (Value.type.inj k2) (by decide)
      | dict k1 k2 _ _ _ => rw [h1] at k1; cases k1; rw [h2] at k2; exact absurd (Value.type.inj k2) (by decide)
  | .none, _, _, _, _, _, _, h, _ => by cases h
  | .bool _, _, _, _, _, _, _, h, _ => by cases h
  | .str _, _, _, _, _, _, _, h, _ => by cases h
  | .list _, _, _, _, _, _, _, h, _ => by cases h
  | .dict _, _, _, _, _, _, _, h, _ => by cases h
theorem hks_inj {h : Heap} : ∀ (ds es : List PyData) (vs : List Value) (as bs : List Addr), ReadsAll h vs ds as → ReadsAll h vs es bs → hkPs ds = true → hkPs es = true → ds = es
  | [], es, _, _, _, r, q, _, _ => by cases r; cases q; rfl
  | d :: ds, es, _, _, _, r, q, hd, he => by
    have h' : hkP d = true ∧ hkPs ds = true := by simpa [hkPs] using hd
    cases r with
    | cons r1 r2 =>
      cases q with
      | cons q1 q2 =>
        rename_i e es' _ _
        have k' : hkP e = true ∧ hkPs es' = true := by simpa [hkPs] using he
        rw [hk_inj d e _ _ _ r1 q1 h'.1 k'.1, hks_inj ds es' _ _ _ r2 q2 h'.2 k'.2]
end
mutual
theorem hk_keep {h h' : Heap} (kp : ∀ b o, h.get? b = some o → o.cls = .type "tuple" → (∃ vs n, o.data = .seq vs n) → h'.get? b = some o) : ∀ (d : PyData) (v : Value) (as : List Addr), hkP d = true → Reads h v d as → Reads h' v d as
  | .int _, _, _, _, r => by cases r; exact Reads.int _ _
  | .tuple xs, _, _, p, r => by
    cases r with
    | tuple h1 h2 h3 h4 => exact Reads.tuple (kp _ _ h1 h2 ⟨_, _, h3⟩) h2 h3 (hks_keep kp xs _ _ p h4)
  | .none, _, _, p, _ => by cases p
  | .bool _, _, _, p, _ => by cases p
  | .str _, _, _, p, _ => by cases p
  | .list _, _, _, p, _ => by cases p
  | .dict _, _, _, p, _ => by cases p
theorem hks_keep {h h' : Heap} (kp : ∀ b o, h.get? b = some o → o.cls = .type "tuple" → (∃ vs n, o.data = .seq vs n) → h'.get? b = some o) : ∀ (ds : List PyData) (vs : List Value) (as : List Addr), hkPs ds = true → ReadsAll h vs ds as → ReadsAll h' vs ds as
  | [], _, _, _, r => by cases r; exact ReadsAll.nil
  | d :: ds, _, _, p, r => by
    have p' : hkP d = true ∧ hkPs ds = true := by simpa [hkPs] using p
    cases r with
    | cons r1 r2 => exact ReadsAll.cons (hk_keep kp d _ _ p'.1 r1) (hks_keep kp ds _ _ p'.2 r2)
end
section
variable {prog : Program} {w : World}
theorem hash_step {A : Around} {E : Value → Shared → Prop} {s : Shared} {xs : List PyData} {a : Addr} {as : List Addr} {Q : Int → Shared → Prop} (hu : A.units < cLine) (r : Reads s.heap (.ref a) (.tuple xs) as)
    (items : ∀ (x : PyData) (v : Value) (s' : Shared) (bs : List Addr) (Q' : Int → Shared → Prop) (E' : Value → Shared → Prop), x ∈ xs → Reads s'.heap v x bs → Q' (hashP x) { s' with toks := s'.toks + drawP x } → wpAny (model prog w) A.in1 (pyHash v) Q' E' s')
    (h : Q (hashP (.tuple xs)) { s with toks := s.toks + drawP (.tuple xs) }) : wpAny (model prog w) A (pyHash (.ref a)) Q E s := by
  cases r with
  | @tuple _ o vs n _ _ ho hc hd hi =>
    have hT : s.TypeIs (.ref a) "tuple" := ⟨o, ho, hc⟩
    unfold pyHash
    first | unfold pyHashByItsType | skip
    first | refine wpAny_bind (wpAny_cRoomFor_or (.inr hu) ?_) | skip
    refine wpAny_bind (wpAny_specialOf hT F.slot_tuple_hash.lookup ?_)
    show wpAny _ _ (if (some (Value.builtin "tuple.__hash__") == some Value.none) = true then _ else _) Q E s
    rw [if_neg (by rw [beq_builtin_none]; exact Bool.false_ne_true)]
    refine wpAny_bind (wpAny_specialOf hT F.slot_tuple_hash.lookup ?_)
    show wpAny _ _ (callSpecialIfBoundUnlessNone? (.ref a) "__hash__" _ >>= _) Q E s
    refine wpAny_bind (wpAny_callSpecialIfBoundUnlessNone?_slot hT F.slot_tuple_hash (wpAny_call_entry F.slot_tuple_hash hT F.entry_tuple_hash ?_ (F.args_tuple_hash_1 _)))
    show wpAny _ _ (Builtin.Tuple.tupleItemsOf (.ref a) >>= _) _ _ s
    refine wpAny_bind (wpAny_tupleItemsOf ho hd ?_)
    refine wpAny_bind ?_
    rw [← Array.forIn_toList]
    refine wpAny_forIn_list _
      (fun rest (b : Array Int) s' => ∃ done left bs, xs = done ++ left ∧ ReadsAll s.heap rest left bs ∧ b.toList = done.map hashP ∧ s' = { s with toks := s.toks + drawPs done })
      _ ?_ ?_ _ _ ⟨[], xs, _, rfl, hi, rfl, rfl⟩
    · rintro x rest b s' ⟨done, left, bs, hxs, hl, hb, rfl⟩
      have dr : ∀ (ds : List PyData) (k : PyData), drawPs (ds ++ [k]) = drawPs ds + drawP k := fun ds k => by
        induction ds with
        | nil => simp [drawPs]
        | cons d ds ih => show drawP d + drawPs (ds ++ [k]) = _; rw [ih]; show _ = drawP d + drawPs ds + drawP k; omega
      cases hl with
      | @cons _ _ k ks as1 bs1 h1 hl' =>
        refine wpAny_bind (items k x _ _ _ _ (by rw [hxs]; simp) h1 ?_)
        have fin : ({ s with toks := s.toks + drawPs done + drawP k } : Shared) = { s with toks := s.toks + drawPs (done ++ [k]) } := by rw [dr, Nat.add_assoc]
        first
          | exact wpAny_pure ⟨done ++ [k], ks, _, by simp [hxs], hl', by simp [hb], fin⟩
          | exact wpAny_bind (wpAny_pure (wpAny_pure ⟨done ++ [k], ks, _, by simp [hxs], hl', by simp [hb], fin⟩))
    · rintro b s' ⟨done, left, bs, hxs, hl, hb, rfl⟩
      cases hl
      rw [List.append_nil] at hxs
      subst hxs
      have hh : ∀ ds : List PyData, hashPs ds = ds.map hashP := fun ds => by
        induction ds with
        | nil => rfl
        | cons d ds ih => show hashP d :: hashPs ds = _; rw [ih]; rfl
      have h' : Q (reduceHash (Builtin.Tuple.tupleHashOf (xs.map hashP))) { s with toks := s.toks + (drawPs xs + 1) } := by rw [← hh]; exact h
      show wpAny _ _ (retInt (Builtin.Tuple.tupleHashOf b.toList)) _ _ _
      rw [hb]
      refine wpAny_ret_mkInt ?_
      show wpAny _ _ (if (decide (-(2 : Int) ^ 63 ≤ Builtin.Tuple.tupleHashOf (xs.map hashP)) && decide (Builtin.Tuple.tupleHashOf (xs.map hashP) < 2 ^ 63)) = true then _ else _) Q E _
      unfold reduceHash at h'
      by_cases hr : (decide (-(2 : Int) ^ 63 ≤ Builtin.Tuple.tupleHashOf (xs.map hashP)) && decide (Builtin.Tuple.tupleHashOf (xs.map hashP) < 2 ^ 63)) = true
      · rw [if_pos hr]
        rw [if_pos hr] at h'
        exact wpAny_pure (by simpa [Nat.add_assoc] using h')
      · rw [if_neg hr]
        rw [if_neg hr] at h'
        exact wpAny_bind (wpAny_rule (wpAny_pure (by simpa [Nat.add_assoc] using h')))
mutual
theorem hash_reads : ∀ (d : PyData), hkP d = true → ∀ (A : Around) (E : Value → Shared → Prop) (s : Shared) (v : Value) (as : List Addr) (Q : Int → Shared → Prop), A.units + d.depth < cLine → Reads s.heap v d as → Q (hashP d) { s with toks := s.toks + drawP d } → wpAny (model prog w) A (pyHash v) Q E s
  | .int i, _, A, E, s, _, _, Q, _, r, h => by
    cases r
    exact wpAny_pyHash_int h
  | .tuple xs, hd, A, E, s, _, _, Q, hu, r, h => by
    have hr := r
    cases r with
    | @tuple a o vs n _ _ h1 h2 h3 h4 =>
      have hdep : PyData.depth (.tuple xs) = PyData.depthAll xs + 1 := rfl
      exact hash_step (by omega) hr (fun x v s' bs Q' E' hm r' h' => hash_all xs hd x hm A.in1 E' s' v bs Q' (by show A.units + 1 + _ < _; omega) r' h') h
  | .none, h, _, _, _, _, _, _, _, _, _ => by cases h
  | .bool _, h, _, _, _, _, _, _, _, _, _ => by cases h
  | .str _, h, _, _, _, _, _, _, _, _, _ => by cases h
  | .list _, h, _, _, _, _, _, _, _, _, _ => by cases h
  | .dict _, h, _, _, _, _, _, _, _, _, _ => by cases h
theorem hash_all : ∀ (xs : List PyData), hkPs xs = true → ∀ x ∈ xs, ∀ (A : Around) (E : Value → Shared → Prop) (s : Shared) (v : Value) (as : List Addr) (Q : Int → Shared → Prop), A.units + PyData.depthAll xs < cLine → Reads s.heap v x as → Q (hashP x) { s with toks := s.toks + drawP x } → wpAny (model prog w) A (pyHash v) Q E s
  | [], _, x, hm, _, _, _, _, _, _, _, _, _ => by simp at hm
  | d :: ds, hd, x, hm, A, E, s, v, as, Q, hu, r, h => by
    have h' : hkP d = true ∧ hkPs ds = true := by simpa [hkPs] using hd
    have hdep : PyData.depthAll (d :: ds) = max d.depth (PyData.depthAll ds) := rfl
    rcases List.mem_cons.mp hm with e | hm
    · rw [e] at r h
      exact hash_reads d h'.1 A E s v as Q (by omega) r h
    · exact hash_all ds h'.2 x hm A E s v as Q (by omega) r h
end
mutual
theorem quiet_reads : ∀ (d : PyData), hkP d = true → ∀ (n : Nat) (A : Around) (E : Value → Shared → Prop) (s : Shared) (v : Value) (as : List Addr) (Q : Bool → Shared → Prop), d.depth ≤ n → Reads s.heap v d as → Q true s → wpAny (model prog w) A (eqIsQuiet n v) Q E s
  | .int i, _, n, A, E, s, _, _, Q, _, r, h => by
    cases r
    rw [eqIsQuiet_byValue _ rfl]
    exact wpAny_pure h
  | .tuple xs, hd, n, A, E, s, _, _, Q, hu, r, h => by
    have hdep : PyData.depth (.tuple xs) = PyData.depthAll xs + 1 := rfl
    obtain ⟨m, rfl⟩ : ∃ m, n = m + 1 := ⟨n - 1, by omega⟩
    cases r with
    | @tuple a o vs k _ _ h1 h2 h3 h4 =>
      have hT : s.TypeIs (.ref a) "tuple" := ⟨o, h1, h2⟩
      unfold eqIsQuiet
      refine wpAny_bind (wpAny_specialOf hT F.slot_tuple_eq.lookup ?_)
      show wpAny _ _ (isInstance (.ref a) (.type "tuple") >>= _) _ _ s
      refine wpAny_bind (wpAny_isInstance hT isSubtype_tuple_tuple ?_)
      simp only [Bool.not_true, Bool.false_eq_true, if_false]
      refine wpAny_bind (wpAny_seqItems h1 h3 ?_)
      refine wpAny_bind ?_
      show wpAny _ _ (forIn vs _ _) _ _ s
      rw [← Array.forIn_toList]
      refine wpAny_forIn_list _ (fun rest r s' => r.1 = none ∧ s' = s ∧ ∃ done left bs, xs = done ++ left ∧ ReadsAll s.heap rest left bs) _ ?_ ?_ _ _ ⟨rfl, rfl, [], xs, _, rfl, h4⟩
      · rintro v rest r s' ⟨hr, rfl, done, left, bs, hxs, hl⟩
        cases hl with
        | @cons _ _ k ks as1 bs1 q1 q2 =>
          refine wpAny_bind (quiet_all xs hd k (by rw [hxs]; simp) m A _ _ v _ _ (by omega) q1 ?_)
          simp only [Bool.not_true, Bool.false_eq_true, if_false]
          exact wpAny_pure ⟨rfl, rfl, done ++ [k], ks, _, by simp [hxs], q2⟩
      · rintro ⟨r1, r2⟩ s' ⟨hr, rfl, _⟩
        simp only at hr
        subst hr
        exact wpAny_pure h
  | .none, h, _, _, _, _, _, _, _, _, _, _ => by cases h
  | .bool _, h, _, _, _, _, _, _, _, _, _, _ => by cases h
  | .str _, h, _, _, _, _, _, _, _, _, _, _ => by cases h
  | .list _, h, _, _, _, _, _, _, _, _, _, _ => by cases h
  | .dict _, h, _, _, _, _, _, _, _, _, _, _ => by cases h
theorem quiet_all : ∀ (xs : List PyData), hkPs xs = true → ∀ x ∈ xs, ∀ (n : Nat) (A : Around) (E : Value → Shared → Prop) (s : Shared) (v : Value) (as : List Addr) (Q : Bool → Shared → Prop), PyData.depthAll xs ≤ n → Reads s.heap v x as → Q true s → wpAny (model prog w) A (eqIsQuiet n v) Q E s
  | [], _, x, hm, _, _, _, _, _, _, _, _, _, _ => by simp at hm
  | d :: ds, hd, x, hm, n, A, E, s, v, as, Q, hu, r, h => by
    have h' : hkP d = true ∧ hkPs ds = true := by simpa [hkPs] using hd
    have hdep : PyData.depthAll (d :: ds) = max d.depth (PyData.depthAll ds) := rfl
    rcases List.mem_cons.mp hm with e | hm
    · rw [e] at r
      exact quiet_reads d h'.1 n A E s v as Q (by omega) r h
    · exact quiet_all ds h'.2 x hm n A E s v as Q (by omega) r h
end
end
mutual
theorem hk_eqv : ∀ (d e : PyData), hkP d = true → hkP e = true → (PyData.eqv d e = true ↔ d = e)
  | .int i, .int j, _, _ => by
    show (i == j) = true ↔ _
    rw [beq_iff_eq]
    exact ⟨fun h => by rw [h], fun h => by cases h; rfl⟩
  | .int _, .tuple _, _, _ => ⟨fun h => (by cases h), fun h => (by cases h)⟩
  | .tuple _, .int _, _, _ => ⟨fun h => (by cases h), fun h => (by cases h)⟩
  | .tuple xs, .tuple ys, h, k => by
    show PyData.eqvAll xs ys = true ↔ _
    rw [hks_eqv xs ys h k]
    exact ⟨fun h => by rw [h], fun h => by cases h; rfl⟩
  | .none, _, h, _ => by cases h
  | .bool _, _, h, _ => by cases h
  | .str _, _, h, _ => by cases h
  | .list _, _, h, _ => by cases h
  | .dict _, _, h, _ => by cases h
  | .int _, .none, _, h => by cases h
  | .int _, .bool _, _, h => by cases h
  | .int _, .str _, _, h => by cases h
  | .int _, .list _, _, h => by cases h
  | .int _, .dict _, _, h => by cases h
  | .tuple _, .none, _, h => by cases h
  | .tuple _, .bool _, _, h => by cases h
  | .tuple _, .str _, _, h => by cases h
  | .tuple _, .list _, _, h => by cases h
  | .tuple _, .dict _, _, h => by cases h
theorem hks_eqv : ∀ (ds es : List PyData), hkPs ds = true → hkPs es = true → (PyData.eqvAll ds es = true ↔ ds = es)
  | [], [], _, _ => ⟨fun _ => rfl, fun _ => rfl⟩
  | [], _ :: _, _, _ => ⟨fun h => (by cases h), fun h => (by cases h)⟩
  | _ :: _, [], _, _ => ⟨fun h => (by cases h), fun h => (by cases h)⟩
  | d :: ds, e :: es, h, k => by
    have h' : hkP d = true ∧ hkPs ds = true := by simpa [hkPs] using h
    have k' : hkP e = true ∧ hkPs es = true := by simpa [hkPs] using k
    show (PyData.eqv d e && PyData.eqvAll ds es) = true ↔ _
    rw [Bool.and_eq_true, hk_eqv d e h'.1 k'.1, hks_eqv ds es h'.2 k'.2]
    exact ⟨fun ⟨a, b⟩ => by rw [a, b], fun h => by cases h; exact ⟨rfl, rfl⟩⟩
end
noncomputable instance pyDec : DecidableEq PyData := fun x y => Classical.propDecidable (x = y)
/-- the object at a is the key d -/
def IsKey (h : Heap) (d : PyData) (a : Addr) : Prop := hkP d = true ∧ d.depth ≤ 8 ∧ ∃ as, Reads h (.ref a) d as
noncomputable def datKind (prog : Program) (w : World) : HeapKind prog w PyData where
  is := IsKey
  hash := hashP
  draws := drawP
  room := fun A => A.units + 9 < cLine
  inj := fun {h a x y} ⟨hx, _, as, rx⟩ ⟨hy, _, bs, ry⟩ => hk_inj x y _ _ _ rx ry hx hy
  keeps := fun {h h' k a d o es ep} ⟨hk, hd, as, r⟩ ho hdat hs => ⟨hk, hd, as, hk_keep (fun b ob e c sq => by
    have nb : b ≠ d := by
      rintro rfl
      obtain ⟨vs, n, sq⟩ := sq
      rw [ho] at e; cases e
      rw [hdat] at sq; cases sq
    exact (hs.2 b nb).trans e) k _ _ hk r⟩
  pyHash := fun {A E s k a Q} hu ⟨hk, hd, as, r⟩ h => hash_reads k hk A E s _ as Q (by omega) r h
  eqBool := fun {A E s x y a b Q} hu ⟨hx, hdx, as, rx⟩ ⟨hy, hdy, bs, ry⟩ h => by
    have hc := hk_eqv x y hx hy
    refine SeqAt.eqAt_reads x y A s _ _ as bs rx ry (hk_lay x hx) (hk_lay y hy) (by omega) prog w E Q ?_
    have e : decide (x = y) = PyData.eqv x y := by
      rw [Bool.eq_iff_iff, decide_eq_true_iff, hc]
    rw [← e]; exact h
  quiet := fun {A E s k a Q} ⟨hk, hd, as, r⟩ h => quiet_reads k hk 8 A E s _ as Q hd r h
end TG
/-! Dicts whose keys are tuples of ints, of tuples, ... -/
namespace TG
open PySem PySem.Spec PyProof.Rows L2
/-! ### keys -/
mutual
theorem hk_both : ∀ d : D, d.hk = true → d.plain = true ∧ hkP d.py = true
  | .int _, _ => ⟨rfl, rfl⟩
  | .tup ds, h => hks_both ds h
  | .non, h => by cases h
  | .bl _, h => by cases h
  | .str _, h => by cases h
  | .ty _, h => by cases h
  | .lst _, h => by cases h
  | .cst _, h => by cases h
  | .dct _ _, h => by cases h
  | .dci _ _, h => by cases h
  | .obj _ _ _, h => by cases h
theorem hks_both : ∀ ds : List D, D.hks ds = true → D.plains ds = true ∧ hkPs (D.pys ds) = true
  | [], _ => ⟨rfl, rfl⟩
  | d :: r, h => by
    have h' : d.hk = true ∧ D.hks r = true := by simpa [D.hks] using h
    obtain ⟨a1, a2⟩ := hk_both d h'.1
    obtain ⟨b1, b2⟩ := hks_both r h'.2
    constructor
    · show (d.plain && D.plains r) = true
      rw [a1, b1]; rfl
    · show (hkP d.py && hkPs (D.pys r)) = true
      rw [a2, b2]; rfl
end
theorem key_tup {d : D} (h : d.key = true) : ∃ ds, d = .tup ds ∧ D.hks ds = true ∧ d.depth ≤ 8 := by
  have h' : d.hkt = true ∧ decide (d.depth ≤ 8) = true := by simpa [D.key] using h
  cases d with
  | tup ds => exact ⟨ds, rfl, h'.1, of_decide_eq_true h'.2⟩
  | _ => cases h'.1
theorem key_py {d : D} (h : d.key = true) : d.plain = true ∧ hkP d.py = true ∧ d.py.depth ≤ 8 := by
  obtain ⟨ds, rfl, h1, h2⟩ := key_tup h
  obtain ⟨p1, p2⟩ := hks_both ds h1
  exact ⟨p1, p2, Nat.le_trans (D.depth_py _) h2⟩
theorem key_ref {K : PySem.W.Frag} {G : Hp} {v : V} {k : D} (r : Rep K G v k) (h : k.key = true) : ∃ b, v = .ref b := by
  obtain ⟨ds, rfl, _, _⟩ := key_tup h
  cases r; exact ⟨_, rfl⟩
theorem key_at {X : Cx} {pins : List (Addr × Obj)} {σ : L2.St} {G H : Hp} {s : Shared} (I : Inv X pins σ H s) (e : Ex G H) {b : Addr} {k : D} (r : Rep X.K G (.ref b) k) (h : k.key = true) : IsKey s.heap k.py b := by
  obtain ⟨p1, p2, p3⟩ := key_py h
  exact ⟨p2, p3, Dp.reads I _ _ _ (r.dp e p1) rfl⟩
theorem key_eqv {d e : D} (h : d.key = true) (k : e.key = true) : (D.eqv d e = true ↔ d.py = e.py) := hk_eqv _ _ (key_py h).2.1 (key_py k).2.1
/-- k is one of the keys -/
def D.mem (k : D) (ks : List D) : Bool := ks.any fun y => D.eqv y k
/-- what stands at k -/
def D.look (k : D) : List D → List D → Option D
  | y :: ks, v :: vs => if D.eqv y k then some v else D.look k ks vs
  | _, _ => none
def D.putV (k v : D) : List D → List D → List D
  | y :: ks, u :: vs => (if D.eqv y k then v else u) :: D.putV k v ks vs
  | _, _ => []
/-- the values that are read -/
structure XRep (K : PySem.W.Frag) (G H : Hp) (v : V) (ks vs : List D) : Prop where
  ex : ∃ (a : Addr) (xs : Dx) (us : List V), v = .ref a ∧ Rd H a (DictX a xs) ∧ xs.map (·.1) = D.pys ks ∧ (D.pys ks).Nodup ∧ RepL K G (xs.map fun x => V.ref x.2.1) ks ∧ Vals us (xs.map (·.2.2)) ∧ RepL K G us vs ∧ ks.all D.key = true
theorem XRep.grow [TbT] {K : PySem.W.Frag} {G H G' H' : Hp} {v : V} {ks vs : List D} (x : XRep K G H v ks vs) (g : Grow G H G' H') : XRep K G' H' v ks vs := by
  obtain ⟨a, xs, us, e, h, k, n, r, w, t, q⟩ := x.ex
  exact ⟨a, xs, us, e, g.h.rd h dictX_ne.1, k, n, r.mono g.g, w, t.mono g.g, q⟩
theorem Rep.xrep {K : PySem.W.Frag} {G H : Hp} {v : V} {ks vs : List D} (e : Ex G H) (r : Rep K G v (.dct ks vs)) : XRep K G H v ks vs := by
  cases r with
  | dct h k n r w t q => exact ⟨_, _, _, rfl, .inr ⟨_, e.app _ _ h⟩, k, n, r, w, t, q⟩
section
variable {X : Cx} {pins : List (Addr × Obj)} {σ : L2.St} {G H : Hp} {s : Shared}
theorem keys_at (I : Inv X pins σ H s) (e : Ex G H) : ∀ {xs : Dx} {ks : List D}, xs.map (·.1) = D.pys ks → RepL X.K G (xs.map fun x => V.ref x.2.1) ks → ks.all D.key = true → ∀ x ∈ xs, IsKey s.heap x.1 x.2.1
  | [], _, _, _, _, x, hx => by cases hx
  | y :: ys, [], h, _, _, _, _ => by cases h
  | y :: ys, k :: ks, h, r, q, x, hx => by
    have h1 : y.1 = k.py := (List.cons.inj h).1
    have h2 := (List.cons.inj h).2
    have q' : k.key = true ∧ ks.all D.key = true := by simpa using q
    cases r with
    | cons r1 r2 =>
      rcases List.mem_cons.mp hx with z | hx
      · subst z
        rw [h1]
        exact key_at I e r1 q'.1
      · exact keys_at I e h2 r2 q'.2 x hx
theorem dictX_at (I : Inv X pins σ H s) {a : Addr} {xs : Dx} (h : Rd H a (DictX a xs)) : (a == sysModules) = false ∧ xs.length ≤ sizeLine ∧ ∃ o es ep, s.heap.get? a = some o ∧ o.ExactDict ∧ o.data = .dict es ep ∧ es.toList = xs.map entP := by
  have := (rd_of I.hok h)
  exact this.1
theorem dictH_at (I : Inv X pins σ H s) (e : Ex G H) {a : Addr} {xs : Dx} {ks : List D} (h : Rd H a (DictX a xs)) (hk : xs.map (·.1) = D.pys ks) (hn : (D.pys ks).Nodup) (r : RepL X.K G (xs.map fun x => V.ref x.2.1) ks) (q : ks.all D.key = true) : s.heap.DictOfH (datKind X.prog X.w) a xs := by
  obtain ⟨_, _, o, es, ep, h1, h2, h3, h4⟩ := dictX_at I h
  exact ⟨o, es, ep, h1, h2, h3, h4, keys_at I e hk r q, by rw [hk]; exact hn⟩
end
theorem atKey_cons {y : PyData × Addr × Value} {ys : Dx} {k : PyData} : atKey (y :: ys) k = if y.1 = k then some y.2 else atKey ys k := by
  unfold atKey
  rw [List.find?_cons]
  by_cases h : y.1 = k
  · rw [decide_eq_true h, if_pos h]; rfl
  · rw [decide_eq_false h, if_neg h]
theorem atKey_mem {k : D} (hk : k.key = true) : ∀ {xs : Dx} {ks : List D}, xs.map (·.1) = D.pys ks → ks.all D.key = true → (atKey xs k.py).isSome = D.mem k ks
  | [], [], _, _ => rfl
  | [], _ :: _, h, _ => by cases h
  | _ :: _, [], h, _ => by cases h
  | y :: ys, d :: ks, h, q => by
    have h1 : y.1 = d.py := (List.cons.inj h).1
    have h2 := (List.cons.inj h).2
    have q' : d.key = true ∧ ks.all D.key = true := by simpa using q
    have ih := atKey_mem hk h2 q'.2
    rw [atKey_cons, h1]
    show _ = (D.eqv d k || D.mem k ks)
    have e := key_eqv q'.1 hk
    by_cases z : d.py = k.py
    · rw [if_pos z, e.mpr z]; rfl
    · rw [if_neg z, ih]
      cases w : D.eqv d k with
      | true => exact absurd (e.mp w) z
      | false => rfl
theorem atKey_look {K : PySem.W.Frag} {G : Hp} {k : D} (hk : k.key = true) {d : D} : ∀ {xs : Dx} {ks vs : List D} {us : List V}, xs.map (·.1) = D.pys ks → ks.all D.key = true → Vals us (xs.map (·.2.2)) → RepL K G us vs → D.look k ks vs = some d → ∃ p v, atKey xs k.py = some p ∧ RelV v p.2 ∧ Rep K G v d
  | [], [], _, _, _, _, _, _, h => by cases h
  | [], _ :: _, _, _, h, _, _, _, _ => by cases h
  | _ :: _, [], _, _, h, _, _, _, _ => by cases h
  | y :: ys, c :: ks, vs, us, h, q, w, t, hl => by
    have h1 : y.1 = c.py := (List.cons.inj h).1
    have h2 := (List.cons.inj h).2
    have q' : c.key = true ∧ ks.all D.key = true := by simpa using q
    cases w with
    | cons w1 w2 =>
      cases t with
      | cons t1 t2 =>
        rw [atKey_cons, h1]
        have e := key_eqv q'.1 hk
        by_cases z : c.py = k.py
        · rw [if_pos z]
          have hl' : (if D.eqv c k then some _ else _) = some d := hl
          rw [if_pos (e.mpr z)] at hl'
          cases hl'
          exact ⟨_, _, rfl, w1, t1⟩
        · rw [if_neg z]
          have hl' : (if D.eqv c k then some _ else D.look k ks _) = some d := hl
          rw [if_neg (fun w => z (e.mp w))] at hl'
          exact atKey_look hk h2 q'.2 w2 t2 hl'
/-- the values behind a store at a key that stands -/
theorem putAt_vals {K : PySem.W.Frag} {G : Hp} {k v : D} {z : V} {u : Value} (hk : k.key = true) (rz : RelV z u) (rv : Rep K G z v) : ∀ {xs : Dx} {ks vs : List D} {us : List V}, xs.map (·.1) = D.pys ks → ks.all D.key = true → Vals us (xs.map (·.2.2)) → RepL K G us vs → ∃ us', Vals us' ((xs.map (putAt k.py u)).map (·.2.2)) ∧ RepL K G us' (D.putV k v ks vs)
  | [], [], _, _, _, _, w, t => by
    cases w; cases t
    exact ⟨[], .nil, .nil⟩
  | [], _ :: _, _, _, h, _, _, _ => by cases h
  | _ :: _, [], _, _, h, _, _, _ => by cases h
  | y :: ys, c :: ks, vs, us, h, q, w, t => by
    have h1 : y.1 = c.py := (List.cons.inj h).1
    have h2 := (List.cons.inj h).2
    have q' : c.key = true ∧ ks.all D.key = true := by simpa using q
    cases w with
    | @cons x0 _ _ _ w1 w2 =>
      cases t with
      | cons t1 t2 =>
        obtain ⟨us', i1, i2⟩ := putAt_vals hk rz rv h2 q'.2 w2 t2
        have e := key_eqv q'.1 hk
        by_cases zz : c.py = k.py
        · refine ⟨z :: us', ?_, ?_⟩
          · show Vals (z :: us') ((putAt k.py u y).2.2 :: _)
            have : (putAt k.py u y).2.2 = u := by unfold putAt; rw [if_pos (h1.trans zz)]
            rw [this]; exact .cons rz i1
          · show RepL K G _ ((if D.eqv c k then v else _) :: _)
            rw [if_pos (e.mpr zz)]; exact .cons rv i2
        · refine ⟨x0 :: us', ?_, ?_⟩
          · show Vals (x0 :: us') ((putAt k.py u y).2.2 :: _)
            have : (putAt k.py u y).2.2 = y.2.2 := by unfold putAt; rw [if_neg (fun x => zz (h1.symm.trans x))]
            rw [this]; exact .cons w1 i1
          · show RepL K G _ ((if D.eqv c k then v else _) :: _)
            rw [if_neg (fun x => zz (e.mp x))]; exact .cons t1 i2
theorem putAt_refs (k : PyData) (u : Value) (xs : Dx) : (xs.map (putAt k u)).map (fun x => V.ref x.2.1) = xs.map fun x => V.ref x.2.1 := by
  rw [List.map_map]
  exact List.map_congr_left fun x _ => by
    show V.ref (putAt k u x).2.1 = _
    unfold putAt; split <;> rfl
theorem putAt_keys (k : PyData) (u : Value) (xs : Dx) : (xs.map (putAt k u)).map (·.1) = xs.map (·.1) := by
  rw [List.map_map]
  exact List.map_congr_left fun x _ => by
    show (putAt k u x).1 = _
    unfold putAt; split <;> rfl
theorem pys_append : ∀ (ds es : List D), D.pys (ds ++ es) = D.pys ds ++ D.pys es
  | [], _ => rfl
  | d :: ds, es => by show d.py :: D.pys (ds ++ es) = d.py :: (D.pys ds ++ D.pys es); rw [pys_append ds es]
theorem mem_pys {k : D} (hk : k.key = true) : ∀ {ks : List D}, ks.all D.key = true → (D.mem k ks = true ↔ k.py ∈ D.pys ks)
  | [], _ => ⟨fun h => (by cases h), fun h => (by cases h)⟩
  | d :: ks, q => by
    have q' : d.key = true ∧ ks.all D.key = true := by simpa using q
    show (D.eqv d k || D.mem k ks) = true ↔ k.py ∈ d.py :: D.pys ks
    rw [Bool.or_eq_true, key_eqv q'.1 hk, mem_pys hk q'.2, List.mem_cons]
    exact ⟨fun h => h.imp Eq.symm id, fun h => h.imp Eq.symm id⟩
end TG
/-! sum, list + list, extend, comprehensions with two clauses. -/
namespace TG
open PySem PySem.Spec PyProof.Rows L2
variable [TbT]
section
variable {X : Cx} {ex : Exs} {ρ : List O} {e a b : Expr} {es : List Expr} {d d1 d2 : D} {ds fs : List D} {pos p p2 : Pos} {i : Int} {x : Str} {W : Eds}
omit [TbT] in
theorem RepL.ints_of {K : PySem.W.Frag} {G : Hp} : ∀ {ns : List Int} {vs : List V}, RepL K G vs (ns.map D.int) → vs = ns.map V.int
  | [], _, .nil => rfl
  | n :: r, _, .cons h t => by cases h; rw [RepL.ints_of t]; rfl
/-- sum(xs) of ints -/
theorem ee_sum {ns : List Int} (hg : Gl X "sum") (hm : X.mg "sum" = none) (ha : EA X ex [e] ρ [.lst ds]) (hd : ds = ns.map .int) (hc : X.calm = true := by rfl) (he : starEach [e] X.env = (false, eval e X.env) :: starEach [] X.env := by rfl) (hpl : (backTo pos (starEach [] X.env)).any (·.1) = false := by rfl) : EE X ex (.Call (.Name "sum" p) [e] [] pos) ρ (.int ns.sum) :=
  ee_va (eo_blt (cr_sum hc) (fun G H vs Q e r q => by
    subst hd
    obtain ⟨v, rfl, r1⟩ := r.of1
    cases r1 with
    | lst h r2 =>
      obtain rfl := r2.ints_of
      exact ⟨_, ns, rfl, e.l h, q _ (.va (.int _)) G H (.refl e) (.int _) rfl⟩) hg hm (by decide +kernel) ha (by decide) (by decide) he hpl)
/-- list + list -/
theorem eo_catL (ha : EE X ex a ρ (.lst ds)) (hb : EE X ex b ρ (.lst fs)) (hz : ds.length + fs.length ≤ sizeLine) : EO X ex (.BinOp a .Add b pos) ρ (fun o => o = .ml (ds ++ fs)) := ⟨fun E σ G H S =>
  of_pe (pe_op op_cat sem_pe sem_pe) (tSem_mono (ha E σ G H S) fun v H1 ⟨G1, g1, r1⟩ => tSem_mono (hb E σ G1 H1 (S.grow g1)) fun w H2 ⟨G2, g2, r2⟩ => by
    have r1' := r1.mono g2.g
    cases r1' with
    | @lst _ xs _ h1 r1 =>
      cases r2 with
      | @lst _ ys _ h2 r2 =>
        refine ⟨_, _, _, _, rfl, rfl, g2.gh.app _ _ h1, g2.gh.app _ _ h2, by rw [r1.length, r2.length]; exact hz, fun p hp => ?_⟩
        have g3 := Grow.newH (u := .lst (xs ++ ys)) g2.gh hp
        exact ⟨.ml (ds ++ fs), _, (g1.trans g2).trans g3, ⟨p, _, rfl, upd_same, g2.gh.back hp, (g1.trans g2).h.back hp, r1.append r2⟩, rfl⟩)⟩
/-- xs.extend(ys) -/
theorem ws_extend (i : Nat) {cpos apos npos : Pos} (hr : ρ[i]? = some (.ml ds)) (h : EE X ex e ρ (.lst fs)) (hl : ds.length + fs.length ≤ sizeLine) (k : W.nx (ρ.set i (.ml (ds ++ fs)))) (hN : X.N[i]? = some x := by rfl) (hv : Vis X.env.scope x := by first | exact Or.inl rfl | exact Or.inr (Or.inl rfl) | exact Or.inr (Or.inr rfl)) (hd : (x == ("__debug__" : Str)) = false := by decide)
    (hcd : (x == ("__classdict__" : Str)) = false := by decide) (hbase : attributeBase (.Name x npos) "extend" X.env (eval (.Name x npos) X.env) = eval (.Name x npos) X.env := by rfl)
    (hfew : ((backTo cpos (starEach [e] X.env)).all (fun x => !x.1) && (backToKw cpos (keywordEach [] X.env)).all (fun x => x.1.isSome)
      && decide (([e] : List Expr).length + ([] : List Keyword).length + (if ([] : List Keyword).isEmpty then 0 else 1) < 30)) = true := by rfl)
    (hline : (apos.endLine == cpos.line) = true := by rfl) (hst : starEach [e] X.env = (false, eval e X.env) :: starEach [] X.env := by rfl) (hplain : (backTo cpos (starEach [] X.env)).any (·.1) = false := by rfl)
    (hs : swapsWith (.Call (.Attribute (.Name x npos) "extend" apos) [e] [] cpos) none pos.line X.env = pure false := by rfl) :
    WS X ex (.Expr (.Call (.Attribute (.Name x npos) "extend" apos) [e] [] cpos) pos) ρ W := ⟨fun E σ G H S => by
  obtain ⟨a, xs, h1, h2, h3, h4, r⟩ := S.getL hr
  refine of_ps (ps_expr (pe_bm PySem.F.plainAttrs_list PySem.F.slot_list_extend PySem.F.type_list_extend mt_extend (pe_var hN hv hd hcd) (pa_cons sem_pe pa_nil hst) hbase hfew hline hst hplain) hs) ?_
  refine ⟨.ref a, h1, .inl ⟨rfl, xs, .inl (.inl h2)⟩, tSem_mono (h E σ G H S) fun v H1 ⟨G1, g, r1⟩ => ?_⟩
  have S1 := S.grow g
  obtain ⟨a', xs', h1', h2', h3', h4', r'⟩ := S1.getL hr
  rw [h1] at h1'; cases h1'
  cases r1 with
  | @lst b ys _ hb rb =>
    exact ⟨a, b, xs', ys, rfl, rfl, h2', g.gh.app _ _ hb, by rw [r'.length, rb.length]; exact hl, _, G1, S1.lstTo hr h1 h2' h3' h4' (r'.append rb), g.g, k⟩⟩
/-! ### [elt for tg in iter if .. for tg1 in iter1 if ..] -/
def picks (f : Nat → D → List D) : Nat → List D → List D
  | _, [] => []
  | k, d :: r => f k d ++ picks f (k + 1) r
omit [TbT] in
theorem picks_append (f : Nat → D → List D) : ∀ (l m : List D) (k : Nat), picks f k (l ++ m) = picks f k l ++ picks f (k + l.length) m
  | [], _, _ => rfl
  | d :: r, m, k => by
    show f k d ++ picks f (k + 1) (r ++ m) = (f k d ++ picks f (k + 1) r) ++ _
    rw [picks_append f r m (k + 1), List.append_assoc, List.length_cons, Nat.add_right_comm k 1, Nat.add_assoc]
omit [TbT] in
theorem picks_snoc (f : Nat → D → List D) (l : List D) (k : Nat) (d : D) : picks f k (l ++ [d]) = picks f k l ++ f (k + l.length) d := by
  rw [picks_append]
  show _ ++ (f _ d ++ []) = _
  rw [List.append_nil]
omit [TbT] in
theorem pick_append (f : Nat → D → Option D) : ∀ (l m : List D) (k : Nat), pick f k (l ++ m) = pick f k l ++ pick f (k + l.length) m
  | [], _, _ => rfl
  | d :: r, m, k => by
    show (_ ++ pick f (k + 1) (r ++ m)) = (_ ++ pick f (k + 1) r) ++ _
    rw [pick_append f r m (k + 1), List.append_assoc, List.length_cons, Nat.add_right_comm k 1, Nat.add_assoc]
omit [TbT] in
theorem take_add_drop {α : Type} (l : List α) (i : Nat) : l = l.take i ++ l.drop i := (List.take_append_drop i l).symm
/-- a turn of the inner clause -/
def LcIn (X : Cx) (scope : Scope) (vs1 : List Nat) (tg1 elt : Expr) (ifs1 : List Expr) (ρ2 : List O) (es : List D) (g : Nat → D → Option D) : Prop := ∀ (j : Nat) (d : D), es[j]? = some d → ∃ (ρ3 : List O) (t : Bool),
  (∀ s H cl C fp, ATb (Blk X s H scope cl C fp) vs1 tg1 d (wipeO ρ2 vs1) ρ3) ∧ (∀ s H cl C fp, ETs (Blk X s H scope cl C fp) noX ifs1 ρ3 t) ∧
  (t = true → ∃ y, g j d = some y ∧ ∀ s H cl C fp, EE (Blk X s H scope cl C fp) noX elt ρ3 y) ∧ (t = false → g j d = none)
/-- a turn of the outer one -/
def Lc2Turn (X : Cx) (scope : Scope) (vs vs1 : List Nat) (tg elt : Expr) (ifs : List Expr) (tg1 iter1 : Expr) (ifs1 : List Expr) (ρ : List O) (ds : List D) (f : Nat → D → List D) : Prop := ∀ (k : Nat) (d : D), ds[k]? = some d → ∃ (ρ2 : List O) (t : Bool),
  (∀ s H cl C fp, ATb (Blk X s H scope cl C fp) vs tg d (wipeO ρ vs) ρ2) ∧ (∀ s H cl C fp, ETs (Blk X s H scope cl C fp) noX ifs ρ2 t) ∧
  (t = true → ∃ (es : List D) (g : Nat → D → Option D), f k d = pick g 0 es ∧ (∀ s H cl C fp, EI (Blk X s H scope cl C fp) noX tg1 iter1 ρ2 es) ∧ LcIn X scope vs1 tg1 elt ifs1 ρ2 es g) ∧ (t = false → f k d = [])
omit [TbT] in
theorem wipe_wipe {σ : L2.St} (us : List Nat) : L2.wipe (L2.wipe σ us) us = L2.wipe σ us := by
  have key : ∀ (us ws : List Nat), (∀ u ∈ us, u ∈ ws) → L2.wipe (L2.wipe σ us) ws = L2.wipe σ ws := fun us => by
    induction us with
    | nil => intro ws _; rfl
    | cons u us ih =>
      intro ws hm
      show L2.wipe ((L2.wipe σ us).set u none) ws = _
      rw [wipe_set (hm u List.mem_cons_self), ih ws fun u hu => hm u (List.mem_cons_of_mem _ hu)]
  exact key us us fun _ h => h
theorem lc2_run {vs vs1 : List Nat} {scope : Scope} {elt tg iter tg1 iter1 : Expr} {ifs ifs1 : List Expr} {f : Nat → D → List D} (hI : EI X ex tg iter ρ ds) (hl : (picks f 0 ds).length ≤ sizeLine) (ht : Lc2Turn X scope vs vs1 tg elt ifs tg1 iter1 ifs1 ρ ds f) {E : Hp × Hp} {σ : L2.St} {G H : Hp} (S : SOx X ex E ρ σ G H) {Q : VK}
    (q : ∀ v G' H', Grow G H G' H' → OOk X.K H G' H' (.ml (picks f 0 ds)) v → Q v H') :
    tLc2 (tSemI X tg iter) (fun v σ H Q => ∀ s H0 cl C fp, tSemG (Blk X s H0 scope cl C fp) tg v σ H Q) (fun σ H Q => ∀ s H0 cl C fp, tSemTs (Blk X s H0 scope cl C fp) ifs σ H Q)
      (fun σ H Q => ∀ s H0 cl C fp, tSemI (Blk X s H0 scope cl C fp) tg1 iter1 σ H Q) (fun v σ H Q => ∀ s H0 cl C fp, tSemG (Blk X s H0 scope cl C fp) tg1 v σ H Q) (fun σ H Q => ∀ s H0 cl C fp, tSemTs (Blk X s H0 scope cl C fp) ifs1 σ H Q) (fun σ H Q => ∀ s H0 cl C fp, tSem (Blk X s H0 scope cl C fp) elt σ H Q) vs vs1 σ H Q := by
  refine tSemI_mono (hI E σ G H S) fun J H1 ⟨G1, g1, wk⟩ => fun DD hD => ?_
  refine ⟨fun i m H' => m = ds.length - i ∧ i ≤ ds.length ∧ ∃ G2 ys, Grow G1 H1 G2 H' ∧ H' DD = some (.lst ys) ∧ G2 DD = none ∧ RepL X.K G2 ys (picks f 0 (ds.take i)), ⟨ds.length, by simp, Nat.zero_le _, G1, [], Grow.newH g1.gh hD, upd_same, g1.gh.back hD, .nil⟩, ?_⟩
  rintro i m H' ⟨rfl, hi, G2, ys, g2, hH, hG, r⟩
  have w := wk i G2 H' g2.g g2.gh
  by_cases hlt : i < ds.length
  · obtain ⟨go, yl⟩ := w.1 ds[i] (List.getElem?_eq_getElem hlt)
    refine .inr ⟨go, fun H'' => i < ds.length ∧ ∃ G2 ys, Grow G1 H1 G2 H'' ∧ H'' DD = some (.lst ys) ∧ G2 DD = none ∧ RepL X.K G2 ys (picks f 0 (ds.take (i + 1))), fun H'' ⟨_, z⟩ => ⟨ds.length - (i + 1), by omega, rfl, hlt, z⟩, fun x H3 hy => ?_⟩
    obtain ⟨G3, g3, rx⟩ := yl x H3 hy
    obtain ⟨ρ2, t, h1, h2, h3, h4⟩ := ht i _ (List.getElem?_eq_getElem hlt)
    have gg := g2.trans g3
    have S3 : SOk X.K E (wipeO ρ vs) (L2.wipe σ vs) G3 H3 := (S.toSOk.wipe vs).grow (g1.trans gg)
    have keepD : ∀ {G0 H0 G4 H4 : Hp} {zs : List V}, G0 DD = none → H0 DD = some (.lst zs) → Grow G0 H0 G4 H4 → H4 DD = some (.lst zs) ∧ G4 DD = none := fun {G0 H0 G4 H4 zs} hG0 hH0 g => by
      refine ⟨g.h.app _ _ hH0, ?_⟩
      cases z : G4 DD with
      | none => rfl
      | some u => exact absurd (g.fr DD hG0 (by rw [z]; simp)) (by rw [hH0]; simp)
    obtain ⟨kH3, kG3⟩ := keepD hG hH g3
    have pk := picks_snoc f (ds.take i) 0 ds[i]
    rw [← take_snoc (List.getElem?_eq_getElem hlt), Nat.zero_add, List.length_take, Nat.min_eq_left hi] at pk
    have hpre : (picks f 0 (ds.take i)).length + (f i ds[i]).length ≤ sizeLine := by
      have e1 := picks_append f (ds.take (i + 1)) (ds.drop (i + 1)) 0
      rw [List.take_append_drop] at e1
      have e2 := congrArg List.length e1
      rw [List.length_append, pk, List.length_append] at e2
      omega
    intro s0 H0 cl C fp
    refine tSemG_mono (h1 s0 H0 cl C fp E _ G3 H3 x S3 rx) fun σ2 H2 ⟨⟨e, S4⟩, wq⟩ => ?_
    subst e
    refine ⟨wq.trans (wipe_wipe vs), fun s0 H0 cl C fp => tSemTs_mono (h2 s0 H0 cl C fp E σ2 G3 _ (SOk.nox (X := Blk X s0 H0 scope cl C fp) (S4 _ _ (Ex.refl _) S3))) fun b H4 ⟨eb, G4, g4⟩ => ?_⟩
    subst eb
    have at' : ∀ {G6 H6 : Hp}, Grow G1 H1 G6 H6 → Ex G3 G6 → SOk X.K E ρ2 σ2 G6 H6 := fun {G6 H6} g e => S4 G6 H6 e ((S.toSOk.wipe vs).grow (g1.trans g))
    cases b with
    | true =>
      rw [if_pos rfl]
      obtain ⟨es, g, hf, hI1, hin⟩ := h3 rfl
      obtain ⟨kH4, kG4⟩ := keepD kG3 kH3 g4
      have gt4 := gg.trans g4
      intro s0 H0 cl C fp
      refine tSemI_mono (hI1 s0 H0 cl C fp E σ2 G4 H4 (SOk.nox (X := Blk X s0 H0 scope cl C fp) (at' gt4 g4.g))) fun J1 H5 ⟨G5, g5, wk1⟩ => ?_
      obtain ⟨kH5, kG5⟩ := keepD kG4 kH4 g5
      refine ⟨fun j k H' => k = es.length - j ∧ j ≤ es.length ∧ ∃ G6 zs, Grow G1 H1 G6 H' ∧ Ex G5 G6 ∧ H' DD = some (.lst zs) ∧ G6 DD = none ∧ RepL X.K G6 zs (picks f 0 (ds.take i) ++ pick g 0 (es.take j)),
        ⟨es.length, by simp, Nat.zero_le _, G5, ys, gt4.trans g5, Ex.refl _, kH5, kG5, by rw [List.take_zero]; show RepL _ _ _ (_ ++ []); rw [List.append_nil]; exact r.mono (g3.trans (g4.trans g5)).g⟩, ?_⟩
      rintro j k H6 ⟨rfl, hj, G6, zs, g6, x6, hH6, hG6, r6⟩
      have w1 := wk1 j G6 H6 x6 g6.gh
      by_cases hlt1 : j < es.length
      · obtain ⟨go1, yl1⟩ := w1.1 es[j] (List.getElem?_eq_getElem hlt1)
        refine .inr ⟨go1, fun H'' => j < es.length ∧ ∃ G6 zs, Grow G1 H1 G6 H'' ∧ Ex G5 G6 ∧ H'' DD = some (.lst zs) ∧ G6 DD = none ∧ RepL X.K G6 zs (picks f 0 (ds.take i) ++ pick g 0 (es.take (j + 1))), fun H'' ⟨_, z⟩ => ⟨es.length - (j + 1), by omega, rfl, hlt1, z⟩, fun x1 H7 hy1 => ?_⟩
        obtain ⟨G7, g7, rx1⟩ := yl1 x1 H7 hy1
        obtain ⟨kH7, kG7⟩ := keepD hG6 hH6 g7
        obtain ⟨ρ3, t1, i1, i2, i3, i4⟩ := hin j _ (List.getElem?_eq_getElem hlt1)
        have gt7 := g6.trans g7
        have e37 : Ex G3 G7 := (g4.trans g5).g.trans (x6.trans g7.g)
        have S7 : SOk X.K E (wipeO ρ2 vs1) (L2.wipe σ2 vs1) G7 H7 := (at' gt7 e37).wipe vs1
        have pk1 := pick_snoc g (es.take j) 0 es[j]
        rw [← take_snoc (List.getElem?_eq_getElem hlt1), Nat.zero_add, List.length_take, Nat.min_eq_left hj] at pk1
        intro s0 H0 cl C fp
        refine tSemG_mono (i1 s0 H0 cl C fp E _ G7 H7 x1 S7 rx1) fun σ3 H8 ⟨⟨e, S8'⟩, wq1⟩ => ?_
        subst e
        have S8 := S8' _ _ (Ex.refl _) S7
        refine ⟨wq1.trans (wipe_wipe vs1), fun s0 H0 cl C fp => tSemTs_mono (i2 s0 H0 cl C fp E σ3 G7 _ (SOk.nox (X := Blk X s0 H0 scope cl C fp) S8)) fun b H9 ⟨eb, G9, g9⟩ => ?_⟩
        subst eb
        cases b with
        | true =>
          rw [if_pos rfl]
          obtain ⟨y, hgy, hy2⟩ := i3 rfl
          intro s0 H0 cl C fp
          refine tSem_mono (hy2 s0 H0 cl C fp E σ3 G9 H9 (SOk.nox (X := Blk X s0 H0 scope cl C fp) (S8.grow g9))) fun v H10 ⟨G10, g10, rv⟩ => ?_
          have g910 := g9.trans g10
          obtain ⟨k1, k2⟩ := keepD kG7 kH7 g910
          have gt := gt7.trans g910
          refine ⟨zs, k1, ?_, hlt1, G10, zs ++ [v], ?_, x6.trans (g7.trans g910).g, upd_same, k2, ?_⟩
          · rw [r6.length, List.length_append]
            have e1 := pick_append g (es.take (j + 1)) (es.drop (j + 1)) 0
            rw [List.take_append_drop, ← hf] at e1
            have e2 := congrArg List.length e1
            rw [List.length_append, pk1, List.length_append, hgy] at e2
            have e3 : ([y] : List D).length = 1 := rfl
            simp only [e3] at e2
            omega
          · exact ⟨gt.g, gt.h.mut hD, gt.gh.mut k2, gt.fr, fun t => tb_lst (gt.tb t) k1⟩
          · rw [pk1, hgy, ← List.append_assoc]
            exact (r6.mono (g7.trans g910).g).append (.one rv)
        | false =>
          rw [if_neg Bool.false_ne_true]
          obtain ⟨k1, k2⟩ := keepD kG7 kH7 g9
          refine ⟨hlt1, G9, zs, gt7.trans g9, x6.trans (g7.trans g9).g, k1, k2, ?_⟩
          rw [pk1, i4 rfl, List.append_nil]
          exact r6.mono (g7.trans g9).g
      · have e : j = es.length := by omega
        subst e
        rw [List.take_length, ← hf] at r6
        refine .inl ⟨w1.2 (Nat.le_refl _), hlt, G6, zs, g6, hH6, hG6, ?_⟩
        rw [pk]; exact r6
    | false =>
      rw [if_neg Bool.false_ne_true]
      obtain ⟨k1, k2⟩ := keepD kG3 kH3 g4
      refine ⟨hlt, G4, ys, gg.trans g4, k1, k2, ?_⟩
      rw [pk, h4 rfl, List.append_nil]
      exact r.mono (g3.trans g4).g
  · have e : i = ds.length := by omega
    subst e
    rw [List.take_length] at r
    refine .inl ⟨w.2 (Nat.le_refl _), q _ G2 H' (g1.trans g2) ⟨DD, ys, rfl, hH, hG, ?_, r⟩⟩
    exact g1.h.back hD
/-- .. as a value -/
theorem eo_lc2 {scope : Scope} {elt tg iter tg1 iter1 : Expr} {ifs ifs1 : List Expr} {f : Nat → D → List D} (own : List (Str × Nat)) (vs1 : List Nat) (hI : EI X ex tg iter ρ ds) (hN : X.N.Nodup) (ok : BlkOk X.N X.env.scope scope own) (hv : ∀ i ∈ vs1, i ∈ own.map (·.2)) (hl : (picks f 0 ds).length ≤ sizeLine) (ht : Lc2Turn X scope (own.map (·.2)) vs1 tg elt ifs tg1 iter1 ifs1 ρ ds f) (hc : X.calm = true := by rfl)
    (hs : ∀ x, foldedSetIterable iter X.env x = pure x := by intro _; rfl) (hs1 : ∀ env x, foldedSetIterable iter1 env x = pure x := by intro _ _; rfl) :
    EO X ex (.ListComp elt [⟨tg, iter, ifs, 0⟩, ⟨tg1, iter1, ifs1, 0⟩] scope pos) ρ (fun o => o = .ml (picks f 0 ds)) := ⟨fun E σ G H S =>
  of_pe (pe_lc2 hc hN sem_pi ok hv (fun s H C cl fp => ⟨fun pins s1 σ H v u Q I r h => h s _ cl C fp pins s1 u I r⟩) (fun s H C cl fp => ⟨fun pins s1 σ H Q I h => h s _ cl C fp pins s1 I⟩)
      (fun s H C cl fp => ⟨fun pins s1 σ H Q I h => h s _ cl C fp pins s1 I⟩) (fun s H C cl fp => ⟨fun pins s1 σ H v u Q I r h => h s _ cl C fp pins s1 u I r⟩) (fun s H C cl fp => ⟨fun pins s1 σ H Q I h => h s _ cl C fp pins s1 I⟩) (fun s H C cl fp => ⟨fun pins s1 σ H Q I h => h s _ cl C fp pins s1 I⟩) hs hs1)
    (lc2_run hI hl ht S fun v G' H' g o => ⟨_, G', g, o, rfl⟩)⟩
/-- x = .. on one line -/
theorem ws_setLc2 (i : Nat) {y : Str} {py spos : Pos} {scope : Scope} {elt tg iter tg1 iter1 : Expr} {ifs ifs1 : List Expr} {f : Nat → D → List D} (own : List (Str × Nat)) (vs1 : List Nat) (hI : EI X ex tg iter ρ ds) (hN : X.N.Nodup) (ok : BlkOk X.N X.env.scope scope own) (hv : ∀ i ∈ vs1, i ∈ own.map (·.2)) (hl : (picks f 0 ds).length ≤ sizeLine) (ht : Lc2Turn X scope (own.map (·.2)) vs1 tg elt ifs tg1 iter1 ifs1 ρ ds f)
    (k : W.nx (ρ.set i (.ml (picks f 0 ds)))) (hc : X.calm = true := by rfl) (hy : X.N[i]? = some y := by rfl) (hyl : X.env.scope.names.lookup y = some .local := by rfl) (hsw : swapsWith (.ListComp elt [⟨tg, iter, ifs, 0⟩, ⟨tg1, iter1, ifs1, 0⟩] scope pos) (some (.Name y py)) spos.line X.env = pure true := by exact sw_true rfl rfl rfl rfl)
    (hs : ∀ x, foldedSetIterable iter X.env x = pure x := by intro _; rfl) (hs1 : ∀ env x, foldedSetIterable iter1 env x = pure x := by intro _ _; rfl) :
    WS X ex (.Assign [.Name y py] (.ListComp elt [⟨tg, iter, ifs, 0⟩, ⟨tg1, iter1, ifs1, 0⟩] scope pos) spos) ρ W := ⟨fun E σ G H S =>
  of_ps (ps_setLc2 hc hN hy hyl hsw sem_pi ok hv (fun s H C cl fp => ⟨fun pins s1 σ H v u Q I r h => h s _ cl C fp pins s1 u I r⟩) (fun s H C cl fp => ⟨fun pins s1 σ H Q I h => h s _ cl C fp pins s1 I⟩)
      (fun s H C cl fp => ⟨fun pins s1 σ H Q I h => h s _ cl C fp pins s1 I⟩) (fun s H C cl fp => ⟨fun pins s1 σ H v u Q I r h => h s _ cl C fp pins s1 u I r⟩) (fun s H C cl fp => ⟨fun pins s1 σ H Q I h => h s _ cl C fp pins s1 I⟩) (fun s H C cl fp => ⟨fun pins s1 σ H Q I h => h s _ cl C fp pins s1 I⟩) hs hs1)
    (lc2_run hI hl ht S fun v G' H' g o => ⟨_, G', set_own S.toSOk g o i, g.g, k⟩)⟩
/-! ### comprehensions' results -/
omit [TbT] in
theorem pick_some {F : D → D} : ∀ (ds : List D) (k : Nat), pick (fun _ d => some (F d)) k ds = ds.map F
  | [], _ => rfl
  | d :: ds, k => by
    show [F d] ++ pick (fun _ d => some (F d)) (k + 1) ds = _
    rw [pick_some ds (k + 1)]; rfl
/-- a comprehension's item from an int -/
def iF (F : Int → Int) : Nat → D → Option D := fun _ d => match d with | .int n => some (.int (F n)) | _ => none
omit [TbT] in
theorem pick_ints {F : Int → Int} : ∀ (ns : List Int) (k : Nat), pick (iF F) k (ns.map .int) = (ns.map F).map .int
  | [], _ => rfl
  | n :: ns, k => by
    show [D.int (F n)] ++ pick (iF F) (k + 1) (ns.map .int) = _
    rw [pick_ints ns (k + 1)]; rfl
omit [TbT] in
theorem range_flat {β : Type} (f : Nat → List β) (m : Nat) : (List.range (m + 1)).flatMap f = (List.range m).flatMap f ++ f m := by
  rw [List.range_succ, List.flatMap_append]; simp
omit [TbT] in
theorem pick_filter {α : Type} {f : α → D} {p : α → Bool} {g : Nat → D → Option D} : ∀ (l : List α) (k : Nat), (∀ k x, g k (f x) = if p x then some (f x) else none) → pick g k (l.map f) = (l.filter p).map f
  | [], _, _ => rfl
  | x :: l, k, h => by
    rw [List.map_cons, List.filter_cons]
    show (match g k (f x) with | some y => [y] | none => []) ++ pick g (k + 1) (l.map f) = _
    rw [pick_filter l (k + 1) h, h]
    cases p x <;> rfl
end
end TG
/-! Dicts whose keys are tuples of ints, of tuples, ..: the rules. -/
namespace TG
open PySem PySem.Spec PyProof.Rows L2
variable [TbT]
omit [TbT] in
theorem pys_len : ∀ ds : List D, (D.pys ds).length = ds.length
  | [] => rfl
  | d :: ds => by show (D.pys ds).length + 1 = ds.length + 1; rw [pys_len ds]
/-- an expression that gives a dict that may be read -/
structure ED (X : Cx) (ex : Exs) (e : Expr) (ρ : List O) (ks vs : List D) : Prop where
  run : ∀ (E : Hp × Hp) (σ : L2.St) (G H : Hp), SOx X ex E ρ σ G H → tSem X e σ H fun v H' => ∃ G', Grow G H G' H' ∧ XRep X.K G' H' v ks vs
instance {X : Cx} {ex : Exs} {e : Expr} {ρ : List O} {ks vs : List D} : CoeFun (ED X ex e ρ ks vs) (fun _ => ∀ (E : Hp × Hp) (σ : L2.St) (G H : Hp), SOx X ex E ρ σ G H → tSem X e σ H fun v H' => ∃ G', Grow G H G' H' ∧ XRep X.K G' H' v ks vs) := ⟨ED.run⟩
theorem SOk.getD {K : PySem.W.Frag} {E : Hp × Hp} {ρ : List O} {σ : L2.St} {G H : Hp} {i : Nat} {ks vs : List D} (S : SOk K E ρ σ G H) (h : ρ[i]? = some (.md ks vs)) : ∃ (a : Addr) (xs : Dx) (us : List V), σ[i]? = some (some (.ref a)) ∧ H a = some (DictX a xs) ∧ G a = none ∧ E.2 a = none ∧ xs.map (·.1) = D.pys ks ∧ (D.pys ks).Nodup ∧ RepL K G (xs.map fun x => V.ref x.2.1) ks ∧ Vals us (xs.map (·.2.2)) ∧ RepL K G us vs ∧ ks.all D.key = true := by
  rcases S.at' i _ h with h | ⟨v, h1, a, xs, us, e, r⟩
  · cases h
  · subst e; exact ⟨a, xs, us, h1, r⟩
section
variable {X : Cx} {ex : Exs} {ρ : List O} {e a b : Expr} {es : List Expr} {k d : D} {ds ks vs : List D} {pos p p2 : Pos} {i : Nat} {x : Str} {W : Eds}
theorem ed_dat (h : EE X ex e ρ (.dct ks vs)) : ED X ex e ρ ks vs := ⟨fun E σ G H S => tSem_mono (h E σ G H S) fun v H' ⟨G', g, r⟩ => ⟨G', g, r.xrep g.gh⟩⟩
theorem ed_own (i : Nat) (hr : ρ[i]? = some (.md ks vs)) (hN : X.N[i]? = some x := by rfl) (hv : Vis X.env.scope x := by first | exact Or.inl rfl | exact Or.inr (Or.inl rfl) | exact Or.inr (Or.inr rfl)) (hd : (x == ("__debug__" : Str)) = false := by decide) (hcd : (x == ("__classdict__" : Str)) = false := by decide) : ED X ex (.Name x pos) ρ ks vs := ⟨fun E σ G H S => by
  obtain ⟨a, xs, us, h1, h2, h3, h4, r⟩ := S.getD hr
  exact of_pe (pe_var hN hv hd hcd) ⟨.ref a, h1, G, .refl S.gh, ⟨a, xs, us, rfl, .inl h2, r⟩⟩⟩

/-! ### k in d -/
/-- the key and the dict as they are read -/
def KX (K : PySem.W.Frag) (H : Hp) (x y : V) (k : D) (ks vs : List D) : Prop := ∃ G, Ex G H ∧ Rep K G x k ∧ k.key = true ∧ XRep K G H y ks vs
omit [TbT] in
theorem kx_at {pins : List (Addr × Obj)} {σ : L2.St} {H : Hp} {s : Shared} {x y : V} {ks vs : List D} (I : Inv X pins σ H s) (h : KX X.K H x y k ks vs) : ∃ (q a : Addr) (xs : Dx) (us : List V) (G : Hp), x = .ref q ∧ y = .ref a ∧ IsKey s.heap k.py q ∧ (a == sysModules) = false ∧ xs.length ≤ sizeLine ∧ s.heap.DictOfH (datKind X.prog X.w) a xs ∧ xs.map (·.1) = D.pys ks ∧ ks.all D.key = true ∧ Vals us (xs.map (·.2.2)) ∧ RepL X.K G us vs ∧ Ex G H ∧ k.key = true := by
  obtain ⟨G, e, r, hk, xr⟩ := h
  obtain ⟨q, rfl⟩ := key_ref r hk
  obtain ⟨a, xs, us, rfl, rd, h1, h2, h3, h4, h5, h6⟩ := xr.ex
  obtain ⟨n1, n2, _⟩ := dictX_at I rd
  exact ⟨q, a, xs, us, G, rfl, rfl, key_at I e r hk, n1, n2, dictH_at I e rd h1 h2 h3 h6, h1, h6, h4, h5, e, hk⟩
def rInX (K : PySem.W.Frag) (neg : Bool) : R2 := fun x y H Q => ∃ k ks vs, KX K H x y k ks vs ∧ Q (.bl (if neg then !(D.mem k ks) else D.mem k ks)) H
omit [TbT] in
theorem op_inX (hu : X.A.units + 10 < cLine) : OpR X (compareOp .In) (rInX X.K false) := by
  intro pins s σ H x y v u Q I rx ry h
  obtain ⟨k, ks, vs, kx, q⟩ := h
  obtain ⟨kq, a, xs, us, G, rfl, rfl, hk, hd, hz, hm, e1, e2, _, _, _, kk⟩ := kx_at I kx
  cases rx; cases ry
  refine wpAny_in_heap (knd := datKind X.prog X.w) (k := k.py) (by show X.A.units + 1 + 9 < _; omega) hk hd hm ⟨.bl _, H, I.tok _, ?_, q⟩
  rw [atKey_mem kk e1 e2]; rfl
omit [TbT] in
theorem op_ninX (hu : X.A.units + 10 < cLine) : OpR X (compareOp .NotIn) (rInX X.K true) := by
  intro pins s σ H x y v u Q I rx ry h
  obtain ⟨k, ks, vs, kx, q⟩ := h
  obtain ⟨kq, a, xs, us, G, rfl, rfl, hk, hd, hz, hm, e1, e2, _, _, _, kk⟩ := kx_at I kx
  cases rx; cases ry
  refine wpAny_notIn_heap (knd := datKind X.prog X.w) (k := k.py) (by show X.A.units + 1 + 9 < _; omega) hk hd hm ⟨.bl _, H, I.tok _, ?_, q⟩
  rw [atKey_mem kk e1 e2]; rfl
theorem ee_inX {m : Nat} (hr : Room m X.A) (ha : EE X ex a ρ k) (hb : ED X ex b ρ ks vs) (hk : k.key = true) (hm : behindInMarks .In b = false := by rfl) : EE X ex (.Compare a [.In] [b] pos) ρ (.bl (D.mem k ks)) := ⟨fun E σ G H S =>
  of_pe (pe_cmpR (op_inX (by have := hr.units; omega)) sem_pe sem_pe hm) (tSem_mono (ha E σ G H S) fun v H1 ⟨G1, g1, r1⟩ => tSem_mono (hb E σ G1 H1 (S.grow g1)) fun w H2 ⟨G2, g2, r2⟩ =>
    ⟨k, ks, vs, ⟨G2, g2.gh, r1.mono g2.g, hk, r2⟩, G2, g1.trans g2, .bl _⟩)⟩
theorem et_inX {m : Nat} (hr : Room m X.A) (ha : EE X ex a ρ k) (hb : ED X ex b ρ ks vs) (hk : k.key = true) (hm : behindInMarks .In b = false := by rfl) : ET X ex (.Compare a [.In] [b] pos) ρ (D.mem k ks) := ⟨fun E σ G H S =>
  of_pt (pt_cmpR (op_inX (by have := hr.units; omega)) sem_pe sem_pe hm) (tSem_mono (ha E σ G H S) fun v H1 ⟨G1, g1, r1⟩ => tSem_mono (hb E σ G1 H1 (S.grow g1)) fun w H2 ⟨G2, g2, r2⟩ =>
    ⟨k, ks, vs, ⟨G2, g2.gh, r1.mono g2.g, hk, r2⟩, _, rfl, rfl, G2, g1.trans g2⟩)⟩
theorem ee_ninX {m : Nat} (hr : Room m X.A) (ha : EE X ex a ρ k) (hb : ED X ex b ρ ks vs) (hk : k.key = true) (hm : behindInMarks .NotIn b = false := by rfl) : EE X ex (.Compare a [.NotIn] [b] pos) ρ (.bl (!(D.mem k ks))) := ⟨fun E σ G H S =>
  of_pe (pe_cmpR (op_ninX (by have := hr.units; omega)) sem_pe sem_pe hm) (tSem_mono (ha E σ G H S) fun v H1 ⟨G1, g1, r1⟩ => tSem_mono (hb E σ G1 H1 (S.grow g1)) fun w H2 ⟨G2, g2, r2⟩ =>
    ⟨k, ks, vs, ⟨G2, g2.gh, r1.mono g2.g, hk, r2⟩, G2, g1.trans g2, .bl _⟩)⟩
theorem et_ninX {m : Nat} (hr : Room m X.A) (ha : EE X ex a ρ k) (hb : ED X ex b ρ ks vs) (hk : k.key = true) (hm : behindInMarks .NotIn b = false := by rfl) : ET X ex (.Compare a [.NotIn] [b] pos) ρ (!(D.mem k ks)) := ⟨fun E σ G H S =>
  of_pt (pt_cmpR (op_ninX (by have := hr.units; omega)) sem_pe sem_pe hm) (tSem_mono (ha E σ G H S) fun v H1 ⟨G1, g1, r1⟩ => tSem_mono (hb E σ G1 H1 (S.grow g1)) fun w H2 ⟨G2, g2, r2⟩ =>
    ⟨k, ks, vs, ⟨G2, g2.gh, r1.mono g2.g, hk, r2⟩, _, rfl, rfl, G2, g1.trans g2⟩)⟩

/-! ### d[k] -/
def rGetX (K : PySem.W.Frag) : R2 := fun y x H Q => ∃ k ks vs d, KX K H x y k ks vs ∧ D.look k ks vs = some d ∧ ∀ v, (∃ G, Ex G H ∧ Rep K G v d ∧ ∀ G2, Ex G G2 → Rep K G2 v d) → Q v H
theorem ee_getX {m : Nat} (hr : Room m X.A) (ha : ED X ex a ρ ks vs) (hb : EE X ex b ρ k) (hk : k.key = true) (hl : D.look k ks vs = some d) (hs : PlainIx b := by exact fun _ _ => rfl) : EE X ex (.Subscript a b pos) ρ d := ⟨fun E σ G H S pins s I => by
  refine Subscript_ (thn (ha E σ G H S pins s I) fun u s1 ⟨y, H1, I1, ry, G1, g1, r1⟩ => thn (hb E σ G1 H1 (S.grow g1) pins s1 I1) fun w s2 ⟨x, H2, I2, rx, G2, g2, r2⟩ => ?_)
  obtain ⟨q, rfl⟩ := key_ref r2 hk
  obtain ⟨da, xs, us, rfl, rd, h1, h2, h3, h4, h5, h6⟩ := (r1.grow g2).ex
  obtain ⟨n1, n2, o, es, ep, o1, o2, o3, o4⟩ := dictX_at I2 rd
  obtain ⟨p, v, hp, rv, rep⟩ := atKey_look hk h1 h6 h4 h5 hl
  cases ry; cases rx
  have hm := dictH_at I2 g2.gh rd h1 h2 h3 h6
  refine tail_any hm.typeIs PySem.F.slot_dict_getitem.lookup (wpAny_getItem_heap (knd := datKind X.prog X.w) (k := k.py) (by show X.A.units + 1 + 9 < _; have := hr.units; omega) (key_at I2 g2.gh r2 hk) hm hp ⟨v, H2, I2.tok _, rv, G2, g1.trans g2, rep⟩) (hs _ _)⟩

/-! ### len(d), list(d) -/
theorem ee_lenX {m : Nat} (hr : Room m X.A) (hg : Gl X "len") (hm : X.mg "len" = none) (ha : ED X ex e ρ ks vs) (he : starEach [e] X.env = (false, eval e X.env) :: starEach [] X.env := by rfl) (hpl : (backTo pos (starEach [] X.env)).any (·.1) = false := by rfl) : EE X ex (.Call (.Name "len" p) [e] [] pos) ρ (.int ks.length) := ⟨fun E σ G H S pins s I => by
  refine wpAny_Call_Name_kw (ld_blt I hg hm PySem.boot_len ?_)
  refine PyProof.Rows.callWith_builtin1 (thn ((pa_cons sem_pe pa_nil he).run pos pins s σ H (fun vs' H' => ∃ v G', vs' = [v] ∧ Grow G H G' H' ∧ XRep X.K G' H' v ks vs) I (tSem_mono (ha E σ G H S) fun v H' ⟨G', g, r⟩ => ⟨v, G', rfl, g, r⟩)) fun us s1 ⟨vs', H1, I1, r1, v, G1, e1, g1, xr⟩ => ?_) he hpl
  subst e1
  obtain ⟨da, xs, us', rfl, rd, h1, h2, h3, h4, h5, h6⟩ := xr.ex
  obtain ⟨n1, n2, _⟩ := dictX_at I1 rd
  obtain ⟨u, rfl, ru⟩ := L2.vals1 r1
  obtain rfl : u = Value.ref da := ru
  have hl : xs.length = ks.length := by
    have := congrArg List.length h1
    rw [List.length_map, pys_len] at this
    exact this
  refine call_len_dictH (knd := datKind X.prog X.w) n1 (dictH_at I1 g1.gh rd h1 h2 h3 h6) (by have := sizeLine_eq; omega) ?_
  exact ⟨.int xs.length, H1, I1.tok _, ⟨_, rfl⟩, G1, g1, by rw [hl]; exact .int _⟩⟩
end
/-! ### stores -/
/-- the keys and values behind d[k] = v -/
def insK (k : D) (ks : List D) : List D := if D.mem k ks then ks else ks ++ [k]
def insV (k v : D) (ks vs : List D) : List D := if D.mem k ks then D.putV k v ks vs else vs ++ [v]
omit [TbT] in
theorem insK_len (k : D) (ks : List D) : (insK k ks).length ≤ ks.length + 1 := by
  unfold insK
  split
  · omega
  · rw [List.length_append]; exact Nat.le_refl _
/-- what a dict's object is told by -/
def DArt (K : PySem.W.Frag) (G : Hp) (xs : Dx) (us : List V) (ks vs : List D) : Prop := xs.map (·.1) = D.pys ks ∧ (D.pys ks).Nodup ∧ RepL K G (xs.map fun x => V.ref x.2.1) ks ∧ Vals us (xs.map (·.2.2)) ∧ RepL K G us vs ∧ ks.all D.key = true
omit [TbT] in
theorem art_nil {K : PySem.W.Frag} {G : Hp} : DArt K G [] [] [] [] := ⟨rfl, .nil, .nil, .nil, .nil, rfl⟩
omit [TbT] in
theorem art_mono {K : PySem.W.Frag} {G G' : Hp} {xs : Dx} {us : List V} {ks vs : List D} (h : DArt K G xs us ks vs) (e : Ex G G') : DArt K G' xs us ks vs := ⟨h.1, h.2.1, h.2.2.1.mono e, h.2.2.2.1, h.2.2.2.2.1.mono e, h.2.2.2.2.2⟩
omit [TbT] in
theorem art_len {K : PySem.W.Frag} {G : Hp} {xs : Dx} {us : List V} {ks vs : List D} (h : DArt K G xs us ks vs) : xs.length = ks.length := by
  have := congrArg List.length h.1
  rwa [List.length_map, pys_len] at this
omit [TbT] in
theorem art_put {K : PySem.W.Frag} {G : Hp} {xs : Dx} {us : List V} {ks vs : List D} {k v : D} {q : Addr} {z : V} {u : Value} (h : DArt K G xs us ks vs) (hk : k.key = true) (rk : Rep K G (.ref q) k) (rz : RelV z u) (rv : Rep K G z v) : ∃ us', DArt K G (storedH xs k.py q u) us' (insK k ks) (insV k v ks vs) := by
  obtain ⟨h1, h2, h3, h4, h5, h6⟩ := h
  have hm := atKey_mem hk h1 h6
  cases e : D.mem k ks with
  | true =>
    rw [e] at hm
    obtain ⟨p, hp⟩ := Option.isSome_iff_exists.mp hm
    rw [storedH_old hp]
    obtain ⟨us', g1, g2⟩ := putAt_vals hk rz rv h1 h6 h4 h5
    unfold insK insV
    rw [e]
    exact ⟨us', by rw [putAt_keys]; exact h1, h2, by rw [putAt_refs]; exact h3, g1, g2, h6⟩
  | false =>
    rw [e] at hm
    have hn : atKey xs k.py = none := by
      cases z : atKey xs k.py with
      | none => rfl
      | some p => rw [z] at hm; cases hm
    rw [storedH_new hn]
    unfold insK insV
    rw [e]
    refine ⟨us ++ [z], by rw [List.map_append, h1]; show _ ++ [k.py] = D.pys (ks ++ [k]); rw [pys_append]; rfl, ?_, by rw [List.map_append]; exact h3.append (.one rk), by rw [List.map_append]; exact Vals.append h4 (.cons rz .nil), h5.append (.one rv), by rw [if_neg Bool.false_ne_true, List.all_append, h6]; simpa using hk⟩
    rw [if_neg Bool.false_ne_true, pys_append]
    refine List.nodup_append.mpr ⟨h2, by show ([k.py] : List PyData).Nodup; simp, fun x hx y hy => ?_⟩
    have e2 : y = k.py := by simpa [D.pys] using hy
    subst e2
    intro z
    subst z
    have := (mem_pys hk h6).mpr hx
    rw [e] at this; cases this
omit [TbT] in
theorem dictX_ok {P : Program} {w : World} {H : Hp} {h : Heap} {a : Addr} {xs : Dx} (hs : (a == sysModules) = false) (hz : xs.length ≤ sizeLine) (hm : h.DictOfH (datKind P w) a xs) : ObjOk P w H h a (DictX a xs) := by
  obtain ⟨o, es, ep, h1, h2, h3, h4, _, _⟩ := hm
  exact ⟨⟨hs, hz, o, es, ep, h1, h2, h3, h4⟩, ⟨o, h1⟩, fun g1 g2 ⟨a1, a2, o', es', ep', b1, b2⟩ st => ⟨a1, a2, o', es', ep', st _ b1, b2⟩⟩
omit [TbT] in
theorem dictX_mut {a : Addr} {xs : Dx} : Mut (some (DictX a xs)) := True.intro
omit [TbT] in
/-- a dict's object is no code object -/
theorem dictX_code {X : Cx} {pins : List (Addr × Obj)} {σ : L2.St} {H : Hp} {s : Shared} (I : Inv X pins σ H s) {a : Addr} {xs : Dx} (h : H a = some (DictX a xs)) : (∀ ps, DictX a xs ≠ .tbl ps) ∧ ∀ q, DictX a xs ≠ LamX.CodeO a q := by
  refine ⟨dictX_ne.1, fun q e => ?_⟩
  obtain ⟨_, _, o, es, ep, h1, _, h3, _⟩ := dictX_at I (.inl h)
  have x := I.hok a _ (h.trans (congrArg some e))
  obtain ⟨⟨oc, vs, t, g1, g2, _⟩, _, _⟩ := x
  rw [h1] at g1; cases g1
  rw [h3] at g2; cases g2
omit [TbT] in
theorem dict_after {X : Cx} {pins : List (Addr × Obj)} {σ : L2.St} {G H : Hp} {s : Shared} {a q : Addr} {xs : Dx} {us : List V} {ks vs : List D} {k v : D} {z : V} {u : Value} {h' : Heap} {tk : Nat} (I : Inv X pins σ H s) (h : H a = some (DictX a xs)) (t : DArt X.K G xs us ks vs) (hl : ks.length < sizeLine) (hk : k.key = true) (rk : Rep X.K G (.ref q) k) (rz : RelV z u) (rv : Rep X.K G z v)
    (hm : h'.DictOfH (datKind X.prog X.w) a (storedH xs k.py q u)) (hs : Heap.SameBut a s.heap h') : ∃ us', Inv X pins σ (upd H a (DictX a (storedH xs k.py q u))) { s with heap := h', toks := tk } ∧ DArt X.K G (storedH xs k.py q u) us' (insK k ks) (insV k v ks vs) := by
  obtain ⟨us', t'⟩ := art_put t hk rk rz rv
  obtain ⟨n1, n2, _⟩ := dictX_at I (.inl h)
  have hz : (storedH xs k.py q u).length ≤ sizeLine := by
    rw [art_len t']
    have := insK_len k ks
    omega
  refine ⟨us', I.write (x := a) (e := a) (by rw [h]; exact dictX_mut) (.inl rfl) (fun b o hb e => (hs.2 b hb).trans e) ?_ (dictX_ok n1 hz hm), t'⟩
  obtain ⟨o, _, _, ho, _⟩ := hm
  exact ⟨o, ho⟩
section
variable {X : Cx} {ex : Exs} {ρ : List O} {e a b : Expr} {es : List Expr} {k d : D} {ds ks vs : List D} {pos p p2 : Pos} {i : Nat} {x : Str} {W : Eds}
/-- x[k] = v, x a dict of one's own -/
theorem ws_dput {m : Nat} (i : Nat) {npos tpos : Pos} {value key : Expr} (hr : ρ[i]? = some (.md ks vs)) (hR : Room m X.A) (hv : EE X ex value ρ d) (hk : EE X ex key ρ k) (hkey : k.key = true) (hl : ks.length < sizeLine) (kn : W.nx (ρ.set i (.md (insK k ks) (insV k d ks vs)))) (hN : X.N[i]? = some x := by rfl) (hvx : Vis X.env.scope x := by first | exact Or.inl rfl | exact Or.inr (Or.inl rfl) | exact Or.inr (Or.inr rfl)) (hd : (x == ("__debug__" : Str)) = false := by decide) (hcd : (x == ("__classdict__" : Str)) = false := by decide)
    (hs : swapsWith value (some (.Subscript (.Name x npos) key tpos)) pos.line X.env = pure false := by rfl) : WS X ex (.Assign [.Subscript (.Name x npos) key tpos] value pos) ρ W := ⟨fun E σ G H S pins s I => by
  refine wpAny_Assign_Subscript (thn (hv E σ G H S pins s I) fun u s1 ⟨v, H1, I1, rv, G1, g1, r1⟩ => ?_) hs
  have S1 := S.grow g1
  obtain ⟨da, xs, us, h1, h2, h3, h4, t⟩ := S1.getD hr
  refine thn ((pe_var (pos := npos) hN hvx hd hcd).run pins s1 σ H1 (fun v H' => v = .ref da ∧ H' = H1) I1 ⟨.ref da, h1, rfl, rfl⟩) fun w s2 ⟨v', H2, I2, rv', e1, e2⟩ => ?_
  subst e1
  rw [e2] at I2
  obtain rfl : w = Value.ref da := rv'
  refine thn (hk E σ G1 H1 S1 pins s2 I2) fun kv s3 ⟨vk, H3, I3, rk, G3, g3, rK⟩ => ?_
  obtain ⟨q, rfl⟩ := key_ref rK hkey
  obtain rfl : kv = Value.ref q := rk
  have S3 := S1.grow g3
  obtain ⟨da', xs', us', h1', h2', h3', h4', t'⟩ := S3.getD hr
  rw [h1] at h1'; cases h1'
  obtain ⟨n1, n2, _⟩ := dictX_at I3 (.inl h2')
  refine wpAny_setItem_heap (knd := datKind X.prog X.w) (k := k.py) (by show X.A.units + 1 + 9 < _; have := hR.units; omega) (key_at I3 g3.gh rK hkey) (dictH_at I3 g3.gh (.inl h2') t'.1 t'.2.1 t'.2.2.1 t'.2.2.2.2.2) (fun h' hm hsb => ?_) n2
  obtain ⟨us2, I4, t4⟩ := dict_after (tk := s3.toks + (datKind X.prog X.w).draws k.py) I3 h2' t' hl hkey rK rv (r1.mono g3.g) hm hsb
  refine ⟨σ, _, I4, ?_⟩
  refine ⟨_, G3, S3.ownTo (o' := .md (insK k ks) (insV k d ks vs)) hr rfl h1 (tb_upd S3.tb fun u e => ?_) ⟨da, _, us2, rfl, upd_same, h3', h4', t4⟩, (g1.trans g3).g, kn⟩
  rw [h2'] at e; cases e
  exact dictX_code I3 h2'⟩
/-- {} -/
theorem eo_dnew : EO X ex (.Dict [] [] pos) ρ (fun o => o = .md [] []) := ⟨fun E σ G H S pins s I => by
  refine wpAny_Dict_empty ?_
  have hn := I.hok.fresh (Nat.le_refl s.heap.objs.size)
  have gt : Heap.get? (s.heap.push { cls := .type "dict", data := .dict #[] }) s.heap.objs.size = some { cls := .type "dict", data := .dict #[] } := Heap.get?_push_size _ rfl
  refine ⟨.ref s.heap.objs.size, upd H s.heap.objs.size (DictX s.heap.objs.size []), I.laid (a := s.heap.objs.size) (t' := s.toks) (fun _ _ q => Heap.get?_push_of_some _ q) (Nat.le_refl _) ?_, rfl, ?_⟩
  · exact dictX_ok (beq_eq_false_iff_ne.mpr (Ne.symm (Nat.ne_of_lt I.big))) (Nat.zero_le _) ⟨_, #[], 0, gt, ⟨rfl, rfl, rfl⟩, rfl, rfl, fun x hx => by simp at hx, List.nodup_nil⟩
  · exact ⟨.md [] [], G, Grow.newH S.gh hn, ⟨_, [], [], rfl, upd_same, S.gh.back hn, hn, art_nil⟩, rfl⟩⟩
/-- list(d) -/
theorem eo_listX (hg : Gl X "list") (hm : X.mg "list" = none) (ha : ED X ex e ρ ks vs) (hc : X.calm = true := by rfl) (he : starEach [e] X.env = (false, eval e X.env) :: starEach [] X.env := by rfl) (hpl : (backTo pos (starEach [] X.env)).any (·.1) = false := by rfl) : EO X ex (.Call (.Name "list" p) [e] [] pos) ρ (fun o => o = .ml ks) := ⟨fun E σ G H S pins s I => by
  refine wpAny_Call_Name_kw (ld_blt I hg hm (by decide +kernel : bootBuiltins "list" = some (.type "list")) ?_)
  refine PyProof.Rows.callWith_type1 (thn ((pa_cons sem_pe pa_nil he).run pos pins s σ H (fun vs' H' => ∃ v G', vs' = [v] ∧ Grow G H G' H' ∧ XRep X.K G' H' v ks vs) I (tSem_mono (ha E σ G H S) fun v H' ⟨G', g, r⟩ => ⟨v, G', rfl, g, r⟩)) fun us s1 ⟨vs', H1, I1, r1, v, G1, e1, g1, xr⟩ => ?_) he hpl
  subst e1
  obtain ⟨da, xs, us', rfl, rd, h1, h2, h3, h4, h5, h6⟩ := xr.ex
  obtain ⟨n1, n2, o, es, ep, ho, hx, hdt, het⟩ := dictX_at I1 rd
  obtain ⟨u, rfl, ru⟩ := L2.vals1 r1
  obtain rfl : u = Value.ref da := ru
  have lx : es.size = xs.length := by rw [← Array.length_toList, het, List.length_map]
  refine PySem.W.kdl_call (kdl_raw n1 hx hdt) (I1.ok.hd hc) ho (by omega) fun h' tk acc' c' kp ea it => ?_
  have eacc : acc'.toList = xs.map fun x => Value.ref x.2.1 := by
    have hl : acc'.toList.length = xs.length := by rw [Array.length_toList, it.1]; exact lx
    apply List.ext_getElem?
    intro j
    rw [List.getElem?_map]
    cases hj : acc'.toList[j]? with
    | none =>
      have h1 := List.getElem?_eq_none_iff.mp hj
      rw [List.getElem?_eq_none (by omega)]; rfl
    | some v =>
      obtain ⟨en, hen, hv⟩ := it.2 j v (by rw [← Array.getElem?_toList]; exact hj)
      have qe : es.toList[j]? = (xs.map entP)[j]? := by rw [het]
      rw [Array.getElem?_toList, hen, List.getElem?_map] at qe
      cases hb : xs[j]? with
      | none => rw [hb] at qe; cases qe
      | some y =>
        rw [hb] at qe
        have e2 : en = entP y := Option.some.inj qe
        rw [hv, e2]; rfl
  have hn := I1.hok.fresh (Nat.le_refl s1.heap.objs.size)
  have hz : (xs.map fun x => V.ref x.2.1).length ≤ sizeLine := by rw [List.length_map]; exact n2
  have rvs : ∀ l : Dx, Vals (l.map fun x => V.ref x.2.1) (l.map fun x => Value.ref x.2.1) := fun l => by
    induction l with
    | nil => exact .nil
    | cons x l ih => exact .cons rfl ih
  refine ⟨.ref s1.heap.objs.size, upd H1 s1.heap.objs.size (.lst (xs.map fun x => V.ref x.2.1)), I1.laid (a := s1.heap.objs.size) (t' := tk) kp (Nat.le_refl _) ⟨hz, acc'.toList, c', by rw [eacc]; exact rvs xs, ea⟩, rfl, ?_⟩
  have gn := Grow.newH (u := .lst (xs.map fun x => V.ref x.2.1)) g1.gh hn
  exact ⟨.ml ks, G1, g1.trans gn, ⟨_, _, rfl, upd_same, g1.gh.back hn, g1.h.back hn, h3⟩, rfl⟩⟩
end
/-! ### an owned dict as data -/
section
variable {X : Cx} {ex : Exs} {ρ : List O} {e : Expr} {ds ks vs : List D} {pos p : Pos} {i : Nat} {W : Eds}
/-- from here on the dict does not change any more -/
theorem ws_freezeD (i : Nat) {sts : List Stmt} (hr : ρ[i]? = some (.md ks vs)) (h : WSs X ex sts (ρ.set i (.va (.dct ks vs))) W) : WSs X ex sts ρ W := ⟨fun E σ G H S pins s I => by
  obtain ⟨a, xs, us, h1, h2, h3, h4, t1, t2, t3, t4, t5, t6⟩ := S.getD hr
  obtain ⟨od, I'⟩ := I.lock h2 dictX_mut
  have tb : Tb (upd H a (.frz od (DictX a xs))) := tb_upd S.tb fun u e => by rw [h2] at e; cases e; exact dictX_code I h2
  have ne : ∀ ps, HO.frz od (DictX a xs) ≠ .tbl ps := fun ps z => by cases z
  have e1 : Ex G (upd G a (.frz od (DictX a xs))) := Ex.new h3
  have S' := S.toSOk.toData (d := .dct ks vs) (u := .frz od (DictX a xs)) hr rfl h1 (fun b nb => upd_ne nb) upd_same ne tb (.dct upd_same t1 t2 (t3.mono e1) t4 (t5.mono e1) t6)
  exact (h.go (S.at S' e1) e1) pins s I'⟩
/-! ### for k in d -/
/-- the keys of the frozen dict at d -/
def Itx (d : Addr) (o : Obj) (xs : Dx) : It :=
  ⟨fun i H => H d = some (.frz o (DictX d xs)) ∧ i < xs.length, fun i H x H' => H' = H ∧ ∃ y, xs[i]? = some y ∧ x = .ref y.2.1, fun i H => H d = some (.frz o (DictX d xs)) ∧ xs.length ≤ i⟩
omit [TbT] in
theorem frzX {pins : List (Addr × Obj)} {σ : L2.St} {H : Hp} {s : Shared} {d : Addr} {o : Obj} {xs : Dx} (I : Inv X pins σ H s) (h : H d = some (.frz o (DictX d xs))) : (d == sysModules) = false ∧ s.heap.get? d = some o ∧ o.ExactDict ∧ ∃ (es : Array DictEntry) (ep : Nat), o.data = .dict es ep ∧ es.size = xs.length ∧ es.toList = xs.map entP := by
  have h1 : s.heap.get? d = some o := (I.hok d _ h).1
  obtain ⟨n1, n2, o', es, ep, g1, g2, g3, g4⟩ := dictX_at I (.inr ⟨o, h⟩)
  rw [h1] at g1; cases g1
  exact ⟨n1, h1, g2, es, ep, g3, by rw [← Array.length_toList, g4, List.length_map], g4⟩
omit [TbT] in
theorem turn_keysX {P : Program} {w : World} {K : PySem.W.Frag} {tg : Expr} {d : Addr} {o : Obj} {es : Array DictEntry} {ep : Nat} {xs : Dx} (it : Addr) (hod : o.data = .dict es ep) : Turn P w K tg (Itx d o xs) [it] it (fun i h => h.IsKeyIter it d i xs.length ep) where
  mem := by simp
  obj := fun i h st b hb => by
    have e : b = it := by simpa using hb
    subst e
    obtain ⟨oi, e, c, dd⟩ := st
    exact ⟨oi, e, fun v z => by rw [dd] at z; cases z⟩
  keep := fun i h h' st k => st.at fun oi e => k it (by simp) oi e
  item := by
    intro X hP hw hK hc i pins s σ H E I hf st hg
    subst hP hw hK
    obtain ⟨hd, hi⟩ := hg
    obtain ⟨f0, f1, f2, f3, f4, f5⟩ := hf it (by simp)
    obtain ⟨hs, hgd, hx, es', ep', hdt, hsz, het⟩ := frzX I hd
    obtain ⟨rfl, rfl⟩ := dict_ep hod hdt
    have hen : es'[i]? = some (entP xs[i]) := by
      rw [← Array.getElem?_toList, het, List.getElem?_map, List.getElem?_eq_getElem hi]; rfl
    refine next_key_item st hgd hdt hsz hen fun h' st' sb => ?_
    have I1 : Inv X pins σ H { s with heap := h' } := I.turned (t' := s.toks) (fun b ob hb e => (sb.2 b hb).trans e) f0 f1 f3 f4 f5
    obtain ⟨oi, e, c, dd⟩ := id st'
    exact ⟨(entP xs[i]).key, rfl, go_of (s := { s with heap := h' }) e c dd (by decide) ⟨.ref xs[i].2.1, H, I1, rfl, ⟨rfl, xs[i], List.getElem?_eq_getElem hi, rfl⟩, st', fun b hb => (hf b hb).1⟩⟩
  done := by
    intro X hP hw hK hc i pins s σ H E I hf st hg
    subst hP hw hK
    obtain ⟨hd, hi⟩ := hg
    obtain ⟨f0, f1, f2, f3, f4, f5⟩ := hf it (by simp)
    obtain ⟨hs, hgd, hx, es', ep', hdt, hsz, het⟩ := frzX I hd
    obtain ⟨rfl, rfl⟩ := dict_ep hod hdt
    exact next_key_end (I.ok.hd hc) st hgd hdt hsz hi fun h' eb => ⟨rfl, I.turned (t' := s.toks) (fun b ob hb e => eb b ob hb e) f0 f1 f3 f4 f5⟩
  self := fun A i s Q E st h => by
    refine wpAny_pyIter_slot st.typeIs F.slot_dict_keyiterator_iter (wpAny_call_entry F.slot_dict_keyiterator_iter st.typeIs F.entry_dict_keyiterator_iter ?_ (F.args_dict_keyiterator_iter_1 _))
    show wpAny _ _ (ret (.ref it)) _ _ s
    exact wpAny_pure ⟨_, rfl, "dict_keyiterator", _, st.typeIs, F.slot_dict_keyiterator_next.lookup, h⟩
/-- what is walked: a frozen dict's keys -/
theorem ei_dct {tg iter : Expr} (h : EE X ex iter ρ (.dct ks vs)) : EI X ex tg iter ρ ks := ⟨fun E σ G H S pins s I => by
  refine thn (h E σ G H S pins s I) fun u s1 ⟨v, H1, I1, rv, G1, g1, r1⟩ => ?_
  cases r1 with
  | @dct d o xs us _ _ hd e1 e2 e3 e4 e5 e6 =>
    obtain rfl : u = Value.ref d := rv
    have hd1 := g1.gh.app _ _ hd
    obtain ⟨hs, hgd, hx, es, ep, hdt, hsz, het⟩ := frzX I1 hd1
    refine iter_keys hs hgd hx hdt (pi_one (tk := s1.toks) I1 _ (turn_keysX (xs := xs) _ hdt) ⟨_, Heap.get?_push_size _ rfl, rfl, ?_⟩ ⟨G1, g1, fun i G' H' x1 x2 => ⟨fun k hk => ?_, fun hle => ⟨x2.app _ _ (x1.app _ _ hd), ?_⟩⟩⟩)
    · rw [hsz] <;> rfl
    · obtain ⟨v, hv, rk⟩ := e3.get hk
      rw [List.getElem?_map] at hv
      cases hy : xs[i]? with
      | none => rw [hy] at hv; cases hv
      | some y =>
        rw [hy] at hv
        refine ⟨⟨x2.app _ _ (x1.app _ _ hd), (List.getElem?_eq_some_iff.mp hy).1⟩, fun x H2 ⟨e, z, hz, hx⟩ => ?_⟩
        rw [hy] at hz; cases hz
        subst e hx
        cases hv
        exact ⟨G', .refl x2, rk.mono x1⟩
    · have := congrArg List.length e1
      rw [List.length_map, pys_len] at this
      omega⟩
end
/-! ### for over what is walked -/
section
variable {X : Cx} {ex : Exs} {ρ : List O} {ds ks vs : List D} {pos : Pos} {body : List Stmt} {W : Eds}
/-- the invariant of a for over whatever is walked -/
theorem ws_forI {iter tg : Expr} (R : Nat → List O → Prop) (h : EI X ex tg iter ρ ds) (h0 : Up (R 0) ρ) (hp : PassesOwn (model X.prog X.w) X.A X.env X.xe)
    (hs : ∀ k d ρ, ds[k]? = some d → R k ρ → ∃ ρ', ATg X tg d ρ ρ' ∧ WSs X ex body ρ' { nx := Up (R (k + 1)), ct := Up (R (k + 1)), bk := W.nx, rt := W.rt }) (hd : ∀ ρ, R ds.length ρ → W.nx ρ) (hc : X.calm = true := by rfl)
    (hf : ∀ x, foldedSetIterable iter X.env x = pure x := by intro _; rfl) : WS X ex (.For tg iter body [] pos) ρ W := ⟨fun E σ G H S =>
  of_ps (ps_for hp hc (tb := tSemSs X body) (sem_pi (X := X) (tg := tg) (iter := iter)) sem_pg sem_pss hf) (tSemI_mono (h E σ G H S) fun J H1 ⟨G1, g, wk⟩ => by
    refine ⟨fun i m σ' H' => m = ds.length - i ∧ i ≤ ds.length ∧ ∃ ρ' G', SOk X.K E ρ' σ' G' H' ∧ Ex G1 G' ∧ R i ρ', ⟨ds.length, by simp, Nat.zero_le _, ?_⟩, ?_⟩
    · obtain ⟨ρ', S', r'⟩ := sok_up (S.grow g).toSOk h0
      exact ⟨ρ', G1, S', Ex.refl _, r'⟩
    · rintro i m σ' H' ⟨rfl, hi, ρ', G', S', x', r'⟩
      have w := wk i G' H' x' S'.gh
      by_cases hlt : i < ds.length
      · obtain ⟨go, yl⟩ := w.1 ds[i] (List.getElem?_eq_getElem hlt)
        refine .inr ⟨go, fun σ'' H'' => i < ds.length ∧ ∃ ρ' G', SOk X.K E ρ' σ'' G' H'' ∧ Ex G1 G' ∧ R (i + 1) ρ', fun σ'' H'' ⟨_, z⟩ => ⟨ds.length - (i + 1), by omega, rfl, hlt, z⟩, fun v H'' hy => ?_⟩
        obtain ⟨G3, g3, rx⟩ := yl v H'' hy
        obtain ⟨ρ2, ht, hb⟩ := hs i _ ρ' (List.getElem?_eq_getElem hlt) r'
        refine tSemG_mono (ht E σ' G3 H'' v (S'.grow g3) rx) fun σ2 H2 ⟨e, S2⟩ => ?_
        subst e
        have xx := x'.trans g3.g
        have up : ∀ {σ3 : L2.St} {H3 : Hp}, (∃ ρ3 G3', SOk X.K E ρ3 σ3 G3' H3 ∧ Ex G3 G3' ∧ Up (R (i + 1)) ρ3) → i < ds.length ∧ ∃ ρ' G', SOk X.K E ρ' σ3 G' H3 ∧ Ex G1 G' ∧ R (i + 1) ρ' := fun {σ3 H3} ⟨ρ3, G4, S3, x3, u⟩ => by
          obtain ⟨ρ4, S4, r4⟩ := sok_up S3 u
          exact ⟨hlt, ρ4, G4, S4, xx.trans x3, r4⟩
        exact tSemSs_mono (hb E σ2 G3 _ (S.at S2 (g.g.trans xx))) (fun _ _ q => up q) (fun _ _ q => q) (fun _ _ ⟨ρ3, G4, S3, x3, q⟩ => ⟨ρ3, G4, S3, (g.g.trans xx).trans x3, q⟩) (fun _ _ q => up q)
      · have e : i = ds.length := by omega
        subst e
        exact .inl ⟨w.2 (Nat.le_refl _), ρ', G', S', g.g.trans x', hd ρ' r'⟩)⟩
end
end TG
/-! Own classes over plain data: instances made by __init__, then never changed. -/
namespace TG
open PySem PySem.Spec PyProof.Rows L2
variable [TbT]
/-- a class of the text -/
structure ClsT (K : PySem.W.Frag) (mg : Str → Option Value) (c : Str) : Prop where
  ex : ∃ C, mg c = some (.ref C) ∧ PySem.W.nsIn K mainGlobals c = some (some (.ref C)) ∧ Cls K C ∧ PySem.W.keepIn K (.ref C) = true ∧ PySem.W.findIn K (.ref C) "__class__" = some (some (.builtin "object.__class__")) ∧
    PySem.W.specialIn K (.builtin "object.__class__") "__get__" = some (some (.builtin "getset_descriptor.__get__")) ∧ PySem.W.takesIn K (.builtin "object.__class__") = some true ∧ PySem.W.mroIn K C (.type "object") = some true
/-- an attribute that only instances have -/
structure AtT (K : PySem.W.Frag) (c f : Str) : Prop where
  no : ∀ C, PySem.W.nsIn K mainGlobals c = some (some (.ref C)) → NoAttr K C f
/-- a method -/
structure MetT (K : PySem.W.Frag) (c m : Str) (st : Stmt) (ps : List Str) (dvs : List V) : Prop where
  ex : ∃ (C f : Addr) (fd : FuncData), PySem.W.nsIn K mainGlobals c = some (some (.ref C)) ∧ Cls K C ∧ Meth K C m f ∧ FunD K m (c ++ "." ++ m) (defArgs st) (defBody st) (defScope st) dvs [] f fd ∧ ∀ j ≤ dvs.length, ∃ ds, Vals (dvs.drop j) ds ∧ Binds K fd ps ds
/-- a property -/
structure PropT (K : PySem.W.Frag) (c m : Str) (st : Stmt) : Prop where
  ex : ∃ (C p f : Addr) (fd : FuncData), PySem.W.nsIn K mainGlobals c = some (some (.ref C)) ∧ Cls K C ∧ PropOf K C m p f ∧ FunD K m (c ++ "." ++ m) (defArgs st) (defBody st) (defScope st) [] [] f fd ∧ Binds K fd ["self"] []
/-- __init__ -/
structure InitT (K : PySem.W.Frag) (mg : Str → Option Value) (c : Str) (st : Stmt) (ps : List Str) (dvs : List V) : Prop where
  ex : ∃ (C f : Addr) (fd : FuncData), mg c = some (.ref C) ∧ PySem.W.nsIn K mainGlobals c = some (some (.ref C)) ∧ Cls K C ∧ Mk K C f ∧ FunD K "__init__" (c ++ "." ++ "__init__") (defArgs st) (defBody st) (defScope st) dvs [] f fd ∧ ∀ j ≤ dvs.length, ∃ ds, Vals (dvs.drop j) ds ∧ Binds K fd ps ds
/-! ### promises -/
/-- a method's promise, self's data ahead -/
structure CalM (P : Program) (w : World) (K : PySem.W.Frag) (mg : Str → Option Value) (base : Heap) (k : Nat) (c m : Str) (S : Spc) (dds : List D) : Prop where
  ex : ∃ (C f : Addr) (fd : FuncData) (ps : List Str) (dvs : List V) (dus : List Value), PySem.W.nsIn K mainGlobals c = some (some (.ref C)) ∧ Cls K C ∧ Meth K C m f ∧ FnOk P w K mg base CX0 k f fd ps (spOf K S) ∧ Binds K fd ps dus ∧ Vals dvs dus ∧ ∀ G, RepL K G dvs dds
structure CalP (P : Program) (w : World) (K : PySem.W.Frag) (mg : Str → Option Value) (base : Heap) (k : Nat) (c m : Str) (S : Spc) : Prop where
  ex : ∃ (C p f : Addr) (fd : FuncData), PySem.W.nsIn K mainGlobals c = some (some (.ref C)) ∧ Cls K C ∧ PropOf K C m p f ∧ FnOk P w K mg base CX0 k f fd ["self"] (spOf K S) ∧ Binds K fd ["self"] []
section
variable {P : Program} {w : World} {K : PySem.W.Frag} {mg : Str → Option Value} {base : Heap} {c m : Str} {st : Stmt} {ps : List Str} {dvs : List V} {k : Nat} {S : Spc}
theorem fun_ok {x q : Str} {f : Addr} {fd : FuncData} (F : FunD K x q (defArgs st) (defBody st) (defScope st) dvs [] f fd) {N : List Str} (Sc : FnScope N ps (defScope st)) (len : ∀ ds Q, S.S ds Q → ds.length = ps.length)
    (hbody : ∀ (f : Addr) (cdv : Value) (A : Around) (outer : List Env) (s : Shared) (H : Hp), Room k (A.deeper (envOfC q (defScope st) s.heap.objs.size f cdv)) → ∀ ds (Q : O → Prop), S.S ds Q →
      WSs (cxOf CX0 P w K mg base N q (defScope st) f cdv A outer s H E0).nox noX (defBody st) (slots N.length ds) { nx := fun _ => Q (.va .non), rt := Q }) : FnOk P w K mg base CX0 (k + 1) f fd ps (spOf K S) := by
  refine F.ok Sc (fun vs H Q E ⟨_, ds, G, e, r, h⟩ => ?_) (fun cdv A outer s H vs Q E hr h => ?_)
  · rw [r.length]; exact len ds _ h
  · exact ⟨tSemSs (cxOf CX0 P w K mg base N q (defScope st) f cdv A outer s H E).nox _, PSs.nox sem_pss, spec_ok (X := (cxOf CX0 P w K mg base N q (defScope st) f cdv A outer s H E).nox) rfl h fun ds P hS => hbody f cdv A outer s H hr ds P hS⟩
theorem MetT.fn (T : MetT K c m st ps dvs) {N : List Str} (Sc : FnScope N ps (defScope st)) (len : ∀ ds Q, S.S ds Q → ds.length = ps.length)
    (hbody : ∀ (f : Addr) (cdv : Value) (A : Around) (outer : List Env) (s : Shared) (H : Hp), Room k (A.deeper (envOfC (c ++ "." ++ m) (defScope st) s.heap.objs.size f cdv)) → ∀ ds (Q : O → Prop), S.S ds Q →
      WSs (cxOf CX0 P w K mg base N (c ++ "." ++ m) (defScope st) f cdv A outer s H E0).nox noX (defBody st) (slots N.length ds) { nx := fun _ => Q (.va .non), rt := Q }) (j : Nat) (hj : j ≤ dvs.length) {dds : List D} (hd : ∀ G, RepL K G (dvs.drop j) dds) : CalM P w K mg base (k + 1) c m S dds := by
  obtain ⟨C, f, fd, hC, cl, me, F, hb⟩ := T.ex
  obtain ⟨ds, r, b⟩ := hb j hj
  exact ⟨C, f, fd, ps, dvs.drop j, ds, hC, cl, me, fun_ok F Sc len hbody, b, r, hd⟩
theorem PropT.fn (T : PropT K c m st) {N : List Str} (Sc : FnScope N ["self"] (defScope st)) (len : ∀ ds Q, S.S ds Q → ds.length = 1)
    (hbody : ∀ (f : Addr) (cdv : Value) (A : Around) (outer : List Env) (s : Shared) (H : Hp), Room k (A.deeper (envOfC (c ++ "." ++ m) (defScope st) s.heap.objs.size f cdv)) → ∀ ds (Q : O → Prop), S.S ds Q →
      WSs (cxOf CX0 P w K mg base N (c ++ "." ++ m) (defScope st) f cdv A outer s H E0).nox noX (defBody st) (slots N.length ds) { nx := fun _ => Q (.va .non), rt := Q }) : CalP P w K mg base (k + 1) c m S := by
  obtain ⟨C, p, f, fd, hC, cl, pr, F, hb⟩ := T.ex
  exact ⟨C, p, f, fd, hC, cl, pr, fun_ok F Sc len hbody, hb⟩
end
/-! ### attributes -/
omit [TbT] in
theorem zip_look {K : PySem.W.Frag} {G : Hp} {f : Str} {d : D} : ∀ {ns : List Str} {us : List V} {ds : List D}, RepL K G us ds → (ns.zip ds).lookup f = some d → ∃ v, (ns.zip us).lookup f = some v ∧ Rep K G v d
  | [], _, _, _, h => by cases h
  | _ :: _, _, [], _, h => by cases h
  | n :: ns, _, e :: ds, .cons r t, h => by
    rw [List.zip_cons_cons] at h ⊢
    rw [List.lookup_cons] at h ⊢
    cases q : f == n with
    | true => rw [q] at h; cases h; exact ⟨_, rfl, r⟩
    | false => rw [q] at h; exact zip_look t h
omit [TbT] in
theorem zip_no {f : Str} : ∀ {ns : List Str} {us : List V}, f ∉ ns → (ns.zip us).lookup f = none
  | [], _, _ => by cases ‹List V› <;> rfl
  | _ :: _, [], _ => rfl
  | n :: ns, u :: us, h => by
    rw [List.zip_cons_cons, List.lookup_cons]
    have : (f == n) = false := beq_eq_false_iff_ne.mpr fun z => h (by rw [z]; exact List.mem_cons_self)
    rw [this]
    exact zip_no fun z => h (List.mem_cons_of_mem _ z)
section
variable {X : Cx} {ex : Exs} {ρ : List O} {e a : Expr} {es : List Expr} {d : D} {ds fs dds : List D} {ns : List Str} {c f m : Str} {pos apos p : Pos} {k i : Nat} {x : Str} {W : Eds} {Q : O → Prop} {S : Spc}
/-- e.f -/
theorem ee_fld (T : ClsT X.K X.mg c) (N : AtT X.K c f) (h : EE X ex e ρ (.obj c ns fs)) (hl : (ns.zip fs).lookup f = some d) (hb : attributeBase e f X.env (eval e X.env) = eval e X.env := by rfl) : EE X ex (.Attribute e f pos) ρ d := ⟨fun E σ G H S =>
  of_pe (pe_fld sem_pe hb) (tSem_mono (h E σ G H S) fun v H1 ⟨G1, g, r⟩ => by
    cases r with
    | @obj a C dx _ _ us _ hc ha l ru =>
      obtain ⟨C', _, hc', cl, _⟩ := T.ex
      rw [hc] at hc'; cases hc'
      obtain ⟨v, hv, rv⟩ := zip_look ru hl
      exact ⟨a, C, dx, _, v, rfl, g.gh.app _ _ ha, cl, N.no _ hc, hv, G1, g, rv⟩)⟩
/-- o.m(e, ..) -/
theorem eo_meth (C : CalM X.prog X.w X.K X.mg X.base k c m S dds) (hr : Room k X.A) (ho : EE X ex a ρ (.obj c ns fs)) (ha : EA X ex (e :: es) ρ ds) (hn : m ∉ ns) (hq : S.S (.obj c ns fs :: ds ++ dds) Q) (hst : starEach (e :: es) X.env = (false, eval e X.env) :: starEach es X.env := by rfl) (hpl : (backTo pos (starEach es X.env)).any (·.1) = false := by rfl) {pl : Sem Bool}
    (ht : eval (.Call (.Attribute a m apos) (e :: es) [] pos) X.env = (do
      let ov ← eval a X.env
      standAt apos.atName
      let (f, first) ← holding [ov] (getMethod ov m pl)
      callWith pos f first (backTo pos (starEach (e :: es) X.env)) (backToKw pos (keywordEach [] X.env))) := by rfl) : EO X ex (.Call (.Attribute a m apos) (e :: es) [] pos) ρ Q := ⟨fun E σ G H S' => by
  obtain ⟨C, f, fd, ps, dvs, dus, hc, cl, me, F, hb, hv, hd⟩ := C.ex
  refine of_pe (pe_meth (pl := pl) sem_pe cl me F hr hb hv pass0 sem_pa hst hpl ht) (tSem_mono (ho E σ G H S') fun v H1 ⟨G1, g1, r1⟩ => ?_)
  cases r1 with
  | @obj a C' dx _ _ us _ hc' ha' l ru =>
    rw [hc] at hc'; cases hc'
    refine ⟨a, dx, _, rfl, g1.gh.app _ _ ha', zip_no hn, tSemA_mono (ha E σ G1 H1 (S'.grow g1)) fun vs H2 ⟨G2, g2, r2⟩ => ?_⟩
    have g12 := g1.trans g2
    exact ⟨g12.tb S'.tb, _, G2, g2.gh, (RepL.cons (Rep.obj hc (g2.g.app _ _ ha') l (ru.mono g2.g)) (r2.append (hd G2))), S.mono _ _ _ (fun o hP v G3 H3 g3 q => ⟨o, G3, g12.trans g3, q.h0 g12.h, hP⟩) hq⟩⟩
/-- o.m() -/
theorem eo_meth0 (C : CalM X.prog X.w X.K X.mg X.base k c m S dds) (hr : Room k X.A) (ho : EE X ex a ρ (.obj c ns fs)) (hn : m ∉ ns) (hq : S.S (.obj c ns fs :: dds) Q) {pl : Sem Bool}
    (ht : eval (.Call (.Attribute a m apos) [] [] pos) X.env = (do
      let ov ← eval a X.env
      standAt apos.atName
      let (f, first) ← holding [ov] (getMethod ov m pl)
      callWith pos f first (backTo pos (starEach [] X.env)) (backToKw pos (keywordEach [] X.env))) := by rfl) : EO X ex (.Call (.Attribute a m apos) [] [] pos) ρ Q := ⟨fun E σ G H S' => by
  obtain ⟨C, f, fd, ps, dvs, dus, hc, cl, me, F, hb, hv, hd⟩ := C.ex
  refine of_pe (pe_meth0 (pl := pl) sem_pe cl me F hr hb hv pass0 ht) (tSem_mono (ho E σ G H S') fun v H1 ⟨G1, g1, r1⟩ => ?_)
  cases r1 with
  | @obj a C' dx _ _ us _ hc' ha' l ru =>
    rw [hc] at hc'; cases hc'
    refine ⟨a, dx, _, rfl, g1.gh.app _ _ ha', zip_no hn, ?_⟩
    exact ⟨g1.tb S'.tb, _, G1, g1.gh, (RepL.cons (Rep.obj hc ha' l ru) (hd G1)), S.mono _ _ _ (fun o hP v G3 H3 g3 q => ⟨o, G3, g1.trans g3, q.h0 g1.h, hP⟩) hq⟩⟩
/-- o.p, a property -/
theorem eo_prop (C : CalP X.prog X.w X.K X.mg X.base k c m S) (hr : Room (k + 1) X.A) (ho : EE X ex a ρ (.obj c ns fs)) (hq : S.S [.obj c ns fs] Q) (hb : attributeBase a m X.env (eval a X.env) = eval a X.env := by rfl) : EO X ex (.Attribute a m pos) ρ Q := ⟨fun E σ G H S' => by
  obtain ⟨C, p, f, fd, hc, cl, pr, F, hbd⟩ := C.ex
  refine of_pe (pe_prop (dvs := []) sem_pe cl pr F hr hbd .nil pass0 hb) (tSem_mono (ho E σ G H S') fun v H1 ⟨G1, g1, r1⟩ => ?_)
  cases r1 with
  | @obj a C' dx _ _ us _ hc' ha' l ru =>
    rw [hc] at hc'; cases hc'
    exact ⟨a, dx, _, rfl, g1.gh.app _ _ ha', g1.tb S'.tb, _, G1, g1.gh, (RepL.one (Rep.obj hc ha' l ru)), S.mono _ _ _ (fun o hP v G3 H3 g3 q => ⟨o, G3, g1.trans g3, q.h0 g1.h, hP⟩) hq⟩⟩
/-! ### within __init__ -/
omit [TbT] in
theorem ins_ne {C dx a : Addr} {fs : List (Str × V)} : (∀ ps, HO.ins C dx fs ≠ .tbl ps) ∧ ∀ q, HO.ins C dx fs ≠ LamX.CodeO a q := ⟨fun ps z => (by cases z), fun q z => (by unfold LamX.CodeO at z; cases z)⟩
theorem SOk.getO {K : PySem.W.Frag} {E : Hp × Hp} {σ : L2.St} {G H : Hp} {a : Addr} (S : SOk K E ρ σ G H) (h : ρ[i]? = some (.mo a c ns fs)) : ∃ (C dx : Addr) (us : List V), σ[i]? = some (some (.ref a)) ∧ PySem.W.nsIn K mainGlobals c = some (some (.ref C)) ∧ H a = some (.ins C dx (ns.zip us)) ∧ G a = none ∧ E.2 a = none ∧ ns.length = us.length ∧ RepL K G us fs := by
  rcases S.at' i _ h with h | ⟨v, h1, C, dx, us, e, r⟩
  · cases h
  · subst e; exact ⟨C, dx, us, h1, r⟩
omit [TbT] in
theorem putF_new {f : Str} {v : V} : ∀ {ns : List Str} {us : List V}, f ∉ ns → ns.length = us.length → putF f v (ns.zip us) = (ns ++ [f]).zip (us ++ [v])
  | [], [], _, _ => rfl
  | [], _ :: _, _, h => by cases h
  | _ :: _, [], _, h => by cases h
  | n :: ns, u :: us, hn, hl => by
    have h1 : ¬ n = f := fun z => hn (by rw [z]; exact List.mem_cons_self)
    show putF f v ((n, u) :: ns.zip us) = (n, u) :: (ns ++ [f]).zip (us ++ [v])
    unfold putF
    rw [if_neg h1, putF_new (fun z => hn (List.mem_cons_of_mem _ z)) (Nat.succ.inj hl)]
/-- self.f, read within __init__ -/
theorem ee_fldM {o : Addr} (i : Nat) {npos : Pos} (T : ClsT X.K X.mg c) (N : AtT X.K c f) (hr : ρ[i]? = some (.mo o c ns fs)) (hl : (ns.zip fs).lookup f = some d) (hN : X.N[i]? = some x := by rfl) (hv : Vis X.env.scope x := by first | exact Or.inl rfl | exact Or.inr (Or.inl rfl) | exact Or.inr (Or.inr rfl)) (hd : (x == ("__debug__" : Str)) = false := by decide) (hcd : (x == ("__classdict__" : Str)) = false := by decide)
    (hb : attributeBase (.Name x npos) f X.env (eval (.Name x npos) X.env) = eval (.Name x npos) X.env := by rfl) : EE X ex (.Attribute (.Name x npos) f pos) ρ d := ⟨fun E σ G H S => by
  obtain ⟨C, dx, us, h1, hc, h2, h3, h4, l, r⟩ := S.getO hr
  obtain ⟨C', _, hc', cl, _⟩ := T.ex
  rw [hc] at hc'; cases hc'
  obtain ⟨v, hv', rv⟩ := zip_look r hl
  exact of_pe (pe_fld (pe_var hN hv hd hcd) hb) ⟨.ref o, h1, o, C, dx, _, v, rfl, h2, cl, N.no _ hc, hv', G, .refl S.gh, rv⟩⟩
/-- self.f = e, the first time -/
theorem ws_fld {o : Addr} (i : Nat) {npos fpos : Pos} (T : ClsT X.K X.mg c) (N : AtT X.K c f) (hr : ρ[i]? = some (.mo o c ns fs)) (h : EE X ex e ρ d) (hn : f ∉ ns) (hz : ns.length < 1000) (kn : W.nx (ρ.set i (.mo o c (ns ++ [f]) (fs ++ [d])))) (hN : X.N[i]? = some x := by rfl) (hv : Vis X.env.scope x := by first | exact Or.inl rfl | exact Or.inr (Or.inl rfl) | exact Or.inr (Or.inr rfl)) (hd : (x == ("__debug__" : Str)) = false := by decide) (hcd : (x == ("__classdict__" : Str)) = false := by decide)
    (hs : swapsWith e (some (.Attribute (.Name x npos) f fpos)) pos.line X.env = pure false := by rfl) : WS X ex (.Assign [.Attribute (.Name x npos) f fpos] e pos) ρ W := ⟨fun E σ G H S => by
  obtain ⟨C', _, hc', cl, _⟩ := T.ex
  refine of_ps (ps_fld (pe_var hN hv hd hcd) sem_pe hs) (tSem_mono (h E σ G H S) fun v H1 ⟨G1, g, rv⟩ => ?_)
  have S1 := S.grow g
  obtain ⟨C, dx, us, h1, hc, h2, h3, h4, l, r⟩ := S1.getO hr
  rw [hc] at hc'; cases hc'
  refine ⟨.ref o, h1, o, _, dx, _, rfl, h2, cl, N.no _ hc, by rw [List.length_zip]; omega, ?_⟩
  rw [putF_new hn l]
  refine ⟨_, G1, S1.ownTo (o' := .mo o c (ns ++ [f]) (fs ++ [d])) hr rfl h1 (tb_upd S1.tb fun u e => by rw [h2] at e; cases e; exact ins_ne) ⟨_, dx, us ++ [v], rfl, hc, upd_same, h3, h4, ?_, r.append (.one rv)⟩, g.g, kn⟩
  rw [List.length_append, List.length_append, l]; rfl⟩
end
/-! ### making -/
structure SpcI where
  S : List D → (D → Prop) → (Str → Prop) → Prop
  mono : ∀ ds (Q Q' : D → Prop) (E E' : Str → Prop), (∀ o, Q o → Q' o) → (∀ n, E n → E' n) → S ds Q E → S ds Q' E'
def spOfI (K : PySem.W.Frag) (mg : Str → Option Value) (c : Str) (S : SpcI) : Sp := fun vs H Q E => Tb H ∧ ∃ (a C dx : Addr) (vs' : List V) (ds : List D) (G H0 : Hp), vs = .ref a :: vs' ∧ PySem.W.nsIn K mainGlobals c = some (some (.ref C)) ∧ H = upd H0 a (.ins C dx []) ∧ H0 a = none ∧ Ex G H0 ∧ RepL K G vs' ds ∧
  S.S ds (fun d => ∀ G' H', Grow G H0 G' H' → Rep K G' (.ref a) d → Q .non H') fun n => ∀ Cn G' H', mg n = some (.ref Cn) → Grow G H0 G' H' → E (.ref Cn) none H'
structure CalI (P : Program) (w : World) (K : PySem.W.Frag) (mg : Str → Option Value) (base : Heap) (k : Nat) (c : Str) (S : SpcI) (dds : List D) : Prop where
  ex : ∃ (C f : Addr) (fd : FuncData) (ps : List Str) (dvs : List V) (dus : List Value), mg c = some (.ref C) ∧ PySem.W.nsIn K mainGlobals c = some (some (.ref C)) ∧ Mk K C f ∧ FnOk P w K mg base (L2.CX P w) k f fd ps (spOfI K mg c S) ∧ Binds K fd ps dus ∧ Vals dvs dus ∧ ∀ G, RepL K G dvs dds
section
variable {P : Program} {w : World} {K : PySem.W.Frag} {mg : Str → Option Value} {base : Heap} {c : Str} {st : Stmt} {ps : List Str} {dvs : List V} {k : Nat} {S : SpcI}
theorem sok_init {G H0 : Hp} {a C dx : Addr} {vs : List V} {ds : List D} {N : List Str} (hc : PySem.W.nsIn K mainGlobals c = some (some (.ref C))) (tb : Tb (upd H0 a (.ins C dx []))) (hn : H0 a = none) (e : Ex G H0) (r : RepL K G vs ds) (hN : 0 < N.length) : SOk K (G, H0) (.mo a c [] [] :: slots (N.length - 1) ds) (start N (.ref a :: vs)) G (upd H0 a (.ins C dx [])) := by
  have hlen := r.length
  refine ⟨Ex.refl _, e.mut (e.back hn), Ex.new hn, fun b h q => absurd h q, ?_, fun i o h => ?_, fun i j b hi hj => ?_, tb⟩
  · unfold slots L2.start
    simp only [List.length_cons, List.length_append, List.length_map, List.length_replicate]
    omega
  · cases i with
    | zero =>
      obtain rfl : O.mo a c [] [] = o := Option.some.inj h
      exact .inr ⟨.ref a, rfl, C, dx, [], rfl, hc, upd_same, e.back hn, hn, rfl, .nil⟩
    | succ i =>
      have h' : (slots (N.length - 1) ds)[i]? = some o := h
      unfold slots at h'
      by_cases hi : i < ds.length
      · rw [List.getElem?_append_left (by rw [List.length_map]; exact hi), List.getElem?_map] at h'
        cases hd : ds[i]? with
        | none => rw [hd] at h'; cases h'
        | some d =>
          rw [hd] at h'
          obtain rfl : O.va d = o := Option.some.inj h'
          obtain ⟨v, hv, rv⟩ := r.get hd
          refine .inr ⟨v, ?_, rv⟩
          unfold L2.start
          show ((some (V.ref a) :: vs.map some) ++ _)[i + 1]? = _
          rw [List.cons_append, List.getElem?_cons_succ, List.getElem?_append_left (by rw [List.length_map, hlen]; exact hi), List.getElem?_map, hv]; rfl
      · rw [List.getElem?_append_right (by rw [List.length_map]; omega), List.getElem?_replicate] at h'
        split at h'
        · exact .inl (Option.some.inj h').symm
        · cases h'
  · have z : ∀ j b, Own (.mo a c [] [] :: slots (N.length - 1) ds) (start N (.ref a :: vs)) j b → j = 0 := fun j b ⟨⟨o, ho, p⟩, _⟩ => by
      cases j with
      | zero => rfl
      | succ j =>
        have h' : (slots (N.length - 1) ds)[j]? = some o := ho
        unfold slots at h'
        by_cases hi : j < ds.length
        · rw [List.getElem?_append_left (by rw [List.length_map]; exact hi), List.getElem?_map] at h'
          cases hd : ds[j]? with
          | none => rw [hd] at h'; cases h'
          | some d =>
            rw [hd] at h'
            obtain rfl : O.va d = o := Option.some.inj h'
            exact absurd p Bool.false_ne_true
        · rw [List.getElem?_append_right (by rw [List.length_map]; omega), List.getElem?_replicate] at h'
          split at h'
          · obtain rfl := Option.some.inj h'
            exact absurd p Bool.false_ne_true
          · cases h'
    rw [z i b hi, z j b hj]
theorem InitT.fn (T : InitT K mg c st ps dvs) {N : List Str} (Sc : FnScope N ps (defScope st)) (hps : 0 < ps.length) (len : ∀ ds Q E, S.S ds Q E → ds.length + 1 = ps.length)
    (hbody : ∀ (f : Addr) (cdv : Value) (A : Around) (outer : List Env) (s : Shared) (H : Hp) (E : XK), Room k (A.deeper (envOfC (c ++ "." ++ "__init__") (defScope st) s.heap.objs.size f cdv)) → ∀ (a : Addr) ds (Q : D → Prop) (EN : Str → Prop), S.S ds Q EN →
      WSs (cxOf (L2.CX P w) P w K mg base N (c ++ "." ++ "__init__") (defScope st) f cdv A outer s H E) (fun n _ => EN n) (defBody st) (.mo a c [] [] :: slots (N.length - 1) ds) { nx := fun ρ => ∃ ns fs, ρ[0]? = some (.mo a c ns fs) ∧ Q (.obj c ns fs), rt := fun _ => False }) (j : Nat) (hj : j ≤ dvs.length) {dds : List D} (hd : ∀ G, RepL K G (dvs.drop j) dds) : CalI P w K mg base (k + 1) c S dds := by
  obtain ⟨C, f, fd, hm, hC, cl, mk, F, hb⟩ := T.ex
  obtain ⟨ds, r, b⟩ := hb j hj
  refine ⟨C, f, fd, ps, dvs.drop j, ds, hm, hC, mk, F.ok Sc (fun vs H Q E ⟨_, a, C, dx, vs', ds, G, H0, e, _, _, _, _, r, h⟩ => ?_) (fun cdv A outer s H vs Q E hr h => ?_), b, r, hd⟩
  · rw [e, List.length_cons, r.length]; exact len ds _ _ h
  · obtain ⟨tb, a, C, dx, vs', ds, G, H0, rfl, hc, rfl, hn, e, r, h⟩ := h
    have hN : 0 < N.length := by
      have q := congrArg List.length Sc.pre
      rw [List.length_take] at q
      omega
    refine ⟨tSemSs (cxOf (L2.CX P w) P w K mg base N (c ++ "." ++ "__init__") (defScope st) f cdv A outer s _ E) _, sem_pss, ?_⟩
    have gr : ∀ {ρ' : List O} {σ' : L2.St} {G' H' : Hp}, SOk K (G, H0) ρ' σ' G' H' → Grow G H0 G' H' := fun {ρ' σ' G' H'} S' => ⟨S'.g0, S'.h0, S'.gh, S'.fr, fun _ => S'.tb⟩
    refine tSemSs_mono (hbody f cdv A outer s _ E hr a ds _ _ h (G, H0) _ G _ ⟨sok_init hc tb hn e r hN, fun n ρ' hn C hC σ' G' H' S' e' => ⟨fun cls d _ H => E cls d H, takes_of rfl rfl rfl rfl, hn C G' H' hC (gr S')⟩⟩) (fun σ' H' ⟨ρ', G', S', x, ns, fs, h0, q⟩ => ?_) (fun v H' ⟨o, G', R, q⟩ => q.elim) (fun _ _ ⟨_, _, _, _, q⟩ => q.elim) (fun _ _ ⟨_, _, _, _, q⟩ => q.elim)
    obtain ⟨C2, dx2, us, h1, hc2, h2, h3, h4, l, ru⟩ := S'.getO h0
    have en : Ex G' (upd G' a (.ins C2 dx2 (ns.zip us))) := Ex.new h3
    have S2 := S'.toData (d := .obj c ns fs) (u := .ins C2 dx2 (ns.zip us)) h0 rfl h1 (fun _ _ => rfl) h2 (fun ps z => by cases z) S'.tb (.obj hc2 upd_same l (ru.mono en))
    exact q _ H' (gr S2) (.obj hc2 upd_same l (ru.mono en))
end
section
variable {X : Cx} {ex : Exs} {ρ : List O} {e : Expr} {es : List Expr} {ds dds : List D} {c : Str} {pos p : Pos} {k : Nat} {S : SpcI} {Q : D → Prop}
/-- C(e, ..) -/
theorem eo_make (C : CalI X.prog X.w X.K X.mg X.base k c S dds) (hr : Room (k + 1) X.A) (ha : EA X ex (e :: es) ρ ds) (hq : S.S (ds ++ dds) Q fun n => ex n ρ) (hg : Gl X c := by rfl) (hdb : (c == ("__debug__" : Str)) = false := by decide) (he : starEach (e :: es) X.env = (false, eval e X.env) :: starEach es X.env := by rfl) (hpl : (backTo pos (starEach es X.env)).any (·.1) = false := by rfl) :
    EO X ex (.Call (.Name c p) (e :: es) [] pos) ρ (fun o => ∃ d, o = .va d ∧ Q d) := ⟨fun E σ G H Sk pins s I => by
  obtain ⟨C, f, fd, ps, dvs, dus, hm, hc, M, F, hb, hv, hd⟩ := C.ex
  refine wpAny_Call_Name_kw (ld_glob I hg hm ?_ hdb)
  refine PySem.W.callWith_K (h₀ := X.base) I.ok.mod.kin M.kp (thn (ha E σ G H Sk pos pins s I) fun us s1 ⟨vs, H1, I1, r, G1, g1, r1⟩ => ⟨I1.kIn, ?_⟩) he hpl
  have S1 := Sk.grow g1
  have hx0 : H1 (s1.heap.objs.size + 1) = none := I1.hok.fresh (Nat.le_succ _)
  have hd0 : H1 s1.heap.objs.size = none := I1.hok.fresh (Nat.le_refl _)
  have ndx : s1.heap.objs.size ≠ s1.heap.objs.size + 1 := Nat.ne_of_lt (Nat.lt_succ_self _)
  have I2 := Inv.made (C := C) I1
  have r2 : Vals (V.ref (s1.heap.objs.size + 1) :: (vs ++ dvs)) (Value.ref (s1.heap.objs.size + 1) :: (us ++ dus)) := .cons rfl (r.append hv)
  have e01 : Ex H1 (upd H1 s1.heap.objs.size (.own (s1.heap.objs.size + 1))) := Ex.new hd0
  have nx : (upd H1 s1.heap.objs.size (.own (s1.heap.objs.size + 1))) (s1.heap.objs.size + 1) = none := by rw [upd_ne (Ne.symm ndx)]; exact hx0
  have tb1 : Tb (upd H1 s1.heap.objs.size (.own (s1.heap.objs.size + 1))) := tb_new S1.tb hd0
  have tb2 : Tb (upd (upd H1 s1.heap.objs.size (.own (s1.heap.objs.size + 1))) (s1.heap.objs.size + 1) (.ins C s1.heap.objs.size [])) := tb_new tb1 nx
  have gr : ∀ {G' H'}, Grow G1 (upd H1 s1.heap.objs.size (.own (s1.heap.objs.size + 1))) G' H' → Grow G H G' H' := fun {G' H'} g => by
    refine g1.trans ⟨g.g, e01.trans g.h, g.gh, fun b h q => ?_, fun _ => g.tb tb1⟩
    have := g.fr b h q
    by_cases z : b = s1.heap.objs.size
    · rw [z]; exact hd0
    · rwa [upd_ne z] at this
  let Ex' : XK := fun cls d H' => ∃ n Cn G' , cls = .ref Cn ∧ d = none ∧ X.mg n = some (.ref Cn) ∧ ex n ρ ∧ Grow G H G' H'
  have hsp : spOfI X.K X.mg c S (.ref (s1.heap.objs.size + 1) :: (vs ++ dvs)) (upd (upd H1 s1.heap.objs.size (.own (s1.heap.objs.size + 1))) (s1.heap.objs.size + 1) (.ins C s1.heap.objs.size [])) (fun v H2 => v = .non ∧ ∃ o G', Grow G H G' H2 ∧ OOk X.K H G' H2 o (.ref (s1.heap.objs.size + 1)) ∧ ∃ d, o = .va d ∧ Q d) (fun cls d H' => ∃ Wx, Takes X Wx ∧ Wx cls d σ H') := by
    refine ⟨tb2, _, C, _, _, ds ++ dds, G1, _, rfl, hc, rfl, nx, g1.gh.trans e01, r1.append (hd G1), S.mono _ _ _ _ _ (fun d hP G2 H2 g2 q => ⟨rfl, .va d, G2, gr g2, q, d, rfl, hP⟩) (fun n hn Cn G2 H2 hC g2 => ?_) hq⟩
    exact Sk.xo n ρ hn Cn hC σ G2 H2 (Sk.toSOk.grow (gr g2)) (gr g2).g
  have hl : (Value.ref (s1.heap.objs.size + 1) :: us ++ dus).length = ps.length := by
    have e := r2.length
    rw [F.len _ _ _ _ hsp] at e
    exact e.symm
  refine wpAny_call (make_map (f := f) I1.kIn M.makes M.init (beq_iff_eq.mp M.fn) (codeAny_mono (F.run _ X.stack _ _ ⟨Value.ref (s1.heap.objs.size + 1) :: us, []⟩ (Value.ref (s1.heap.objs.size + 1) :: (us ++ dus)) _ _ _ (hr.make C us [])
    (I2.env0.make C us []) (hb _ (Value.ref (s1.heap.objs.size + 1) :: us) I2.kIn hl) r2 hsp) fun r s' hq' => ?_))
  cases r with
  | error e => exact passAt takes_acc σ pins _ _ e s' I2 hq'
  | ok fl =>
    cases fl with
    | ret u =>
      obtain ⟨v, H', I3, rv, ev, q3⟩ := I2.after hq'
      subst ev
      exact ⟨rv, ⟨V.ref (s1.heap.objs.size + 1), H', I3, rfl, q3⟩⟩
    | next => exact False.elim hq'
    | brk => exact False.elim hq'
    | cont => exact False.elim hq'⟩
end
/-! ### len(o), k in o, o == x, isinstance(x, C) -/
section
variable {X : Cx} {ex : Exs} {ρ : List O} {e a b : Expr} {d kd : D} {ds fs gs dds : List D} {ns ms : List Str} {c f m : Str} {pos p : Pos} {k i : Nat} {x : Str} {S : Spc} {t : Bool}
omit [TbT] in
theorem ins_look {pins : List (Addr × Obj)} {σ : L2.St} {H : Hp} {s : Shared} {a C dx : Addr} {fs : List (Str × V)} (I : Inv X pins σ H s) (e : H a = some (.ins C dx fs)) : ∃ ox od, PySem.W.InstAt s.heap a ox C od := by
  obtain ⟨mA, J, _⟩ := ins_get I.hok e
  obtain ⟨od, J, _⟩ := J.look
  exact ⟨_, _, J⟩
/-- the method runs, wherever the state stands in the built-ins -/
theorem run_own {fa : Addr} {fd : FuncData} {ps : List Str} {dus us : List Value} {vs dvs : List V} {A : Around} {pins : List (Addr × Obj)} {σ : L2.St} {H G : Hp} {s : Shared} {ds : List D} {P : O → Prop} {E' : Value → Shared → Prop} (F : FnOk X.prog X.w X.K X.mg X.base CX0 k fa fd ps (spOf X.K S)) (hb : Binds X.K fd ps dus) (hv : Vals dvs dus) (hd : ∀ G, RepL X.K G dvs dds) (hr : Room k A) (hf : Env0 X.prog X.w X.K X.mg X.base A X.stack s H) (I : Inv X pins σ H s) (r : Vals vs us) (e : Ex G H) (tb : Tb H) (rl : RepL X.K G vs ds) (hS : S.S (ds ++ dds) P) :
    wpAny (model X.prog X.w) A (call (.ref fa) us) (fun u s' => ∃ v H', Inv X pins σ H' s' ∧ RelV v u ∧ ∃ o G', Grow G H G' H' ∧ OOk X.K H G' H' o v ∧ P o) E' s := by
  have r2 : Vals (vs ++ dvs) (us ++ dus) := r.append hv
  have hsp : spOf X.K S (vs ++ dvs) H (fun v H' => ∃ o G', Grow G H G' H' ∧ OOk X.K H G' H' o v ∧ P o) E0 := ⟨tb, _, G, e, rl.append (hd G), S.mono _ _ _ (fun o hP v G' H' g q => ⟨o, G', g, q, hP⟩) hS⟩
  have hl : (us ++ dus).length = ps.length := by rw [← r2.length]; exact F.len _ _ _ _ hsp
  refine wpAny_call (codeAny_mono (F.run A X.stack s H ⟨us, []⟩ (us ++ dus) (vs ++ dvs) _ E0 hr hf (hb s us I.kIn hl) r2 hsp) fun r s' hq => ?_)
  cases r with
  | error e => exact (show False from hq).elim
  | ok fl =>
    cases fl with
    | ret u => exact I.after hq
    | next => exact False.elim hq
    | brk => exact False.elim hq
    | cont => exact False.elim hq
omit [TbT] in
theorem int_lt63 {n : Nat} (h : n < 2 ^ 62) : (n : Int) < 2 ^ 63 := by omega
/-- len(o) -/
theorem ee_lenO {n : Nat} (C : CalM X.prog X.w X.K X.mg X.base k c "__len__" S dds) (hr : Room (k + 1) X.A) (hg : Gl X "len") (hm : X.mg "len" = none) (ha : EE X ex e ρ (.obj c ns fs)) (hq : S.S (.obj c ns fs :: dds) fun o => o = .va (.int (n : Int))) (hn : n < 2 ^ 62) (he : starEach [e] X.env = (false, eval e X.env) :: starEach [] X.env := by rfl) (hpl : (backTo pos (starEach [] X.env)).any (·.1) = false := by rfl) : EE X ex (.Call (.Name "len" p) [e] [] pos) ρ (.int (n : Int)) := ⟨fun E σ G H Sk pins s I => by
  obtain ⟨C, fa, fd, ps, dvs, dus, hc, cl, me, F, hb, hv, hd⟩ := C.ex
  refine wpAny_Call_Name_kw (ld_blt I hg hm PySem.boot_len ?_)
  refine PyProof.Rows.callWith_builtin1 (thn ((pa_cons sem_pe pa_nil he).run pos pins s σ H (fun vs' H' => ∃ v G', vs' = [v] ∧ Grow G H G' H' ∧ Rep X.K G' v (.obj c ns fs)) I (tSem_mono (ha E σ G H Sk) fun v H' ⟨G', g, r⟩ => ⟨v, G', rfl, g, r⟩)) fun us s1 ⟨vs', H1, I1, r1, v, G1, e1, g1, rO⟩ => ?_) he hpl
  subst e1
  have rO' := rO
  cases rO with
  | @obj a C' dx _ _ us' _ hc' ha' l ru =>
    rw [hc] at hc'; cases hc'
    obtain ⟨u, rfl, ruu⟩ := L2.vals1 r1
    obtain rfl : u = Value.ref a := ruu
    obtain ⟨ox, od, J⟩ := ins_look I1 (g1.gh.app _ _ ha')
    obtain ⟨mf, hF⟩ := I1.fr
    refine PySem.W.len_K hF I1.ok.mod.kin J me.at_ me.fn (thn (run_own F hb hv hd hr.in1 I1.env0.in1 I1 (.cons (show RelV (V.ref a) (Value.ref a) from rfl) .nil) g1.gh (g1.tb Sk.tb) (.one rO') hq) fun u s2 ⟨v, H2, I2, rv, o, G2, g2, q, ho⟩ => ?_)
    subst ho
    have q' : Rep X.K G2 v (.int (n : Int)) := q
    cases q'
    obtain ⟨t', rfl⟩ := (show ∃ t', u = .int n t' from rv)
    refine ⟨⟨by omega, int_lt63 hn⟩, ?_⟩
    exact ⟨.int n, H2, I2.tok _, ⟨_, rfl⟩, G2, g1.trans g2, .int _⟩⟩
omit [TbT] in
theorem bool_of {K : PySem.W.Frag} {G : Hp} {v : V} {u : Value} (q : Rep K G v (.bl t)) (r : RelV v u) : u = .bool t := by
  cases q; exact r
/-- kd in o -/
def rInO (X : Cx) (c : Str) (S : Spc) (neg : Bool) : R2 := fun y x H Q => ∃ (G : Hp) (kd : D) (ns : List Str) (fs : List D) (t : Bool), Tb H ∧ Ex G H ∧ Rep X.K G y kd ∧ Rep X.K G x (.obj c ns fs) ∧ S.S [.obj c ns fs, kd] (fun o => o = .va (.bl t)) ∧ ∀ G' H', Grow G H G' H' → Q (.bl (if neg then !t else t)) H'
theorem op_inO (C : CalM X.prog X.w X.K X.mg X.base k c "__contains__" S []) (hr : Room k X.A) : OpR X (compareOp .In) (rInO X c S false) ∧ OpR X (compareOp .NotIn) (rInO X c S true) := by
  obtain ⟨C, fa, fd, ps, dvs, dus, hc, cl, me, F, hb, hv, hd⟩ := C.ex
  constructor
  · intro pins s σ H y x v u Q I ry rx ⟨G, kd, ns, fs, t, tb, e, r1, r2, hS, q⟩
    have r2' := r2
    cases r2 with
    | @obj a C' dx _ _ us' _ hc' ha' l ru =>
      rw [hc] at hc'; cases hc'
      cases rx
      obtain ⟨ox, od, J⟩ := ins_look I (e.app _ _ ha')
      obtain ⟨mf, hF⟩ := I.fr
      refine PySem.W.in_K hF I.ok.mod.kin J me.at_ me.fn (thn (run_own F hb hv hd hr I.env0 I (.cons (show RelV (V.ref a) (Value.ref a) from rfl) (.cons ry .nil)) e tb (.cons r2' (.one r1)) hS) fun u s2 ⟨v, H2, I2, rv, o, G2, g2, q2, ho⟩ => ?_)
      subst ho
      rw [bool_of q2 rv]
      exact wpAny_truthy_bool ⟨.bl t, H2, I2, rfl, q G2 H2 g2⟩
  · intro pins s σ H y x v u Q I ry rx ⟨G, kd, ns, fs, t, tb, e, r1, r2, hS, q⟩
    have r2' := r2
    cases r2 with
    | @obj a C' dx _ _ us' _ hc' ha' l ru =>
      rw [hc] at hc'; cases hc'
      cases rx
      obtain ⟨ox, od, J⟩ := ins_look I (e.app _ _ ha')
      obtain ⟨mf, hF⟩ := I.fr
      refine PySem.W.notIn_K hF I.ok.mod.kin J me.at_ me.fn (thn (run_own F hb hv hd hr I.env0 I (.cons (show RelV (V.ref a) (Value.ref a) from rfl) (.cons ry .nil)) e tb (.cons r2' (.one r1)) hS) fun u s2 ⟨v, H2, I2, rv, o, G2, g2, q2, ho⟩ => ?_)
      subst ho
      rw [bool_of q2 rv]
      exact wpAny_truthy_bool ⟨.bl (!t), H2, I2, rfl, q G2 H2 g2⟩
theorem ee_inO (C : CalM X.prog X.w X.K X.mg X.base k c "__contains__" S []) (hr : Room k X.A) (ha : EE X ex a ρ kd) (hb : EE X ex b ρ (.obj c ns fs)) (hq : S.S [.obj c ns fs, kd] fun o => o = .va (.bl t)) (hm : behindInMarks .In b = false := by rfl) : EE X ex (.Compare a [.In] [b] pos) ρ (.bl t) := ⟨fun E σ G H Sk =>
  of_pe (pe_cmpR (op_inO C hr).1 sem_pe sem_pe hm) (tSem_mono (ha E σ G H Sk) fun v H1 ⟨G1, g1, r1⟩ => tSem_mono (hb E σ G1 H1 (Sk.grow g1)) fun w H2 ⟨G2, g2, r2⟩ =>
    ⟨G2, kd, ns, fs, t, (g1.trans g2).tb Sk.tb, g2.gh, r1.mono g2.g, r2, hq, fun G' H' g => ⟨G', (g1.trans g2).trans g, .bl _⟩⟩)⟩
theorem et_inO (C : CalM X.prog X.w X.K X.mg X.base k c "__contains__" S []) (hr : Room k X.A) (ha : EE X ex a ρ kd) (hb : EE X ex b ρ (.obj c ns fs)) (hq : S.S [.obj c ns fs, kd] fun o => o = .va (.bl t)) (hm : behindInMarks .In b = false := by rfl) : ET X ex (.Compare a [.In] [b] pos) ρ t := ⟨fun E σ G H Sk =>
  of_pt (pt_cmpR (op_inO C hr).1 sem_pe sem_pe hm) (tSem_mono (ha E σ G H Sk) fun v H1 ⟨G1, g1, r1⟩ => tSem_mono (hb E σ G1 H1 (Sk.grow g1)) fun w H2 ⟨G2, g2, r2⟩ =>
    ⟨G2, kd, ns, fs, t, (g1.trans g2).tb Sk.tb, g2.gh, r1.mono g2.g, r2, hq, fun G' H' g => ⟨_, rfl, rfl, G', (g1.trans g2).trans g⟩⟩)⟩
theorem et_ninO (C : CalM X.prog X.w X.K X.mg X.base k c "__contains__" S []) (hr : Room k X.A) (ha : EE X ex a ρ kd) (hb : EE X ex b ρ (.obj c ns fs)) (hq : S.S [.obj c ns fs, kd] fun o => o = .va (.bl t)) (hm : behindInMarks .NotIn b = false := by rfl) : ET X ex (.Compare a [.NotIn] [b] pos) ρ (!t) := ⟨fun E σ G H Sk =>
  of_pt (pt_cmpR (op_inO C hr).2 sem_pe sem_pe hm) (tSem_mono (ha E σ G H Sk) fun v H1 ⟨G1, g1, r1⟩ => tSem_mono (hb E σ G1 H1 (Sk.grow g1)) fun w H2 ⟨G2, g2, r2⟩ =>
    ⟨G2, kd, ns, fs, t, (g1.trans g2).tb Sk.tb, g2.gh, r1.mono g2.g, r2, hq, fun G' H' g => ⟨_, rfl, rfl, G', (g1.trans g2).trans g⟩⟩)⟩
/-! ### == -/
/-- the type that isinstance and == ask -/
structure TyO (X : Cx) (d : D) (tv : Value) : Prop where
  ty : ∀ {G H : Hp} {v : V}, Ex G H → Rep X.K G v d → TyX X.K H v tv
omit [TbT] in
theorem tyo_data (h : d.tyN ≠ "") : TyO X d (.type d.tyN) := ⟨fun e r => r.tyX e h⟩
omit [TbT] in
theorem tyo_obj {C : Addr} (T : ClsT X.K X.mg c) (hC : X.mg c = some (.ref C)) : TyO X (.obj c ns fs) (.ref C) := ⟨fun e r => by
  obtain ⟨C', hm, hc', cl, _, h1, h2, h3, h4⟩ := T.ex
  rw [hC] at hm; cases hm
  cases r with
  | @obj a C2 dx _ _ us _ hc ha l ru =>
    rw [hc'] at hc; cases hc
    exact .base (.ins (e.app _ _ ha) cl h1 h2 h3 h4)⟩
/-- an own == is asked first -/
structure NfT (K : PySem.W.Frag) (c : Str) (tv : Value) : Prop where
  nf : ∀ C, PySem.W.nsIn K mainGlobals c = some (some (.ref C)) → PySem.W.notFirst K C tv = true
def rEqO (X : Cx) (c : Str) (S : Spc) (tv : Value) : R2 := fun x y H Q => ∃ (G : Hp) (d : D) (ns : List Str) (fs : List D) (t : Bool), Tb H ∧ Ex G H ∧ Rep X.K G x (.obj c ns fs) ∧ Rep X.K G y d ∧ TyO X d tv ∧ S.S [.obj c ns fs, d] (fun o => o = .va (.bl t)) ∧ ∀ G' H', Grow G H G' H' → Q (.bl t) H'
theorem op_eqO {tv : Value} (C : CalM X.prog X.w X.K X.mg X.base k c "__eq__" S []) (hr : Room k X.A) (nf : NfT X.K c tv) : OpR X (compareOp .Eq) (rEqO X c S tv) := by
  obtain ⟨C, fa, fd, ps, dvs, dus, hc, cl, me, F, hb, hv, hd⟩ := C.ex
  intro pins s σ H x y v u Q I rx ry ⟨G, d, ns, fs, t, tb, e, r1, r2, ty, hS, q⟩
  have r1' := r1
  cases r1 with
  | @obj a C' dx _ _ us' _ hc' ha' l ru =>
    rw [hc] at hc'; cases hc'
    cases rx
    obtain ⟨ox, od, J⟩ := ins_look I (e.app _ _ ha')
    obtain ⟨mf, hF⟩ := I.fr
    obtain ⟨P, Z, p, _⟩ := kit_of I ry (ty.ty e r2)
    show wpAny (model X.prog X.w) X.A (richCompare .Eq (.ref a) u) (EP X pins σ Q) X.xe s
    refine PySem.W.cmp_K (op := .Eq) (tb := tv) hr.units0 hF I.ok.mod.kin J (Z.ty _ _ I.kIn p) (nf.nf _ hc) me.at_ me.fn (thn (run_own F hb hv hd hr I.env0 I (.cons (show RelV (V.ref a) (Value.ref a) from rfl) (.cons ry .nil)) e tb (.cons r1' (.one r2)) hS) fun w s2 ⟨v, H2, I2, rv, o, G2, g2, q2, ho⟩ => ?_)
    subst ho
    rw [bool_of q2 rv]
    exact ⟨.bl t, H2, I2, rfl, q G2 H2 g2⟩
theorem ee_eqO {tv : Value} (C : CalM X.prog X.w X.K X.mg X.base k c "__eq__" S []) (hr : Room k X.A) (nf : NfT X.K c tv) (ty : TyO X d tv) (ha : EE X ex a ρ (.obj c ns fs)) (hb : EE X ex b ρ d) (hq : S.S [.obj c ns fs, d] fun o => o = .va (.bl t)) (hm : behindInMarks .Eq b = false := by rfl) : EE X ex (.Compare a [.Eq] [b] pos) ρ (.bl t) := ⟨fun E σ G H Sk =>
  of_pe (pe_cmpR (op_eqO C hr nf) sem_pe sem_pe hm) (tSem_mono (ha E σ G H Sk) fun v H1 ⟨G1, g1, r1⟩ => tSem_mono (hb E σ G1 H1 (Sk.grow g1)) fun w H2 ⟨G2, g2, r2⟩ =>
    ⟨G2, d, ns, fs, t, (g1.trans g2).tb Sk.tb, g2.gh, r1.mono g2.g, r2, ty, hq, fun G' H' g => ⟨G', (g1.trans g2).trans g, .bl _⟩⟩)⟩
theorem et_eqO {tv : Value} (C : CalM X.prog X.w X.K X.mg X.base k c "__eq__" S []) (hr : Room k X.A) (nf : NfT X.K c tv) (ty : TyO X d tv) (ha : EE X ex a ρ (.obj c ns fs)) (hb : EE X ex b ρ d) (hq : S.S [.obj c ns fs, d] fun o => o = .va (.bl t)) (hm : behindInMarks .Eq b = false := by rfl) : ET X ex (.Compare a [.Eq] [b] pos) ρ t := ⟨fun E σ G H Sk =>
  of_pt (pt_cmpR (op_eqO C hr nf) sem_pe sem_pe hm) (tSem_mono (ha E σ G H Sk) fun v H1 ⟨G1, g1, r1⟩ => tSem_mono (hb E σ G1 H1 (Sk.grow g1)) fun w H2 ⟨G2, g2, r2⟩ =>
    ⟨G2, d, ns, fs, t, (g1.trans g2).tb Sk.tb, g2.gh, r1.mono g2.g, r2, ty, hq, fun G' H' g => ⟨_, rfl, rfl, G', (g1.trans g2).trans g⟩⟩)⟩
/-! ### isinstance(x, C) -/
structure KitT (K : PySem.W.Frag) (mg : Str → Option Value) (tv : Value) (c : Str) (t : Bool) : Prop where
  kit : ∀ C, mg c = some (.ref C) → PySem.W.kitOne K tv (.ref C) = some t
theorem ee_isO {tv : Value} {cp : Pos} (T : ClsT X.K X.mg c) (kt : KitT X.K X.mg tv c t) (ty : TyO X d tv) (hg : Gl X "isinstance") (hm : X.mg "isinstance" = none) (ha : EE X ex a ρ d) (hgc : Gl X c := by rfl) (hdc : (c == ("__debug__" : Str)) = false := by decide) (he : starEach [a, .Name c cp] X.env = (false, eval a X.env) :: starEach [.Name c cp] X.env := by rfl) (he2 : starEach [.Name c cp] X.env = (false, eval (.Name c cp) X.env) :: starEach [] X.env := by rfl) (hpl : (backTo pos (starEach [.Name c cp] X.env)).any (·.1) = false := by rfl) : EE X ex (.Call (.Name "isinstance" p) [a, .Name c cp] [] pos) ρ (.bl t) := ⟨fun E σ G H Sk => by
  obtain ⟨C, hC, _⟩ := T.ex
  refine of_pe (pe_callB call_isi hg hm (by decide +kernel) (pa_cons sem_pe (pa_cons (pe_glob (v := .ref C) (u := .ref C) hgc hC rfl hdc) pa_nil he2) he) (by decide) (by decide) he hpl) (tSem_mono (ha E σ G H Sk) fun v H1 ⟨G1, g1, r1⟩ => ?_)
  exact ⟨v, .ref C, tv, .ref C, t, rfl, .own C, ty.ty g1.gh r1, kt.kit C hC, G1, g1, .bl _⟩⟩
end
end TG
/-! sorted(e, key=lambda x: ..). -/
namespace TG
open PySem PySem.Spec PyProof.Rows L2 LamX NdefX
variable [TbT]
/-! ### a lambda called -/
/-- the words of the function that a lambda makes -/
abbrev lamF (q : Str) (params : Arguments) (scope : Scope) (cl : List (Str × Addr)) (c : Addr) : NF := ⟨"<lambda>", q, params, [], scope, cl, c⟩
abbrev lamO (F : NF) (body : Expr) (pm ctv : Value) : Obj := PySem.W.kla_obj "<lambda>" F.qual F.params body F.scope F.cl pm F.c ctv
omit [TbT] in
theorem lam_run {CX : CXT} {P : Program} {w : World} {K : PySem.W.Frag} {mg : Str → Option Value} {base : Heap} {N ps fr : List Str} {F : NF} {f : Addr} {k : Nat} {A : Around} {outer : List Env} {s : Shared} {H : Hp} {E : XK} {us : List Value} {vs : List V} {ws : List (Option V)} {Q : VK} {body : Expr} {pm ctv : Value}
    (S : NScope N ps fr F.scope) (hb : bindArgs (PySem.W.kla_fn "<lambda>" F.qual F.params body F.scope F.cl pm (.ref F.c) ctv) ⟨us, []⟩ = pure (ps.zip us)) (hr : Room (k + 1) A) (e0 : Env0 P w K mg base A outer s H) (hf : s.heap.get? f = some (lamO F body pm ctv))
    (hc : H F.c = some (CodeO F.c F.qual)) (C : CellsAt F.cl fr ws s.heap H) (r : Vals vs us) (hl : vs.length = ps.length) (hbody : Room k (A.deeper (envF F f s.heap.objs.size)) → ∃ t, PE (ncx CX P w K mg base N F f A outer s H E) body t ∧ t (startF N vs ws) H Q) :
    codeAny (model P w) A (.call (.ref f) ⟨us, []⟩) (CR CX outer P w H s Q E) s := by
  have lim : s.heap.NoLimit := e0.mod.nolimit.keeps fun b o e => (e0.bs b o e).1
  refine PySem.W.kla_callFunE hr.depth hf rfl S.co S.gen rfl (codeO_at e0.hok hc) ?_
  rw [hb]
  refine wpAny_pure (wpAny_newFunctionEnv S.nocell (fun ⟨n, _⟩ hy => S.par n (List.of_mem_zip hy).1) (fun h₁ hns hsb => ⟨lim.fresh _ hsb, ?_⟩) S.kind)
  show codeAny _ _ (.expr body (envF F f s.heap.objs.size)) _ _
  have kp : ∀ b o, s.heap.get? b = some o → h₁.get? b = some o := fun b o e => hsb.extBut b o (Nat.ne_of_lt (Heap.lt_size e)) (Heap.get?_push_of_some _ e)
  obtain ⟨t, ht, hq⟩ := hbody (hr.deeper _)
  have I : Inv (ncx CX P w K mg base N F f A outer s H E) [] (startF N vs ws) H { s with heap := h₁, toks := s.toks + (ps.zip us).length } := inv_startN S hr.hd e0 hl r C hns kp
  refine PySem.W.kla_codeExpr (wpAny_mono (ht.run [] _ (startF N vs ws) H _ I hq) (fun v s' hs => ?_) fun e s' hs => hs)
  obtain ⟨w', H', J, rv, q⟩ := hs
  exact ⟨w', H', J.os, J.bare, J.base, J.hok, rv, q⟩
/-! ### the sort -/
/-- items sorted by keys -/
def srtK (ds κs : List D) : List D := ((ds.zip κs).mergeSort fun a b => leD a.2 b.2).map (·.1)
omit [TbT] in
theorem srtK_map {α : Type} {f g : α → D} (l : List α) : srtK (l.map f) (l.map g) = (l.mergeSort fun a b => leD (g a) (g b)).map f := by
  unfold srtK
  have e : (l.map f).zip (l.map g) = l.map fun x => (f x, g x) := by
    induction l with
    | nil => rfl
    | cons x l ih => rw [List.map_cons, List.map_cons, List.zip_cons_cons, ih, List.map_cons]
  rw [e, (List.map_mergeSort (r := fun x y => leD (g x) (g y)) (s := fun a b : D × D => leD a.2 b.2) (f := fun x => (f x, g x)) (l := l) fun _ _ _ _ => rfl).symm, List.map_map]
  rfl
omit [TbT] in
theorem srtK_len {ds κs : List D} (h : κs.length = ds.length) : (srtK ds κs).length = ds.length := by
  unfold srtK
  rw [List.length_map, List.length_mergeSort, List.length_zip, h, Nat.min_self]
omit [TbT] in
theorem pys_map : ∀ ds : List D, D.pys ds = ds.map D.py
  | [] => rfl
  | d :: ds => by show d.py :: D.pys ds = _; rw [pys_map ds]; rfl
omit [TbT] in
theorem repl_zip {K : PySem.W.Frag} {G : Hp} : ∀ {xs : List V} {us : List Value} {ds κs : List D}, Vals xs us → RepL K G xs ds → κs.length = ds.length → PySem.W.EachIs (fun (u : Value) (p : D × D) => ∃ x, RelV x u ∧ Rep K G x p.1) us (ds.zip κs)
  | _, _, [], [], .nil, .nil, _ => .nil
  | _, _, [], _ :: _, _, _, h => by cases h
  | _, _, _ :: _, [], _, _, h => by cases h
  | _, _, d :: ds, κ :: κs, .cons r t, .cons h k, e => .cons ⟨_, r, h⟩ (repl_zip t k (Nat.succ.inj e))
omit [TbT] in
theorem each_repl1 {K : PySem.W.Frag} {G : Hp} : ∀ {us : List Value} {ps : List (D × D)}, PySem.W.EachIs (fun (u : Value) (p : D × D) => ∃ x, RelV x u ∧ Rep K G x p.1) us ps → ∃ xs, Vals xs us ∧ RepL K G xs (ps.map (·.1))
  | _, _, .nil => ⟨[], .nil, .nil⟩
  | _, _, .cons ⟨x, r, h⟩ t => by
    obtain ⟨xs, r2, h2⟩ := each_repl1 t
    exact ⟨x :: xs, .cons r r2, .cons h h2⟩
omit [TbT] in
theorem vals_get {xs : List V} {us : List Value} (r : Vals xs us) {i : Nat} {u : Value} (h : us[i]? = some u) : ∃ v, xs[i]? = some v ∧ RelV v u := by
  induction r generalizing i with
  | nil => simp at h
  | cons r t ih =>
    cases i with
    | zero => simp at h; subst h; exact ⟨_, rfl, r⟩
    | succ i => simpa using ih (by simpa using h)
theorem sort_key {X : Cx} {pins : List (Addr × Obj)} {σ : L2.St} {H G : Hp} {s : Shared} {l f : Addr} {xs : List V} {ds κs : List D} {of : Obj} {Q : VK} (I : Inv X pins σ H s) (hl : SqL X.K H l xs) (e : Ex G H) (rl : RepL X.K G xs ds) (hκ : κs.length = ds.length)
    (hf : s.heap.get? f = some of) (hfn : H f = none) (hfr : f ∉ frs X.stack)
    (hp : D.plains κs = true) (hrow : Rows κs) (hd : ∀ d ∈ κs, X.A.units + 2 + d.py.depth < cLine)
    (turn : ∀ (i : Nat) (v : V) (u : Value) (d κ : D), ds[i]? = some d → κs[i]? = some κ → RelV v u → ∀ (s' : Shared) (H' G' : Hp), Rep X.K G' v d → Inv X pins σ H' s' → Grow G H G' H' → s'.heap.get? f = some of →
      codeAny (model X.prog X.w) X.A.in1.in1 (.call (.ref f) ⟨[u], []⟩) (CR CX0 X.stack X.prog X.w H' s' (fun v2 H2 => ∃ G2, Grow G' H' G2 H2 ∧ Rep X.K G2 v2 κ) E0) s')
    (q : ∀ (a : Addr) (ys : List V) (G' H' : Hp), Grow G H G' H' → H' a = none → G' a = none → H a = none → RepL X.K G' ys (srtK ds κs) → Q (.ref a) (upd H' a (.lst ys))) :
    wpAny (model X.prog X.w) X.A (call (.builtin "sorted") [.ref l] [(Str.ofString "key", .ref f)]) (EP X pins σ Q) X.xe s := by
  obtain ⟨vs, rv, pl, hz⟩ := I.list hl
  have hlen : vs.length = ds.length := by rw [← rv.length, rl.length]
  have hZ : vs.length ≤ sizeLine := by rw [← rv.length]; exact hz
  refine PySem.W.sorted_of_sort pl.isList hZ (ksk_s1 _ _) (fun _ => ksk_l1 _ _) fun E' => ?_
  rw [ksk_t1]
  obtain ⟨a, ha⟩ : ∃ a, a = s.heap.objs.size + 1 := ⟨_, rfl⟩
  rw [← ha]
  have ho : (PySem.W.copyHeap s.heap vs).get? a = some (seqObj "list" vs.toArray 0) := by rw [ha]; exact PySem.W.copyHeap_at s.heap vs
  obtain ⟨e1, ho1⟩ : ∃ e1, ((PySem.W.copyHeap s.heap vs).update a (Obj.mapSeq fun _ => (#[] : Array Value))).get? a = some (seqObj "list" #[] e1) := ⟨_, get?_update_seq ho fun _ => #[]⟩
  unfold ksk_tree
  refine wpAny_bind (listItems_at ho rfl ?_)
  refine wpAny_bind (listUpdate_at ho rfl ?_ (by rw [List.size_toArray]; exact hZ) (Nat.zero_le _))
  refine wpAny_bind (seqEpoch_at ho1 rfl ?_)
  refine wpAny_bind (wpAny_newTuple ?_ (by show vs.length ≤ _; exact hZ))
  refine wpAny_bind (wpAny_newList ?_ (Nat.zero_le _))
  refine wpAny_holding ?_
  -- the new objects
  obtain ⟨h2, hh2⟩ : ∃ h2, h2 = (((PySem.W.copyHeap s.heap vs).update a (Obj.mapSeq fun _ => (#[] : Array Value))).push (seqObj "tuple" vs.toArray 0)).push (seqObj "list" #[] 0) := ⟨_, rfl⟩
  obtain ⟨kS, hkS⟩ : ∃ kS, kS = (((PySem.W.copyHeap s.heap vs).update a (Obj.mapSeq fun _ => (#[] : Array Value))).push (seqObj "tuple" vs.toArray 0)).objs.size := ⟨_, rfl⟩
  have szC : (PySem.W.copyHeap s.heap vs).objs.size = s.heap.objs.size + 2 := by
    unfold PySem.W.copyHeap
    rw [size_push', Heap.size_update, size_push']
  have kS3 : kS = s.heap.objs.size + 3 := by rw [hkS, size_push', Heap.size_update, szC]
  have hka : kS ≠ a := by rw [kS3, ha]; exact Nat.ne_of_gt (Nat.lt_succ_of_lt (Nat.lt_succ_self _))
  have old : ∀ b o, s.heap.get? b = some o → h2.get? b = some o := fun b o q => by
    rw [hh2]
    have nb : b ≠ a := by rw [ha]; exact Nat.ne_of_lt (Nat.lt_succ_of_lt (Heap.lt_size q))
    exact PySem.W.sortingHeap_old (vs := vs) nb (PySem.W.copyHeap_old q)
  have nk : h2.get? kS = some (seqObj "list" #[] 0) := by rw [hh2, hkS]; exact Heap.get?_push_size _ rfl
  have na : h2.get? a = some (seqObj "list" #[] e1) := by rw [hh2]; exact Heap.get?_push_of_some _ (Heap.get?_push_of_some _ ho1)
  show wpAny _ _ (ksk_rest a (.ref f) false vs.toArray e1 (.ref (((PySem.W.copyHeap s.heap vs).update a (Obj.mapSeq fun _ => (#[] : Array Value))).push (seqObj "tuple" vs.toArray 0)).objs.size)) _ _ { s with heap := (((PySem.W.copyHeap s.heap vs).update a (Obj.mapSeq fun _ => (#[] : Array Value))).push (seqObj "tuple" vs.toArray 0)).push (seqObj "list" #[] 0) }
  rw [← hh2, ← hkS]
  have I2 : Inv X pins σ H { s with heap := h2 } := I.kept (t' := s.toks) old
  have ga : s.heap.objs.size ≤ a := by rw [ha]; exact Nat.le_succ _
  have gk : s.heap.objs.size ≤ kS := by rw [kS3]; exact Nat.le_add_right _ _
  have fa := I.fpOk (H' := H) ga (I.hok.fresh ga)
  have fk := I.fpOk (H' := H) gk (I.hok.fresh gk)
  have nfr : ∀ b, s.heap.objs.size ≤ b → b ∉ frs X.stack := fun b hb z => by
    rcases List.mem_cons.mp (I.stkSub _ z) with e | e
    · have h1 := I.lt
      rw [← e] at h1
      exact Nat.lt_irrefl _ (Nat.lt_of_lt_of_le h1 hb)
    · exact I.nofs hb e
  unfold ksk_rest
  refine wpAny_bind (wpAny_rule ?_)
  first
    | rw [List.forIn_toArray]
    | (rw [← Array.forIn_toList]; simp only [List.toList_toArray])
    | rw [← Array.forIn_toList]
  refine wpAny_bind (ksk_fold (fun i s' => ∃ (H' G' : Hp) (kA : Array Value) (e : Nat) (ks : List V), Inv X pins σ H' s' ∧ Grow G H G' H' ∧ H' a = none ∧ H' kS = none ∧ H' f = none ∧ G' a = none ∧ s'.heap.get? kS = some (seqObj "list" kA e) ∧ s'.heap.get? a = some (seqObj "list" #[] e1) ∧ s'.heap.get? f = some of ∧
      Vals ks kA.toList ∧ RepL X.K G' ks (κs.take i)) vs 0 { s with heap := h2 }
    ⟨H, G, #[], 0, [], I2, .refl e, fa.1, fk.1, hfn, e.back fa.1, nk, na, old _ _ hf, .nil, by rw [List.take_zero]; exact .nil⟩ ?step ?done)
  case step =>
    rintro j x s' hx ⟨H', G', kA, ec, ks, I', g', na', nk', nf', nga', ok, oa, of', rk, rr⟩
    simp only [Nat.zero_add] at rr ⊢
    have hj : j < vs.length := (List.getElem?_eq_some_iff.mp hx).1
    obtain ⟨v, hv, rvx⟩ := vals_get rv hx
    obtain ⟨d, hd1, rd⟩ := rl.getV hv
    obtain ⟨κ, hk1⟩ : ∃ κ, κs[j]? = some κ := ⟨_, List.getElem?_eq_getElem (by omega)⟩
    have tc := turn j v x d κ hd1 hk1 rvx s' H' G' (rd.mono g'.g) I' g' of'
    have hks : kA.size ≤ vs.length := by
      have h1 := rk.length
      have h2 := rr.length
      rw [List.length_take] at h2
      rw [← Array.length_toList, ← h1]
      omega
    refine wpAny_bind (wpAny_attempt (wpAny_call (codeAny_mono tc fun r s'' hq => ?_)))
    cases r with
    | error er => exact (show False from hq).elim
    | ok fl =>
      cases fl with
      | next => exact False.elim hq
      | brk => exact False.elim hq
      | cont => exact False.elim hq
      | ret u =>
        obtain ⟨v2, H2, os, bare, un, hok, r2, G2, g2, rep2⟩ := (show CE X.stack X.prog X.w H' s' _ u s'' from hq)
        have I3 : Inv X pins σ H2 s'' := I'.call' (ch := []) os un hok bare fun b z => absurd z (by simp)
        have ok3 := un.keep kS _ ok nk' (nfr _ gk) (by simp)
        have oa3 := un.keep a _ oa na' (nfr _ ga) (by simp)
        have of3 := un.keep f _ of' nf' hfr (by simp)
        have nk3 := un.free kS _ ok nk' (by simp)
        have na3 := un.free a _ oa na' (by simp)
        have nf3 := un.free f _ of' nf' (by simp)
        have nga3 : G2 a = none := g2.gh.back na3
        show wpAny _ _ (Builtin.List.listUpdate (.ref kS) (·.push u) >>= _) _ _ s''
        have s1 := Heap.SameBut.update s''.heap kS (Obj.mapSeq (·.push u))
        obtain ⟨c2, hc2⟩ : ∃ c2, (s''.heap.update kS (Obj.mapSeq (·.push u))).get? kS = some (seqObj "list" (kA.push u) c2) := ⟨_, get?_update_seq ok3 (·.push u)⟩
        have ek : κs.take (j + 1) = κs.take j ++ [κ] := by rw [List.take_add_one, hk1]; simp
        refine wpAny_bind (listUpdate_at ok3 rfl ?_ (Nat.le_trans hks hZ) (Nat.le_trans (Nat.le_of_eq (Array.size_push ..)) (Nat.succ_le_succ (Nat.le_trans hks hZ))))
        refine wpAny_pure ⟨rfl, H2, G2, kA.push u, c2, ks ++ [v2], ?_, g'.trans g2, na3, nk3, nf3, nga3, hc2, (s1.2 a hka.symm).trans oa3, (s1.2 f ?_).trans of3, ?_, ?_⟩
        · exact I3.turned (t' := s''.toks) (fun b o hb q => (s1.2 b hb).trans q) nk3 fk.2.1 fk.2.2.2.1 fk.2.2.2.2.1 fk.2.2.2.2.2
        · intro z
          exact Nat.lt_irrefl _ (Nat.lt_of_lt_of_le (Heap.lt_size hf) (by rw [z]; exact gk))
        · rw [Array.toList_push]
          exact Vals.append rk (.cons r2 .nil)
        · rw [ek]
          exact (rr.mono g2.g).append (.one rep2)
  case done =>
    rintro s' ⟨H', G', kA, ec, ks, I', g', na', nk', nf', nga', ok, oa, of', rk, rr⟩
    have e3 : κs.take (0 + vs.length) = κs := List.take_of_length_le (by omega)
    rw [e3] at rr
    have hk' : PySem.W.EachIs (fun v d => ∃ as, Reads s'.heap v d as) kA.toList (κs.map D.py) := by
      have h1 := repl_reads I' g'.gh rk rr hp
      exact PySem.W.each_map D.py h1
    have hsz : kA.size = vs.length := by
      have h1 := rk.length
      have h2 := rr.length
      rw [← Array.length_toList, ← h1, h2, hκ, hlen]
    refine wpAny_bind (listItems_at ok rfl ?_)
    obtain ⟨h₁, g1, g2⟩ := restrict s'.heap fun b => decide (b ≠ a ∧ b ≠ kS)
    have gat : ∀ b o, h₁.get? b = some o → s'.heap.get? b = some o := fun b o q => by
      by_cases hb : b ≠ a ∧ b ≠ kS
      · rw [← g1 b (decide_eq_true hb)]; exact q
      · rw [g2 b (decide_eq_false hb)] at q; cases q
    refine PySem.W.keyH_end (κ := PySem.W.dataKind s'.heap (κs.map D.py)) (h₁ := h₁) (fun b o _ q => gat b o q) (g2 kS (decide_eq_false fun z => z.2 rfl)) ok oa hka (PySem.W.SortsAt.data hk' hrow.1 hrow.2 fun p hpm => ?_) hsz hZ fun h3 tk3 c k3 n3 => ⟨rfl, ?_⟩
    · obtain ⟨d, hd', rfl⟩ := List.mem_map.mp hpm
      have := hd d hd'
      show X.A.units + 1 + 1 + _ < _
      omega
    · have ko : PySem.W.KeyedOut false (κs.map D.py) vs (PySem.W.sortVals (PySem.W.dataKind s'.heap (κs.map D.py)) false kA.toList vs) := ⟨s'.heap, kA.toList, hrow.1, rfl, hk'⟩
      have ek : κs.map D.py = (ds.zip κs).map fun p => p.2.py := by
        rw [show (fun p : D × D => p.2.py) = D.py ∘ Prod.snd from rfl, ← List.map_map, List.map_snd_zip (by omega)]
      rw [ek] at ko
      have eo := PySem.W.keyedOut_each (fun p : D × D => p.2.py) ko (repl_zip (G := G') rv (rl.mono g'.g) hκ)
      obtain ⟨ys, h1, h2⟩ := each_repl1 eo
      rw [ek] at n3
      refine ⟨.ref a, upd H' a (.lst ys), ?_, rfl, q a ys G' H' g' na' nga' fa.1 h2⟩
      have keep : ∀ b o, b ∉ [a, kS] → s'.heap.get? b = some o → h3.get? b = some o := fun b o hb q => by
        have hb' : b ≠ a ∧ b ≠ kS := ⟨fun z => hb (by simp [z]), fun z => hb (by simp [z])⟩
        exact k3 b o hb'.1 (by rw [g1 b (decide_eq_true hb')]; exact q)
      have nt : ∀ b u, H' b = some u → b ∉ [a, kS] := fun b u q z => by
        rcases List.mem_cons.mp z with z | z
        · rw [z, na'] at q; cases q
        · rcases List.mem_cons.mp z with z | z
          · rw [z, nk'] at q; cases q
          · cases z
      refine I'.step (g' := s'.gens) (d' := s'.drawn) (ch := [a, kS]) (fun b hb => ?_) (fun b o _ _ hc q _ => keep b o hc q) (fun b o _ _ hc q _ => ⟨o.slots, keep b o hc q⟩) (fun b o hc q n => by rw [upd_ne (fun z => hc (by simp [z]))]; exact n)
        (fun b o hc q => ⟨o, keep b o hc q⟩) (fun b xs q => by rw [upd_ne (fun z => nt b _ q (by simp [z]))]; exact q) (fun b o u q => by rw [upd_ne (fun z => nt b _ q (by simp [z]))]; exact q) (fun b ps q => ⟨#[], by rw [upd_ne (fun z => nt b _ q (by simp [z])), q]; simp⟩) (fun m hm => ?_) (fun b u q => ?_) I'.bare
      · rcases List.mem_cons.mp hb with z | z
        · rw [z]; exact ⟨fa.2.2.2.1, fa.2.1, fa.2.2.2.2.1, fa.2.2.2.2.2⟩
        · rcases List.mem_cons.mp z with z | z
          · rw [z]; exact ⟨fk.2.2.2.1, fk.2.1, fk.2.2.2.2.1, fk.2.2.2.2.2⟩
          · cases z
      · obtain ⟨o, es, ep, ho, r⟩ := hm
        refine ⟨o, es, ep, keep _ o (fun z => ?_) ho, r⟩
        rcases List.mem_cons.mp z with z | z
        · exact fa.2.1 z.symm
        · rcases List.mem_cons.mp z with z | z
          · exact fk.2.1 z.symm
          · cases z
      · by_cases hb : b = a
        · subst hb
          rw [upd_same] at q
          cases q
          refine ⟨?_, _, c, h1, n3⟩
          have hl2 : ys.length = (srtK ds κs).length := h2.length
          rw [hl2, srtK_len hκ, ← hlen]; exact hZ
        · rw [upd_ne hb] at q
          refine (I'.hok b u q).stay (fun d o hd q' => keep d o (fun z => ?_) q') (fun d q => by rw [upd_ne (fun z => nt d _ q (by simp [z]))]; exact q) fun d xs q => by rw [upd_ne (fun z => nt d _ q (by simp [z]))]; exact q
          rcases hd with hd | hd
          · exact nt b u q (by rw [← hd]; exact z)
          · exact nt d _ hd z

/-! ### the lambda made -/
section
variable {X : Cx} {pins : List (Addr × Obj)} {σ : L2.St} {H : Hp} {s : Shared}
omit [TbT] in
theorem lam_make3 {T : List (Addr × Str)} {c P : Addr} {params : Arguments} {body : Expr} {scope : Scope} {pos : Pos} {E : Value → Shared → Prop} {Q : Value → Shared → Prop} (I : Inv X pins σ H s) (TB : TabB X.base X.mg c P) (hcode : X.env.code = .ref c)
    (hm : (P, X.env.qual ++ "<lambda>") ∈ T) (hu : ∀ p ∈ T, p.1 = P → p.2 = X.env.qual ++ "<lambda>") (hT : Tabs T H) (hdef : defaultsOf params X.env = ([], [])) (hfree : ∀ y ∈ scope.names, y.2 = .free → ∃ c, X.env.cells.lookup y.1 = some c)
    (h : ∀ (f c' : Addr) (pm ctv : Value) (H1 : Hp) (s' : Shared), Inv X pins σ H1 s' → Ex H H1 → Tabs T H1 →
      s'.heap.get? f = some (PySem.W.kla_obj "<lambda>" (X.env.qual ++ "<lambda>") params body scope (cloFrom X.env.cells scope.names []) pm c' ctv) → H1 f = none → f ∉ frs X.stack → H1 c' = some (CodeO c' (X.env.qual ++ "<lambda>")) → Q (.ref f) s') :
    wpAny (model X.prog X.w) X.A (eval (.Lambda params body scope pos) X.env) Q E s := by
  obtain ⟨ps, hP, ht, ha⟩ := hT _ hm
  refine PySem.W.kla_eval hdef ?_
  have bP : s.heap.BuiltinsAt X.mg P := TB.bm.keeps I.bk
  have hP' : s.heap.get? P = some { cls := .none, data := .fields ps } := I.hok P _ hP
  have nofr : ∀ f, s.heap.objs.size ≤ f → f ∉ frs X.stack := fun f hf z => by
    rcases List.mem_cons.mp (I.stkSub _ z) with e | e
    · have h1 := I.lt
      rw [← e] at h1
      exact Nat.lt_irrefl _ (Nat.lt_of_lt_of_le h1 hf)
    · exact I.nofs hf e
  cases hc : codeAmong pos ps.toList with
  | none =>
    refine PySem.W.kla_makeFunction (mg := X.mg) (c := c) (P := P) (ps := ps) (closure_ok hfree) I.ok.glob (I.mod.glob.keeps I.bk) hcode (TB.code.keeps I.bk) hP' ht hc TB.gP bP fun c' ctv h' tk hx hge hlt hrec htb => ?_
    obtain ⟨c2, oc, vs, t, e2, hoc, hd, hv⟩ := hrec
    cases e2
    have hsz : s.heap.objs.size ≤ h'.objs.size := Nat.le_trans hge (Nat.le_of_lt hlt)
    have nC : H c' = none := I.hok.fresh hge
    have I1 := inv_table (t' := tk) (more := #[rawInt pos.line, rawInt pos.col, .ref c']) (h' := h'.push (PySem.W.kla_obj "<lambda>" (X.env.qual ++ "<lambda>") params body scope (cloFrom X.env.cells scope.names []) ((X.mg "__name__").getD .none) c' ctv)) I hP
      (fun b o hb e => Heap.get?_push_of_some _ (hx b o hb e)) (Heap.get?_push_of_some _ htb) hge ⟨oc, vs, t, Heap.get?_push_of_some _ hoc, hd, hv⟩
    have nPc : P ≠ c' := ne_of_none hP nC
    have hE : Ex H (upd (upd H P (.tbl (ps ++ #[rawInt pos.line, rawInt pos.col, .ref c']))) c' (CodeO c' (X.env.qual ++ "<lambda>"))) := by
      refine ⟨fun b o e n => ?_, fun b qs e => ?_⟩
      · rw [upd_ne (ne_of_none e nC), upd_ne (fun z => n ps (Option.some.inj (e.symm.trans (by rw [z]; exact hP))))]
        exact e
      · by_cases hb : b = P
        · rw [hb, upd_ne nPc, upd_same]; exact ⟨_, rfl⟩
        · rw [upd_ne (ne_of_none e nC), upd_ne hb]; exact ⟨_, e⟩
    have eL : (ps ++ #[rawInt pos.line, rawInt pos.col, .ref c']).toList = ps.toList ++ [rawInt pos.line, rawInt pos.col, .ref c'] := by simp
    refine h h'.objs.size c' ((X.mg "__name__").getD .none) ctv _ _ I1 hE (fun p hp => ?_) (Heap.get?_push_size _ rfl) ?_ (nofr _ hsz) upd_same
    · by_cases hb : p.1 = P
      · rw [hu p hp hb, hb]
        refine ⟨_, by rw [upd_ne nPc, upd_same], by rw [eL]; exact PySem.TriplesOk_snoc _ _ _ _ ht, fun p' cv hcv => ?_⟩
        rw [eL] at hcv
        rcases among_app _ ht hcv with z | z
        · obtain ⟨c0, e1, e2⟩ := ha p' cv z
          exact ⟨c0, e1, hE.keep _ _ e2 codeO_ne⟩
        · exact ⟨c', z, upd_same⟩
      · obtain ⟨ps', a1, a2, a3⟩ := hT p hp
        refine ⟨ps', by rw [upd_ne (ne_of_none a1 nC), upd_ne hb]; exact a1, a2, fun p' cv hcv => ?_⟩
        obtain ⟨c0, e1, e2⟩ := a3 p' cv hcv
        exact ⟨c0, e1, hE.keep _ _ e2 codeO_ne⟩
    · have n1 : h'.objs.size ≠ c' := Nat.ne_of_gt hlt
      have n2 : h'.objs.size ≠ P := Nat.ne_of_gt (Nat.lt_of_lt_of_le (Heap.lt_size hP') hsz)
      rw [upd_ne n1, upd_ne n2]
      exact I.hok.fresh hsz
  | some cv =>
    obtain ⟨c', e, hco⟩ := ha pos cv hc
    subst e
    refine PySem.W.kla_makeFunctionHit (mg := X.mg) (c := c) (P := P) (ps := ps) (closure_ok hfree) I.ok.glob (I.mod.glob.keeps I.bk) hcode (TB.code.keeps I.bk) hP' ht hc bP fun ctv h' tk hx hsz => ?_
    have I1 : Inv X pins σ H { s with heap := h'.push (PySem.W.kla_obj "<lambda>" (X.env.qual ++ "<lambda>") params body scope (cloFrom X.env.cells scope.names []) ((X.mg "__name__").getD .none) c' ctv), toks := tk } := I.kept fun b o e => Heap.get?_push_of_some _ (hx b o e)
    exact h h'.objs.size c' ((X.mg "__name__").getD .none) ctv H _ I1 (Ex.refl H) hT (Heap.get?_push_size _ rfl) (I.hok.fresh hsz) (nofr _ hsz) hco
end
/-- what the maker's code is: a code object whose table is one of ours -/
structure CodeT (base : Heap) (mg : Str → Option Value) (cdv : Value) (q : Str) : Prop where
  ex : ∃ c P, cdv = .ref c ∧ TabB base mg c P ∧ (P, q ++ "<lambda>") ∈ TbT.T ∧ ∀ p ∈ TbT.T, p.1 = P → p.2 = q ++ "<lambda>"
/-- slots of data alone -/
theorem sok_data {K : PySem.W.Frag} {σ : L2.St} {G H : Hp} {ρ : List O} (tb : Tb H) (e : Ex G H) (hl : ρ.length = σ.length) (h : ∀ (i : Nat) (o : O), ρ[i]? = some o → o = .un ∨ ∃ d v, o = .va d ∧ σ[i]? = some (some v) ∧ Rep K G v d) : SOk K (G, H) ρ σ G H := by
  refine ⟨Ex.refl _, e, Ex.refl _, fun b h q => absurd h q, hl, fun i o ho => ?_, fun i j a hi _ => ?_, tb⟩
  · rcases h i o ho with z | ⟨d, v, rfl, hs, r⟩
    · exact .inl z
    · exact .inr ⟨v, hs, r⟩
  · obtain ⟨⟨o, ho, p⟩, _⟩ := hi
    rcases h i o ho with rfl | ⟨d, v, rfl, _, _⟩
    · exact absurd p Bool.false_ne_true
    · exact absurd p Bool.false_ne_true
/-- the slots of a lambda's body behind its parameter -/
def capO (n : Nat) (caps : List D) : List O := caps.map .va ++ List.replicate (n - 1 - caps.length) .un
section
variable {X : Cx} {ex : Exs} {ρ : List O} {e : Expr} {pos p : Pos}
/-- sorted(e, key=lambda x: body) -/
theorem eo_sortedK {k : Nat} {ds : List D} {params : Arguments} {body : Expr} {scope : Scope} {lpos kpos : Pos} {N' ps fr : List Str} (js : List Nat) (caps : List D) (κs : List D) (hr : Room (k + 4) X.A) (hg : Gl X "sorted") (hm : X.mg "sorted" = none) (cd : CodeT X.base X.mg X.env.code X.env.qual) (ha : EA X ex [e] ρ [.lst ds])
    (Sl : NScope N' ps fr scope) (h1 : ps.length = 1) (hjs : js.map (fun j => X.N[j]?) = fr.map some) (hcaps : js.map (fun j => ρ[j]?) = caps.map fun d => some (.va d)) (hn : ndefB X.env.scope scope fr = true)
    (hbind : ∀ (q : Str) (cl : List (Str × Addr)) (pm cv ctv u : Value), bindArgs (PySem.W.kla_fn "<lambda>" q params body scope cl pm cv ctv) ⟨[u], []⟩ = pure (ps.zip [u])) (hdef : defaultsOf params X.env = ([], []))
    (hκ : κs.length = ds.length) (hp : D.plains κs = true) (hrow : Rows κs) (hd : D.depths κs ≤ 60)
    (turn : ∀ (i : Nat) (d κ : D), ds[i]? = some d → κs[i]? = some κ → ∀ (cl : List (Str × Addr)) (c f : Addr) (A : Around) (outer : List Env) (s : Shared) (H : Hp), Room k (A.deeper (envF (lamF (X.env.qual ++ "<lambda>") params scope cl c) f s.heap.objs.size)) →
      EE (ncx CX0 X.prog X.w X.K X.mg X.base N' (lamF (X.env.qual ++ "<lambda>") params scope cl c) f A outer s H E0).nox noX body (.va d :: capO N'.length caps) κ)
    (he : starEach [e] X.env = (false, eval e X.env) :: starEach [] X.env := by rfl) (hpl : (backTo pos (starEach [e] X.env)).any (·.1) = false := by rfl) :
    EO X ex (.Call (.Name "sorted" p) [e] [⟨some "key", .Lambda params body scope lpos, kpos⟩] pos) ρ (fun o => o = .ml (srtK ds κs)) := ⟨fun E σ G H S pins s I => by
  obtain ⟨c, P, hcode, TB, hmT, hu⟩ := cd.ex
  refine wpAny_Call_Name_kw (ld_blt I hg hm boot_sorted ?_)
  refine PyProof.Rows.callWith_kw (thn (ha E σ G H S pos pins s I) fun us s1 ⟨vs, H1, I1, r1, G1, g1, rl⟩ => ?_) (by show backTo pos (starEach [e] X.env) = _; rw [he]; rfl) hpl (by rfl) (by rfl)
  obtain ⟨v, rfl, rv⟩ := rl.of1
  have hfree : ∀ y ∈ scope.names, y.2 = .free → ∃ c, X.env.cells.lookup y.1 = some c := fun y hy e => (ndef_free hn y hy e).elim (fun z => I.ok.has _ (.inl z)) fun z => I.ok.has _ (.inr z)
  show wpAny _ _ (evalAll ((do let v ← eval (.Lambda params body scope lpos) X.env; standAt pos; pure v) :: [])) _ _ s1
  have S1 := S.grow g1
  refine wpAny_evalAll_cons (wpAny_bind (lam_make3 I1 TB hcode hmT hu S1.tb hdef hfree fun f c' pm ctv H2 s2 I2 eN T2 hf hfn hfr hco => wpAny_bind (wpAny_standAt (wpAny_pure (wpAny_evalAll_nil ?_)))))
  cases rv with
  | @lst l xs _ hl rx =>
    obtain ⟨u, rfl, ru⟩ := L2.vals1 r1
    obtain rfl : u = Value.ref l := ru
    show wpAny _ _ (call (.builtin "sorted") [.ref l] [(Str.ofString "key", .ref f)]) _ _ s2
    have e2 : Ex G1 H2 := g1.gh.trans eN
    have g2 : Grow G1 H1 G1 H2 := ⟨Ex.refl _, eN, e2, fun b h q => absurd h q, fun _ => T2⟩
    refine sort_key I2 (e2.l hl) e2 rx hκ hf hfn hfr hp hrow (fun d hd' => ?_) (fun i v u d κ hi hk rvu s' H' G' rd I' g' of' => ?_) fun a ys G' H' g' na nga nHa ry => ?_
    · have h1 := D.depth_py d
      obtain ⟨i, hi⟩ := List.mem_iff_getElem?.mp hd'
      have h2 := depths_get hi
      have := hr.units
      omega
    · have Cp : Caps X (cloFrom X.env.cells scope.names []) fr js := Caps.made I'.ok (ndef_free hn) (ndef_fr hn) hjs
      have CA := cells_of I' Cp
      have hco' : H' c' = some (CodeO c' (X.env.qual ++ "<lambda>")) := g'.h.keep _ _ hco codeO_ne
      have hr2 : Room (k + 1) X.A.in1.in1 := ((hr.mono (by omega) : Room (k + 1 + 1 + 1) X.A).in1).in1
      refine lam_run (F := lamF (X.env.qual ++ "<lambda>") params scope (cloFrom X.env.cells scope.names []) c') (vs := [v]) Sl (hbind _ _ _ _ _ _) hr2 I'.env0.in1.in1 of' hco' CA (.cons rvu .nil) h1.symm fun hr3 => ?_
      refine ⟨_, PE.nox sem_pe, ?_⟩
      have S' : SOk X.K (G', H') (.va d :: capO N'.length caps) (startF N' [v] (js.map (slotAt σ))) G' H' := by
        have Sσ := ((S1.toSOk).grow g2).grow g'
        refine sok_data (g'.tb T2) g'.gh ?_ fun i o ho => ?_
        · have c1 := congrArg List.length hcaps
          rw [List.length_map, List.length_map] at c1
          have c2 := CA.len
          have c3 := congrArg List.length Sl.pre
          rw [List.length_map] at c2
          rw [List.length_take, List.length_append] at c3
          unfold capO startF
          simp only [List.length_cons, List.length_append, List.length_map, List.length_replicate, List.length_nil]
          omega
        · cases i with
          | zero =>
            obtain rfl : O.va d = o := Option.some.inj ho
            exact .inr ⟨d, v, rfl, rfl, rd⟩
          | succ i =>
            have ho' : (capO N'.length caps)[i]? = some o := ho
            unfold capO at ho'
            by_cases hic : i < caps.length
            · rw [List.getElem?_append_left (by rw [List.length_map]; exact hic), List.getElem?_map] at ho'
              obtain ⟨dc, hdc⟩ : ∃ dc, caps[i]? = some dc := ⟨_, List.getElem?_eq_getElem hic⟩
              rw [hdc] at ho'
              obtain rfl : O.va dc = o := Option.some.inj ho'
              have q1 : (js.map fun j => ρ[j]?)[i]? = some (some (.va dc)) := by rw [hcaps, List.getElem?_map, hdc]; rfl
              rw [List.getElem?_map] at q1
              cases ej : js[i]? with
              | none => rw [ej] at q1; cases q1
              | some j =>
                rw [ej] at q1
                have hj : ρ[j]? = some (.va dc) := Option.some.inj q1
                obtain ⟨vc, hs, rc⟩ := Sσ.get hj
                refine .inr ⟨dc, vc, rfl, ?_, rc⟩
                have hjl : i < js.length := (List.getElem?_eq_some_iff.mp ej).1
                show ([some v] ++ (js.map (slotAt σ) ++ _))[i + 1]? = _
                rw [List.getElem?_append_right (by simp), List.getElem?_append_left (by rw [List.length_map]; simpa using hjl), List.getElem?_map]
                simp only [List.length_cons, List.length_nil, Nat.zero_add, Nat.add_sub_cancel]
                rw [ej]
                exact congrArg some (slotAt_of hs)
            · rw [List.getElem?_append_right (by rw [List.length_map]; omega), List.getElem?_replicate] at ho'
              split at ho'
              · exact .inl (Option.some.inj ho').symm
              · cases ho'
      exact (turn i d κ hi hk _ _ _ _ _ _ _ hr3).run (G', H') _ G' H' (SOk.nox (X := (ncx CX0 X.prog X.w X.K X.mg X.base N' (lamF (X.env.qual ++ "<lambda>") params scope (cloFrom X.env.cells scope.names []) c') f X.A.in1.in1 X.stack s' H' E0).nox) S')
    · have gg := (g1.trans g2).trans g'
      have gn := Grow.newH (u := .lst ys) g'.gh na
      refine ⟨.ml (srtK ds κs), G', gg.trans gn, ⟨a, ys, rfl, upd_same, nga, ?_, ry⟩, rfl⟩
      exact gg.h.back na⟩
end

/-! ### defs that make lambdas -/
structure MakT (K : PySem.W.Frag) (mg : Str → Option Value) (base : Heap) (x : Str) : Prop where
  ex : ∀ (f : Addr), mg x = some (.ref f) → ∀ (oc : Value) (od : Option Addr) (params : Arguments) (body : List Stmt) (scope : Scope) (dV kV doc pm : Value) (an : Option Addr) (cdv ct : Value) (osl : Array (Option Value)),
    K.lookup f = some ⟨oc, od, .func (PySem.W.fnOf x x params body scope dV kV doc pm an cdv ct), osl⟩ → CodeT base mg cdv (x ++ ".<locals>.")
theorem mak_mk {K : PySem.W.Frag} {mg : Str → Option Value} {base : Heap} {x : Str} {f c : Addr} {oc : Value} {od : Option Addr} {params : Arguments} {body : List Stmt} {scope : Scope} {dV kV doc pm ct : Value} {an : Option Addr} {osl : Array (Option Value)} (hm : mg x = some (.ref f))
    (l : K.lookup f = some ⟨oc, od, .func (PySem.W.fnOf x x params body scope dV kV doc pm an (.ref c) ct), osl⟩) (cd : CodeT base mg (.ref c) (x ++ ".<locals>.")) : MakT K mg base x := ⟨fun f' h oc' od' params' body' scope' dV' kV' doc' pm' an' cdv' ct' osl' l' => by
  rw [hm] at h; cases h
  rw [l] at l'
  have e : Value.ref c = cdv' := congrArg (fun o : Option Obj => match o with | some ⟨_, _, .func fd, _⟩ => fd.code | _ => .none) l'
  rw [← e]; exact cd⟩
section
variable {P : Program} {w : World} {K : PySem.W.Frag} {mg : Str → Option Value} {base : Heap} {x : Str} {st : Stmt} {ps : List Str} {dvs : List V} {k : Nat} {S : Spc}
theorem DefT.fnM (T : DefT K mg x st ps dvs) (M : MakT K mg base x) {N : List Str} (Sc : FnScope N ps (defScope st)) (len : ∀ ds Q, S.S ds Q → ds.length = ps.length)
    (hbody : ∀ (f : Addr) (cdv : Value) (A : Around) (outer : List Env) (s : Shared) (H : Hp), CodeT base mg cdv (x ++ ".<locals>.") → Room k (A.deeper (envOfC x (defScope st) s.heap.objs.size f cdv)) → ∀ ds (Q : O → Prop), S.S ds Q →
      WSs (cxOf CX0 P w K mg base N x (defScope st) f cdv A outer s H E0).nox noX (defBody st) (slots N.length ds) { nx := fun _ => Q (.va .non), rt := Q }) :
    ∃ (f : Addr) (fd : FuncData), FnOk P w K mg base CX0 (k + 1) f fd ps (spOf K S) ∧ mg x = some (.ref f) ∧ PySem.W.keepIn K (.ref f) = true ∧ ∀ j ≤ dvs.length, ∃ ds, Vals (dvs.drop j) ds ∧ Binds K fd ps ds := by
  obtain ⟨f, fd, F, hm, hb⟩ := T.ex
  obtain ⟨oc, od, dV, kV, doc, pm, an, cdv, ct, osl, e, lk, hcd, _, _⟩ := F.ex
  subst e
  have cd := M.ex f hm _ _ _ _ _ _ _ _ _ _ _ _ _ lk
  refine ⟨f, _, fn_of lk hcd Sc (fun vs H Q E ⟨_, ds, G, e, r, h⟩ => ?_) (fun A outer s H vs Q E hr h => ?_), hm, F.kp, hb⟩
  · rw [r.length]; exact len ds _ h
  · exact ⟨tSemSs (cxOf CX0 P w K mg base N x (defScope st) f cdv A outer s H E).nox _, PSs.nox sem_pss, spec_ok (X := (cxOf CX0 P w K mg base N x (defScope st) f cdv A outer s H E).nox) rfl h fun ds P hS => hbody f cdv A outer s H cd hr ds P hS⟩
end
/-- what the last theorem wants where the text makes lambdas -/
theorem law_finT {l : PySem.W.OpenLaw} {w : World} {K : PySem.W.Frag} {mg : Str → Option Value} {k : Nat} {fa : Addr} {x : Str} {st : Stmt} {h : Heap} (cs : List (Addr × Addr)) (hcs : ∀ p ∈ TbT.T, ∃ q ∈ cs, q.2 = p.1) (t1 : ∀ p ∈ cs, h.get? p.2 = some { cls := .none, data := .fields #[] }) (n1 : ∀ p ∈ cs, K.lookup p.2 = none) (c1 : ∀ p ∈ cs, PySem.W.CodeHd h p.1 p.2)
    (hfa : mg x = some (.ref fa)) (T : DefT K mg x st ["script"] [])
    (hb : ∀ (f : Addr) (fd : FuncData), FunD K x x (defArgs st) (defBody st) (defScope st) [] [] f fd → ∀ (s : Shared) (u : Value), BindsTo s fd ⟨[u], []⟩ [("script", u)])
    (hF : ∀ base : Heap, K.In base → base.Ns mainGlobals mg → (∀ p ∈ cs, TabB base mg p.1 p.2) → ∀ (f : Addr) (fd : FuncData), FunD K x x (defArgs st) (defBody st) (defScope st) [] [] f fd → FnOk l.prog w K mg base CX0 k f fd ["script"] (spOf K lawS)) :
    LawAtS l w K CX0 k 63 "script" mg fa h := by
  obtain ⟨f, fd, F, hm, _⟩ := T.ex
  rw [hfa] at hm; cases hm
  refine ⟨fd, cs, spOf K lawS, t1, n1, c1, hb _ _ F, fun H a ns hl _ hH hS => law_sp K H a ns hl (fun p hp => ?_) hS, fun base h1 h2 h3 => hF base h1 h2 h3 _ _ F⟩
  obtain ⟨q, hq, e⟩ := hcs p hp
  exact TabS.nil (by rw [← e]; exact hH q hq)
end TG
/-! len(set(xs)), xs a list of tuples of ints (below 64 of them). -/
namespace TG
open PySem PySem.Spec PyProof.Rows L2
variable [TbT]
omit [TbT] in
/-- the tuples of ints, their addresses -/
theorem tups_of {K : PySem.W.Frag} {G : Hp} : ∀ {kss : List (List Int)} {vs : List V}, RepL K G vs (kss.map fun k => D.tup (k.map .int)) → ∃ ks : List (Addr × List Int), vs = ks.map (fun p => V.ref p.1) ∧ ks.map (·.2) = kss ∧ ∀ p ∈ ks, SqT K G p.1 (p.2.map V.int)
  | [], _, .nil => ⟨[], rfl, rfl, fun _ h => (by cases h)⟩
  | k :: r, _, .cons h t => by
    obtain ⟨ks, e1, e2, e3⟩ := tups_of t
    cases h with
    | @tup a xs _ hs rl =>
      obtain rfl := rl.ints_of
      exact ⟨(a, k) :: ks, by rw [e1]; rfl, by rw [← e2]; rfl, fun p hp => by
        rcases List.mem_cons.mp hp with z | z
        · subst z; exact hs
        · exact e3 p z⟩
section
variable {X : Cx} {ex : Exs} {ρ : List O} {e : Expr} {ds : List D} {pos p p2 q : Pos}
theorem ee_lenSet {m : Nat} {kss : List (List Int)} {n : Nat} (hr : Room m X.A) (hg : Gl X "len") (hm : X.mg "len" = none) (hg2 : Gl X "set") (hm2 : X.mg "set" = none) (ha : EE X ex e ρ (.lst ds)) (hd : ds = kss.map fun k => D.tup (k.map .int)) (hf : ds.length < 64)
    (hn : ∀ L : List (List Int), L.Nodup → (∀ k, k ∈ L ↔ k ∈ kss) → L.length = n) (hc : X.calm = true := by rfl) (na : starEach [e] X.env = (false, eval e X.env) :: starEach [] X.env := by rfl) : EE X ex (.Call (.Name "len" p) [.Call (.Name "set" p2) [e] [] q] [] pos) ρ (.int n) := ⟨fun E σ G H S pins s I => by
  subst hd
  refine Call_ (ld_blt I hg hm PySem.boot_len ?_)
  refine PyProof.Rows.callWith_builtin1 (PyProof.Rows.args_cons ?_ rfl) rfl rfl
  refine Call_ (ld_blt I hg2 hm2 PyProof.Rows.boot_set ?_)
  refine PyProof.Rows.callWith_type1 (PyProof.Rows.args_cons (thn (ha E σ G H S pins s I) fun v s1 ⟨x, H1, I1, r1, G1, g1, rx⟩ => PyProof.Rows.args_nil ?_) na) na rfl
  cases rx with
  | @lst b xs _ hb rb =>
    cases r1
    obtain ⟨ks, rfl, e2, hk⟩ := tups_of rb
    have hq : SqL X.K H1 b (ks.map fun p => V.ref p.1) := g1.gh.l hb
    obtain ⟨its, rv, pl, hz⟩ := I1.list hq
    have hlk : ks.length = kss.length := by rw [← e2, List.length_map]
    have hu := hr.units
    refine call_set_tups (P := X.prog) (w := X.w) ks (I1.ok.hd hc) pl.isList (by simpa using refs_of_vals rv) (fun p hp => I1.isT (g1.gh.t (hk p hp))) (by rw [hlk]; simpa using hf) (by omega) fun h' tk L es ep t R g k => ?_
    refine PyProof.Rows.args_nil ?_
    obtain ⟨o, ho, hex, hd⟩ := R.ob
    have hsz : es.size = L.length := R.size (s := { s1 with heap := h', toks := tk })
    have hL : L.length = n := by
      have := hn (L.map (·.2)) R.nd fun k => by
        rw [← e2]
        constructor
        · intro h
          obtain ⟨p, hp, rfl⟩ := List.mem_map.mp h
          exact List.mem_map.mpr ⟨p, List.mem_of_mem_take (g.sub p hp), rfl⟩
        · intro h
          obtain ⟨p, hp, rfl⟩ := List.mem_map.mp h
          exact g.all p (by rw [List.take_length]; exact hp)
      rw [← this, List.length_map]
    have I2 : Inv X pins σ H1 { s1 with heap := h', toks := tk } := I1.kept k
    refine call_len_set ho hex hd (R.fits (s := { s1 with heap := h', toks := tk })) (by have := R.few; omega) ⟨.int n, H1, I2.tok _, ⟨_, by rw [hsz, hL]⟩, G1, g1, .int _⟩⟩
end
/-! ### x is b, x is not b, b a bool -/
section
variable {X : Cx} {ex : Exs} {ρ : List O} {e a b : Expr} {ds : List D} {t u : Bool} {pos p : Pos} {d : D}
theorem ee_isB (ha : EE X ex a ρ (.bl t)) (hb : EE X ex b ρ (.bl u)) (hm : behindInMarks .Is b = false := by rfl) : EE X ex (.Compare a [.Is] [b] pos) ρ (.bl (decide (t = u))) := ⟨fun E σ G H S =>
  of_pe (pe_cmpR op_is_bl sem_pe sem_pe hm) (tSem_mono (ha E σ G H S) fun v H1 ⟨G1, g1, r1⟩ => tSem_mono (hb E σ G1 H1 (S.grow g1)) fun w H2 ⟨G2, g2, r2⟩ => by
    cases r1; cases r2; exact ⟨_, _, rfl, rfl, G2, g1.trans g2, .bl _⟩)⟩
theorem et_isB (ha : EE X ex a ρ (.bl t)) (hb : EE X ex b ρ (.bl u)) (hm : behindInMarks .Is b = false := by rfl) : ET X ex (.Compare a [.Is] [b] pos) ρ (decide (t = u)) := ⟨fun E σ G H S =>
  of_pt (pt_cmpR op_is_bl sem_pe sem_pe hm) (tSem_mono (ha E σ G H S) fun v H1 ⟨G1, g1, r1⟩ => tSem_mono (hb E σ G1 H1 (S.grow g1)) fun w H2 ⟨G2, g2, r2⟩ => by
    cases r1; cases r2; exact ⟨_, _, rfl, rfl, _, rfl, rfl, G2, g1.trans g2⟩)⟩
theorem ee_isnB (ha : EE X ex a ρ (.bl t)) (hb : EE X ex b ρ (.bl u)) (hm : behindInMarks .IsNot b = false := by rfl) : EE X ex (.Compare a [.IsNot] [b] pos) ρ (.bl (!decide (t = u))) := ⟨fun E σ G H S =>
  of_pe (pe_cmpR op_isnot_bl sem_pe sem_pe hm) (tSem_mono (ha E σ G H S) fun v H1 ⟨G1, g1, r1⟩ => tSem_mono (hb E σ G1 H1 (S.grow g1)) fun w H2 ⟨G2, g2, r2⟩ => by
    cases r1; cases r2; exact ⟨_, _, rfl, rfl, G2, g1.trans g2, .bl _⟩)⟩
theorem et_isnB (ha : EE X ex a ρ (.bl t)) (hb : EE X ex b ρ (.bl u)) (hm : behindInMarks .IsNot b = false := by rfl) : ET X ex (.Compare a [.IsNot] [b] pos) ρ (!decide (t = u)) := ⟨fun E σ G H S =>
  of_pt (pt_cmpR op_isnot_bl sem_pe sem_pe hm) (tSem_mono (ha E σ G H S) fun v H1 ⟨G1, g1, r1⟩ => tSem_mono (hb E σ G1 H1 (S.grow g1)) fun w H2 ⟨G2, g2, r2⟩ => by
    cases r1; cases r2; exact ⟨_, _, rfl, rfl, _, rfl, rfl, G2, g1.trans g2⟩)⟩
theorem ee_notN {k pos'} (ha : EE X ex a ρ d) : EE X ex (.Compare a [.IsNot] [.Constant .none k pos'] pos) ρ (.bl (!d.isN)) := ⟨fun E σ G H S =>
  of_pe (pe_cmp (pc_notN sem_pe) rfl) (tSem_mono (ha E σ G H S) fun v H1 ⟨G1, g1, r1⟩ => ⟨G1, g1, by rw [r1.isN]; exact .bl _⟩)⟩
theorem ws_exprP {P : O → Prop} {W : Eds} (h : EO X ex e ρ P) (k : ∀ o, P o → W.nx ρ) (hs : swapsWith e none pos.line X.env = pure false := by rfl) : WS X ex (.Expr e pos) ρ W := ⟨fun E σ G H S =>
  of_ps (ps_expr sem_pe hs) (tSem_mono (h E σ G H S) fun v H1 ⟨o, G1, g, q, p⟩ => ⟨ρ, G1, S.grow g, g.g, k o p⟩)⟩
omit [TbT] in
theorem RepL.rev {K : PySem.W.Frag} {G : Hp} : ∀ {ds : List D} {vs : List V}, RepL K G vs ds → RepL K G vs.reverse ds.reverse
  | [], _, .nil => .nil
  | d :: ds, _, .cons h t => by
    rw [List.reverse_cons, List.reverse_cons]
    exact (RepL.rev t).append (.cons h .nil)
/-- xs[::-1] -/
theorem eo_revL {k : Nat} {p1 p2 p3 : Pos} (ha : EE X ex a ρ (.lst ds)) : EO X ex (.Subscript a (.Slice none none (some (.UnaryOp .USub (.Constant (.int 1) k p1) p2)) p3) pos) ρ (fun o => o = .ml ds.reverse) := ⟨fun E σ G H S =>
  of_pe (pe_revL sem_pe) (tSem_mono (ha E σ G H S) fun v H1 ⟨G1, g1, r1⟩ => by
    cases r1 with
    | @lst _ xs _ h1 r =>
      refine ⟨_, _, rfl, g1.gh.l h1, fun p hp => ?_⟩
      have g4 := Grow.newH (u := .lst xs.reverse) g1.gh hp
      exact ⟨.ml _, _, g1.trans g4, ⟨p, _, rfl, upd_same, g1.gh.back hp, g1.h.back hp, r.rev⟩, rfl⟩)⟩
/-- C(e, ..) that makes one thing -/
theorem ee_make {es : List Expr} {dds : List D} {c : Str} {k : Nat} {S : SpcI} (C : CalI X.prog X.w X.K X.mg X.base k c S dds) (hr : Room (k + 1) X.A) (ha : EA X ex (e :: es) ρ ds) (hq : S.S (ds ++ dds) (fun x => x = d) fun n => ex n ρ) (hg : Gl X c := by rfl) (hdb : (c == ("__debug__" : Str)) = false := by decide) (he : starEach (e :: es) X.env = (false, eval e X.env) :: starEach es X.env := by rfl) (hpl : (backTo pos (starEach es X.env)).any (·.1) = false := by rfl) :
    EE X ex (.Call (.Name c p) (e :: es) [] pos) ρ d := ee_va ⟨fun E σ G H S => tSem_mono (eo_make C hr ha hq hg hdb he hpl E σ G H S) fun v H1 ⟨o, G1, g, q, d', e1, e2⟩ => ⟨o, G1, g, q, e2 ▸ e1⟩⟩
end
section
variable {X : Cx} {ex : Exs} {ρ : List O} {e : Expr} {pos p : Pos} {t : Bool}
/-- int(b) of a bool -/
theorem ee_toIntB (hg : Gl X "int") (hm : X.mg "int" = none) (ha : EA X ex [e] ρ [.bl t]) (he : starEach [e] X.env = (false, eval e X.env) :: starEach [] X.env := by rfl) (hpl : (backTo pos (starEach [] X.env)).any (·.1) = false := by rfl) : EE X ex (.Call (.Name "int" p) [e] [] pos) ρ (.int (if t then 1 else 0)) :=
  ee_va (eo_cty call_int1 (fun G H vs Q e r q => by
    obtain ⟨v, rfl, r1⟩ := r.of1
    cases r1
    exact .inr ⟨t, rfl, q _ (.va _) G H (.refl e) (.int _) rfl⟩) hg hm (by decide +kernel) ha (by decide) (by decide) he hpl)
end
/-! ### what the top has written: classes, methods, makers -/
section
variable {K : PySem.W.Frag} {mg : Str → Option Value} {c m q : Str} {st : Stmt} {ps : List Str} {C f : Addr} {oc : Value} {od an : Option Addr} {osl : Array (Option Value)} {kV doc pm cdv ct : Value}
theorem cls_mk (h1 : mg c = some (.ref C)) (h2 : PySem.W.nsIn K mainGlobals c = some (some (.ref C))) (cl : Cls K C) (kc : PySem.W.keepIn K (.ref C) = true) (h3 : PySem.W.findIn K (.ref C) "__class__" = some (some (.builtin "object.__class__")))
    (h4 : PySem.W.specialIn K (.builtin "object.__class__") "__get__" = some (some (.builtin "getset_descriptor.__get__"))) (h5 : PySem.W.takesIn K (.builtin "object.__class__") = some true) (h6 : PySem.W.mroIn K C (.type "object") = some true) : ClsT K mg c := ⟨C, h1, h2, cl, kc, h3, h4, h5, h6⟩
theorem at_mk {a : Str} (h2 : PySem.W.nsIn K mainGlobals c = some (some (.ref C))) (n : PySem.W.findIn K (.ref C) a = some none) : AtT K c a := ⟨fun C' h => by rw [h2] at h; cases h; exact n⟩
theorem nf_mk {tv : Value} (h2 : PySem.W.nsIn K mainGlobals c = some (some (.ref C))) (n : PySem.W.notFirst K C tv = true) : NfT K c tv := ⟨fun C' h => by rw [h2] at h; cases h; exact n⟩
theorem kt_mk {tv : Value} {t : Bool} (h1 : mg c = some (.ref C)) (n : PySem.W.kitOne K tv (.ref C) = some t) : KitT K mg tv c t := ⟨fun C' h => by rw [h1] at h; cases h; exact n⟩
theorem met_mk (hq : c ++ "." ++ m = q) (h2 : PySem.W.nsIn K mainGlobals c = some (some (.ref C))) (cl : Cls K C) (a : PySem.W.findIn K (.ref C) m = some (some (.ref f))) (i : PySem.W.isFn K (.ref f) = true)
    (l : K.lookup f = some ⟨oc, od, .func (PySem.W.fnOf m q (defArgs st) (defBody st) (defScope st) .none kV doc pm an cdv ct), osl⟩) (cc : PySem.W.codeIn K cdv q = true) (kp : PySem.W.keepIn K (.ref f) = true)
    (h : ∀ (kV doc pm : Value) (an : Option Addr) (cdv ct : Value) (us : List Value), us.length = ps.length → bindArgs (PySem.W.fnOf m q (defArgs st) (defBody st) (defScope st) .none kV doc pm an cdv ct) ⟨us, []⟩ = pure (ps.zip us)) : MetT K c m st ps [] := by
  subst hq
  have F : FunD K m (c ++ "." ++ m) (defArgs st) (defBody st) (defScope st) [] [] f _ := ⟨⟨oc, od, .none, kV, doc, pm, an, cdv, ct, osl, rfl, l, cc, .inl ⟨rfl, rfl⟩, .inl rfl⟩, kp⟩
  exact ⟨C, f, _, h2, cl, ⟨a, i, kp⟩, F, fun j hj => ⟨[], by rw [List.drop_nil]; exact .nil, F.bindsN h⟩⟩
theorem prop_mk {p : Addr} {rest : List Value} (hq : c ++ "." ++ m = q) (h2 : PySem.W.nsIn K mainGlobals c = some (some (.ref C))) (cl : Cls K C) (a : PySem.W.findIn K (.ref C) m = some (some (.ref p)))
    (g : PySem.W.specialIn K (.ref p) "__get__" = some (some (.builtin "property.__get__"))) (t : PySem.W.takesIn K (.ref p) = some true) (r : PySem.W.recIn K p "property" = some (.ref f :: rest))
    (l : K.lookup f = some ⟨oc, od, .func (PySem.W.fnOf m q (defArgs st) (defBody st) (defScope st) .none kV doc pm an cdv ct), osl⟩) (cc : PySem.W.codeIn K cdv q = true) (kp : PySem.W.keepIn K (.ref f) = true)
    (h : ∀ (kV doc pm : Value) (an : Option Addr) (cdv ct : Value) (us : List Value), us.length = 1 → bindArgs (PySem.W.fnOf m q (defArgs st) (defBody st) (defScope st) .none kV doc pm an cdv ct) ⟨us, []⟩ = pure ((["self"] : List Str).zip us)) : PropT K c m st := by
  subst hq
  have F : FunD K m (c ++ "." ++ m) (defArgs st) (defBody st) (defScope st) [] [] f _ := ⟨⟨oc, od, .none, kV, doc, pm, an, cdv, ct, osl, rfl, l, cc, .inl ⟨rfl, rfl⟩, .inl rfl⟩, kp⟩
  exact ⟨C, p, f, _, h2, cl, ⟨a, g, t, rest, r⟩, F, F.bindsN (ps := ["self"]) h⟩
theorem init_mk (hq : c ++ "." ++ "__init__" = q) (h1 : mg c = some (.ref C)) (h2 : PySem.W.nsIn K mainGlobals c = some (some (.ref C))) (cl : Cls K C) (mk : PySem.W.makesIn K C = true) (kc : PySem.W.keepIn K (.ref C) = true) (a : PySem.W.findIn K (.ref C) "__init__" = some (some (.ref f))) (i : PySem.W.isFn K (.ref f) = true)
    (l : K.lookup f = some ⟨oc, od, .func (PySem.W.fnOf "__init__" q (defArgs st) (defBody st) (defScope st) .none kV doc pm an cdv ct), osl⟩) (cc : PySem.W.codeIn K cdv q = true) (kp : PySem.W.keepIn K (.ref f) = true)
    (h : ∀ (kV doc pm : Value) (an : Option Addr) (cdv ct : Value) (us : List Value), us.length = ps.length → bindArgs (PySem.W.fnOf "__init__" q (defArgs st) (defBody st) (defScope st) .none kV doc pm an cdv ct) ⟨us, []⟩ = pure (ps.zip us)) : InitT K mg c st ps [] := by
  subst hq
  have F : FunD K "__init__" (c ++ "." ++ "__init__") (defArgs st) (defBody st) (defScope st) [] [] f _ := ⟨⟨oc, od, .none, kV, doc, pm, an, cdv, ct, osl, rfl, l, cc, .inl ⟨rfl, rfl⟩, .inl rfl⟩, kp⟩
  exact ⟨C, f, _, h1, h2, cl, ⟨mk, a, i, kc⟩, F, fun j hj => ⟨[], by rw [List.drop_nil]; exact .nil, F.bindsN h⟩⟩
theorem nodup_fst {α β : Type} {a : α} {b : β} : ∀ {T : List (α × β)}, (T.map (·.1)).Nodup → (a, b) ∈ T → ∀ p ∈ T, p.1 = a → p.2 = b
  | [], _, h, _, _, _ => by cases h
  | x :: T, nd, h, p, hp, e => by
    rw [List.map_cons, List.nodup_cons] at nd
    rcases List.mem_cons.mp h with h' | h'
    · rcases List.mem_cons.mp hp with hp' | hp'
      · rw [hp', ← h']
      · exact absurd (List.mem_map.mpr ⟨p, hp', by rw [e, ← h']⟩) nd.1
    · rcases List.mem_cons.mp hp with hp' | hp'
      · exact absurd (List.mem_map.mpr ⟨(a, b), h', by rw [← hp', e]⟩) nd.1
      · exact nodup_fst nd.2 h' p hp' e
open LamX in
theorem code_mk {base : Heap} {c P : Addr} {q : Str} (TB : TabB base mg c P) (hm : (P, q ++ "<lambda>") ∈ TbT.T) (hn : (TbT.T.map (·.1)).Nodup) : CodeT base mg (.ref c) q := ⟨c, P, rfl, TB, hm, fun p hp e => nodup_fst hn hm p hp e⟩
end
end TG
/-! Fractions as rational numbers. -/
namespace TG
/-- a fraction in lowest terms as data -/
abbrev rq (q : Rat) : D := fr q.num (q.den : Int)
theorem rq_pos (q : Rat) : 0 < (q.den : Int) := by have := q.den_pos; omega
theorem rq_ne (q : Rat) : (q.den : Int) ≠ 0 := Int.ne_of_gt (rq_pos q)
theorem rq_gcd (q : Rat) : Int.gcd q.num (q.den : Int) = 1 := q.reduced
theorem rq_cross {n d : Int} (h : d ≠ 0) : (Rat.divInt n d).num * d = n * ((Rat.divInt n d).den : Int) := by
  have e := Rat.num_divInt_den (Rat.divInt n d)
  exact (Rat.divInt_eq_divInt_iff (rq_ne _) h).mp e
theorem rq_frac {n d : Int} (h : d ≠ 0) : fr (fN n d) (fD n d) = rq (Rat.divInt n d) := by
  obtain ⟨h1, h2⟩ := fr_eq (rq_pos (Rat.divInt n d)) (rq_gcd _) h (rq_cross h)
  rw [h1, h2]
theorem rq_inj {p q : Rat} (h1 : p.num = q.num) (h2 : p.den = q.den) : p = q := Rat.ext h1 h2
/-- its numbers are small -/
structure Rz (k : Nat) (q : Rat) : Prop where
  num : Sz k q.num
  den : Sz k (q.den : Int)
theorem Rz.mono {k j : Nat} {q : Rat} (h : Rz k q) (l : k ≤ j) : Rz j q := ⟨h.num.mono l, h.den.mono l⟩
theorem rz_divInt {k : Nat} {n d : Int} (h : d ≠ 0) (hn : Sz k n) (hd : Sz k d) : Rz k (Rat.divInt n d) := by
  obtain ⟨h1, h2⟩ := fr_eq (rq_pos (Rat.divInt n d)) (rq_gcd _) h (rq_cross h)
  have := fr_ok h hn hd
  rw [h1, h2] at this
  exact ⟨this.num, this.den⟩
theorem rat_add {p q : Rat} : Rat.divInt (p.num * q.den + q.num * p.den) (p.den * q.den) = p + q := by
  rw [← Rat.divInt_add_divInt _ _ (rq_ne p) (rq_ne q), Rat.num_divInt_den, Rat.num_divInt_den]
theorem rat_sub {p q : Rat} : Rat.divInt (p.num * q.den - q.num * p.den) (p.den * q.den) = p - q := by
  rw [← Rat.divInt_sub_divInt _ _ (rq_ne p) (rq_ne q), Rat.num_divInt_den, Rat.num_divInt_den]
theorem rat_mul {p q : Rat} : Rat.divInt (p.num * q.num) (p.den * q.den) = p * q := by
  rw [← Rat.divInt_mul_divInt, Rat.num_divInt_den, Rat.num_divInt_den]
theorem Rz.add {m n : Nat} {p q : Rat} (h : Rz m p) (k : Rz n q) : Rz (m + n + 1) (p + q) := by
  rw [← rat_add]
  exact rz_divInt (mul_ne (rq_ne p) (rq_ne q)) (((h.num.mul k.den).add (k.num.mul h.den)).mono (by omega)) ((h.den.mul k.den).mono (by omega))
theorem Rz.sub {m n : Nat} {p q : Rat} (h : Rz m p) (k : Rz n q) : Rz (m + n + 1) (p - q) := by
  rw [← rat_sub]
  exact rz_divInt (mul_ne (rq_ne p) (rq_ne q)) (((h.num.mul k.den).sub (k.num.mul h.den)).mono (by omega)) ((h.den.mul k.den).mono (by omega))
theorem Rz.mul {m n : Nat} {p q : Rat} (h : Rz m p) (k : Rz n q) : Rz (m + n) (p * q) := by
  rw [← rat_mul]
  exact rz_divInt (mul_ne (rq_ne p) (rq_ne q)) (h.num.mul k.num) (h.den.mul k.den)
theorem Rz.neg {m : Nat} {p : Rat} (h : Rz m p) : Rz m (-p) := ⟨h.num.neg, h.den⟩
theorem rz_int {m : Nat} {i : Int} (h : Sz m i) (hm : 0 < m := by decide) : Rz m (i : Rat) := ⟨h, by
  show Sz m 1
  have : 2 ^ 1 ≤ 2 ^ m := Nat.pow_le_pow_right (by decide) hm
  unfold Sz; show 1 < _; omega⟩
theorem rq_int (i : Int) : rq (i : Rat) = fr i 1 := rfl
theorem rq_zero : rq 0 = fr 0 1 := rfl
theorem rq_one : rq 1 = fr 1 1 := rfl
theorem rq_neg {p : Rat} : rq (-p) = fr (0 - p.num) p.den := by
  rw [Int.zero_sub]; rfl
theorem rat_div {n d : Int} : Rat.divInt n d = (n : Rat) / (d : Rat) := Rat.divInt_eq_div n d
theorem rat_den {p : Rat} : ((p.den : Int) : Rat) ≠ 0 := by
  intro h
  have : (p.den : Int) = 0 := by exact_mod_cast h
  exact rq_ne p this
theorem rat_num {p : Rat} : (p.num : Rat) = p * ((p.den : Int) : Rat) := by
  have h := Rat.num_divInt_den p
  rw [rat_div] at h
  have k := Rat.div_mul_cancel (a := (p.num : Rat)) (rat_den (p := p))
  rw [h] at k
  exact k.symm
theorem rat_eq_div {p : Rat} {n d : Int} (h : d ≠ 0) (e : (n : Rat) = p * (d : Rat)) : Rat.divInt n d = p := by
  have hd : (d : Rat) ≠ 0 := by
    intro z
    exact h (by exact_mod_cast z)
  rw [rat_div, e, Rat.mul_div_cancel hd]
theorem rat_led {a b : Int} {p q : Rat} : Rat.divInt (a * (p.num * q.den) + b * (q.num * p.den)) (p.den * q.den) = a * p + b * q := by
  refine rat_eq_div (mul_ne (rq_ne p) (rq_ne q)) ?_
  rw [Rat.intCast_add, Rat.intCast_mul, Rat.intCast_mul, Rat.intCast_mul, Rat.intCast_mul, Rat.intCast_mul, @rat_num p, @rat_num q]
  generalize ((p.den : Int) : Rat) = u
  generalize ((q.den : Int) : Rat) = v
  generalize (a : Rat) = a
  generalize (b : Rat) = b
  grind
theorem Sz.nn2 {n : Nat} {x : Int} (lo hi : Int) (h : lo ≤ x ∧ x ≤ hi) (hl : (-(2 ^ n : Int) < lo) ∧ hi < (2 ^ n : Int)) : Sz n x := by
  unfold Sz
  have : ((2 ^ n : Nat) : Int) = (2 : Int) ^ n := by simp
  omega
theorem rz0 : Rz 1 0 := ⟨sz_lit rfl, sz_lit rfl⟩
theorem sz_num {n : Int} : Sz (n.natAbs.log2 + 1) n := by
  unfold Sz
  by_cases h : n.natAbs = 0
  · rw [h]; decide
  · exact (Nat.log2_lt h).mp (Nat.lt_succ_self _)
theorem plains_map {α : Type} {f : α → D} (hf : ∀ x, (f x).plain = true) : ∀ l : List α, D.plains (l.map f) = true
  | [] => rfl
  | x :: l => by
    show (D.plain (f x) && D.plains (l.map f)) = true
    rw [hf x, plains_map hf l]; rfl
theorem depths_map {α : Type} {f : α → D} {n : Nat} (hf : ∀ x, (f x).depth ≤ n) : ∀ {l : List α}, D.depths (l.map f) ≤ n
  | [] => Nat.zero_le _
  | x :: l => Nat.max_le.mpr ⟨hf x, depths_map hf⟩
theorem rq_eqv (p q : Rat) : D.eqv (rq p) (rq q) = decide (p = q) := by
  have e : D.eqv (rq p) (rq q) = (p.num == q.num && (((p.den : Int) == (q.den : Int)) && true)) := rfl
  rw [e, Bool.eq_iff_iff]
  simp only [Bool.and_eq_true, beq_iff_eq, and_true, decide_eq_true_eq]
  constructor
  · rintro ⟨h1, h2⟩; exact Rat.ext h1 (by omega)
  · rintro rfl; exact ⟨rfl, rfl⟩
end TG
/-! {k: v for .. in ..}, the keys tuples of ints, of tuples, ... -/
namespace TG
open PySem PySem.Spec PyProof.Rows L2
variable [TbT]
omit [TbT] in
/-- a dict's object is no code object -/
theorem dictX_code0 {a : Addr} {xs : Dx} (q : Str) : DictX a xs ≠ LamX.CodeO a q := fun e => by
  unfold DictX LamX.CodeO at e
  have e' := HO.ext.inj e
  let o : Obj := { cls := .none, data := .fields #[.none, .str q 0] }
  let h : Heap := { objs := (Array.replicate a o).push o }
  have hg : h.get? a = some o := by
    show (match ((Array.replicate a o).push o)[a]? with | some ⟨_, _, .freed, _⟩ => none | x => x) = some o
    have : ((Array.replicate a o).push o)[a]? = some o := by
      rw [Array.getElem?_push]
      simp
    rw [this]
  have hc := congrFun e' h
  obtain ⟨_, _, o', es, ep, h1, _, h3, _⟩ := hc.mpr ⟨o, #[.none, .str q 0], 0, hg, rfl, rfl⟩
  rw [hg] at h1; cases h1
  cases h3
omit [TbT] in
theorem dictX_empty {P : Program} {w : World} {H : Hp} (h : Heap) (hb : sysModules < h.objs.size) : ObjOk P w H (h.push { cls := .type "dict", data := .dict #[] }) h.objs.size (DictX h.objs.size []) :=
  dictX_ok (beq_eq_false_iff_ne.mpr (Ne.symm (Nat.ne_of_lt hb))) (Nat.zero_le _) ⟨_, #[], 0, Heap.get?_push_size _ rfl, ⟨rfl, rfl, rfl⟩, rfl, rfl, fun x hx => by simp at hx, List.nodup_nil⟩
section
variable {X : Cx}
def tDcX (K : PySem.W.Frag) (wi : TI) (g : TG) (tt : TT) (tk tv : TE) (vs : List Nat) : TE := fun σ H Q => wi σ H fun J H1 => ∀ DA, H1 DA = none → ∃ W : Nat → Nat → Hp → Prop, (∃ m, W 0 m (upd H1 DA (DictX DA []))) ∧ ∀ i m H, W i m H →
  (J.stop i H ∧ Q (.ref DA) H) ∨ (J.go i H ∧ ∃ Nx : Hp → Prop, (∀ H', Nx H' → ∃ m', m' < m ∧ W (i + 1) m' H') ∧ ∀ x H', J.yld i H x H' → g x (L2.wipe σ vs) H' fun σ2 H2 => L2.wipe σ2 vs = L2.wipe σ vs ∧ tt σ2 H2 fun b H3 =>
    if b = true then tk σ2 H3 fun y H4 => tv σ2 H4 fun z H5 => ∃ (xs : Dx) (us : List V) (ks ws : List D) (k d : D) (G : Hp), H5 DA = some (DictX DA xs) ∧ DArt K G xs us ks ws ∧ ks.length < sizeLine ∧ k.key = true ∧ Ex G H5 ∧ Rep K G y k ∧ Rep K G z d ∧
      ∀ xs' us', DArt K G xs' us' (insK k ks) (insV k d ks ws) → Nx (upd H5 DA (DictX DA xs')) else Nx H3)
omit [TbT] in
theorem dc_coreX {pins : List (Addr × Obj)} {s : Shared} {σ : L2.St} {H : Hp} {Q : VK} {kx vx tg iter : Expr} {ifs : List Expr} {scope : Scope} {own : List (Str × Nat)} {pos pos' : Pos} {wi : TI} {g : TG} {tt : TT} {tk tv : TE} {use : Option (Value → Sem Unit)} {Qf : Value → Shared → Prop}
    (hu : X.A.units + 10 < cLine) (hc : X.calm = true) (hN : X.N.Nodup) (I : Inv X pins σ H s) (hi : PI X tg iter wi) (ok : BlkOk X.N X.env.scope scope own)
    (hg : ∀ (s : Shared) (H : Hp) (C : Addr) (cl : List (Str × Addr)) (fp : List Addr), PG (X.blk s H scope (compEnvC scope cl C X.env) fp) tg g) (ht : ∀ (s : Shared) (H : Hp) (C : Addr) (cl : List (Str × Addr)) (fp : List Addr), PTs (X.blk s H scope (compEnvC scope cl C X.env) fp) ifs tt)
    (hk : ∀ (s : Shared) (H : Hp) (C : Addr) (cl : List (Str × Addr)) (fp : List Addr), PE (X.blk s H scope (compEnvC scope cl C X.env) fp) kx tk)
    (he : ∀ (s : Shared) (H : Hp) (C : Addr) (cl : List (Str × Addr)) (fp : List Addr), PE (X.blk s H scope (compEnvC scope cl C X.env) fp) vx tv) (hs : ∀ x, foldedSetIterable iter X.env x = pure x)
    (h : tDcX X.K wi g tt tk tv (own.map (·.2)) σ H Q)
    (hRR : ∀ D C s' m H', Inv X pins σ H' s' → Q (.ref D) H' → s'.heap.Ns C m → FpOk X pins H' C → compPost (model X.prog X.w) X.A X.xe use Qf (.ref D) C (.ok .next) s') :
    wpAny (model X.prog X.w) X.A (comprehension (.DictComp kx vx [⟨tg, iter, ifs, 0⟩] scope pos) scope X.env pos' newDict false (eval iter X.env) use) Qf X.xe s := by
  have hfree : ∀ y ∈ scope.names, y.2 = .free → ∃ c, X.env.cells.lookup y.1 = some c := fun y hy e => by
    rcases ok.free y hy e with k | k
    · exact I.ok.has _ (.inl k)
    · exact I.ok.has _ (.inr k)
  refine wpAny_comprehension_free (use := use) rfl hs (closure_ok hfree) ok.kind (fun y hy e => by rw [ok.uniq y hy, e])
    (thn (hi.run pins s σ H _ I h) fun xv s1 hx => thn hx fun itv s2 h2 => ?_)
  obtain ⟨it, fp, tn, J, H2, e, I2, T, st2, f2, q⟩ := h2
  subst e
  refine wpAny_newObj_type (newEnv_comp ?_)
  generalize hD : s2.heap.objs.size = D
  have hDn : H2 D = none := I2.hok.fresh (Nat.le_of_eq hD)
  obtain ⟨W, ⟨m0, w0⟩, turn⟩ := q D hDn
  generalize hs3 : ({ s2 with heap := s2.heap.push { cls := .type "dict", data := .dict #[] } } : Shared) = s3
  have I3 : Inv X pins σ (upd H2 D (DictX D [])) s3 := by
    rw [← hs3]
    refine I2.laid (t' := s2.toks) (fun b o e => Heap.get?_push_of_some _ e) (Nat.le_of_eq hD) ?_
    rw [← hD]
    exact dictX_empty s2.heap I2.big
  have h3 : s3.heap = s2.heap.push { cls := .type "dict", data := .dict #[] } := by rw [← hs3]
  have sz : ∀ b ∈ fp, b < s2.heap.objs.size := fun b hb => by
    obtain ⟨o, e, _⟩ := T.obj _ _ st2 b hb
    exact Heap.lt_size e
  have f3 : ∀ b ∈ fp, FpOk X pins (upd H2 D (DictX D [])) b ∧ b < s3.heap.objs.size := fun b hb => by
    have hlt := sz b hb
    refine ⟨⟨?_, (f2 b hb).2⟩, by rw [h3, Heap.size_push]; exact Nat.lt_succ_of_lt hlt⟩
    rw [upd_ne (by rw [← hD]; exact Nat.ne_of_lt hlt)]
    exact (f2 b hb).1
  have st3 : tn 0 s3.heap := T.keep _ _ _ st2 fun b _ o e => by rw [h3]; exact Heap.get?_push_of_some _ e
  have I4 := block_start I3 ok hN f3
  have pg := hg s3 (upd H2 D (DictX D [])) s3.heap.objs.size (cellsFrom (s3.heap.objs.size + 1) scope.names (cloFrom X.env.cells scope.names [])) fp
  have pt := ht s3 (upd H2 D (DictX D [])) s3.heap.objs.size (cellsFrom (s3.heap.objs.size + 1) scope.names (cloFrom X.env.cells scope.names [])) fp
  have pk := hk s3 (upd H2 D (DictX D [])) s3.heap.objs.size (cellsFrom (s3.heap.objs.size + 1) scope.names (cloFrom X.env.cells scope.names [])) fp
  have pe := he s3 (upd H2 D (DictX D [])) s3.heap.objs.size (cellsFrom (s3.heap.objs.size + 1) scope.names (cloFrom X.env.cells scope.names [])) fp
  show codeAny _ _ (.compStart (.DictComp kx vx [⟨tg, iter, ifs, 0⟩] scope pos) 0 (.ref it) (.ref D) (compEnvC scope (cellsFrom (s3.heap.objs.size + 1) scope.names (cloFrom X.env.cells scope.names [])) s3.heap.objs.size X.env)) (compPost (model X.prog X.w) X.A X.xe use Qf (.ref D) s3.heap.objs.size) { s3 with heap := pushCells (s3.heap.push { cls := .type "dict", data := .dict #[] }) scope.names }
  have nfp : ∀ b ∈ fp, (upd H2 D (DictX D [])) b = none := fun b hb => (f3 b hb).1.1
  generalize hce : compEnvC scope (cellsFrom (s3.heap.objs.size + 1) scope.names (cloFrom X.env.cells scope.names [])) s3.heap.objs.size X.env = ce at I4 pg pt pk pe ⊢
  have cL : ce.locals = s3.heap.objs.size := by subst hce; rfl
  generalize hH3 : upd H2 D (DictX D []) = H3 at I3 I4 pg pt pk pe w0 nfp f3
  generalize hs4 : ({ s3 with heap := pushCells (s3.heap.push { cls := .type "dict", data := .dict #[] }) scope.names } : Shared) = s4 at I4 ⊢
  have st4 : tn 0 s4.heap := T.keep _ _ _ st3 fun b _ o e => by rw [← hs4]; exact pushCells_keeps _ _ _ _ (Heap.get?_push_of_some _ e)
  have stat : ∀ {σ' : L2.St} {H' : Hp} {s' : Shared}, Inv (X.blk s3 H3 scope ce fp) [] σ' H' s' → (∀ b ∈ fp, H' b = none) → ∀ b ∈ fp, FpOk (X.blk s3 H3 scope ce fp) [] H' b := fun {σ' H' s'} I' hn b hb =>
    ⟨hn b hb, (I'.ok.exf b hb).1, I'.ok.exfs b hb, .inl hb, fun x c e => (I'.ok.exf b hb).2 x c e, fun p hp => absurd (show p ∈ ([] : List (Addr × Obj)) ++ [] from hp) (by simp)⟩
  have loop : codeAny (model X.prog X.w) X.A (.compLoop (.DictComp kx vx [⟨tg, iter, ifs, 0⟩] scope pos) 0 (.ref it) (.ref D) ce) (compPost (model X.prog X.w) X.A X.xe use Qf (.ref D) s3.heap.objs.size) s4 := by
    refine compLoop_anyD (fun n s' => ∃ i H', Inv (X.blk s3 H3 scope ce fp) [] (L2.wipe σ (own.map (·.2))) H' s' ∧ tn i s'.heap ∧ (∀ b ∈ fp, H' b = none) ∧ W i n H') ?_ m0 ⟨0, H3, I4, st4, nfp, w0⟩
    rintro n s5 ⟨i, H5, I5, st5, n5, w5⟩
    rcases turn i n H5 w5 with ⟨stop, qq⟩ | ⟨go, Nx, hNx, step⟩
    · have td := T.done (X.blk s3 H3 scope ce fp) rfl rfl rfl hc i [] s5 _ H5 (fun _ _ => False) I5 (stat I5 n5) st5 stop
      refine thnF td fun r s6 ⟨hr, I6⟩ => ?_
      subst hr
      have I7 : Inv X pins σ H5 s6 := I3.call' (ch := fp) I6.os I6.base I6.hok I6.bare fun b hb => ⟨(f3 b hb).1.2.2.2.1, (f3 b hb).1.2.1, (f3 b hb).1.2.2.2.2.1, (f3 b hb).1.2.2.2.2.2⟩
      have nC : H5 s3.heap.objs.size = none := by
        have z : H5 ce.locals = none := I6.free
        rw [cL] at z
        exact z
      obtain ⟨m, hn, _⟩ := I6.loc
      have hn : s6.heap.Ns ce.locals m := hn
      rw [cL] at hn
      exact hRR D s3.heap.objs.size s6 m H5 I7 qq hn (I3.fpOk (Nat.le_refl _) nC)
    · have ti := T.item (X.blk s3 H3 scope ce fp) rfl rfl rfl hc i [] s5 _ H5 (fun _ _ => False) I5 (stat I5 n5) st5 go
      refine thnF ti fun r s6 ⟨u, hr, h6⟩ => ?_
      subst hr
      refine thnF h6 fun _ s7 ⟨x, H7, I7, r7, y7, st7, n7⟩ => ?_
      have I7' := I7.pinned (stat I7 n7) (T.obj _ _ st7)
      refine thnF (pg.run _ s7 _ H7 x u _ I7' r7 (step x H7 y7)) fun _ s8 ⟨σ8, H8, I8, hw8, q8⟩ => ?_
      refine thnF (pt.run _ s8 σ8 H8 _ I8 q8) fun b s9 ⟨H9, I9, q9⟩ => ?_
      have fin : ∀ {s' : Shared} {H' : Hp}, Inv (X.blk s3 H3 scope ce fp) ([] ++ pinsAt fp s7.heap) σ8 H' s' → Nx H' → ∃ m, m < n ∧ ∃ i H', Inv (X.blk s3 H3 scope ce fp) [] (L2.wipe σ (own.map (·.2))) H' s' ∧ tn i s'.heap ∧ (∀ b ∈ fp, H' b = none) ∧ W i m H' := fun {s' H'} I' nx => by
        obtain ⟨m', hm, w'⟩ := hNx H' nx
        have pin' : ∀ b ∈ fp, ∀ o, s7.heap.get? b = some o → s'.heap.get? b = some o ∧ H' b = none := fun b hb o e =>
          let z := I'.pin (b, o) (List.mem_append_right _ (List.mem_append_right _ (mem_pinsAt hb e)))
          ⟨z.1, z.2.1⟩
        have hl : (L2.wipe σ (own.map (·.2))).length = σ8.length := by rw [← hw8, wipe_length]
        refine ⟨m', hm, i + 1, H', (I'.unpinned (pins := [])).weak hl (fun j v e => ?_), T.keep _ _ _ st7 fun b hb o e => (pin' b hb o e).1, fun b hb => ?_, w'⟩
        · rw [← hw8] at e
          exact (wipe_some e).1
        · obtain ⟨o, e, _⟩ := T.obj _ _ st7 b hb
          exact (pin' b hb o e).2
      cases b with
      | false =>
        simp only [Bool.false_eq_true, if_false] at q9 ⊢
        exact fin I9 q9
      | true =>
        simp only [if_true] at q9 ⊢
        refine thnF (pk.run _ s9 σ8 H9 _ I9 q9) fun z s10 ⟨yk, H10, I10, r10, q10⟩ => ?_
        refine thnF (pe.run _ s10 σ8 H10 _ I10 q10) fun z2 s11 ⟨yv, H11, I11, r11, xs, us, ks, ws, k, d, G, hD11, art, hl, hkey, eG, rK, rV, nx⟩ => ?_
        obtain ⟨qk, rfl⟩ := key_ref rK hkey
        obtain rfl : z = Value.ref qk := r10
        obtain ⟨n1, n2, _⟩ := dictX_at I11 (.inl hD11)
        refine wpAny_dictSet_heap (knd := datKind X.prog X.w) (k := k.py) (by show X.A.units + 9 < _; omega) (key_at (X := X.blk s3 H3 scope ce fp) I11 eG rK hkey) (dictH_at (X := X.blk s3 H3 scope ce fp) I11 eG (.inl hD11) art.1 art.2.1 art.2.2.1 art.2.2.2.2.2) (fun h' hm hsb => ?_) n2
        obtain ⟨us2, I12, t12⟩ := dict_after (X := X.blk s3 H3 scope ce fp) (tk := s11.toks + (datKind X.prog X.w).draws k.py) I11 hD11 art hl hkey rK r11 rV hm hsb
        exact fin I12 (nx _ us2 t12)
  exact codeAny_compStart_dict loop (T.self X.A 0 _ _ _ st4 loop)
omit [TbT] in
theorem pe_dcX {kx vx tg iter : Expr} {ifs : List Expr} {scope : Scope} {own : List (Str × Nat)} {pos : Pos} {wi : TI} {g : TG} {tt : TT} {tk tv : TE} (hu : X.A.units + 10 < cLine) (hc : X.calm = true) (hN : X.N.Nodup) (hi : PI X tg iter wi) (ok : BlkOk X.N X.env.scope scope own)
    (hg : ∀ (s : Shared) (H : Hp) (C : Addr) (cl : List (Str × Addr)) (fp : List Addr), PG (X.blk s H scope (compEnvC scope cl C X.env) fp) tg g) (ht : ∀ (s : Shared) (H : Hp) (C : Addr) (cl : List (Str × Addr)) (fp : List Addr), PTs (X.blk s H scope (compEnvC scope cl C X.env) fp) ifs tt)
    (hk : ∀ (s : Shared) (H : Hp) (C : Addr) (cl : List (Str × Addr)) (fp : List Addr), PE (X.blk s H scope (compEnvC scope cl C X.env) fp) kx tk)
    (he : ∀ (s : Shared) (H : Hp) (C : Addr) (cl : List (Str × Addr)) (fp : List Addr), PE (X.blk s H scope (compEnvC scope cl C X.env) fp) vx tv) (hs : ∀ x, foldedSetIterable iter X.env x = pure x := by intro _; rfl) :
    PE X (.DictComp kx vx [⟨tg, iter, ifs, 0⟩] scope pos) (tDcX X.K wi g tt tk tv (own.map (·.2))) := by
  refine ⟨fun pins s σ H Q I h => ?_⟩
  rw [arm_eval_DictComp]
  refine dc_coreX hu hc hN I hi ok hg ht hk he hs h fun D C s' m H' I' q hn f => ⟨m, hn, fun h'' sb => ?_⟩
  obtain ⟨f0, f1, f2, f3, f4, f5⟩ := f
  exact ⟨.ref D, H', I'.turned (t' := s'.toks) (fun b o hb e => (sb.2 b hb).trans e) f0 f1 f3 f4 f5, rfl, q⟩
end
/-! ### over data -/
def DcTurn (X : Cx) (scope : Scope) (vs : List Nat) (tg kx vx : Expr) (ifs : List Expr) (ρ : List O) (ds : List D) (f : Nat → D → Option (D × D)) : Prop := ∀ (k : Nat) (d : D), ds[k]? = some d → ∃ (ρ2 : List O) (t : Bool),
  (∀ s H cl C fp, ATb (Blk X s H scope cl C fp) vs tg d (wipeO ρ vs) ρ2) ∧ (∀ s H cl C fp, ETs (Blk X s H scope cl C fp) noX ifs ρ2 t) ∧
  (t = true → ∃ κ y, f k d = some (κ, y) ∧ κ.key = true ∧ (∀ s H cl C fp, EE (Blk X s H scope cl C fp) noX kx ρ2 κ) ∧ ∀ s H cl C fp, EE (Blk X s H scope cl C fp) noX vx ρ2 y) ∧ (t = false → f k d = none)
/-- the dict that the pairs make, one behind another -/
def dcs (f : Nat → D → Option (D × D)) : Nat → List D → List D × List D → List D × List D
  | _, [], acc => acc
  | k, d :: r, acc => dcs f (k + 1) r (match f k d with | some p => (insK p.1 acc.1, insV p.1 p.2 acc.1 acc.2) | none => acc)
omit [TbT] in
theorem dcs_snoc (f : Nat → D → Option (D × D)) : ∀ (l : List D) (k : Nat) (d : D) (acc : List D × List D), dcs f k (l ++ [d]) acc = (match f (k + l.length) d with | some p => (insK p.1 (dcs f k l acc).1, insV p.1 p.2 (dcs f k l acc).1 (dcs f k l acc).2) | none => dcs f k l acc)
  | [], _, _, _ => rfl
  | e :: l, k, d, acc => by
    show dcs f (k + 1) (l ++ [d]) _ = _
    rw [dcs_snoc f l (k + 1) d, List.length_cons, Nat.add_right_comm k 1, Nat.add_assoc]
    rfl
omit [TbT] in
theorem dcs_len (f : Nat → D → Option (D × D)) : ∀ (l : List D) (k : Nat) (acc : List D × List D), (dcs f k l acc).1.length ≤ acc.1.length + l.length
  | [], _, _ => Nat.le_refl _
  | e :: l, k, acc => by
    show (dcs f (k + 1) l _).1.length ≤ acc.1.length + (l.length + 1)
    have := dcs_len f l (k + 1) (match f k e with | some p => (insK p.1 acc.1, insV p.1 p.2 acc.1 acc.2) | none => acc)
    refine Nat.le_trans this ?_
    cases f k e with
    | none => show acc.1.length + l.length ≤ _; omega
    | some p =>
      have := insK_len p.1 acc.1
      show (insK p.1 acc.1).length + l.length ≤ _
      omega
section
variable {X : Cx} {ex : Exs} {ρ : List O} {ds : List D} {pos : Pos}
theorem dc_run {vs : List Nat} {scope : Scope} {kx vx tg iter : Expr} {ifs : List Expr} {f : Nat → D → Option (D × D)} (hI : EI X ex tg iter ρ ds) (hl : ds.length ≤ sizeLine) (ht : DcTurn X scope vs tg kx vx ifs ρ ds f) {E : Hp × Hp} {σ : L2.St} {G H : Hp} (S : SOx X ex E ρ σ G H) {Q : VK}
    (q : ∀ v G' H', Grow G H G' H' → OOk X.K H G' H' (.md (dcs f 0 ds ([], [])).1 (dcs f 0 ds ([], [])).2) v → Q v H') :
    tDcX X.K (tSemI X tg iter) (fun v σ H Q => ∀ s H0 cl C fp, tSemG (Blk X s H0 scope cl C fp) tg v σ H Q) (fun σ H Q => ∀ s H0 cl C fp, tSemTs (Blk X s H0 scope cl C fp) ifs σ H Q) (fun σ H Q => ∀ s H0 cl C fp, tSem (Blk X s H0 scope cl C fp) kx σ H Q) (fun σ H Q => ∀ s H0 cl C fp, tSem (Blk X s H0 scope cl C fp) vx σ H Q) vs σ H Q := by
  refine tSemI_mono (hI E σ G H S) fun J H1 hJ => fun DD hD => ?_
  obtain ⟨G1, g1, wk⟩ := hJ
  refine ⟨fun i m H' => m = ds.length - i ∧ i ≤ ds.length ∧ ∃ G2 xs us, Grow G1 H1 G2 H' ∧ H' DD = some (DictX DD xs) ∧ G2 DD = none ∧ DArt X.K G2 xs us (dcs f 0 (ds.take i) ([], [])).1 (dcs f 0 (ds.take i) ([], [])).2, ⟨ds.length, by simp, Nat.zero_le _, G1, [], [], Grow.newH g1.gh hD, upd_same, g1.gh.back hD, art_nil⟩, ?_⟩
  rintro i m H' ⟨rfl, hi, G2, xs, us, g2, hH, hG, art⟩
  have w := wk i G2 H' g2.g g2.gh
  by_cases hlt : i < ds.length
  · obtain ⟨go, yl⟩ := w.1 ds[i] (List.getElem?_eq_getElem hlt)
    refine .inr ⟨go, fun H'' => i < ds.length ∧ ∃ G2 xs us, Grow G1 H1 G2 H'' ∧ H'' DD = some (DictX DD xs) ∧ G2 DD = none ∧ DArt X.K G2 xs us (dcs f 0 (ds.take (i + 1)) ([], [])).1 (dcs f 0 (ds.take (i + 1)) ([], [])).2, fun H'' ⟨_, z⟩ => ⟨ds.length - (i + 1), by omega, rfl, hlt, z⟩, fun x H3 hy => ?_⟩
    obtain ⟨G3, g3, rx⟩ := yl x H3 hy
    obtain ⟨ρ2, t, h1, h2, h3, h4⟩ := ht i _ (List.getElem?_eq_getElem hlt)
    have gg := g2.trans g3
    have S3 : SOk X.K E (wipeO ρ vs) (L2.wipe σ vs) G3 H3 := (S.toSOk.wipe vs).grow (g1.trans gg)
    have keepD : ∀ {G4 H4 : Hp}, Grow G3 H3 G4 H4 → H4 DD = some (DictX DD xs) ∧ G4 DD = none := fun {G4 H4} g => by
      refine ⟨g.h.app _ _ (g3.h.app _ _ hH dictX_ne.1) dictX_ne.1, ?_⟩
      cases z : G4 DD with
      | none => rfl
      | some u =>
        have e3 : G3 DD = none := by
          cases z3 : G3 DD with
          | none => rfl
          | some u3 => exact absurd (g3.fr DD hG (by rw [z3]; simp)) (by rw [hH]; simp)
        exact absurd (g.fr DD e3 (by rw [z]; simp)) (by rw [g3.h.app _ _ hH dictX_ne.1]; simp)
    have pk := dcs_snoc f (ds.take i) 0 ds[i] ([], [])
    rw [← take_snoc (List.getElem?_eq_getElem hlt), Nat.zero_add, List.length_take, Nat.min_eq_left hi] at pk
    intro s0 H0 cl C fp
    refine tSemG_mono (h1 s0 H0 cl C fp E _ G3 H3 x S3 rx) fun σ2 H2 ⟨⟨e, S4'⟩, wq⟩ => ?_
    subst e
    have S4 := S4' _ _ (Ex.refl _) S3
    refine ⟨wq.trans (wipe_wipe vs), fun s0 H0 cl C fp => tSemTs_mono (h2 s0 H0 cl C fp E σ2 G3 _ (SOk.nox (X := Blk X s0 H0 scope cl C fp) S4)) fun b H4 ⟨eb, G4, g4⟩ => ?_⟩
    subst eb
    cases b with
    | true =>
      rw [if_pos rfl]
      obtain ⟨κ, y, hf, hkey, hyk, hyv⟩ := h3 rfl
      intro s0 H0 cl C fp
      refine tSem_mono (hyk s0 H0 cl C fp E σ2 G4 H4 (SOk.nox (X := Blk X s0 H0 scope cl C fp) (S4.grow g4))) fun v H5 ⟨G5, g5, rv⟩ => fun s0 H0 cl C fp => ?_
      refine tSem_mono (hyv s0 H0 cl C fp E σ2 G5 H5 (SOk.nox (X := Blk X s0 H0 scope cl C fp) (S4.grow (g4.trans g5)))) fun v2 H6 ⟨G6, g6, rv2⟩ => ?_
      have g46 := (g4.trans g5).trans g6
      obtain ⟨k1, k2⟩ := keepD g46
      have gt := gg.trans g46
      refine ⟨xs, us, _, _, κ, y, G6, k1, art_mono art (g3.trans g46).g, ?_, hkey, g6.gh, rv.mono g6.g, rv2, fun xs' us' t' => ⟨hlt, G6, xs', us', ?_, upd_same, k2, ?_⟩⟩
      · have := dcs_len f (ds.take i) 0 ([], [])
        rw [List.length_take] at this
        have e0 : (([], []) : List D × List D).1.length = 0 := rfl
        omega
      · exact ⟨gt.g, gt.h.mut hD, gt.gh.mut k2, gt.fr, fun t => tb_upd (gt.tb t) fun u e => by rw [k1] at e; cases e; exact ⟨dictX_ne.1, dictX_code0⟩⟩
      · rw [pk, hf]; exact t'
    | false =>
      rw [if_neg Bool.false_ne_true]
      obtain ⟨k1, k2⟩ := keepD g4
      refine ⟨hlt, G4, xs, us, gg.trans g4, k1, k2, ?_⟩
      rw [pk, h4 rfl]
      exact art_mono art (g3.trans g4).g
  · have e : i = ds.length := by omega
    subst e
    rw [List.take_length] at art
    refine .inl ⟨w.2 (Nat.le_refl _), q _ G2 H' (g1.trans g2) ⟨DD, xs, us, rfl, hH, hG, ?_, art⟩⟩
    exact g1.h.back hD
/-- {k: v for target in iter if test} as a value -/
theorem eo_dc {m : Nat} {scope : Scope} {kx vx tg iter : Expr} {ifs : List Expr} {f : Nat → D → Option (D × D)} (own : List (Str × Nat)) (hr : Room m X.A) (hI : EI X ex tg iter ρ ds) (hN : X.N.Nodup) (ok : BlkOk X.N X.env.scope scope own) (hl : ds.length ≤ sizeLine) (ht : DcTurn X scope (own.map (·.2)) tg kx vx ifs ρ ds f) (hc : X.calm = true := by rfl) (hs : ∀ x, foldedSetIterable iter X.env x = pure x := by intro _; rfl) :
    EO X ex (.DictComp kx vx [⟨tg, iter, ifs, 0⟩] scope pos) ρ (fun o => o = .md (dcs f 0 ds ([], [])).1 (dcs f 0 ds ([], [])).2) := ⟨fun E σ G H S =>
  of_pe (pe_dcX (by have := hr.units; omega) hc hN sem_pi ok (fun s H C cl fp => ⟨fun pins s1 σ H v u Q I r h => h s _ cl C fp pins s1 u I r⟩) (fun s H C cl fp => ⟨fun pins s1 σ H Q I h => h s _ cl C fp pins s1 I⟩) (fun s H C cl fp => ⟨fun pins s1 σ H Q I h => h s _ cl C fp pins s1 I⟩) (fun s H C cl fp => ⟨fun pins s1 σ H Q I h => h s _ cl C fp pins s1 I⟩) hs)
    (dc_run hI hl ht S fun v G' H' g o => ⟨_, G', g, o, rfl⟩)⟩
omit [TbT] in
theorem ps_setDcX {i : Nat} {y : Str} {py : Pos} {kx vx tg iter : Expr} {ifs : List Expr} {scope : Scope} {own : List (Str × Nat)} {pos spos : Pos} {wi : TI} {g : TG} {tt : TT} {tk tv : TE} (hu : X.A.units + 10 < cLine) (hc : X.calm = true) (hN : X.N.Nodup) (hy : X.N[i]? = some y) (hyl : X.env.scope.names.lookup y = some .local)
    (hsw : swapsWith (.DictComp kx vx [⟨tg, iter, ifs, 0⟩] scope pos) (some (.Name y py)) spos.line X.env = pure true) (hi : PI X tg iter wi) (ok : BlkOk X.N X.env.scope scope own)
    (hg : ∀ (s : Shared) (H : Hp) (C : Addr) (cl : List (Str × Addr)) (fp : List Addr), PG (X.blk s H scope (compEnvC scope cl C X.env) fp) tg g) (ht : ∀ (s : Shared) (H : Hp) (C : Addr) (cl : List (Str × Addr)) (fp : List Addr), PTs (X.blk s H scope (compEnvC scope cl C X.env) fp) ifs tt)
    (hk : ∀ (s : Shared) (H : Hp) (C : Addr) (cl : List (Str × Addr)) (fp : List Addr), PE (X.blk s H scope (compEnvC scope cl C X.env) fp) kx tk)
    (he : ∀ (s : Shared) (H : Hp) (C : Addr) (cl : List (Str × Addr)) (fp : List Addr), PE (X.blk s H scope (compEnvC scope cl C X.env) fp) vx tv) (hs : ∀ x, foldedSetIterable iter X.env x = pure x := by intro _; rfl) :
    PS X (.Assign [.Name y py] (.DictComp kx vx [⟨tg, iter, ifs, 0⟩] scope pos) spos) (tAsg (tDcX X.K wi g tt tk tv (own.map (·.2))) (gName i)) := by
  refine ⟨fun pins s σ H D I h => ?_⟩
  rw [exec_Assign_Name_used _ _ _ _ hsw]
  refine wpAny_bind (wpAny_standAt (wpAny_bind ?_))
  show wpAny _ X.A (do let _ ← comprehension (.DictComp kx vx [⟨tg, iter, ifs, 0⟩] scope pos) scope X.env (firstIterPos [⟨tg, iter, ifs, 0⟩] pos) newDict false (eval iter X.env) (some (assign (.Name y py) X.env))) _ _ s
  have h : tDcX X.K wi g tt tk tv (own.map (·.2)) σ H (fun x H1 => gName i x σ H1 D.nx) := h
  refine wpAny_bind (thn (dc_coreX (Qf := fun _ s' => SP X pins D .next s') hu hc hN I hi ok hg ht hk he hs h fun L C s' m H' I' q hn f => ?_) fun _ s' hq => wpAny_pure (wpAny_pure hq))
  show wpAny _ _ (assign (.Name y py) X.env (.ref L)) _ _ _
  refine wpAny_assign_Name (store_ok2 (v := V.ref L) I' hN hy (.inl hyl) rfl (fun s2 I2 ⟨a, sb, ha⟩ => ?_) (.inr hyl))
  obtain ⟨f0, f1, f2, f3, f4, f5⟩ := f
  have haC : C ≠ a := by
    rcases ha with z | z
    · rw [z]; exact f1
    · exact fun e => f4 y a z e.symm
  refine ⟨m, hn.sameBut sb haC, fun h3 sb3 => ?_⟩
  exact ⟨_, H', I2.turned (t' := s2.toks) (fun b o hb e => (sb3.2 b hb).trans e) f0 f1 f3 f4 f5, q⟩
omit [TbT] in
theorem sw_trueD {kx vx : Expr} {gs : List Comprehension} {scope : Scope} {pos py : Pos} {y : Str} {l : Nat} {env : Env} (hk : env.scope.kind = .function) (hy : env.scope.names.lookup y = some .local) (hl : (py.line == pos.line) = true)
    (ha : (scope.names.any fun (n, k) => n == y && (k == .local || k == .cell)) = false) : swapsWith (.DictComp kx vx gs scope pos) (some (.Name y py)) l env = pure true := by
  have ky : env.kindOf y = some .local := hy
  have hb : env.blockKind = .function := by unfold Env.blockKind; rw [hk]; rfl
  unfold swapsWith
  simp only [hb, ky, ha, Expr.pos, hl]
  rfl
/-- x = {..} on one line -/
theorem ws_setDc (i : Nat) {m : Nat} {W : Eds} {y : Str} {py spos : Pos} {scope : Scope} {kx vx tg iter : Expr} {ifs : List Expr} {f : Nat → D → Option (D × D)} (own : List (Str × Nat)) (hr : Room m X.A) (hI : EI X ex tg iter ρ ds) (hN : X.N.Nodup) (ok : BlkOk X.N X.env.scope scope own) (hl : ds.length ≤ sizeLine) (ht : DcTurn X scope (own.map (·.2)) tg kx vx ifs ρ ds f)
    (k : W.nx (ρ.set i (.md (dcs f 0 ds ([], [])).1 (dcs f 0 ds ([], [])).2))) (hc : X.calm = true := by rfl) (hy : X.N[i]? = some y := by rfl) (hyl : X.env.scope.names.lookup y = some .local := by rfl) (hsw : swapsWith (.DictComp kx vx [⟨tg, iter, ifs, 0⟩] scope pos) (some (.Name y py)) spos.line X.env = pure true := by exact sw_trueD rfl rfl rfl rfl) (hs : ∀ x, foldedSetIterable iter X.env x = pure x := by intro _; rfl) :
    WS X ex (.Assign [.Name y py] (.DictComp kx vx [⟨tg, iter, ifs, 0⟩] scope pos) spos) ρ W := ⟨fun E σ G H S =>
  of_ps (ps_setDcX (by have := hr.units; omega) hc hN hy hyl hsw sem_pi ok (fun s H C cl fp => ⟨fun pins s1 σ H v u Q I r h => h s _ cl C fp pins s1 u I r⟩) (fun s H C cl fp => ⟨fun pins s1 σ H Q I h => h s _ cl C fp pins s1 I⟩) (fun s H C cl fp => ⟨fun pins s1 σ H Q I h => h s _ cl C fp pins s1 I⟩) (fun s H C cl fp => ⟨fun pins s1 σ H Q I h => h s _ cl C fp pins s1 I⟩) hs)
    (dc_run hI hl ht S fun v G' H' g o => ⟨_, G', set_own S.toSOk g o i, g.g, k⟩)⟩
end
end TG
/-! Things told as data that may be keys: lists of them, dicts and sets of them. -/
namespace TG
open PySem PySem.Spec PyProof.Rows L2
/-- things as keys -/
structure KeyF {α : Type} (f : α → D) : Prop where
  key : ∀ x, (f x).key = true
  inj : ∀ x y, (f x).py = (f y).py → x = y
theorem rat_py {p q : Rat} (h : (rq p).py = (rq q).py) : p = q := by
  injection h with h; injection h with h1 h; injection h with h2 _
  injection h1 with h1; injection h2 with h2
  exact rq_inj h1 (by exact_mod_cast h2)
theorem keyF_rq : KeyF rq := ⟨fun _ => rfl, fun _ _ => rat_py⟩
/-- the thing that data tell -/
noncomputable def und {α : Type} [Inhabited α] (f : α → D) (d : D) : α := by
  classical exact if h : ∃ x, f x = d then h.choose else default
section
variable {α : Type} {f : α → D} (hf : KeyF f)
include hf
theorem KeyF.eq {x y : α} (h : f x = f y) : x = y := hf.inj _ _ (congrArg D.py h)
theorem KeyF.und [Inhabited α] (x : α) : und f (f x) = x := by
  unfold TG.und
  have h : ∃ y, f y = f x := ⟨x, rfl⟩
  rw [dif_pos h]
  exact hf.eq h.choose_spec
theorem KeyF.hk (x : α) : (f x).hk = true := by
  obtain ⟨ds, e, h, _⟩ := key_tup (hf.key x)
  rw [e]; exact h
theorem KeyF.hkP (x : α) : hkP (f x).py = true := (key_py (hf.key x)).2.1
theorem KeyF.plain (x : α) : (f x).plain = true := (key_py (hf.key x)).1
theorem KeyF.depth (x : α) : (f x).depth ≤ 8 := by
  obtain ⟨ds, e, _, h⟩ := key_tup (hf.key x)
  exact h
theorem KeyF.all (S : List α) : (S.map f).all D.key = true := by rw [List.all_map]; exact List.all_eq_true.mpr fun x _ => hf.key x
theorem KeyF.plains (S : List α) : D.plains (S.map f) = true := plains_map hf.plain S
theorem KeyF.depths (S : List α) : D.depths (S.map f) ≤ 8 := depths_map hf.depth
theorem KeyF.cmp (x : α) : (f x).cmp = true := by
  unfold D.cmp
  rw [hf.plain, decide_eq_true (Nat.le_trans (hf.depth x) (by decide))]; rfl
theorem KeyF.cmpT (S : List α) : D.cmp (.tup (S.map f)) = true := by
  unfold D.cmp
  rw [show D.plain (.tup (S.map f)) = true from hf.plains S, decide_eq_true (show D.depth (.tup (S.map f)) ≤ 64 from Nat.le_trans (Nat.succ_le_succ (hf.depths S)) (by decide))]; rfl
theorem KeyF.cmpL (S : List α) : D.cmp (.lst (S.map f)) = true := by
  unfold D.cmp
  rw [show D.plain (.lst (S.map f)) = true from hf.plains S, decide_eq_true (show D.depth (.lst (S.map f)) ≤ 64 from Nat.le_trans (Nat.succ_le_succ (hf.depths S)) (by decide))]; rfl
theorem KeyF.eqv [DecidableEq α] (x y : α) : D.eqv (f x) (f y) = decide (x = y) := by
  have h := hk_eqv _ _ (hf.hkP x) (hf.hkP y)
  by_cases z : x = y
  · rw [decide_eq_true z]; exact h.mpr (by rw [z])
  · rw [decide_eq_false z]
    cases e : D.eqv (f x) (f y) with
    | false => rfl
    | true => exact absurd (hf.inj _ _ (h.mp e)) z
theorem KeyF.pys_inj : ∀ {A B : List α}, D.pys (A.map f) = D.pys (B.map f) → A = B
  | [], [], _ => rfl
  | [], _ :: _, h => by cases h
  | _ :: _, [], h => by cases h
  | a :: A, b :: B, h => by
    injection h with h1 h2
    rw [hf.inj _ _ h1, KeyF.pys_inj h2]
theorem KeyF.eqvs [DecidableEq α] (A B : List α) : PyData.eqvAll (D.pys (A.map f)) (D.pys (B.map f)) = decide (A = B) := by
  have hk : ∀ S : List α, hkPs (D.pys (S.map f)) = true := fun S => by
    induction S with
    | nil => rfl
    | cons m S ih => exact Bool.and_eq_true_iff.mpr ⟨hf.hkP m, ih⟩
  have h := hks_eqv _ _ (hk A) (hk B)
  by_cases z : A = B
  · rw [decide_eq_true z]; exact h.mpr (by rw [z])
  · rw [decide_eq_false z]
    cases e : PyData.eqvAll (D.pys (A.map f)) (D.pys (B.map f)) with
    | false => rfl
    | true => exact absurd (hf.pys_inj (h.mp e)) z
theorem KeyF.eqvT [DecidableEq α] (A B : List α) : D.eqv (.tup (A.map f)) (.tup (B.map f)) = decide (A = B) := hf.eqvs A B
theorem KeyF.eqvL [DecidableEq α] (A B : List α) : D.eqv (.lst (A.map f)) (.lst (B.map f)) = decide (A = B) := hf.eqvs A B
theorem KeyF.mem [DecidableEq α] (x : α) (S : List α) : D.mem (f x) (S.map f) = decide (x ∈ S) := by
  have h : D.mem (f x) (S.map f) = true ↔ x ∈ S := by
    rw [mem_pys (hf.key x) (hf.all S), pys_map, List.map_map]
    constructor
    · intro h
      obtain ⟨n, hn, e⟩ := List.mem_map.mp h
      exact (hf.inj _ _ e) ▸ hn
    · intro h
      exact List.mem_map.mpr ⟨x, h, rfl⟩
  by_cases z : x ∈ S
  · rw [decide_eq_true z]; exact h.mpr z
  · rw [decide_eq_false z]
    cases e : D.mem (f x) (S.map f) with
    | false => rfl
    | true => exact absurd (h.mp e) z
end
/-! ### comprehensions over them -/
section
variable {α : Type} [Inhabited α] {f : α → D} (hf : KeyF f)
include hf
theorem KeyF.pick (g : α → D) (S : List α) : TG.pick (fun _ d => some (g (TG.und f d))) 0 (S.map f) = S.map g := by
  rw [pick_some, List.map_map]
  exact List.map_congr_left fun x _ => congrArg g (hf.und x)
theorem KeyF.pickF (p : α → Bool) (g : α → D) : ∀ (S : List α) (k : Nat), TG.pick (fun _ d => if p (TG.und f d) = true then some (g (TG.und f d)) else none) k (S.map f) = (S.filter p).map g
  | [], _ => rfl
  | x :: S, k => by
    show (match (if p (TG.und f (f x)) = true then some (g (TG.und f (f x))) else none) with | some y => [y] | none => []) ++ TG.pick _ (k + 1) (S.map f) = _
    rw [hf.und, KeyF.pickF p g S (k + 1)]
    cases h : p x with
    | true => rw [if_pos rfl, List.filter_cons_of_pos h]; rfl
    | false => rw [if_neg Bool.false_ne_true, List.filter_cons_of_neg (by rw [h]; exact Bool.false_ne_true)]; rfl
end
/-! ### a list that holds each thing once -/
section
variable {α : Type} [DecidableEq α]
def ins1 (S : List α) (x : α) : List α := if x ∈ S then S else S ++ [x]
theorem mem_ins1 {S : List α} {m x : α} : x ∈ ins1 S m ↔ x ∈ S ∨ x = m := by
  unfold ins1
  split
  · rename_i h
    exact ⟨Or.inl, fun z => z.elim id fun e => e ▸ h⟩
  · rw [List.mem_append, List.mem_singleton]
theorem nodup_ins1 {S : List α} {m : α} (h : S.Nodup) : (ins1 S m).Nodup := by
  unfold ins1
  split
  · exact h
  · rename_i z
    rw [List.nodup_append]
    exact ⟨h, List.nodup_cons.mpr ⟨List.not_mem_nil, .nil⟩, fun a ha b hb e => z (by rw [← List.mem_singleton.mp hb, ← e]; exact ha)⟩
theorem len_ins1 {S : List α} {m : α} : (ins1 S m).length ≤ S.length + 1 := by
  unfold ins1
  split
  · omega
  · rw [List.length_append]; exact Nat.le_refl _
/-- each of a list once, in the order in which they come -/
def once (ms : List α) : List α := ms.foldl ins1 []
theorem once_snoc (ms : List α) (m : α) : once (ms ++ [m]) = ins1 (once ms) m := by
  unfold once; rw [List.foldl_append]; rfl
theorem snoc_ind {β : Type} {P : List β → Prop} (h0 : P []) (h1 : ∀ l x, P l → P (l ++ [x])) (l : List β) : P l := by
  suffices h : ∀ n (ms : List β), ms.length = n → P ms from h _ l rfl
  intro n
  induction n with
  | zero => intro ms h; rw [List.length_eq_zero_iff.mp h]; exact h0
  | succ n ih =>
    intro ms h
    obtain ⟨r, x, rfl⟩ : ∃ r x, ms = r ++ [x] := ⟨ms.dropLast, ms.getLast (by intro z; rw [z] at h; cases h), (List.dropLast_concat_getLast _).symm⟩
    exact h1 _ _ (ih r (by rw [List.length_append] at h; simpa using h))
theorem mem_once {ms : List α} {x : α} : x ∈ once ms ↔ x ∈ ms := by
  refine snoc_ind (P := fun ms => x ∈ once ms ↔ x ∈ ms) Iff.rfl (fun l y ih => ?_) ms
  rw [once_snoc, mem_ins1, ih, List.mem_append, List.mem_singleton]
theorem nodup_once (ms : List α) : (once ms).Nodup := snoc_ind (P := fun ms => (once ms).Nodup) .nil (fun l y ih => by rw [once_snoc]; exact nodup_ins1 ih) ms
theorem len_once (ms : List α) : (once ms).length ≤ ms.length := snoc_ind (P := fun ms => (once ms).length ≤ ms.length) (Nat.le_refl _) (fun l y ih => by
  rw [once_snoc, List.length_append]
  exact Nat.le_trans len_ins1 (by simpa using ih)) ms
theorem once_take {ms : List α} {k : Nat} (x : α) (h : k < ms.length) : once (ms.take (k + 1)) = ins1 (once (ms.take k)) (ms.getD k x) := by
  rw [take_getD x h, once_snoc]
theorem once_nodup {ms : List α} (h : ms.Nodup) : once ms = ms := by
  suffices z : ∀ l : List α, l.Nodup → once l = l from z ms h
  intro l
  refine snoc_ind (P := fun l => l.Nodup → once l = l) (fun _ => rfl) (fun l y ih hn => ?_) l
  rw [List.nodup_append] at hn
  rw [once_snoc, ih hn.1]
  unfold ins1
  rw [if_neg fun z => hn.2.2 y z y List.mem_cons_self rfl]
/-- how many different ones -/
theorem once_len_iff (ms : List α) : (once ms).length = ms.length ↔ ms.Nodup := by
  refine ⟨fun h => ?_, fun h => by rw [once_nodup h]⟩
  revert h
  refine snoc_ind (P := fun l => (once l).length = l.length → l.Nodup) (fun _ => .nil) (fun l y ih h => ?_) ms
  rw [once_snoc] at h
  have h1 := len_once l
  unfold ins1 at h
  split at h
  · rw [List.length_append] at h
    simp at h; omega
  · rename_i z
    rw [List.length_append, List.length_append] at h
    rw [List.nodup_append]
    exact ⟨ih (by omega), List.nodup_cons.mpr ⟨List.not_mem_nil, .nil⟩, fun a ha b hb e => z (mem_once.mpr (by rw [← List.mem_singleton.mp hb, ← e]; exact ha))⟩
theorem once_perm {A B : List α} (h : ∀ x, x ∈ A ↔ x ∈ B) : (once A).Perm (once B) := (List.perm_ext_iff_of_nodup (nodup_once A) (nodup_once B)).mpr fun x => mem_once.trans ((h x).trans mem_once.symm)
/-! ### dicts of them, each with True -/
abbrev yes (S : List α) : List D := S.map fun _ => D.bl true
variable {f : α → D} (hf : KeyF f)
include hf
theorem KeyF.insK (m : α) (S : List α) : insK (f m) (S.map f) = (ins1 S m).map f := by
  unfold TG.insK ins1
  rw [hf.mem]
  by_cases z : m ∈ S
  · rw [decide_eq_true z, if_pos rfl, if_pos z]
  · rw [decide_eq_false z, if_neg Bool.false_ne_true, if_neg z, List.map_append]; rfl
omit hf [DecidableEq α] in
theorem putV_yes (k : D) : ∀ (S : List α), D.putV k (.bl true) (S.map f) (yes S) = yes S
  | [] => rfl
  | m :: S => by
    show D.putV k (.bl true) (f m :: S.map f) (.bl true :: yes S) = .bl true :: yes S
    unfold D.putV
    split <;> rw [putV_yes k S]
theorem KeyF.insV (m : α) (S : List α) : insV (f m) (.bl true) (S.map f) (yes S) = yes (ins1 S m) := by
  unfold TG.insV ins1
  rw [hf.mem]
  by_cases z : m ∈ S
  · rw [decide_eq_true z, if_pos rfl, if_pos z, putV_yes]
  · rw [decide_eq_false z, if_neg Bool.false_ne_true, if_neg z, yes, yes, List.map_append]; rfl
/-- {g(x): True for x in xs} -/
theorem KeyF.dcs {β : Type} {g : β → α} {e : β → D} {F : Nat → D → Option (D × D)} (hF : ∀ k x, F k (e x) = some (f (g x), .bl true)) : ∀ (ms : List β) (S : List α) (k : Nat), dcs F k (ms.map e) (S.map f, yes S) = (((ms.map g).foldl ins1 S).map f, yes ((ms.map g).foldl ins1 S))
  | [], S, k => rfl
  | m :: ms, S, k => by
    show TG.dcs F (k + 1) (ms.map e) (match F k (e m) with | some p => (TG.insK p.1 (S.map f), TG.insV p.1 p.2 (S.map f) (yes S)) | none => _) = _
    rw [hF]
    show TG.dcs F (k + 1) (ms.map e) (TG.insK (f (g m)) (S.map f), TG.insV (f (g m)) (.bl true) (S.map f) (yes S)) = _
    rw [hf.insK, hf.insV, KeyF.dcs hF ms (ins1 S (g m)) (k + 1)]
    rfl
theorem KeyF.dcs0 {β : Type} {g : β → α} {e : β → D} {F : Nat → D → Option (D × D)} (hF : ∀ k x, F k (e x) = some (f (g x), .bl true)) (ms : List β) : TG.dcs F 0 (ms.map e) ([], []) = ((once (ms.map g)).map f, yes (once (ms.map g))) := hf.dcs hF ms [] 0
/-- in a list whose items are flat -/
theorem KeyF.look {β : Type} {g : β → D} {m : α} : ∀ {S : List α} {vs : List β}, S.length = vs.length → D.look (f m) (S.map f) (vs.map g) = ((S.zip vs).lookup m).map g
  | [], [], _ => rfl
  | [], _ :: _, h => by cases h
  | _ :: _, [], h => by cases h
  | s :: S, v :: vs, h => by
    show (if D.eqv (f s) (f m) then some (g v) else D.look (f m) (S.map f) (vs.map g)) = _
    rw [hf.eqv, List.zip_cons_cons, List.lookup_cons]
    by_cases z : s = m
    · rw [decide_eq_true z, if_pos rfl, show (m == s) = true from by rw [z]; exact beq_self_eq_true _]; rfl
    · rw [decide_eq_false z, if_neg Bool.false_ne_true, show (m == s) = false from by rw [beq_eq_false_iff_ne]; exact fun e => z e.symm]
      exact KeyF.look (Nat.succ.inj h)
end
end TG
/-! Further rules: lists as tests, max, min, any, all, list items stored, {k: v}. -/
namespace TG
open PySem PySem.Spec PyProof.Rows L2
variable [TbT]
section
variable {X : Cx} {ex : Exs} {ρ : List O} {e a b : Expr} {es : List Expr} {d d1 d2 : D} {ds fs : List D} {pos p p2 : Pos} {x : Str} {W : Eds}
omit [TbT] in
theorem RepL.isEmpty {K : PySem.W.Frag} {G : Hp} {vs : List V} {ds : List D} (r : RepL K G vs ds) : vs.isEmpty = ds.isEmpty := by
  cases r <;> rfl
/-- if xs: .. , xs a list of one's own -/
theorem et_truM (i : Nat) {npos : Pos} (hr : ρ[i]? = some (.ml ds)) (hN : X.N[i]? = some x := by rfl) (hv : Vis X.env.scope x := by first | exact Or.inl rfl | exact Or.inr (Or.inl rfl) | exact Or.inr (Or.inr rfl)) (hd : (x == ("__debug__" : Str)) = false := by decide)
    (hcd : (x == ("__classdict__" : Str)) = false := by decide) (he : ∀ whole, isTrue (.Name x npos) X.env whole = (do let v ← whole; standAt (Expr.pos (.Name x npos)); holding [v] (truthy v)) := by intro _; rfl) : ET X ex (.Name x npos) ρ (!ds.isEmpty) := ⟨fun E σ G H S => by
  obtain ⟨a, xs, h1, h2, h3, h4, r⟩ := S.getL hr
  exact of_pt (pt_truth (pe_var hN hv hd hcd) he) ⟨.ref a, h1, _, .inl ⟨xs, .inl (.inl h2), rfl⟩, by rw [r.isEmpty], G, .refl S.gh⟩⟩
/-- .. of a list or a tuple -/
theorem et_truD (h : EE X ex e ρ d) (hi : d.items = some ds) (he : ∀ whole, isTrue e X.env whole = (do let v ← whole; standAt e.pos; holding [v] (truthy v)) := by intro _; rfl) : ET X ex e ρ (!ds.isEmpty) := ⟨fun E σ G H S =>
  of_pt (pt_truth sem_pe he) (tSem_mono (h E σ G H S) fun v H1 ⟨G1, g1, r1⟩ => by
    cases r1 with
    | tup h2 r => cases hi; exact ⟨_, .inr (.inl ⟨_, g1.gh.t h2, rfl⟩), by rw [r.isEmpty], G1, g1⟩
    | lst h2 r => cases hi; exact ⟨_, .inl ⟨_, g1.gh.l h2, rfl⟩, by rw [r.isEmpty], G1, g1⟩
    | cst h2 r => cases hi; exact ⟨_, .inl ⟨_, g1.gh.lc h2, rfl⟩, by rw [r.isEmpty], G1, g1⟩
    | _ => cases hi)⟩
/-- .. of an int -/
theorem et_truI {i : Int} (h : EE X ex e ρ (.int i)) (he : ∀ whole, isTrue e X.env whole = (do let v ← whole; standAt e.pos; holding [v] (truthy v)) := by intro _; rfl) : ET X ex e ρ (i != 0) := ⟨fun E σ G H S =>
  of_pt (pt_truth sem_pe he) (tSem_mono (h E σ G H S) fun v H1 ⟨G1, g1, r1⟩ => by cases r1; exact ⟨_, rfl, rfl, G1, g1⟩)⟩
/-! ### max, min, any, all -/
theorem ee_max {ns : List Int} {m : Int} (hg : Gl X "max") (hm : X.mg "max" = none) (ha : EA X ex [e] ρ [.lst ds]) (hd : ds = ns.map .int) (h1 : m ∈ ns) (h2 : ∀ n ∈ ns, n ≤ m) (hc : X.calm = true := by rfl) (he : starEach [e] X.env = (false, eval e X.env) :: starEach [] X.env := by rfl) (hpl : (backTo pos (starEach [] X.env)).any (·.1) = false := by rfl) : EE X ex (.Call (.Name "max" p) [e] [] pos) ρ (.int m) :=
  ee_va (eo_blt (cr_max hc) (fun G H vs Q e r q => by
    subst hd
    obtain ⟨v, rfl, r1⟩ := r.of1
    cases r1 with
    | lst h r2 =>
      obtain rfl := r2.ints_of
      refine ⟨_, ns, rfl, e.l h, by cases ns with | nil => cases h1 | cons => exact Nat.succ_pos _, fun k k1 k2 => ?_⟩
      obtain rfl : k = m := Int.le_antisymm (h2 k k1) (k2 m h1)
      exact q _ (.va (.int _)) G H (.refl e) (.int _) rfl) hg hm (by decide +kernel) ha (by decide) (by decide) he hpl)
theorem ee_min {ns : List Int} {m : Int} (hg : Gl X "min") (hm : X.mg "min" = none) (ha : EA X ex [e] ρ [.lst ds]) (hd : ds = ns.map .int) (h1 : m ∈ ns) (h2 : ∀ n ∈ ns, m ≤ n) (hc : X.calm = true := by rfl) (he : starEach [e] X.env = (false, eval e X.env) :: starEach [] X.env := by rfl) (hpl : (backTo pos (starEach [] X.env)).any (·.1) = false := by rfl) : EE X ex (.Call (.Name "min" p) [e] [] pos) ρ (.int m) :=
  ee_va (eo_blt (cr_min hc) (fun G H vs Q e r q => by
    subst hd
    obtain ⟨v, rfl, r1⟩ := r.of1
    cases r1 with
    | lst h r2 =>
      obtain rfl := r2.ints_of
      refine ⟨_, ns, rfl, e.l h, by cases ns with | nil => cases h1 | cons => exact Nat.succ_pos _, fun k k1 k2 => ?_⟩
      obtain rfl : k = m := Int.le_antisymm (k2 m h1) (h2 k k1)
      exact q _ (.va (.int _)) G H (.refl e) (.int _) rfl) hg hm (by decide +kernel) ha (by decide) (by decide) he hpl)
omit [TbT] in
theorem RepL.bls_of {K : PySem.W.Frag} {G : Hp} : ∀ {ns : List Bool} {vs : List V}, RepL K G vs (ns.map D.bl) → vs = ns.map V.bl
  | [], _, .nil => rfl
  | n :: ns, _, .cons (.bl _) r => by rw [r.bls_of]; rfl
theorem ee_any {bs : List Bool} (hg : Gl X "any") (hm : X.mg "any" = none) (ha : EA X ex [e] ρ [.lst ds]) (hd : ds = bs.map .bl) (hc : X.calm = true := by rfl) (he : starEach [e] X.env = (false, eval e X.env) :: starEach [] X.env := by rfl) (hpl : (backTo pos (starEach [] X.env)).any (·.1) = false := by rfl) : EE X ex (.Call (.Name "any" p) [e] [] pos) ρ (.bl (bs.any id)) :=
  ee_va (eo_blt (cr_any hc) (fun G H vs Q e r q => by
    subst hd
    obtain ⟨v, rfl, r1⟩ := r.of1
    cases r1 with
    | lst h r2 =>
      obtain rfl := r2.bls_of
      exact ⟨_, bs, rfl, e.l h, q _ (.va (.bl _)) G H (.refl e) (.bl _) rfl⟩) hg hm (by decide +kernel) ha (by decide) (by decide) he hpl)
theorem ee_all {bs : List Bool} (hg : Gl X "all") (hm : X.mg "all" = none) (ha : EA X ex [e] ρ [.lst ds]) (hd : ds = bs.map .bl) (hc : X.calm = true := by rfl) (he : starEach [e] X.env = (false, eval e X.env) :: starEach [] X.env := by rfl) (hpl : (backTo pos (starEach [] X.env)).any (·.1) = false := by rfl) : EE X ex (.Call (.Name "all" p) [e] [] pos) ρ (.bl (bs.all id)) :=
  ee_va (eo_blt (cr_all hc) (fun G H vs Q e r q => by
    subst hd
    obtain ⟨v, rfl, r1⟩ := r.of1
    cases r1 with
    | lst h r2 =>
      obtain rfl := r2.bls_of
      exact ⟨_, bs, rfl, e.l h, q _ (.va (.bl _)) G H (.refl e) (.bl _) rfl⟩) hg hm (by decide +kernel) ha (by decide) (by decide) he hpl)
/-! ### xs[i] = e -/
theorem ws_lput (i : Nat) {npos tpos : Pos} {value ix : Expr} {n : Int} {j : Nat} (hr : ρ[i]? = some (.ml ds)) (hv : EE X ex value ρ d) (hk : EE X ex ix ρ (.int n)) (hj : ixN ds.length n = some j) (kn : W.nx (ρ.set i (.ml (ds.set j d)))) (hN : X.N[i]? = some x := by rfl) (hvx : Vis X.env.scope x := by first | exact Or.inl rfl | exact Or.inr (Or.inl rfl) | exact Or.inr (Or.inr rfl)) (hd : (x == ("__debug__" : Str)) = false := by decide) (hcd : (x == ("__classdict__" : Str)) = false := by decide)
    (hs : swapsWithSole [.Subscript (.Name x npos) ix tpos] value pos.line X.env = pure false := by rfl) (hw : swappedStores [.Subscript (.Name x npos) ix tpos] value X.env = pure none := by rfl)
    (ha : (assignEach [.Subscript (.Name x npos) ix tpos] X.env).map (·.2) = [assign (.Subscript (.Name x npos) ix tpos) X.env] := by rfl)
    (hix : ∀ v, assign (.Subscript (.Name x npos) ix tpos) X.env v = (do
      let ov ← holding [v] (eval (.Name x npos) X.env)
      let iv ← holding [v, ov] (eval ix X.env)
      standAt tpos
      holding [v, ov, iv] (setItem ov iv v)
      release [v, ov, iv] []) := by intro _; rfl) : WS X ex (.Assign [.Subscript (.Name x npos) ix tpos] value pos) ρ W := ⟨fun E σ G H S => by
  refine of_ps (ps_asg sem_pe (pg_sub (pe_var hN hvx hd hcd) sem_pe set_list hix) hs hw ha) (tSem_mono (hv E σ G H S) fun v H1 ⟨G1, g1, r1⟩ => ?_)
  have S1 := S.grow g1
  obtain ⟨a, xs, h1, h2, h3, h4, r⟩ := S1.getL hr
  refine ⟨.ref a, h1, tSem_mono (hk E σ G1 H1 S1) fun v2 H2 ⟨G2, g2, r2⟩ => ?_⟩
  have S2 := S1.grow g2
  obtain ⟨a', xs', h1', h2', h3', h4', r'⟩ := S2.getL hr
  rw [h1] at h1'; cases h1'
  cases r2
  exact ⟨a, xs', n, j, rfl, rfl, h2', by rw [r'.length]; exact hj, _, G2, S2.lstTo hr h1 h2' h3' h4' (r'.set j (r1.mono g2.g)), (g1.trans g2).g, kn⟩⟩
/-! ### {k: v} -/
theorem eo_disp1 {m : Nat} {key value : Expr} {k : D} (hR : Room m X.A) (hk : EE X ex key ρ k) (hv : EE X ex value ρ d) (hkey : k.key = true) : EO X ex (.Dict [some key] [value] pos) ρ (fun o => o = .md [k] [d]) := ⟨fun E σ G H S pins s I => by
  have hn := I.hok.fresh (Nat.le_refl s.heap.objs.size)
  have gt : Heap.get? (s.heap.push { cls := .type "dict", data := .dict #[] }) s.heap.objs.size = some { cls := .type "dict", data := .dict #[] } := Heap.get?_push_size _ rfl
  have I1 := I.laid (a := s.heap.objs.size) (o := DictX s.heap.objs.size []) (t' := s.toks) (fun _ _ q => Heap.get?_push_of_some _ q) (Nat.le_refl _) (dictX_ok (P := X.prog) (w := X.w) (H := H) (beq_eq_false_iff_ne.mpr (Ne.symm (Nat.ne_of_lt I.big))) (Nat.zero_le _) ⟨_, #[], 0, gt, ⟨rfl, rfl, rfl⟩, rfl, rfl, fun x hx => by simp at hx, List.nodup_nil⟩)
  have g0 : Grow G H G (upd H s.heap.objs.size (DictX s.heap.objs.size [])) := Grow.newH S.gh hn
  have S1 := S.grow g0
  have hG : G s.heap.objs.size = none := S.gh.back hn
  rw [arm_eval_Dict, zip_pairTrees [some key] [value] X.env pos rfl rfl, dictDisplay_pairs (pairTrees [some key] [value] X.env pos) (by rw [show pairTrees [some key] [value] X.env pos = _ :: _ from rfl]; exact List.cons_ne_nil _ _) (by show 1 < 17; decide)]
  refine wpAny_bind (wpAny_standAt (wpAny_bind ?_))
  unfold subDict
  refine wpAny_bind (wpAny_alloc ?_)
  refine wpAny_bind (wpAny_holding ?_)
  rw [if_pos (show (pairTrees [some key] [value] X.env pos).length ≤ 15 by show 1 ≤ 15; decide)]
  refine wpAny_bind (pairTrees_cons_walk (thn (hk E σ G _ S1 pins _ I1) fun kv s2 ⟨vk, H2, I2, rk, G2, g2, rK⟩ => ?_))
  obtain ⟨q, rfl⟩ := key_ref rK hkey
  obtain rfl : kv = Value.ref q := rk
  refine thn (hv E σ G2 H2 (S1.grow g2) pins s2 I2) fun u s3 ⟨v, H3, I3, rv, G3, g3, rD⟩ => ?_
  refine wpAny_pure ?_
  refine wpAny_holding ?_
  rw [List.forIn_cons]
  have hD2 : H2 s.heap.objs.size = some (DictX s.heap.objs.size []) := g2.h.app _ _ upd_same dictX_ne.1
  have hD3 : H3 s.heap.objs.size = some (DictX s.heap.objs.size []) := g3.h.app _ _ hD2 dictX_ne.1
  have hG2 : G2 s.heap.objs.size = none := g2.none upd_same hG
  have hG3 : G3 s.heap.objs.size = none := g3.none hD2 hG2
  have t : DArt X.K G3 [] [] [] [] := art_nil
  have rK3 := rK.mono g3.g
  refine wpAny_bind (wpAny_bind (wpAny_bind (wpAny_dictSet_heap (knd := datKind X.prog X.w) (k := k.py) (by show X.A.units + 9 < _; have := hR.units; omega) (key_at I3 g3.gh rK3 hkey) (dictH_at I3 g3.gh (.inl hD3) t.1 t.2.1 t.2.2.1 t.2.2.2.2.2) (fun h' hm hsb => ?_) (Nat.zero_le _))))
  obtain ⟨us2, I4, t4⟩ := dict_after (tk := s3.toks + (datKind X.prog X.w).draws k.py) I3 hD3 t (by decide) hkey rK3 rv rD hm hsb
  refine wpAny_pure ?_
  dsimp only
  rw [List.forIn_nil]
  refine wpAny_pure (wpAny_pure (wpAny_pure (wpAny_pure ?_)))
  have tb3 : Tb H → Tb H3 := fun z => g3.tb (g2.tb (g0.tb z))
  refine ⟨.ref s.heap.objs.size, _, I4, rfl, .md [k] [d], G3, ⟨(g2.g.trans g3.g), Ex.mut ((Ex.new hn).trans (g2.h.trans g3.h)) hn, ?_, ?_, fun z => tb_upd (tb3 z) fun u e => ?_⟩, ⟨_, _, us2, rfl, upd_same, hG3, hn, t4⟩, rfl⟩
  · exact Ex.mut g3.gh hG3
  · intro b hb hb2
    by_cases hc : G2 b = none
    · have h2 := g3.fr b hc hb2
      exact g2.h.back h2 |> fun z => by
        by_cases e : b = s.heap.objs.size
        · subst e; exact hn
        · rwa [upd_ne e] at z
    · have h1 := g2.fr b hb hc
      by_cases e : b = s.heap.objs.size
      · subst e; exact hn
      · rwa [upd_ne e] at h1
  · rw [hD3] at e; cases e
    exact dictX_code I3 hD3⟩
end
/-! ### more about lists -/
omit [TbT] in
theorem RepL.rep {K : PySem.W.Frag} {G : Hp} {vs : List V} {ds : List D} (r : RepL K G vs ds) : ∀ n : Nat, RepL K G (List.replicate n vs).flatten (List.replicate n ds).flatten
  | 0 => .nil
  | n + 1 => by
    rw [List.replicate_succ, List.replicate_succ, List.flatten_cons, List.flatten_cons]
    exact r.append (r.rep n)
section
variable {X : Cx} {ex : Exs} {ρ : List O} {e a b : Expr} {es : List Expr} {d d1 d2 : D} {ds fs ks vs : List D} {pos p p2 : Pos} {x : Str} {W : Eds}
/-- [..] * n -/
theorem eo_repL {n : Int} (ha : EE X ex a ρ (.lst ds)) (hb : EE X ex b ρ (.int n)) (hn : -(2 ^ 63) ≤ n ∧ n < 2 ^ 63 ∧ ds.length * n.toNat ≤ sizeLine) : EO X ex (.BinOp a .Mult b pos) ρ (fun o => o = .ml (List.replicate n.toNat ds).flatten) := ⟨fun E σ G H S =>
  of_pe (pe_op op_rep sem_pe sem_pe) (tSem_mono (ha E σ G H S) fun v H1 ⟨G1, g1, r1⟩ => tSem_mono (hb E σ G1 H1 (S.grow g1)) fun w H2 ⟨G2, g2, r2⟩ => by
    have r1' := r1.mono g2.g
    cases r2
    cases r1' with
    | @lst _ xs _ h1 r1 =>
        refine ⟨_, _, _, rfl, rfl, g2.gh.app _ _ h1 lst_ne.1, hn.1, hn.2.1, by rw [r1.length]; exact hn.2.2, fun p hp' => ?_⟩
        have g3 := Grow.newH (u := .lst (List.replicate n.toNat xs).flatten) g2.gh hp'
        exact ⟨.ml _, _, (g1.trans g2).trans g3, ⟨p, _, rfl, upd_same, g2.gh.back hp', (g1.trans g2).h.back hp', r1.rep _⟩, rfl⟩)⟩
/-- .. a call that gives a dict of its own and reads the list in slot i -/
theorem eo_borG (i : Nat) (hr : ρ[i]? = some (.ml ds)) (h : EO X ex e (ρ.set i (.va (.lst ds))) (fun o => o = .md ks vs)) (hk : D.noLs ks = true) (hv : D.noLs vs = true) : EO X ex e ρ (fun o => o = .md ks vs) := ⟨fun E σ G H S => by
  obtain ⟨a, xs, h1, h2, h3, h4, r, S'⟩ := S.frozen hr
  refine tSem_mono (h E σ _ H (S.at S' (Ex.new h3))) fun v H' ⟨o, G', g, q, p⟩ => ?_
  subst p
  obtain ⟨b, ys, us, e1, k1, k2, k3, t1, t2, t3, t4, t5, t6⟩ := q
  refine ⟨.md ks vs, del G' a, unfreeze S.toSOk h2 h3 g, ⟨b, ys, us, e1, k1, ?_, k3, t1, t2, t3.del (g.g.app a _ upd_same) hk, t4, t5.del (g.g.app a _ upd_same) hv, t6⟩, rfl⟩
  by_cases z : b = a
  · subst z; exact del_same
  · rw [del_ne z]; exact k2⟩
/-- a list or None that does not change any more -/
abbrev oN : Option (List D) → O
  | none => .va .non
  | some ds => .ml ds
abbrev dN : Option (List D) → D
  | none => .non
  | some ds => .lst ds
theorem ws_freezeN (i : Nat) {sts : List Stmt} {r : Option (List D)} (hr : ρ[i]? = some (oN r)) (h : WSs X ex sts (ρ.set i (.va (dN r))) W) : WSs X ex sts ρ W := by
  cases r with
  | none => rw [set_self hr] at h; exact h
  | some ds => exact ws_freeze i hr h
omit [TbT] in
theorem dN_isN (r : Option (List D)) : (dN r).isN = r.isNone := by cases r <;> rfl
end
/-- return d, a dict of its own -/
theorem ws_retMD {X : Cx} {ex : Exs} {ρ : List O} {W : Eds} {ks vs : List D} {x : Str} {pos pos' : Pos} (i : Nat) (hr : ρ[i]? = some (.md ks vs)) (k : W.rt (.md ks vs)) (hN : X.N[i]? = some x := by rfl) (hv : Vis X.env.scope x := by first | exact Or.inl rfl | exact Or.inr (Or.inl rfl) | exact Or.inr (Or.inr rfl)) (hd : (x == ("__debug__" : Str)) = false := by decide)
    (hcd : (x == ("__classdict__" : Str)) = false := by decide) : WS X ex (.Return (some (.Name x pos)) pos') ρ W := ⟨fun E σ G H S => by
  obtain ⟨a, xs, us, h1, h2, h3, h4, t⟩ := S.getD hr
  exact of_ps (ps_ret (pe_var hN hv hd hcd)) ⟨.ref a, h1, .md ks vs, G, ⟨S.g0, S.gh, S.h0, S.fr, ⟨a, xs, us, rfl, h2, h3, h4, t⟩, S.tb⟩, k⟩⟩
/-! ### popping -/
omit [TbT] in
theorem pop_at {α : Type} {f : α → D} {V : List α} {c : α} : ((V ++ [c]).map f)[((V ++ [c]).map f).length - 1]? = some (f c) := by
  rw [List.map_append, List.length_append]
  simp
omit [TbT] in
theorem pop_map {α : Type} {f : α → D} {V : List α} {c : α} : ((V ++ [c]).map f).dropLast = V.map f := by
  rw [List.map_append]; simp
omit [TbT] in
theorem noLs_map {α : Type} {f : α → D} (h : ∀ x, (f x).noL = true) : ∀ S : List α, D.noLs (S.map f) = true
  | [] => rfl
  | m :: S => by
    show ((f m).noL && D.noLs (S.map f)) = true
    rw [h m, noLs_map h S]; rfl
omit [TbT] in
theorem noLs_yes {α : Type} : ∀ S : List α, D.noLs (yes S) = true
  | [] => rfl
  | m :: S => noLs_yes S
end TG
/-! Closing under steps: found, waiting; the last one that waits is taken, led by each step, what is new is kept. -/
namespace TG
section
variable {α β : Type} [DecidableEq α] (g : α → β → α) (bad : List α → α → Bool)
def inn (cur : α) : List β → List α × List α → Option (List α × List α)
  | [], s => some s
  | m :: r, s => if g cur m ∈ s.1 then inn cur r s else if bad s.1 (g cur m) then none else inn cur r (s.1 ++ [g cur m], s.2 ++ [g cur m])
inductive Run (steps : List β) : List α → List α → Option (List α) → Prop
  | done {F : List α} : Run steps F [] (some F)
  | fail {F W : List α} {c : α} : inn g bad c steps (F, W) = none → Run steps F (W ++ [c]) none
  | turn {F W F' W' : List α} {c : α} {r : Option (List α)} : inn g bad c steps (F, W) = some (F', W') → Run steps F' W' r → Run steps F (W ++ [c]) r
variable {g bad} {steps : List β}
theorem inn_cons_in {cur : α} {m : β} {r : List β} {s : List α × List α} (h : g cur m ∈ s.1) : inn g bad cur (m :: r) s = inn g bad cur r s := by
  show (if _ then _ else _) = _
  rw [if_pos h]
theorem inn_cons_bad {cur : α} {m : β} {r : List β} {s : List α × List α} (h : g cur m ∉ s.1) (hb : bad s.1 (g cur m) = true) : inn g bad cur (m :: r) s = none := by
  show (if _ then _ else _) = _
  rw [if_neg h, if_pos hb]
theorem inn_cons_new {cur : α} {m : β} {r : List β} {s : List α × List α} (h : g cur m ∉ s.1) (hb : bad s.1 (g cur m) = false) : inn g bad cur (m :: r) s = inn g bad cur r (s.1 ++ [g cur m], s.2 ++ [g cur m]) := by
  show (if _ then _ else _) = _
  rw [if_neg h, if_neg (by rw [hb]; exact Bool.false_ne_true)]
theorem drop_getD {l : List β} {k : Nat} (x : β) (h : k < l.length) : l.drop k = l.getD k x :: l.drop (k + 1) := by
  rw [List.drop_eq_getElem_cons h]
  simp [List.getD, h]
theorem Run.nil_inv {F : List α} {r : Option (List α)} (h : Run g bad steps F [] r) : r = some F := by
  generalize e : ([] : List α) = W at h
  cases h with
  | done => rfl
  | fail _ => exact absurd e.symm (by simp)
  | turn _ _ => exact absurd e.symm (by simp)
theorem Run.inv {F W : List α} {c : α} {r : Option (List α)} (h : Run g bad steps F (W ++ [c]) r) : (inn g bad c steps (F, W) = none ∧ r = none) ∨ ∃ F' W', inn g bad c steps (F, W) = some (F', W') ∧ Run g bad steps F' W' r := by
  generalize e : W ++ [c] = V at h
  cases h with
  | done => exact absurd e (by simp)
  | fail h =>
    obtain ⟨e1, e2⟩ := List.append_inj' e rfl
    cases e2; cases e1
    exact .inl ⟨h, rfl⟩
  | turn h1 h2 =>
    obtain ⟨e1, e2⟩ := List.append_inj' e rfl
    cases e2; cases e1
    exact .inr ⟨_, _, h1, h2⟩
theorem snoc_of {l : List α} (h : l ≠ []) : ∃ W c, l = W ++ [c] := ⟨l.dropLast, l.getLast h, (List.dropLast_concat_getLast h).symm⟩
/-- what an inner loop keeps -/
theorem inn_ind {cur : α} {P : List α → List α → Prop} (hs : ∀ F W m, m ∈ steps → P F W → g cur m ∉ F → bad F (g cur m) = false → P (F ++ [g cur m]) (W ++ [g cur m])) : ∀ {F W F' W' : List α}, P F W → inn g bad cur steps (F, W) = some (F', W') → P F' W' := by
  suffices z : ∀ (r : List β), (∀ m ∈ r, m ∈ steps) → ∀ {F W F' W' : List α}, P F W → inn g bad cur r (F, W) = some (F', W') → P F' W' by
    intro F W F' W'; exact z steps fun _ h => h
  intro r
  induction r with
  | nil => intro _ F W F' W' h e; cases e; exact h
  | cons m r ih =>
    intro hr F W F' W' h e
    have hr' := fun x hx => hr x (List.mem_cons_of_mem _ hx)
    by_cases h1 : g cur m ∈ F
    · rw [inn_cons_in h1] at e; exact ih hr' h e
    · cases hb : bad F (g cur m) with
      | true => rw [inn_cons_bad h1 hb] at e; cases e
      | false => rw [inn_cons_new h1 hb] at e; exact ih hr' (hs _ _ _ (hr m List.mem_cons_self) h h1 hb) e
theorem Run.ind {P : List α → List α → Prop} (h0 : ∀ F W c, P F (W ++ [c]) → P F W) (hs : ∀ F W cur m, m ∈ steps → cur ∈ F → P F W → g cur m ∉ F → bad F (g cur m) = false → P (F ++ [g cur m]) (W ++ [g cur m])) (hW : ∀ F W, P F W → ∀ x ∈ W, x ∈ F) : ∀ {F W : List α} {r : Option (List α)}, Run g bad steps F W r → P F W → ∀ R, r = some R → P R [] := by
  intro F W r h
  induction h with
  | done => intro p R e; cases e; exact p
  | fail _ => intro _ R e; cases e
  | @turn F W F' W' c r h1 h2 ih =>
    intro p R e
    have hc : c ∈ F := hW _ _ p c (List.mem_append_right _ List.mem_cons_self)
    have := inn_ind (P := fun F2 W2 => P F2 W2 ∧ c ∈ F2) (steps := steps) (cur := c) (fun F2 W2 m hm ⟨p2, hc2⟩ n b => ⟨hs F2 W2 c m hm hc2 p2 n b, List.mem_append_left _ hc2⟩) ⟨h0 _ _ _ p, hc⟩ h1
    exact ih this.1 R e
/-- the inner loop sees to all steps -/
theorem inn_all {cur : α} : ∀ {r : List β} {F W F' W' : List α}, inn g bad cur r (F, W) = some (F', W') → (∀ x ∈ F, x ∈ F') ∧ (∀ m ∈ r, g cur m ∈ F') ∧ (∀ x ∈ F', x ∈ F ∨ x ∈ W') ∧ (∀ x ∈ W, x ∈ W')
  | [], F, W, F', W', e => by cases e; exact ⟨fun _ h => h, fun _ h => (nomatch h), fun _ h => .inl h, fun _ h => h⟩
  | m :: r, F, W, F', W', e => by
    by_cases h1 : g cur m ∈ F
    · rw [inn_cons_in h1] at e
      obtain ⟨a, b, c, d⟩ := inn_all e
      exact ⟨a, fun x hx => (List.mem_cons.mp hx).elim (fun z => by rw [z]; exact a _ h1) (b x), c, d⟩
    · cases hb : bad F (g cur m) with
      | true => rw [inn_cons_bad h1 hb] at e; cases e
      | false =>
        rw [inn_cons_new h1 hb] at e
        obtain ⟨a, b, c, d⟩ := inn_all e
        refine ⟨fun x hx => a x (List.mem_append_left _ hx), fun x hx => (List.mem_cons.mp hx).elim (fun z => by rw [z]; exact a _ (List.mem_append_right _ List.mem_cons_self)) (b x), fun x hx => ?_, fun x hx => d x (List.mem_append_left _ hx)⟩
        rcases c x hx with h | h
        · rcases List.mem_append.mp h with h | h
          · exact .inl h
          · rw [List.mem_singleton.mp h]; exact .inr (d _ (List.mem_append_right _ List.mem_cons_self))
        · exact .inr h
/-- what comes back is closed -/
theorem Run.closed : ∀ {F W : List α} {r : Option (List α)}, Run g bad steps F W r → (∀ x ∈ F, x ∉ W → ∀ m ∈ steps, g x m ∈ F) → ∀ R, r = some R → (∀ x ∈ F, x ∈ R) ∧ ∀ x ∈ R, ∀ m ∈ steps, g x m ∈ R := by
  intro F W r h
  induction h with
  | done => intro p R e; cases e; exact ⟨fun _ h => h, fun x hx => p x hx List.not_mem_nil⟩
  | fail _ => intro _ R e; cases e
  | @turn F W F' W' c r h1 h2 ih =>
    intro p R e
    obtain ⟨a, b, c', d⟩ := inn_all h1
    have := ih (fun x hx hn m hm => by
      rcases c' x hx with h | h
      · by_cases hxc : x = c
        · rw [hxc]; exact b m hm
        · exact a _ (p x h (fun z => by
            rcases List.mem_append.mp z with z | z
            · exact hn (d x z)
            · exact hxc (List.mem_singleton.mp z)) m hm)
      · exact absurd h hn) R e
    exact ⟨fun x hx => this.1 x (a x hx), this.2⟩
/-- all found things satisfy what the first ones do and the steps keep -/
theorem Run.all {Q : α → Prop} {F W : List α} {r : Option (List α)} (h : Run g bad steps F W r) (hW : ∀ x ∈ W, x ∈ F) (h0 : ∀ x ∈ F, Q x) (hs : ∀ x m, Q x → m ∈ steps → Q (g x m)) {R : List α} (e : r = some R) : ∀ x ∈ R, Q x :=
  (h.ind (P := fun F W => (∀ x ∈ W, x ∈ F) ∧ ∀ x ∈ F, Q x) (fun F W c p => ⟨fun x hx => p.1 x (List.mem_append_left _ hx), p.2⟩)
    (fun F W cur m hm hc p n b => ⟨fun x hx => (List.mem_append.mp hx).elim (fun z => List.mem_append_left _ (p.1 x z)) (fun z => List.mem_append_right _ z), fun x hx => (List.mem_append.mp hx).elim (p.2 x) fun z => by rw [List.mem_singleton.mp z]; exact hs _ _ (p.2 _ hc) hm⟩) (fun F W p => p.1) ⟨hW, h0⟩ R e).2
theorem Run.nodup {F W : List α} {r : Option (List α)} (h : Run g bad steps F W r) (hW : ∀ x ∈ W, x ∈ F) (h0 : F.Nodup) {R : List α} (e : r = some R) : R.Nodup :=
  (h.ind (P := fun F W => (∀ x ∈ W, x ∈ F) ∧ F.Nodup) (fun F W c p => ⟨fun x hx => p.1 x (List.mem_append_left _ hx), p.2⟩)
    (fun F W cur m hm hc p n b => ⟨fun x hx => (List.mem_append.mp hx).elim (fun z => List.mem_append_left _ (p.1 x z)) (fun z => List.mem_append_right _ z), by
      rw [List.nodup_append]
      exact ⟨p.2, List.nodup_cons.mpr ⟨List.not_mem_nil, .nil⟩, fun x hx y hy z => n (by rw [← List.mem_singleton.mp hy, ← z]; exact hx)⟩⟩) (fun F W p => p.1) ⟨hW, h0⟩ R e).2
/-- it ends: the found ones are at most n -/
theorem run_total (n : Nat) (I : List α → Prop) (hn : ∀ F cur m, I F → cur ∈ F → m ∈ steps → g cur m ∉ F → bad F (g cur m) = false → F.length < n ∧ I (F ++ [g cur m])) : ∀ (k : Nat) (F W : List α), 2 * (n - F.length) + W.length ≤ k → (∀ x ∈ W, x ∈ F) → I F → ∃ r, Run g bad steps F W r := by
  intro k
  induction k with
  | zero =>
    intro F W h _ _
    have : W = [] := List.length_eq_zero_iff.mp (by omega)
    subst this
    exact ⟨_, .done⟩
  | succ k ih =>
    intro F W h hW hI
    by_cases hw : W = []
    · subst hw; exact ⟨_, .done⟩
    · obtain ⟨V, c, rfl⟩ := snoc_of hw
      have hc : c ∈ F := hW c (List.mem_append_right _ List.mem_cons_self)
      cases e : inn g bad c steps (F, V) with
      | none => exact ⟨_, .fail e⟩
      | some s =>
        obtain ⟨F', W'⟩ := s
        have q := inn_ind (P := fun F2 W2 => (2 * (n - F2.length) + W2.length ≤ k) ∧ (∀ x ∈ W2, x ∈ F2) ∧ I F2 ∧ c ∈ F2) (steps := steps) (cur := c) (fun F2 W2 m hm ⟨p1, p2, p3, p4⟩ nn b => by
          obtain ⟨l, i⟩ := hn F2 c m p3 p4 hm nn b
          refine ⟨by rw [List.length_append, List.length_append, List.length_singleton]; omega, fun x hx => (List.mem_append.mp hx).elim (fun z => List.mem_append_left _ (p2 x z)) (fun z => List.mem_append_right _ z), i, List.mem_append_left _ p4⟩) ⟨by rw [List.length_append, List.length_singleton] at h; omega, fun x hx => hW x (List.mem_append_left _ hx), hI, hc⟩ e
        obtain ⟨r, hr⟩ := ih F' W' q.1 q.2.1 q.2.2.1
        exact ⟨r, .turn e hr⟩
/-- the run does not depend on how the steps are told -/
theorem inn_congr {γ : Type} {g' : α → γ → α} {t : γ → β} (h : ∀ x m, g x (t m) = g' x m) (cur : α) : ∀ (r : List γ) (s : List α × List α), inn g bad cur (r.map t) s = inn g' bad cur r s
  | [], _ => rfl
  | m :: r, s => by
    show (if g cur (t m) ∈ s.1 then _ else _) = (if g' cur m ∈ s.1 then _ else _)
    rw [h, inn_congr h cur r s, inn_congr h cur r]
theorem Run.congr {γ : Type} {g' : α → γ → α} {t : γ → β} {r : List γ} {F W : List α} {o : Option (List α)} (h : ∀ x m, g x (t m) = g' x m) (q : Run g bad (r.map t) F W o) : Run g' bad r F W o := by
  induction q with
  | done => exact .done
  | fail e => exact .fail (by rw [← inn_congr h]; exact e)
  | turn e _ ih => exact .turn (by rw [← inn_congr h]; exact e) ih
theorem Run.det {F W : List α} {o : Option (List α)} (q : Run g bad steps F W o) : ∀ {o' : Option (List α)}, Run g bad steps F W o' → o = o' := by
  induction q with
  | done => intro o' h; exact h.nil_inv.symm
  | fail e =>
    intro o' h
    rcases h.inv with ⟨_, e2⟩ | ⟨_, _, e2, _⟩
    · exact e2.symm
    · rw [e] at e2; cases e2
  | turn e _ ih =>
    intro o' h
    rcases h.inv with ⟨e2, _⟩ | ⟨_, _, e2, h2⟩
    · rw [e] at e2; cases e2
    · rw [e] at e2; cases e2; exact ih h2
theorem len_sub : ∀ {F S : List α}, F.Nodup → (∀ x ∈ F, x ∈ S) → F.length ≤ S.length
  | [], S, _, _ => Nat.zero_le _
  | x :: F, S, h, hs => by
    rw [List.nodup_cons] at h
    have hx := hs x List.mem_cons_self
    have := len_sub (S := S.erase x) h.2 (fun y hy => (List.mem_erase_of_ne (fun e => h.1 (by rw [← e]; exact hy))).mpr (hs y (List.mem_cons_of_mem _ hy)))
    rw [List.length_erase_of_mem hx] at this
    have hp : 0 < S.length := List.length_pos_of_mem hx
    rw [List.length_cons]; omega
/-- the result of a run -/
noncomputable def cloR {α β : Type} [DecidableEq α] (g : α → β → α) (bad : List α → α → Bool) (steps : List β) (F W : List α) : Option (List α) := by
  classical exact if h : ∃ r, Run g bad steps F W r then h.choose else none
theorem cloR_run {F W : List α} (h : ∃ r, Run g bad steps F W r) : Run g bad steps F W (cloR g bad steps F W) := by
  unfold cloR
  rw [dif_pos h]
  exact h.choose_spec
theorem cloR_eq {F W : List α} {r : Option (List α)} (h : Run g bad steps F W r) : cloR g bad steps F W = r := (cloR_run ⟨r, h⟩).det h
/-- with a limit on the found ones -/
def full (n : Nat) (F : List α) (_ : α) : Bool := decide (F.length = n)
theorem run_full (n : Nat) {F W : List α} (h : F.length ≤ n) (hW : ∀ x ∈ W, x ∈ F) : ∃ r, Run g (full n) steps F W r :=
  run_total n (fun F => F.length ≤ n) (fun F cur m hI _ _ _ hb => by
    have : ¬ F.length = n := of_decide_eq_false hb
    refine ⟨by omega, by rw [List.length_append, List.length_singleton]; omega⟩) _ F W (Nat.le_refl _) hW h
end
end TG
/-! Rests of fractions, common multiples. -/
namespace TG
open PySem PySem.Spec PyProof.Rows L2
/-- the part of a fraction above its floor -/
def rfr (f : Rat) : Rat := ⟨f.num % (f.den : Int), f.den, f.den_nz, by
  have h := f.reduced
  have e : Int.gcd (f.num % (f.den : Int)) (f.den : Int) = Int.gcd f.num (f.den : Int) := gcd_rest
  exact Eq.trans e h⟩
theorem rq_rfr (f : Rat) : fr (f.num % (f.den : Int)) (f.den : Int) = rq (rfr f) := rfl
theorem rfr_eq (f : Rat) : f = rfr f + ((f.num / (f.den : Int) : Int) : Rat) := by
  have h1 : rfr f = Rat.divInt (f.num % (f.den : Int)) (f.den : Int) := (Rat.num_divInt_den (rfr f)).symm
  have hd := rat_den (p := f)
  have hn := rat_num (p := f)
  rw [h1, rat_div, Int.emod_def]
  rw [Rat.intCast_sub, Rat.intCast_mul, hn]
  generalize ((f.num / (f.den : Int) : Int) : Rat) = q
  generalize (((f.den : Int)) : Rat) = d at *
  grind
theorem rfr_rng (f : Rat) : 0 ≤ rfr f ∧ rfr f < 1 := by
  have hp : (0 : Int) < (f.den : Int) := rq_pos f
  constructor
  · rw [← Rat.num_nonneg]
    exact Int.emod_nonneg _ (rq_ne f)
  · rw [Rat.lt_iff]
    show (f.num % (f.den : Int)) * 1 < 1 * (f.den : Int)
    rw [Int.mul_one, Int.one_mul]
    exact Int.emod_lt_of_pos _ hp
theorem int_zero {x y : Rat} {k : Int} (hx : 0 ≤ x ∧ x < 1) (hy : 0 ≤ y ∧ y < 1) (h : x = y + (k : Rat)) : k = 0 := by
  have h1 : ((k : Int) : Rat) < ((1 : Int) : Rat) := by
    have : ((1 : Int) : Rat) = 1 := rfl
    rw [this]; grind
  have h2 : (((-1 : Int)) : Rat) < ((k : Int) : Rat) := by
    have : (((-1 : Int)) : Rat) = -1 := rfl
    rw [this]; grind
  have h3 := Rat.intCast_lt_intCast.mp h1
  have h4 := Rat.intCast_lt_intCast.mp h2
  omega
theorem rfr_iff (a b : Rat) : rfr a = rfr b ↔ ∃ k : Int, a = b + (k : Rat) := by
  have ea := rfr_eq a
  have eb := rfr_eq b
  constructor
  · intro h
    refine ⟨a.num / (a.den : Int) - b.num / (b.den : Int), ?_⟩
    rw [Rat.intCast_sub]
    rw [h] at ea
    generalize ((a.num / (a.den : Int) : Int) : Rat) = x at *
    generalize ((b.num / (b.den : Int) : Int) : Rat) = y at *
    grind
  · rintro ⟨k, hk⟩
    have e : rfr a = rfr b + ((b.num / (b.den : Int) + k - a.num / (a.den : Int) : Int) : Rat) := by
      rw [Rat.intCast_sub, Rat.intCast_add]
      generalize ((a.num / (a.den : Int) : Int) : Rat) = x at *
      generalize ((b.num / (b.den : Int) : Int) : Rat) = y at *
      grind
    have z := int_zero (rfr_rng a) (rfr_rng b) e
    rw [z] at e
    rw [e]
    exact Rat.add_zero _
theorem rfr_self {f : Rat} (h : 0 ≤ f ∧ f < 1) : rfr f = f := by
  have e := rfr_eq f
  have z := int_zero h (rfr_rng f) e
  rw [z] at e
  exact ((Rat.add_zero _).symm.trans e.symm)
theorem rfr_idem (f : Rat) : rfr (rfr f) = rfr f := rfr_self (rfr_rng f)
theorem rz_rfr {k : Nat} {f : Rat} (h : Rz k f) : Rz k (rfr f) := by
  have hp := rq_pos f
  refine ⟨?_, h.den⟩
  have h1 : 0 ≤ (rfr f).num := Int.emod_nonneg _ (rq_ne f)
  have h2 : (rfr f).num < (f.den : Int) := Int.emod_lt_of_pos _ hp
  have h3 := h.den
  unfold Sz at *
  omega
theorem nodup_map_inj {α β : Type} {f : α → β} : ∀ {l : List α}, (l.map f).Nodup → ∀ {x y : α}, x ∈ l → y ∈ l → f x = f y → x = y
  | [], _, _, _, hx, _, _ => by cases hx
  | a :: l, h, x, y, hx, hy, e => by
    rw [List.map_cons, List.nodup_cons] at h
    rcases List.mem_cons.mp hx with ex | hx'
    · rcases List.mem_cons.mp hy with ey | hy'
      · rw [ex, ey]
      · exact absurd (List.mem_map.mpr ⟨y, hy', by rw [← e, ex]⟩) h.1
    · rcases List.mem_cons.mp hy with ey | hy'
      · exact absurd (List.mem_map.mpr ⟨x, hx', by rw [e, ey]⟩) h.1
      · exact nodup_map_inj h.2 hx' hy' e
theorem nodup_map_of {α β : Type} {f : α → β} : ∀ {l : List α}, (∀ x ∈ l, ∀ y ∈ l, f x = f y → x = y) → l.Nodup → (l.map f).Nodup
  | [], _, _ => .nil
  | a :: l, h, n => by
    rw [List.nodup_cons] at n
    rw [List.map_cons, List.nodup_cons]
    refine ⟨fun z => ?_, nodup_map_of (fun x hx y hy => h x (List.mem_cons_of_mem _ hx) y (List.mem_cons_of_mem _ hy)) n.2⟩
    obtain ⟨b, hb, e⟩ := List.mem_map.mp z
    have := h b (List.mem_cons_of_mem _ hb) a List.mem_cons_self e
    exact n.1 (this ▸ hb)
/-! ### ascending -/
def stepN (r : Nat) (f : Rat) : Nat := Nat.lcm r f.den
def cmN (fs : List Rat) : Nat := fs.foldl stepN 1
theorem cmN_pos (fs : List Rat) : 0 < cmN fs := by
  unfold cmN
  suffices h : ∀ (fs : List Rat) (r : Nat), 0 < r → 0 < fs.foldl stepN r from h fs 1 (by decide)
  intro fs
  induction fs with
  | nil => intro r h; exact h
  | cons f fs ih => intro r h; exact ih _ (Nat.lcm_pos h f.den_pos)
theorem cmN_snoc (fs : List Rat) (f : Rat) : cmN (fs ++ [f]) = Nat.lcm (cmN fs) f.den := by unfold cmN; rw [List.foldl_append]; rfl
theorem cm_step (r : Nat) (d : Nat) (hr : 0 < r) : ((r : Int).fdiv ((Int.gcd r d : Nat) : Int)) * (d : Int) = ((Nat.lcm r d : Nat) : Int) := by
  rw [Int.gcd_natCast_natCast, Int.fdiv_eq_ediv_of_nonneg _ (by omega)]
  rw [← Int.natCast_ediv, ← Int.natCast_mul]
  congr 1
  unfold Nat.lcm
  rw [Nat.div_mul_right_comm (Nat.gcd_dvd_left r d)]
theorem cm_sz {k : Nat} {fs : List Rat} (h : ∀ f ∈ fs, Rz k f) : ∀ j, j ≤ fs.length → Sz (1 + k * j) ((cmN (fs.take j) : Nat) : Int)
  | 0, _ => by
    show Sz _ ((1 : Nat) : Int)
    exact (sz_lit rfl : Sz 1 1).mono (by omega)
  | j + 1, hj => by
    have ih := cm_sz h j (by omega)
    have hk : j < fs.length := by omega
    rw [List.take_succ, List.getElem?_eq_getElem hk]
    show Sz _ ((cmN (fs.take j ++ [fs[j]]) : Nat) : Int)
    rw [cmN_snoc]
    have hd := (h _ (List.getElem_mem hk)).den
    have m := ih.mul hd
    have le : Nat.lcm (cmN (fs.take j)) fs[j].den ≤ cmN (fs.take j) * fs[j].den := Nat.lcm_le_mul (cmN_pos _) (fs[j]).den_pos
    refine Sz.le (m.mono (by rw [Nat.mul_succ]; omega)) ?_
    have : ((Nat.lcm (cmN (fs.take j)) fs[j].den : Nat) : Int) ≤ ((cmN (fs.take j) * fs[j].den : Nat) : Int) := by exact_mod_cast le
    rw [Int.natCast_mul] at this
    omega
theorem cm_all (fs : List Rat) : cmN fs = cmN (fs.take fs.length) := by rw [List.take_length]
theorem cm_perm {a b : List Rat} (h : a.Perm b) : cmN a = cmN b := by
  refine h.foldl_eq' (fun x _ y _ z => ?_) 1
  unfold stepN
  rw [Nat.lcm_assoc, Nat.lcm_assoc, Nat.lcm_comm x.den]
theorem sz_pm {s : Int} (h : s = 1 ∨ s = -1) : Sz 2 s := by rcases h with rfl | rfl <;> exact sz_lit rfl
theorem sz_gcd {k : Nat} {r d : Int} (h : d ≠ 0) (hd : Sz k d) : Sz k ((Int.gcd r d : Nat) : Int) := by
  have := gcd_le (n := r) h
  unfold Sz at *; omega
theorem gcd_nz {r d : Int} (h : d ≠ 0) : ((Int.gcd r d : Nat) : Int) ≠ 0 := by
  intro z
  have : Int.gcd r d = 0 := by exact_mod_cast z
  rw [Int.gcd_eq_zero_iff] at this
  exact h this.2
theorem sz_quo {k : Nat} {r g : Int} (hr : 0 ≤ r) (hg : 0 < g) (h : Sz k r) : Sz k (r.fdiv g) := by
  rw [Int.fdiv_eq_ediv_of_nonneg _ (Int.le_of_lt hg)]
  have h1 := Int.ediv_nonneg hr (Int.le_of_lt hg)
  have h2 := Int.ediv_le_self g hr
  unfold Sz at *; omega
theorem cm_next {fs : List Rat} {k : Nat} (h : k < fs.length) : cmN (fs.take (k + 1)) = Nat.lcm (cmN (fs.take k)) (fs.getD k 0).den := by
  rw [List.take_succ, List.getElem?_eq_getElem h]
  show cmN (fs.take k ++ [fs[k]]) = _
  rw [cmN_snoc]
  simp [List.getD, h]
theorem cm_mul {fs : List Rat} {k : Nat} (hz : ∀ f ∈ fs, Rz 100 f) (hl : fs.length ≤ 40) (h : k < fs.length) : CMulW (((cmN (fs.take k) : Nat) : Int).fdiv ((Int.gcd ((cmN (fs.take k) : Nat) : Int) ((fs.getD k 0).den : Int) : Nat) : Int)) ((fs.getD k 0).den : Int) := by
  have hs := (cm_sz hz k (by omega)).mono (show 1 + 100 * k ≤ 4001 by omega)
  have hd := (hz _ (getD_mem (x := 0) h)).den
  have hg : (0 : Int) < ((Int.gcd ((cmN (fs.take k) : Nat) : Int) ((fs.getD k 0).den : Int) : Nat) : Int) := by
    have := gcd_nz (r := ((cmN (fs.take k) : Nat) : Int)) (rq_ne (fs.getD k 0))
    omega
  exact Sz.mulE (sz_quo (by omega) hg hs) hd

/-! ### denominators that divide L -/
def Dv (L : Nat) (q : Rat) : Prop := q.den ∣ L
theorem rat_of_mul {q : Rat} {L : Nat} (hL : 0 < L) (z : Int) (h : q * ((L : Int) : Rat) = (z : Rat)) : Dv L q := by
  have e : Rat.divInt z L = q := rat_eq_div (by omega) h.symm
  have c := rq_cross (n := z) (d := (L : Int)) (by omega)
  rw [e] at c
  have c2 := congrArg Int.natAbs c
  rw [Int.natAbs_mul, Int.natAbs_mul, Int.natAbs_natCast, Int.natAbs_natCast] at c2
  exact Nat.Coprime.dvd_of_dvd_mul_left q.reduced.symm ⟨z.natAbs, by rw [c2, Nat.mul_comm]⟩
theorem dv_mul {q : Rat} {L : Nat} (h : Dv L q) : ∃ z : Int, q * ((L : Int) : Rat) = (z : Rat) := by
  obtain ⟨k, hk⟩ := h
  refine ⟨q.num * k, ?_⟩
  have h2 : ((L : Int) : Rat) = ((q.den : Int) : Rat) * ((k : Int) : Rat) := by rw [← Rat.intCast_mul]; congr 1; rw [hk]; exact Int.natCast_mul _ _
  rw [h2, ← Rat.mul_assoc, ← rat_num, Rat.intCast_mul]
theorem Dv.add {L : Nat} (hL : 0 < L) {p q : Rat} (h : Dv L p) (k : Dv L q) : Dv L (p + q) := by
  obtain ⟨a, ha⟩ := dv_mul h
  obtain ⟨b, hb⟩ := dv_mul k
  exact rat_of_mul hL (a + b) (by rw [Rat.add_mul, ha, hb, Rat.intCast_add])
theorem Dv.neg {L : Nat} {p : Rat} (h : Dv L p) : Dv L (-p) := h
theorem Dv.imul {L : Nat} (hL : 0 < L) {p : Rat} (k : Int) (h : Dv L p) : Dv L ((k : Rat) * p) := by
  obtain ⟨a, ha⟩ := dv_mul h
  exact rat_of_mul hL (k * a) (by rw [Rat.mul_assoc, ha, Rat.intCast_mul])
theorem Dv.int {L : Nat} (k : Int) : Dv L (k : Rat) := Nat.one_dvd _
theorem Dv.rfr {L : Nat} {p : Rat} (h : Dv L p) : Dv L (rfr p) := h
theorem Dv.le {L : Nat} (hL : 0 < L) {p : Rat} (h : Dv L p) : p.den ≤ L := Nat.le_of_dvd hL h
theorem rz_of_rng {k L : Nat} (hL : 0 < L) (hk : (L : Int) < 2 ^ k) {p : Rat} (h : Dv L p) (r : 0 ≤ p ∧ p < 1) : Rz k p := by
  have hd := h.le hL
  have hp := rq_pos p
  have h1 : 0 ≤ p.num := Rat.num_nonneg.mpr r.1
  have h2 : p.num * 1 < 1 * (p.den : Int) := (Rat.lt_iff p 1).mp r.2
  have h3 : ((2 ^ k : Nat) : Int) = 2 ^ k := by exact_mod_cast rfl
  exact ⟨by unfold Sz; omega, by unfold Sz; omega⟩
theorem cmN_dvd {fs : List Rat} {L : Nat} (h : ∀ f ∈ fs, Dv L f) : cmN fs ∣ L := by
  revert h
  refine snoc_ind (P := fun fs => (∀ f ∈ fs, Dv L f) → cmN fs ∣ L) (fun _ => Nat.one_dvd _) (fun l x ih h => ?_) fs
  rw [cmN_snoc]
  exact Nat.lcm_dvd (ih fun f hf => h f (List.mem_append_left _ hf)) (h x (List.mem_append_right _ List.mem_cons_self))
theorem dvd_cmN {fs : List Rat} : ∀ f ∈ fs, f.den ∣ cmN fs := by
  refine snoc_ind (P := fun fs => ∀ f ∈ fs, f.den ∣ cmN fs) (fun f h => by cases h) (fun l x ih f h => ?_) fs
  rw [cmN_snoc]
  rcases List.mem_append.mp h with h | h
  · exact Nat.dvd_trans (ih f h) (Nat.dvd_lcm_left _ _)
  · rw [List.mem_singleton.mp h]; exact Nat.dvd_lcm_right _ _
/-- a fraction told in parts of L -/
def scl (L : Nat) (f : Rat) : Int := f.num * ((L : Int).fdiv (f.den : Int))
theorem scl_mul {L : Nat} {f : Rat} (h : f.den ∣ L) : ((scl L f : Int) : Rat) = f * ((L : Int) : Rat) := by
  obtain ⟨k, hk⟩ := h
  have h1 : (L : Int).fdiv (f.den : Int) = (k : Int) := by
    rw [hk, Int.natCast_mul, Int.fdiv_eq_ediv_of_nonneg _ (by omega), Int.mul_ediv_cancel_left _ (rq_ne f)]
  unfold scl
  rw [h1, hk, Int.natCast_mul, Rat.intCast_mul, Rat.intCast_mul, rat_num (p := f), Rat.mul_assoc]
theorem scl_inj {L : Nat} (hL : 0 < L) {f g : Rat} (hf : f.den ∣ L) (hg : g.den ∣ L) (h : scl L f = scl L g) : f = g := by
  have e : f * ((L : Int) : Rat) = g * ((L : Int) : Rat) := by rw [← scl_mul hf, ← scl_mul hg, h]
  have hz : ((L : Int) : Rat) ≠ 0 := by
    intro z
    have : (L : Int) = 0 := by exact_mod_cast z
    omega
  grind
theorem rfr_add_rfr (a b : Rat) : rfr (a + rfr b) = rfr (a + b) := (rfr_iff _ _).mpr ⟨-(b.num / (b.den : Int)), by
  have e := rfr_eq b
  rw [Rat.intCast_neg]
  generalize ((b.num / (b.den : Int) : Int) : Rat) = q at *
  grind⟩
theorem rfr_int_add (a : Rat) (k : Int) : rfr (a + (k : Rat)) = rfr a := (rfr_iff _ _).mpr ⟨k, rfl⟩
/-- equal up to integers -/
def Eqz (a b : Rat) : Prop := ∃ k : Int, a = b + (k : Rat)
theorem Eqz.refl (a : Rat) : Eqz a a := ⟨0, (Rat.add_zero a).symm⟩
theorem Eqz.of {a b : Rat} (h : a = b) : Eqz a b := h ▸ Eqz.refl a
theorem Eqz.symm {a b : Rat} (h : Eqz a b) : Eqz b a := by
  obtain ⟨k, h⟩ := h
  exact ⟨-k, by rw [Rat.intCast_neg]; grind⟩
theorem Eqz.trans {a b c : Rat} (h : Eqz a b) (g : Eqz b c) : Eqz a c := by
  obtain ⟨k, h⟩ := h
  obtain ⟨j, g⟩ := g
  exact ⟨k + j, by rw [Rat.intCast_add]; grind⟩
theorem Eqz.add {a b c d : Rat} (h : Eqz a b) (g : Eqz c d) : Eqz (a + c) (b + d) := by
  obtain ⟨k, h⟩ := h
  obtain ⟨j, g⟩ := g
  exact ⟨k + j, by rw [Rat.intCast_add]; grind⟩
theorem Eqz.neg {a b : Rat} (h : Eqz a b) : Eqz (-a) (-b) := by
  obtain ⟨k, h⟩ := h
  exact ⟨-k, by rw [Rat.intCast_neg]; grind⟩
theorem Eqz.sub {a b c d : Rat} (h : Eqz a b) (g : Eqz c d) : Eqz (a - c) (b - d) := by
  have := h.add g.neg
  rw [Rat.sub_eq_add_neg, Rat.sub_eq_add_neg]; exact this
theorem Eqz.imul {a b : Rat} (n : Int) (h : Eqz a b) : Eqz ((n : Rat) * a) ((n : Rat) * b) := by
  obtain ⟨k, h⟩ := h
  exact ⟨n * k, by rw [Rat.intCast_mul]; grind⟩
theorem Eqz.rfr {a b : Rat} : TG.rfr a = TG.rfr b ↔ Eqz a b := rfr_iff a b
theorem Eqz.rst (a : Rat) : Eqz (TG.rfr a) a := (Eqz.rfr).mp (rfr_idem a)
theorem Eqz.int (a : Rat) (k : Int) : Eqz (a + (k : Rat)) a := ⟨k, rfl⟩
end TG
/-! Movements of the plane, up to whole shifts; sets of them; ascending. -/
namespace TG
open PySem PySem.Spec PyProof.Rows L2
structure Mx where
  a : Int
  b : Int
  c : Int
  d : Int
deriving DecidableEq
structure Mo where
  m : Mx
  x : Rat
  y : Rat
deriving DecidableEq
instance : Inhabited Mx := ⟨⟨1, 0, 0, 1⟩⟩
instance : Inhabited Mo := ⟨⟨⟨1, 0, 0, 1⟩, 0, 0⟩⟩
abbrev mxL (p : Mx) : List D := [.int p.a, .int p.b, .int p.c, .int p.d]
abbrev mxD (p : Mx) : D := .tup [.int p.a, .int p.b, .int p.c, .int p.d]
abbrev moD (m : Mo) : D := .tup [.int m.m.a, .int m.m.b, .int m.m.c, .int m.m.d, rq m.x, rq m.y]
theorem keyF_mx : KeyF mxD := ⟨fun _ => rfl, fun p q h => by
  cases p; cases q
  injection h with h; injection h with h1 h; injection h with h2 h; injection h with h3 h; injection h with h4 _
  injection h1 with h1; injection h2 with h2; injection h3 with h3; injection h4 with h4
  simp only at h1 h2 h3 h4
  subst h1 h2 h3 h4; rfl⟩
theorem keyF_mo : KeyF moD := ⟨fun _ => rfl, fun p q h => by
  obtain ⟨⟨a, b, c, d⟩, x, y⟩ := p
  obtain ⟨⟨a', b', c', d'⟩, x', y'⟩ := q
  injection h with h; injection h with h1 h; injection h with h2 h; injection h with h3 h; injection h with h4 h; injection h with h5 h; injection h with h6 _
  injection h1 with h1; injection h2 with h2; injection h3 with h3; injection h4 with h4
  simp only at h1 h2 h3 h4
  subst h1 h2 h3 h4
  have h5' : x = x' := rat_py h5
  have h6' : y = y' := rat_py h6
  rw [h5', h6']⟩
def MONE : Mx := ⟨1, 0, 0, 1⟩
def MID : Mo := ⟨MONE, 0, 0⟩
def mmul (p q : Mx) : Mx := ⟨q.a * p.a + q.b * p.c, q.a * p.b + q.b * p.d, q.c * p.a + q.d * p.c, q.c * p.b + q.d * p.d⟩
def mdet (p : Mx) : Int := p.a * p.d - p.b * p.c
def mrev (p : Mx) : Mx := ⟨mdet p * p.d, -mdet p * p.b, -mdet p * p.c, mdet p * p.a⟩
def lx (p : Mx) (x y : Rat) : Rat := (p.a : Rat) * x + (p.b : Rat) * y
def ly (p : Mx) (x y : Rat) : Rat := (p.c : Rat) * x + (p.d : Rat) * y
def mthn (m n : Mo) : Mo := ⟨mmul m.m n.m, lx n.m m.x m.y + n.x, ly n.m m.x m.y + n.y⟩
def mbck (m : Mo) : Mo := ⟨mrev m.m, 0 - lx (mrev m.m) m.x m.y, 0 - ly (mrev m.m) m.x m.y⟩
def mstl (m : Mo) : Mo := ⟨m.m, rfr m.x, rfr m.y⟩
theorem Mx.ext' {p q : Mx} (h1 : p.a = q.a) (h2 : p.b = q.b) (h3 : p.c = q.c) (h4 : p.d = q.d) : p = q := by
  cases p; cases q; simp only at h1 h2 h3 h4; subst h1 h2 h3 h4; rfl
theorem Mo.ext' {p q : Mo} (h1 : p.m = q.m) (h2 : p.x = q.x) (h3 : p.y = q.y) : p = q := by
  cases p; cases q; simp only at h1 h2 h3; subst h1 h2 h3; rfl
theorem mmul_assoc (p q r : Mx) : mmul (mmul p q) r = mmul p (mmul q r) := by
  apply Mx.ext' <;> (unfold mmul; grind)
theorem mdet_mul (p q : Mx) : mdet (mmul p q) = mdet p * mdet q := by unfold mmul mdet; grind
theorem mmul_one (p : Mx) : mmul p MONE = p := by apply Mx.ext' <;> (unfold mmul MONE; grind)
theorem one_mmul (p : Mx) : mmul MONE p = p := by apply Mx.ext' <;> (unfold mmul MONE; grind)
theorem det_one : mdet MONE = 1 := rfl
def Dt (p : Mx) : Prop := mdet p = 1 ∨ mdet p = -1
theorem Dt.sq {p : Mx} (h : Dt p) : mdet p * mdet p = 1 := by rcases h with h | h <;> rw [h] <;> rfl
theorem Dt.mul {p q : Mx} (h : Dt p) (k : Dt q) : Dt (mmul p q) := by
  unfold Dt at *
  rw [mdet_mul]
  rcases h with h | h <;> rcases k with k | k <;> rw [h, k] <;> decide
theorem mul_rev {p : Mx} (h : Dt p) : mmul p (mrev p) = MONE := by
  have e := h.sq
  unfold mdet at e
  apply Mx.ext' <;> (unfold mmul mrev MONE mdet; grind)
theorem rev_mul {p : Mx} (h : Dt p) : mmul (mrev p) p = MONE := by
  have e := h.sq
  unfold mdet at e
  apply Mx.ext' <;> (unfold mmul mrev MONE mdet; grind)
theorem Dt.rev {p : Mx} (h : Dt p) : Dt (mrev p) := by
  have e := h.sq
  have : mdet (mrev p) = mdet p * (mdet p * mdet p) := by unfold mrev; unfold mdet; grind
  unfold Dt
  rw [this, e, Int.mul_one]; exact h
theorem lx_mul (p q : Mx) (x y : Rat) : lx (mmul p q) x y = lx q (lx p x y) (ly p x y) := by
  unfold lx ly mmul
  simp only [Rat.intCast_add, Rat.intCast_mul]
  grind
theorem ly_mul (p q : Mx) (x y : Rat) : ly (mmul p q) x y = ly q (lx p x y) (ly p x y) := by
  unfold lx ly mmul
  simp only [Rat.intCast_add, Rat.intCast_mul]
  grind
theorem lx_one (x y : Rat) : lx MONE x y = x := by
  unfold lx MONE
  simp only [show ((1 : Int) : Rat) = 1 from rfl, show ((0 : Int) : Rat) = 0 from rfl]
  grind
theorem ly_one (x y : Rat) : ly MONE x y = y := by
  unfold ly MONE
  simp only [show ((1 : Int) : Rat) = 1 from rfl, show ((0 : Int) : Rat) = 0 from rfl]
  grind
theorem lx_add (p : Mx) (x y z w : Rat) : lx p (x + z) (y + w) = lx p x y + lx p z w := by unfold lx; grind
theorem ly_add (p : Mx) (x y z w : Rat) : ly p (x + z) (y + w) = ly p x y + ly p z w := by unfold ly; grind
theorem lx_zero (p : Mx) : lx p 0 0 = 0 := by unfold lx; grind
theorem ly_zero (p : Mx) : ly p 0 0 = 0 := by unfold ly; grind
theorem mthn_assoc (l m n : Mo) : mthn (mthn l m) n = mthn l (mthn m n) := by
  apply Mo.ext'
  · exact mmul_assoc _ _ _
  · show lx n.m (lx m.m l.x l.y + m.x) (ly m.m l.x l.y + m.y) + n.x = lx (mmul m.m n.m) l.x l.y + (lx n.m m.x m.y + n.x)
    rw [lx_add, lx_mul]; grind
  · show ly n.m (lx m.m l.x l.y + m.x) (ly m.m l.x l.y + m.y) + n.y = ly (mmul m.m n.m) l.x l.y + (ly n.m m.x m.y + n.y)
    rw [ly_add, ly_mul]; grind
theorem mthn_id (m : Mo) : mthn m MID = m := by
  apply Mo.ext'
  · exact mmul_one _
  · show lx MONE m.x m.y + 0 = m.x
    rw [lx_one]; grind
  · show ly MONE m.x m.y + 0 = m.y
    rw [ly_one]; grind
theorem id_mthn (m : Mo) : mthn MID m = m := by
  apply Mo.ext'
  · exact one_mmul _
  · show lx m.m 0 0 + m.x = m.x
    rw [lx_zero]; grind
  · show ly m.m 0 0 + m.y = m.y
    rw [ly_zero]; grind
theorem mthn_bck {m : Mo} (h : Dt m.m) : mthn m (mbck m) = MID := by
  apply Mo.ext'
  · exact mul_rev h
  · show lx (mrev m.m) m.x m.y + (0 - lx (mrev m.m) m.x m.y) = 0
    grind
  · show ly (mrev m.m) m.x m.y + (0 - ly (mrev m.m) m.x m.y) = 0
    grind
theorem bck_mthn {m : Mo} (h : Dt m.m) : mthn (mbck m) m = MID := by
  apply Mo.ext'
  · exact rev_mul h
  · show lx m.m (0 - lx (mrev m.m) m.x m.y) (0 - ly (mrev m.m) m.x m.y) + m.x = 0
    have e := lx_mul (mrev m.m) m.m m.x m.y
    rw [rev_mul h, lx_one] at e
    have a := lx_add m.m (lx (mrev m.m) m.x m.y) (ly (mrev m.m) m.x m.y) (0 - lx (mrev m.m) m.x m.y) (0 - ly (mrev m.m) m.x m.y)
    rw [show lx (mrev m.m) m.x m.y + (0 - lx (mrev m.m) m.x m.y) = 0 by grind, show ly (mrev m.m) m.x m.y + (0 - ly (mrev m.m) m.x m.y) = 0 by grind, lx_zero] at a
    grind
  · show ly m.m (0 - lx (mrev m.m) m.x m.y) (0 - ly (mrev m.m) m.x m.y) + m.y = 0
    have e := ly_mul (mrev m.m) m.m m.x m.y
    rw [rev_mul h, ly_one] at e
    have a := ly_add m.m (lx (mrev m.m) m.x m.y) (ly (mrev m.m) m.x m.y) (0 - lx (mrev m.m) m.x m.y) (0 - ly (mrev m.m) m.x m.y)
    rw [show lx (mrev m.m) m.x m.y + (0 - lx (mrev m.m) m.x m.y) = 0 by grind, show ly (mrev m.m) m.x m.y + (0 - ly (mrev m.m) m.x m.y) = 0 by grind, ly_zero] at a
    grind
theorem Dt.thn {m n : Mo} (h : Dt m.m) (k : Dt n.m) : Dt (mthn m n).m := h.mul k
theorem Dt.bck {m : Mo} (h : Dt m.m) : Dt (mbck m).m := h.rev
/-! ### up to whole shifts -/
structure Meq (m n : Mo) : Prop where
  mm : m.m = n.m
  xx : Eqz m.x n.x
  yy : Eqz m.y n.y
theorem Meq.refl (m : Mo) : Meq m m := ⟨rfl, .refl _, .refl _⟩
theorem Meq.of {m n : Mo} (h : m = n) : Meq m n := h ▸ .refl m
theorem Meq.symm {m n : Mo} (h : Meq m n) : Meq n m := ⟨h.mm.symm, h.xx.symm, h.yy.symm⟩
theorem Meq.trans {l m n : Mo} (h : Meq l m) (k : Meq m n) : Meq l n := ⟨h.mm.trans k.mm, h.xx.trans k.xx, h.yy.trans k.yy⟩
theorem stl_iff {m n : Mo} : mstl m = mstl n ↔ Meq m n := by
  constructor
  · intro h
    have h1 : (mstl m).m = (mstl n).m := congrArg Mo.m h
    have h2 : (mstl m).x = (mstl n).x := congrArg Mo.x h
    have h3 : (mstl m).y = (mstl n).y := congrArg Mo.y h
    exact ⟨h1, Eqz.rfr.mp h2, Eqz.rfr.mp h3⟩
  · intro h
    exact Mo.ext' h.mm (Eqz.rfr.mpr h.xx) (Eqz.rfr.mpr h.yy)
theorem stl_eq (m : Mo) : Meq (mstl m) m := ⟨rfl, Eqz.rst _, Eqz.rst _⟩
theorem stl_idem (m : Mo) : mstl (mstl m) = mstl m := stl_iff.mpr (stl_eq m)
theorem Meq.thn {a b c d : Mo} (h : Meq a b) (k : Meq c d) : Meq (mthn a c) (mthn b d) := by
  obtain ⟨h1, h2, h3⟩ := h
  obtain ⟨k1, k2, k3⟩ := k
  refine ⟨?_, ?_, ?_⟩
  · show mmul a.m c.m = mmul b.m d.m
    rw [h1, k1]
  · show Eqz (lx c.m a.x a.y + c.x) (lx d.m b.x b.y + d.x)
    rw [k1]
    exact ((h2.imul _).add (h3.imul _)).add k2
  · show Eqz (ly c.m a.x a.y + c.y) (ly d.m b.x b.y + d.y)
    rw [k1]
    exact ((h2.imul _).add (h3.imul _)).add k3
theorem stl_thn_l (m n : Mo) : mstl (mthn (mstl m) n) = mstl (mthn m n) := stl_iff.mpr ((stl_eq m).thn (.refl n))
theorem stl_thn_r (m n : Mo) : mstl (mthn m (mstl n)) = mstl (mthn m n) := stl_iff.mpr ((Meq.refl m).thn (stl_eq n))
theorem stl_id : mstl MID = MID := by decide +kernel
/-- m after the change c -/
def cnj (c m : Mo) : Mo := mthn (mthn (mbck c) m) c
theorem cnj_mul {c : Mo} (h : Dt c.m) (m n : Mo) : mthn (cnj c m) (cnj c n) = cnj c (mthn m n) := by
  unfold cnj
  rw [mthn_assoc (mthn (mbck c) m) c, ← mthn_assoc c (mthn (mbck c) n) c, ← mthn_assoc c (mbck c) n, mthn_bck h, id_mthn]
  simp only [mthn_assoc]
theorem cnj_id {c : Mo} (h : Dt c.m) : cnj c MID = MID := by
  unfold cnj; rw [mthn_id, bck_mthn h]
theorem Meq.cnj {m n : Mo} (c : Mo) (h : Meq m n) : Meq (cnj c m) (cnj c n) := ((Meq.refl _).thn h).thn (.refl c)
theorem bck_bck {c : Mo} (h : Dt c.m) : mbck (mbck c) = c := by
  have e := congrArg (fun z => mthn z (mbck (mbck c))) (mthn_bck h)
  simp only [mthn_assoc] at e
  rw [mthn_bck h.bck, mthn_id, id_mthn] at e
  exact e.symm
theorem cnj_back {c : Mo} (h : Dt c.m) (m : Mo) : cnj (mbck c) (cnj c m) = m := by
  unfold cnj
  rw [bck_bck h]
  rw [mthn_assoc, mthn_assoc (mthn (mbck c) m), mthn_bck h, mthn_id, ← mthn_assoc, mthn_bck h, id_mthn]
theorem bck_thn {c e : Mo} (h : Dt c.m) (k : Dt e.m) : mbck (mthn c e) = mthn (mbck e) (mbck c) := by
  have e1 := congrArg (fun z => mthn (mthn (mbck e) (mbck c)) z) (mthn_bck (h.thn k))
  simp only [mthn_id] at e1
  rw [← e1, ← mthn_assoc, mthn_assoc (mbck e), ← mthn_assoc (mbck c), bck_mthn h, id_mthn, bck_mthn k, id_mthn]
theorem cnj_cnj {c e : Mo} (h : Dt c.m) (k : Dt e.m) (m : Mo) : cnj e (cnj c m) = cnj (mthn c e) m := by
  unfold cnj
  rw [bck_thn h k]
  simp only [mthn_assoc]
theorem Dt.cnj {c m : Mo} (h : Dt c.m) (k : Dt m.m) : Dt (cnj c m).m := (h.bck.mul k).mul h
theorem cnj_one (m : Mo) : cnj MID m = m := by
  have : mbck MID = MID := by decide +kernel
  unfold cnj; rw [this, id_mthn, mthn_id]
/-! ### ascending -/
def kyO (L : Nat) (m : Mo) : D := .tup [.int m.m.a, .int m.m.b, .int m.m.c, .int m.m.d, .int (scl L m.x), .int (scl L m.y)]
def cmO (S : List Mo) : Nat := cmN (S.map (·.x) ++ S.map (·.y))
def ascO (S : List Mo) : List Mo := S.mergeSort fun a b => leD (kyO (cmO S) a) (kyO (cmO S) b)
theorem ascO_srt (S : List Mo) : srtK (S.map moD) (S.map (kyO (cmO S))) = (ascO S).map moD := srtK_map S
theorem ascO_p (S : List Mo) : (ascO S).Perm S := List.mergeSort_perm _ _
theorem ascO_mem {S : List Mo} {m : Mo} : m ∈ ascO S ↔ m ∈ S := (ascO_p S).mem_iff
theorem ascO_len (S : List Mo) : (ascO S).length = S.length := (ascO_p S).length_eq
theorem kyO_rows (L : Nat) (S : List Mo) : Rows (S.map (kyO L)) := rows_map (fun _ _ => rfl) (fun _ => ⟨_, _, rfl⟩)
theorem kyO_inj {L : Nat} (hL : 0 < L) {m n : Mo} (hm : m.x.den ∣ L ∧ m.y.den ∣ L) (hn : n.x.den ∣ L ∧ n.y.den ∣ L) (h1 : leD (kyO L m) (kyO L n) = true) (h2 : leD (kyO L n) (kyO L m) = true) : m = n := by
  have e := (key_eqv (d := kyO L m) (e := kyO L n) rfl rfl).mp (leD_anti rfl h1 h2)
  unfold kyO at e
  injection e with h; injection h with e1 h; injection h with e2 h; injection h with e3 h; injection h with e4 h; injection h with e5 h; injection h with e6 _
  injection e1 with e1; injection e2 with e2; injection e3 with e3; injection e4 with e4; injection e5 with e5; injection e6 with e6
  exact Mo.ext' (Mx.ext' e1 e2 e3 e4) (scl_inj hL hm.1 hn.1 e5) (scl_inj hL hm.2 hn.2 e6)
theorem cmO_dvd {S : List Mo} {m : Mo} (h : m ∈ S) : m.x.den ∣ cmO S ∧ m.y.den ∣ cmO S :=
  ⟨dvd_cmN _ (List.mem_append_left _ (List.mem_map.mpr ⟨m, h, rfl⟩)), dvd_cmN _ (List.mem_append_right _ (List.mem_map.mpr ⟨m, h, rfl⟩))⟩
theorem cmO_pos (S : List Mo) : 0 < cmO S := cmN_pos _
theorem ascO_perm {A B : List Mo} (h : A.Perm B) : ascO A = ascO B := by
  have e : cmO A = cmO B := cm_perm ((h.map _).append (h.map _))
  have pw : ∀ (L : Nat) (S : List Mo), (S.mergeSort fun a b => leD (kyO L a) (kyO L b)).Pairwise (fun a b => leD (kyO L a) (kyO L b) = true) := fun L S => by
    have q := srt_pairwise (S.map (kyO L))
    rw [srt_map] at q
    exact List.pairwise_map.mp q
  unfold ascO
  rw [e]
  have pa := List.mergeSort_perm A fun a b => leD (kyO (cmO B) a) (kyO (cmO B) b)
  have pb := List.mergeSort_perm B fun a b => leD (kyO (cmO B) a) (kyO (cmO B) b)
  refine List.Perm.eq_of_pairwise (le := fun a b => leD (kyO (cmO B) a) (kyO (cmO B) b) = true) (fun a b ha hb h1 h2 => ?_) (pw _ A) (pw _ B) ((pa.trans h).trans pb.symm)
  exact kyO_inj (cmO_pos B) (cmO_dvd (h.mem_iff.mp (pa.mem_iff.mp ha))) (cmO_dvd (pb.mem_iff.mp hb)) h1 h2
theorem ascO_idem (S : List Mo) : ascO (ascO S) = ascO S := ascO_perm (ascO_p S)
/-! ### sizes -/
abbrev LL : Nat := 28667766899426054400
theorem dv_small {q : Rat} (h : q.den ≤ 24) : Dv LL q := by
  have z : ∀ d : Nat, d ≤ 24 → 0 < d → d ∣ LL := by decide
  exact z q.den h q.den_pos
/-- .. the product of two small ones, too -/
theorem dv_small2 {q : Rat} {i j : Nat} (hi : i ≤ 24) (hi0 : 0 < i) (hj : j ≤ 24) (hj0 : 0 < j) (h : q.den ∣ i * j) : Dv LL q := by
  have z : ∀ d : Nat, d ≤ 24 → 0 < d → d ∣ 5354228880 := by decide
  exact Nat.dvd_trans h (Nat.mul_dvd_mul (z i hi hi0) (z j hj hj0))
/-- a multiple of 1 / LL, of n bits -/
def Zs (n : Nat) (x : Rat) : Prop := ∃ z : Int, x * ((LL : Int) : Rat) = (z : Rat) ∧ Sz n z
theorem Zs.dv {n : Nat} {x : Rat} (h : Zs n x) : Dv LL x := by
  obtain ⟨z, e, _⟩ := h
  exact rat_of_mul (by decide) z e
theorem Zs.mono {n k : Nat} {x : Rat} (h : Zs n x) (l : n ≤ k) : Zs k x := by
  obtain ⟨z, e, s⟩ := h
  exact ⟨z, e, s.mono l⟩
theorem Zs.rz {n : Nat} {x : Rat} (h : Zs n x) (hn : 65 ≤ n) : Rz n x := by
  obtain ⟨k, hk⟩ := h.dv
  obtain ⟨z, e, s⟩ := h
  have hd : x.den ≤ LL := Nat.le_of_dvd (by decide) ⟨k, hk⟩
  refine ⟨?_, ?_⟩
  · have e2 : (z : Rat) = ((x.num * (k : Int) : Int) : Rat) := by
      have h2 : ((LL : Int) : Rat) = ((x.den : Int) : Rat) * ((k : Int) : Rat) := by rw [← Rat.intCast_mul]; congr 1; rw [hk]; exact Int.natCast_mul _ _
      rw [← e, h2, ← Rat.mul_assoc, ← rat_num, Rat.intCast_mul]
    have e3 : z = x.num * (k : Int) := Rat.intCast_inj.mp e2
    have hk0 : 0 < k := by
      rcases Nat.eq_zero_or_pos k with h0 | h0
      · rw [h0, Nat.mul_zero] at hk; exact absurd hk (by decide)
      · exact h0
    refine s.le ?_
    rw [e3, Int.natAbs_mul, Int.natAbs_natCast]
    exact Nat.le_mul_of_pos_right _ hk0
  · have h3 : (LL : Nat) < 2 ^ 65 := by decide
    have h4 : (2 : Nat) ^ 65 ≤ 2 ^ n := Nat.pow_le_pow_right (by decide) hn
    unfold Sz
    rw [Int.natAbs_natCast]
    omega
theorem Zs.add {m n : Nat} {x y : Rat} (h : Zs m x) (k : Zs n y) : Zs (max m n + 1) (x + y) := by
  obtain ⟨a, ha, sa⟩ := h
  obtain ⟨b, hb, sb⟩ := k
  exact ⟨a + b, by rw [Rat.add_mul, ha, hb, Rat.intCast_add], sa.add sb⟩
theorem Zs.neg {m : Nat} {x : Rat} (h : Zs m x) : Zs m (-x) := by
  obtain ⟨a, ha, sa⟩ := h
  exact ⟨-a, by rw [Rat.intCast_neg, ← ha]; grind, sa.neg⟩
theorem Zs.imul {j m : Nat} {x : Rat} {p : Int} (hp : Sz j p) (h : Zs m x) : Zs (j + m) ((p : Rat) * x) := by
  obtain ⟨a, ha, sa⟩ := h
  exact ⟨p * a, by rw [Rat.mul_assoc, ha, Rat.intCast_mul], hp.mul sa⟩
theorem zs_of {k : Nat} {x : Rat} (h : Dv LL x) (r : Rz k x) : Zs (k + 65) x := by
  obtain ⟨j, hj⟩ := h
  refine ⟨x.num * (j : Int), ?_, r.num.mul ?_⟩
  · have h2 : ((LL : Int) : Rat) = ((x.den : Int) : Rat) * ((j : Int) : Rat) := by rw [← Rat.intCast_mul]; congr 1; rw [hj]; exact Int.natCast_mul _ _
    rw [h2, ← Rat.mul_assoc, ← rat_num, Rat.intCast_mul]
  · have h3 : (LL : Nat) < 2 ^ 65 := by decide
    have h5 : j ≤ LL := by
      rw [hj]; exact Nat.le_mul_of_pos_left _ x.den_pos
    unfold Sz
    rw [Int.natAbs_natCast]
    omega
theorem zs_rng {x : Rat} (h : Dv LL x) (r : 0 ≤ x ∧ x < 1) : Zs 65 x := by
  obtain ⟨z, e⟩ := dv_mul h
  have h1 : (0 : Rat) ≤ (z : Rat) := by rw [← e]; exact Rat.mul_nonneg r.1 (by decide)
  have h2 : (z : Rat) < ((LL : Int) : Rat) := by
    rw [← e]
    have hL : (0 : Rat) < ((LL : Int) : Rat) := by decide
    have := Rat.mul_lt_mul_of_pos_right r.2 hL
    rwa [Rat.one_mul] at this
  have h3 : (0 : Int) ≤ z := Rat.intCast_nonneg.mp h1
  have h4 := Rat.intCast_lt_intCast.mp h2
  have h5 : (LL : Int) < 2 ^ 65 := by decide
  refine ⟨z, e, Sz.nn h3 (by omega)⟩
theorem zs_zero : Zs 1 0 := ⟨0, by rw [Rat.zero_mul]; rfl, sz_lit rfl⟩
structure So (j k : Nat) (m : Mo) : Prop where
  a : Sz j m.m.a
  b : Sz j m.m.b
  c : Sz j m.m.c
  d : Sz j m.m.d
  x : Zs k m.x
  y : Zs k m.y
theorem So.mono {j k j' k' : Nat} {m : Mo} (h : So j k m) (l : j ≤ j') (l' : k ≤ k') : So j' k' m := ⟨h.a.mono l, h.b.mono l, h.c.mono l, h.d.mono l, h.x.mono l', h.y.mono l'⟩
theorem sz_two {j k : Nat} {p q r s : Int} (hp : Sz j p) (hq : Sz k q) (hr : Sz j r) (hs : Sz k s) : Sz (j + k + 1) (p * q + r * s) := by
  have := (hp.mul hq).add (hr.mul hs)
  exact this.mono (by omega)
theorem zs_two {j k : Nat} {p q : Int} {x y : Rat} (hp : Sz j p) (hq : Sz j q) (hx : Zs k x) (hy : Zs k y) : Zs (j + k + 1) ((p : Rat) * x + (q : Rat) * y) :=
  ((Zs.imul hp hx).add (Zs.imul hq hy)).mono (by omega)
theorem So.thn {j k j' k' : Nat} {m n : Mo} (h : So j k m) (l : So j' k' n) : So (j' + j + 1) (max (j' + k + 1) k' + 1) (mthn m n) :=
  ⟨sz_two l.a h.a l.b h.c, sz_two l.a h.b l.b h.d, sz_two l.c h.a l.d h.c, sz_two l.c h.b l.d h.d, (zs_two l.a l.b h.x h.y).add l.x, (zs_two l.c l.d h.x h.y).add l.y⟩
theorem So.stl {j k : Nat} {m : Mo} (h : So j k m) : So j 65 (mstl m) :=
  ⟨h.a, h.b, h.c, h.d, zs_rng h.x.dv.rfr (rfr_rng _), zs_rng h.y.dv.rfr (rfr_rng _)⟩
theorem sz_dt {j : Nat} {s v : Int} (h : s = 1 ∨ s = -1) (hv : Sz j v) : Sz j (s * v) := by
  rcases h with h | h
  · rw [h, Int.one_mul]; exact hv
  · rw [h, Int.neg_mul, Int.one_mul]; exact hv.neg
abbrev SzM (j : Nat) (p : Mx) : Prop := Sz j p.a ∧ Sz j p.b ∧ Sz j p.c ∧ Sz j p.d
theorem So.szm {j k : Nat} {m : Mo} (h : So j k m) : SzM j m.m := ⟨h.a, h.b, h.c, h.d⟩
theorem szm_rev {j : Nat} {p : Mx} (hd : Dt p) (h : SzM j p) : SzM j (mrev p) := by
  have hn : -mdet p = 1 ∨ -mdet p = -1 := by rcases hd with h | h <;> rw [h] <;> decide
  exact ⟨sz_dt hd h.2.2.2, sz_dt hn h.2.1, sz_dt hn h.2.2.1, sz_dt hd h.1⟩
theorem So.bck {j k : Nat} {m : Mo} (hd : Dt m.m) (h : So j k m) : So j (j + k + 1) (mbck m) := by
  obtain ⟨a, b, c, d⟩ := szm_rev hd h.szm
  refine ⟨a, b, c, d, ?_, ?_⟩
  · show Zs _ (0 - lx _ _ _)
    rw [show ∀ z : Rat, 0 - z = -z from fun z => by grind]; exact (zs_two a b h.x h.y).neg
  · show Zs _ (0 - ly _ _ _)
    rw [show ∀ z : Rat, 0 - z = -z from fun z => by grind]; exact (zs_two c d h.x h.y).neg
theorem so_id : So 1 1 MID := ⟨sz_lit rfl, sz_lit rfl, sz_lit rfl, sz_lit rfl, zs_zero, zs_zero⟩
theorem rz_two2 {p q : Int} {x y : Rat} (hp : Sz 200 p) (hq : Sz 200 q) (hx : Rz 400 x) (hy : Rz 400 y) : Rz 1201 ((p : Rat) * x + (q : Rat) * y) :=
  (((rz_int hp (by decide)).mul hx).add ((rz_int hq (by decide)).mul hy)).mono (by decide)
theorem small2000 {n : Nat} (h : n ≤ 1000) : n + n < sizeLine := Nat.lt_of_le_of_lt (show n + n ≤ 2000 by omega) (by decide)
abbrev OkO (j k : Nat) (S : List Mo) : Prop := ∀ m ∈ S, So j k m
theorem OkO.mono {j k j' k' : Nat} {S : List Mo} (h : OkO j k S) (l : j ≤ j') (l' : k ≤ k') : OkO j' k' S := fun m hm => (h m hm).mono l l'
theorem ok_fr {j k : Nat} {S : List Mo} (h : OkO j k S) : ∀ f ∈ S.map (·.x) ++ S.map (·.y), Zs k f := fun f hf => by
  rcases List.mem_append.mp hf with hf | hf
  · obtain ⟨m, hm, rfl⟩ := List.mem_map.mp hf; exact (h m hm).x
  · obtain ⟨m, hm, rfl⟩ := List.mem_map.mp hf; exact (h m hm).y
theorem cmO_ok {j k : Nat} {S : List Mo} (h : OkO j k S) : cmO S ∣ LL := cmN_dvd fun f hf => (ok_fr h f hf).dv
theorem sz_dvd {n : Nat} (h : n ∣ LL) : Sz 65 (n : Int) := by
  have := Nat.le_of_dvd (by decide) h
  have h3 : (LL : Nat) < 2 ^ 65 := by decide
  unfold Sz
  rw [Int.natAbs_natCast]
  omega
theorem OkO.asc {j k : Nat} {S : List Mo} (h : OkO j k S) : OkO j k (ascO S) := fun m hm => h m (ascO_mem.mp hm)
theorem So.cnj {j k i l : Nat} {c m : Mo} (hd : Dt c.m) (h : So i l c) (g : So j k m) : So (i + j + i + 2) (max (i + (max (j + (i + l + 1) + 1) k + 1) + 1) l + 1) (cnj c m) :=
  (((h.bck hd).thn g).thn h).mono (by omega) (by omega)
theorem atI_map {α : Type} [Inhabited α] {f : α → D} {l : List α} {i : Int} (h : 0 ≤ i) (h2 : i < (l.length : Int)) : atI (l.map f) i = some (f (l.getD i.toNat default)) := by
  have hk : i.toNat < l.length := by omega
  refine atI_at i.toNat (by omega) ?_
  rw [List.getElem?_map, List.getElem?_eq_getElem hk]
  simp [List.getD, hk]
/-! ### groups -/
structure IsG (S : List Mo) : Prop where
  nd : S.Nodup
  id : MID ∈ S
  cl : ∀ m ∈ S, ∀ n ∈ S, mstl (mthn m n) ∈ S
  st : ∀ m ∈ S, mstl m = m
  pu : ∀ m ∈ S, m.m = MONE → m = MID
  dt : ∀ m ∈ S, Dt m.m
theorem IsG.perm {A B : List Mo} (h : IsG A) (p : A.Perm B) : IsG B :=
  ⟨p.nodup_iff.mp h.nd, p.mem_iff.mp h.id, fun m hm n hn => p.mem_iff.mp (h.cl m (p.mem_iff.mpr hm) n (p.mem_iff.mpr hn)), fun m hm => h.st m (p.mem_iff.mpr hm), fun m hm => h.pu m (p.mem_iff.mpr hm), fun m hm => h.dt m (p.mem_iff.mpr hm)⟩
def chg (c : Mo) (S : List Mo) : List Mo := S.map fun m => mstl (cnj c m)
theorem chg_perm {A B : List Mo} (c : Mo) (h : A.Perm B) : (chg c A).Perm (chg c B) := h.map _
theorem IsG.chg {c : Mo} (hc : Dt c.m) {S : List Mo} (h : IsG S) : IsG (chg c S) := by
  have inj : ∀ x ∈ S, ∀ y ∈ S, mstl (cnj c x) = mstl (cnj c y) → x = y := fun x hx y hy e => by
    have q := (stl_iff.mp e).cnj (mbck c)
    rw [cnj_back hc, cnj_back hc] at q
    have := stl_iff.mpr q
    rwa [h.st x hx, h.st y hy] at this
  refine ⟨nodup_map_of inj h.nd, List.mem_map.mpr ⟨MID, h.id, by rw [cnj_id hc, stl_id]⟩, fun m hm n hn => ?_, fun m hm => ?_, fun m hm e => ?_, fun m hm => ?_⟩
  · obtain ⟨m', hm', rfl⟩ := List.mem_map.mp hm
    obtain ⟨n', hn', rfl⟩ := List.mem_map.mp hn
    refine List.mem_map.mpr ⟨_, h.cl m' hm' n' hn', ?_⟩
    rw [stl_thn_l, stl_thn_r, cnj_mul hc]
    exact stl_iff.mpr ((stl_eq _).cnj c)
  · obtain ⟨m', _, rfl⟩ := List.mem_map.mp hm
    exact stl_idem _
  · obtain ⟨m', hm', rfl⟩ := List.mem_map.mp hm
    have e' : mmul (mmul (mrev c.m) m'.m) c.m = MONE := e
    have e2 := congrArg (fun z => mmul (mmul c.m z) (mrev c.m)) e'
    simp only [mmul_assoc] at e2
    rw [mul_rev hc, mmul_one, ← mmul_assoc, mul_rev hc, one_mmul, one_mmul, mul_rev hc] at e2
    rw [h.pu m' hm' e2, cnj_id hc, stl_id]
  · obtain ⟨m', hm', rfl⟩ := List.mem_map.mp hm
    exact hc.cnj (h.dt m' hm')
theorem chg_chg {c e : Mo} (hc : Dt c.m) (he : Dt e.m) (S : List Mo) : chg e (chg c S) = chg (mthn c e) S := by
  unfold chg
  rw [List.map_map]
  refine List.map_congr_left fun m _ => ?_
  show mstl (cnj e (mstl (cnj c m))) = _
  rw [stl_iff.mpr ((stl_eq (cnj c m)).cnj e), cnj_cnj hc he]
theorem chg_id {S : List Mo} (h : ∀ m ∈ S, mstl m = m) : chg MID S = S := by
  unfold chg
  rw [List.map_congr_left (g := id) fun m hm => by rw [cnj_one, h m hm]; rfl, List.map_id]
theorem chg_len (c : Mo) (S : List Mo) : (chg c S).length = S.length := List.length_map _
/-- what the steps lead to is a group, if there is no pure shift -/
theorem isG_of_run {bad : List Mo → Mo → Bool} {T R : List Mo} (h : Run (fun c m => mstl (mthn c m)) bad T [MID] [MID] (some R)) (hd : ∀ m ∈ T, Dt m.m) (hp : ∀ m ∈ R, m.m = MONE → m = MID) : IsG R := by
  have hW : ∀ x ∈ [MID], x ∈ [MID] := fun _ h => h
  have hc := h.closed (fun x hx hn => absurd hx hn) R rfl
  have hst : ∀ m ∈ R, mstl m = m := h.all hW (Q := fun m => mstl m = m) (fun x hx => by rw [List.mem_singleton.mp hx]; exact stl_id) (fun x m _ _ => stl_idem _) rfl
  refine ⟨h.nodup hW (List.nodup_cons.mpr ⟨List.not_mem_nil, .nil⟩) rfl, hc.1 _ (List.mem_singleton.mpr rfl), fun m hm n hn => ?_, hst, hp, ?_⟩
  · have q := h.all hW (Q := fun n => ∀ m ∈ R, mstl (mthn m n) ∈ R) (fun x hx m hm => by rw [List.mem_singleton.mp hx, mthn_id, hst m hm]; exact hm) (fun x s hx hs m hm => by
      rw [stl_thn_r, ← mthn_assoc, ← stl_thn_l]
      exact hc.2 _ (hx m hm) s hs) rfl
    exact q n hn m hm
  · exact h.all hW (Q := fun m => Dt m.m) (fun x hx => by rw [List.mem_singleton.mp hx]; exact .inl rfl) (fun x m hx hm => hx.mul (hd m hm)) rfl
end TG
/-! max of several ints, f(..).clear(). -/
namespace TG
open PySem PySem.Spec PyProof.Rows L2
section
variable {prog : Program} {w : World} {A : Around} {E : Value → Shared → Prop} {s : Shared}
theorem args_max5 (a b c d e : Value) : argsOk "max" ⟨[a, b, c, d, e], []⟩ := by unfold argsOk; kernel_rfl
/-- max of some ints -/
theorem max_many {a b : Value} {r : List Value} {its : List Value} {ns : List Int} {Q : Value → Shared → Prop} (hh : A.handled = none) (hits : its = a :: b :: r) (hi : IntsAre its ns) (ha : argsOk "max" ⟨its, []⟩) (hz : sizeOk (.seq its.toArray))
    (h : ∀ h' tk M t', (∀ b o, s.heap.get? b = some o → h'.get? b = some o) → M ∈ ns → (∀ a, a ∈ ns → a ≤ M) → Q (.int M t') { s with heap := h', toks := tk }) : wpAny (model prog w) A (call (.builtin "max") its) Q E s := by
  have hname : (toString "max" ++ toString ".loop" : String) = "max.loop" := by decide
  obtain ⟨xs, e⟩ := hi.allInts.items
  have hn : numsOf (intItems xs).toList = ns := by rw [← e]; exact hi.numsOf
  rw [nums_intItems] at hn
  subst hn
  have hT : (s.heap.push { cls := .type "tuple", data := .seq its.toArray }).IsTuple s.heap.objs.size (intItems xs) := ⟨_, Heap.get?_push_size _ rfl, rfl, 0, by rw [e]⟩
  have hlen : its.length = xs.size := by
    have := congrArg Array.size e
    rw [List.size_toArray] at this
    rw [this]; simp [intItems]
  subst hits
  refine call_function_tree F.kind_max F.plain_max F.entry_max ha ?_
  show wpAny _ A.in1 (Builtin.Builtins.bindParams "max" ["key", "default"] 0 ⟨[], []⟩ >>= _) _ _ s
  refine wpAny_bind (wpAny_of_eq (show Builtin.Builtins.bindParams "max" ["key", "default"] 0 ⟨[], []⟩ = pure [none, none] from rfl) ?_)
  show wpAny _ A.in1 (newTuple (a :: b :: r) >>= _) _ _ s
  refine wpAny_bind (wpAny_newObj_type (hd := hz) ?_)
  refine wpAny_bind (wpAny_mono (wpAny_pyIter_tuple (E := E) (Q := fun it s₂ => ∃ I fp wr n P St bt, it = .ref I ∧ Walks prog w A.in1 I fp wr n P St ∧ St 0 s₂.heap ∧ (∀ b ∈ fp, b < s₂.heap.objs.size) ∧ 0 < n ∧ CmpOf prog w A.in1 .Gt P bt ∧
      ∀ v h' tk, P (argBest bt (n - 1)) v → (∀ b o, b ∉ wr → s₂.heap.get? b = some o → h'.get? b = some o) → Q v { s₂ with heap := h', toks := tk }) hT ?_) (fun it s₂ h₂ => ?_) fun _ _ e => e)
  · have hsz : (s.heap.push { cls := .type "tuple", data := .seq (a :: b :: r).toArray }).objs.size = s.heap.objs.size + 1 := Heap.size_push ..
    refine ⟨_, [_, s.heap.objs.size], [_], _, _, _, _, rfl, Walks.tuple (A := A.in1) hh _ s.heap.objs.size (by rw [hsz]; exact Nat.ne_of_lt (Nat.lt_succ_self _)) (intItems xs),
      ⟨⟨_, Heap.get?_push_size _ rfl, rfl, rfl⟩, hT.push _⟩, fun c hc => ?_, by simp only [List.length_cons] at hlen; simp [intItems]; omega, CmpOf.ints_gt (numAt xs) (fun _ _ => intItems_at), fun v h' tk hP hk => ?_⟩
    · show c < ((s.heap.push _).push _).objs.size
      rw [Heap.size_push, hsz]
      rcases List.mem_cons.mp hc with rfl | hc
      · rw [hsz]; exact Nat.lt_succ_self _
      · rcases List.mem_cons.mp hc with rfl | hc
        · exact Nat.lt_succ_of_lt (Nat.lt_succ_self _)
        · cases hc
    · have hold : ∀ c o, s.heap.get? c = some o → h'.get? c = some o := fun c o e => by
        refine hk c o (fun hm => ?_) (Heap.get?_push_of_some _ (Heap.get?_push_of_some _ e))
        rcases List.mem_cons.mp hm with e1 | hm
        · have := Heap.lt_size e; rw [e1, hsz] at this; exact Nat.lt_irrefl _ (Nat.lt_of_succ_lt this)
        · cases hm
      have hP' : (intItems xs)[argBest (fun i j => decide (numAt xs i > numAt xs j)) (xs.size - 1)]? = some v := by simpa [intItems] using hP
      obtain ⟨t, rfl⟩ := intItems_at hP'
      obtain ⟨h1, h2⟩ := argBest_gt (numAt xs) (xs.size - 1)
      have hsz0 : 0 < xs.size := by simp only [List.length_cons] at hlen; omega
      refine h h' tk _ t hold ?_ fun a ha => ?_
      · rw [numAt_eq]; exact PySem.getD_mem (by rw [List.length_map, Array.length_toList]; omega)
      · obtain ⟨j, hj, rfl⟩ := mem_getD ha
        rw [List.length_map, Array.length_toList] at hj
        rw [← numAt_eq]; exact h2 j (by omega)
  · obtain ⟨I, fp, wr, n, P, St, bt, rfl, W, hst, hfp, hn, hcmp, hQ⟩ := h₂
    refine wpAny_bind (wpAny_newObj_type ?_)
    have hSf : s₂.heap.objs.size ∉ fp := fun hm => Nat.lt_irrefl _ (hfp _ hm)
    rw [hname]
    refine wpAny_pure ⟨plainId_quiet F.plain_max_loop _, codeAny_max_loop_first W bt hcmp s₂.heap.objs.size hSf hn (W.frame _ _ _ hst fun b _ o e => Heap.get?_push_of_some _ e) (Heap.get?_push_size _ rfl) fun v h' tk hP hk => ?_⟩
    exact hQ v h' tk hP fun b o hbw e => hk b o hbw (Nat.ne_of_lt (Heap.lt_size e)) (Heap.get?_push_of_some _ e)
end
theorem vals_ints5 {i j k l m : Int} {us : List Value} (r : Vals [V.int i, V.int j, V.int k, V.int l, V.int m] us) : ∃ t1 t2 t3 t4 t5, us = [.int i t1, .int j t2, .int k t3, .int l t4, .int m t5] := by
  cases r with
  | cons h1 r =>
    cases r with
    | cons h2 r =>
      cases r with
      | cons h3 r =>
        cases r with
        | cons h4 r =>
          cases r with
          | cons h5 r =>
            cases r
            obtain ⟨t1, rfl⟩ := h1
            obtain ⟨t2, rfl⟩ := h2
            obtain ⟨t3, rfl⟩ := h3
            obtain ⟨t4, rfl⟩ := h4
            obtain ⟨t5, rfl⟩ := h5
            exact ⟨t1, t2, t3, t4, t5, rfl⟩
theorem cr_max5 {X : Cx} (hc : X.calm = true) : CallR X (.builtin "max") (fun vs H Q => ∃ i j k l m, vs = [.int i, .int j, .int k, .int l, .int m] ∧ ∀ M : Int, M ∈ [i, j, k, l, m] → (∀ a ∈ [i, j, k, l, m], a ≤ M) → Q (.int M) H) := by
  intro pins s σ H vs us Q I r h
  obtain ⟨i, j, k, l, m, rfl, q⟩ := h
  obtain ⟨t1, t2, t3, t4, t5, rfl⟩ := vals_ints5 r
  refine max_many (ns := [i, j, k, l, m]) (I.ok.hd hc) rfl ?_ (args_max5 _ _ _ _ _) (by size_fits) fun h' tk M t' kp h1 h2 => ⟨.int M, H, I.kept kp, ⟨_, rfl⟩, q M h1 h2⟩
  exact .cons _ _ (.cons _ _ (.cons _ _ (.cons _ _ (.cons _ _ .nil))))
variable [TbT]
/-- max(a, b, c, d, e) -/
theorem ee_max5 {X : Cx} {ex : Exs} {ρ : List O} {e1 e2 e3 e4 e5 : Expr} {i j k l m M : Int} {pos p : Pos} (hg : Gl X "max") (hm : X.mg "max" = none) (ha : EA X ex [e1, e2, e3, e4, e5] ρ [.int i, .int j, .int k, .int l, .int m]) (h1 : M ∈ [i, j, k, l, m]) (h2 : ∀ a ∈ [i, j, k, l, m], a ≤ M) (hc : X.calm = true := by rfl)
    (he : starEach [e1, e2, e3, e4, e5] X.env = (false, eval e1 X.env) :: starEach [e2, e3, e4, e5] X.env := by rfl) (hpl : (backTo pos (starEach [e2, e3, e4, e5] X.env)).any (·.1) = false := by rfl) : EE X ex (.Call (.Name "max" p) [e1, e2, e3, e4, e5] [] pos) ρ (.int M) :=
  ee_va (eo_blt (cr_max5 hc) (fun G H vs Q e r q => by
    cases r with
    | cons a1 r =>
      cases r with
      | cons a2 r =>
        cases r with
        | cons a3 r =>
          cases r with
          | cons a4 r =>
            cases r with
            | cons a5 r =>
              cases r; cases a1; cases a2; cases a3; cases a4; cases a5
              refine ⟨i, j, k, l, m, rfl, fun N n1 n2 => ?_⟩
              obtain rfl : N = M := Int.le_antisymm (h2 N n1) (n2 M h1)
              exact q _ (.va (.int _)) G H (.refl e) (.int _) rfl) hg hm (by decide +kernel) ha (by decide) (by decide) he hpl)
/-- f(..).clear(), the list a new one -/
theorem ws_clearE {X : Cx} {ex : Exs} {ρ : List O} {W : Eds} {e : Expr} {ds : List D} {cpos apos pos : Pos} (h : EO X ex e ρ (fun o => o = .ml ds)) (k : W.nx ρ) (hbase : attributeBase e "clear" X.env (eval e X.env) = eval e X.env := by rfl) (hline : (apos.endLine == cpos.line) = true := by rfl)
    (hs : swapsWith (.Call (.Attribute e "clear" apos) [] [] cpos) none pos.line X.env = pure false := by rfl) : WS X ex (.Expr (.Call (.Attribute e "clear" apos) [] [] cpos) pos) ρ W := ⟨fun E σ G H S => by
  refine of_ps (ps_expr (pe_bm0 PySem.F.plainAttrs_list PySem.F.slot_list_clear PySem.F.type_list_clear mt_clear sem_pe hbase hline) hs) ?_
  refine tSem_mono (h E σ G H S) fun v H1 ⟨o, G1, g, q, p⟩ => ?_
  subst p
  obtain ⟨a, xs, rfl, k1, k2, k3, r⟩ := q
  refine ⟨.inl ⟨rfl, xs, .inl (.inl k1)⟩, a, xs, rfl, rfl, k1, ?_⟩
  have g2 : Grow G H G1 (upd H1 a (.lst [])) := ⟨g.g, Ex.mut g.h k3, Ex.mut g.gh k2, g.fr, fun z => tb_lst (g.tb z) k1⟩
  exact ⟨_, G1, S.toSOk.grow g2, g.g, k⟩⟩
end TG
/-! Points; fixings and orbits; counting. -/
namespace TG
open PySem PySem.Spec PyProof.Rows L2
structure Pt where
  x : Rat
  y : Rat
deriving DecidableEq
instance : Inhabited Pt := ⟨⟨0, 0⟩⟩
abbrev ptD (p : Pt) : D := .tup [rq p.x, rq p.y]
theorem Pt.ext' {p q : Pt} (h : p.x = q.x) (k : p.y = q.y) : p = q := by cases p; cases q; simp only at h k; subst h k; rfl
theorem keyF_pt : KeyF ptD := ⟨fun _ => rfl, fun p q h => by
  injection h with h; injection h with h1 h; injection h with h2 _
  exact Pt.ext' (rat_py h1) (rat_py h2)⟩
def mvp (m : Mo) (p : Pt) : Pt := ⟨lx m.m p.x p.y + m.x, ly m.m p.x p.y + m.y⟩
def pst (p : Pt) : Pt := ⟨rfr p.x, rfr p.y⟩
def PEq (p q : Pt) : Prop := Eqz p.x q.x ∧ Eqz p.y q.y
theorem PEq.refl (p : Pt) : PEq p p := ⟨.refl _, .refl _⟩
theorem PEq.of {p q : Pt} (h : p = q) : PEq p q := h ▸ .refl p
theorem PEq.symm {p q : Pt} (h : PEq p q) : PEq q p := ⟨h.1.symm, h.2.symm⟩
theorem PEq.trans {p q r : Pt} (h : PEq p q) (k : PEq q r) : PEq p r := ⟨h.1.trans k.1, h.2.trans k.2⟩
theorem pst_iff {p q : Pt} : pst p = pst q ↔ PEq p q := by
  constructor
  · intro h
    have h1 : (pst p).x = (pst q).x := congrArg Pt.x h
    have h2 : (pst p).y = (pst q).y := congrArg Pt.y h
    exact ⟨Eqz.rfr.mp h1, Eqz.rfr.mp h2⟩
  · intro h
    exact Pt.ext' (Eqz.rfr.mpr h.1) (Eqz.rfr.mpr h.2)
theorem pst_eq (p : Pt) : PEq (pst p) p := ⟨Eqz.rst _, Eqz.rst _⟩
theorem pst_idem (p : Pt) : pst (pst p) = pst p := pst_iff.mpr (pst_eq p)
theorem mvp_thn (m n : Mo) (p : Pt) : mvp (mthn m n) p = mvp n (mvp m p) := by
  apply Pt.ext'
  · show lx (mmul m.m n.m) p.x p.y + (lx n.m m.x m.y + n.x) = lx n.m (lx m.m p.x p.y + m.x) (ly m.m p.x p.y + m.y) + n.x
    rw [lx_mul, lx_add]; grind
  · show ly (mmul m.m n.m) p.x p.y + (ly n.m m.x m.y + n.y) = ly n.m (lx m.m p.x p.y + m.x) (ly m.m p.x p.y + m.y) + n.y
    rw [ly_mul, ly_add]; grind
theorem mvp_id (p : Pt) : mvp MID p = p := by
  apply Pt.ext'
  · show lx MONE p.x p.y + 0 = p.x
    rw [lx_one]; grind
  · show ly MONE p.x p.y + 0 = p.y
    rw [ly_one]; grind
theorem PEq.mvp {m n : Mo} {p q : Pt} (h : Meq m n) (k : PEq p q) : PEq (TG.mvp m p) (TG.mvp n q) := by
  obtain ⟨h1, h2, h3⟩ := h
  obtain ⟨k1, k2⟩ := k
  refine ⟨?_, ?_⟩
  · show Eqz (lx m.m p.x p.y + m.x) (lx n.m q.x q.y + n.x)
    rw [h1]
    exact ((k1.imul _).add (k2.imul _)).add h2
  · show Eqz (ly m.m p.x p.y + m.y) (ly n.m q.x q.y + n.y)
    rw [h1]
    exact ((k1.imul _).add (k2.imul _)).add h3
/-! ### ascending -/
def kyP (L : Nat) (p : Pt) : D := .tup [.int (scl L p.x), .int (scl L p.y)]
def cmP (S : List Pt) : Nat := cmN (S.map (·.x) ++ S.map (·.y))
def ascP (S : List Pt) : List Pt := S.mergeSort fun a b => leD (kyP (cmP S) a) (kyP (cmP S) b)
theorem ascP_srt (S : List Pt) : srtK (S.map ptD) (S.map (kyP (cmP S))) = (ascP S).map ptD := srtK_map S
theorem ascP_p (S : List Pt) : (ascP S).Perm S := List.mergeSort_perm _ _
theorem ascP_mem {S : List Pt} {m : Pt} : m ∈ ascP S ↔ m ∈ S := (ascP_p S).mem_iff
theorem ascP_len (S : List Pt) : (ascP S).length = S.length := (ascP_p S).length_eq
theorem kyP_rows (L : Nat) (S : List Pt) : Rows (S.map (kyP L)) := rows_map (fun _ _ => rfl) (fun _ => ⟨_, _, rfl⟩)
/-! ### fixings and orbits -/
theorem eqz_den {a b : Rat} : (a - b).den = 1 ↔ Eqz a b := by
  constructor
  · intro h
    refine ⟨(a - b).num, ?_⟩
    have e := rat_num (p := a - b)
    rw [h] at e
    have : (((1 : Nat) : Int) : Rat) = 1 := rfl
    rw [this, Rat.mul_one] at e
    rw [e]; grind
  · rintro ⟨k, h⟩
    have : a - b = (k : Rat) := by rw [h]; grind
    rw [this]; rfl
def isFix (p : Pt) (m : Mo) : Bool := decide ((p.x - (mvp m p).x).den = 1) && decide ((p.y - (mvp m p).y).den = 1)
theorem isFix_iff {p : Pt} {m : Mo} : isFix p m = true ↔ PEq p (mvp m p) := by
  unfold isFix PEq
  rw [Bool.and_eq_true, decide_eq_true_iff, decide_eq_true_iff, eqz_den, eqz_den]
def shf (p : Pt) (m : Mo) : Mo := ⟨m.m, m.x + (p.x - (mvp m p).x), m.y + (p.y - (mvp m p).y)⟩
def fixM (S : List Mo) (p : Pt) : List Mo := (S.filter (isFix p)).map (shf p)
def orbM (S : List Mo) (p : Pt) : List Pt := once (S.map fun m => pst (mvp m p))
theorem mem_of_full {α : Type} [DecidableEq α] {A B : List α} (h : A.Nodup) (hs : ∀ x ∈ A, x ∈ B) (hl : B.length ≤ A.length) {x : α} (hx : x ∈ B) : x ∈ A := by
  by_cases z : x ∈ A
  · exact z
  · have := len_sub (F := x :: A) (S := B) (List.nodup_cons.mpr ⟨z, h⟩) (fun y hy => (List.mem_cons.mp hy).elim (fun e => by rw [e]; exact hx) (hs y))
    rw [List.length_cons] at this; omega
theorem Meq.cancel {a b m : Mo} (hm : Dt m.m) (h : Meq (mthn a m) (mthn b m)) : Meq a b := by
  have := h.thn (Meq.refl (mbck m))
  rw [mthn_assoc, mthn_assoc, mthn_bck hm, mthn_id, mthn_id] at this
  exact this
theorem IsG.inv {S : List Mo} (h : IsG S) {m : Mo} (hm : m ∈ S) : ∃ n ∈ S, Meq (mthn n m) MID ∧ Meq (mthn m n) MID := by
  have inj : ∀ x ∈ S, ∀ y ∈ S, mstl (mthn x m) = mstl (mthn y m) → x = y := fun x hx y hy e => by
    have := stl_iff.mpr (Meq.cancel (h.dt m hm) (stl_iff.mp e))
    rwa [h.st x hx, h.st y hy] at this
  have nd : (S.map fun n => mstl (mthn n m)).Nodup := nodup_map_of inj h.nd
  have := mem_of_full nd (fun x hx => by obtain ⟨n, hn, rfl⟩ := List.mem_map.mp hx; exact h.cl n hn m hm) (by rw [List.length_map]; exact Nat.le_refl _) h.id
  obtain ⟨n, hn, e⟩ := List.mem_map.mp this
  have e1 : Meq (mthn n m) MID := by
    have := (stl_eq (mthn n m)).symm
    rw [e] at this; exact this
  refine ⟨n, hn, e1, Meq.cancel (h.dt m hm) ?_⟩
  rw [mthn_assoc, id_mthn]
  have := (Meq.refl m).thn e1
  rw [mthn_id] at this
  exact this
theorem fibre {S : List Mo} (h : IsG S) (p : Pt) {m0 : Mo} (h0 : m0 ∈ S) : (S.filter fun m => decide (pst (mvp m p) = pst (mvp m0 p))).length = (S.filter (isFix p)).length := by
  obtain ⟨n0, hn, e1, e2⟩ := h.inv h0
  have inj : ∀ {m : Mo}, m ∈ S → ∀ x ∈ S, ∀ y ∈ S, mstl (mthn x m) = mstl (mthn y m) → x = y := fun {m} hm x hx y hy e => by
    have := stl_iff.mpr (Meq.cancel (h.dt m hm) (stl_iff.mp e))
    rwa [h.st x hx, h.st y hy] at this
  have mem : ∀ {P : Mo → Bool} {x : Mo}, x ∈ S.filter P → x ∈ S := fun hx => (List.mem_filter.mp hx).1
  refine Nat.le_antisymm ?_ ?_
  · have nd : ((S.filter fun m => decide (pst (mvp m p) = pst (mvp m0 p))).map fun n => mstl (mthn n n0)).Nodup := nodup_map_of (fun x hx y hy => inj hn x (mem hx) y (mem hy)) (h.nd.filter _)
    have := len_sub nd (S := S.filter (isFix p)) fun x hx => by
      obtain ⟨n, hnn, rfl⟩ := List.mem_map.mp hx
      obtain ⟨a, b⟩ := List.mem_filter.mp hnn
      refine List.mem_filter.mpr ⟨h.cl n a n0 hn, isFix_iff.mpr ?_⟩
      have q := pst_iff.mp (of_decide_eq_true b)
      have r := (PEq.mvp (Meq.refl n0) q)
      rw [← mvp_thn, ← mvp_thn] at r
      have s := PEq.mvp e2 (.refl p)
      rw [mvp_id] at s
      exact ((PEq.mvp (stl_eq _) (.refl p)).trans (r.trans s)).symm
    rwa [List.length_map] at this
  · have nd : ((S.filter (isFix p)).map fun n => mstl (mthn n m0)).Nodup := nodup_map_of (fun x hx y hy => inj h0 x (mem hx) y (mem hy)) (h.nd.filter _)
    have := len_sub nd (S := S.filter fun m => decide (pst (mvp m p) = pst (mvp m0 p))) fun x hx => by
      obtain ⟨n, hnn, rfl⟩ := List.mem_map.mp hx
      obtain ⟨a, b⟩ := List.mem_filter.mp hnn
      refine List.mem_filter.mpr ⟨h.cl n a m0 h0, decide_eq_true (pst_iff.mpr ?_)⟩
      have r := PEq.mvp (stl_eq (mthn n m0)) (.refl p)
      rw [mvp_thn] at r
      exact r.trans (PEq.mvp (.refl m0) (isFix_iff.mp b).symm)
    rwa [List.length_map] at this
theorem sum_one {β : Type} [DecidableEq β] (q : β) : ∀ {ks : List β}, ks.Nodup → (ks.map fun k => if q = k then 1 else 0).sum = if q ∈ ks then 1 else 0
  | [], _ => rfl
  | k :: ks, h => by
    rw [List.nodup_cons] at h
    rw [List.map_cons, List.sum_cons, sum_one q h.2]
    by_cases e : q = k
    · subst e
      rw [if_pos rfl, if_neg h.1, if_pos List.mem_cons_self]
    · rw [if_neg e]
      by_cases m : q ∈ ks
      · rw [if_pos m, if_pos (List.mem_cons_of_mem _ m)]
      · rw [if_neg m, if_neg fun z => (List.mem_cons.mp z).elim e m]
theorem sum_add {β : Type} (f g : β → Nat) : ∀ ks : List β, (ks.map fun k => f k + g k).sum = (ks.map f).sum + (ks.map g).sum
  | [] => rfl
  | k :: ks => by rw [List.map_cons, List.map_cons, List.map_cons, List.sum_cons, List.sum_cons, List.sum_cons, sum_add f g ks]; omega
theorem sum_const {β : Type} {f : β → Nat} {c : Nat} : ∀ {ks : List β}, (∀ k ∈ ks, f k = c) → (ks.map f).sum = c * ks.length
  | [], _ => rfl
  | k :: ks, h => by rw [List.map_cons, List.sum_cons, h k List.mem_cons_self, sum_const fun k hk => h k (List.mem_cons_of_mem _ hk), List.length_cons, Nat.mul_succ, Nat.add_comm]
theorem count_by {α β : Type} [DecidableEq β] (h : α → β) {ks : List β} (hk : ks.Nodup) : ∀ {l : List α}, (∀ x ∈ l, h x ∈ ks) → l.length = (ks.map fun q => (l.filter fun x => decide (h x = q)).length).sum
  | [], _ => by
    symm
    have := sum_const (f := fun q => (([] : List α).filter fun x => decide (h x = q)).length) (c := 0) (ks := ks) (fun _ _ => rfl)
    rw [this, Nat.zero_mul]; rfl
  | x :: l, hl => by
    have ih := count_by h hk (l := l) fun y hy => hl y (List.mem_cons_of_mem _ hy)
    have e : (ks.map fun q => ((x :: l).filter fun x => decide (h x = q)).length) = ks.map fun q => (if h x = q then 1 else 0) + (l.filter fun x => decide (h x = q)).length := List.map_congr_left fun q _ => by
      by_cases z : h x = q
      · rw [List.filter_cons_of_pos (by exact decide_eq_true z), List.length_cons, if_pos z, Nat.add_comm]
      · rw [List.filter_cons_of_neg (by rw [decide_eq_false z]; exact Bool.false_ne_true), if_neg z, Nat.zero_add]
    rw [e, sum_add, sum_one _ hk, if_pos (hl x List.mem_cons_self), ← ih, List.length_cons, Nat.add_comm]
theorem orbit_stab {S : List Mo} (h : IsG S) (p : Pt) : (fixM S p).length * (orbM S p).length = S.length := by
  have hk := nodup_once (S.map fun m => pst (mvp m p))
  have e := count_by (fun m => pst (mvp m p)) hk (l := S) fun m hm => mem_once.mpr (List.mem_map.mpr ⟨m, hm, rfl⟩)
  rw [sum_const (c := (S.filter (isFix p)).length) fun q hq => by
    obtain ⟨m0, h0, rfl⟩ := List.mem_map.mp (mem_once.mp hq)
    exact fibre h p h0] at e
  unfold fixM orbM
  rw [List.length_map]
  exact e.symm
end TG
/-! The pure shifts among settled movements, the own basis, movements told in it. -/
namespace TG
open PySem PySem.Spec PyProof.Rows L2
/-- settled movements that are closed; pure shifts may be among them -/
structure IsC (S : List Mo) : Prop where
  nd : S.Nodup
  id : MID ∈ S
  cl : ∀ m ∈ S, ∀ n ∈ S, mstl (mthn m n) ∈ S
  st : ∀ m ∈ S, mstl m = m
  dt : ∀ m ∈ S, Dt m.m
theorem isC_of_run {bad : List Mo → Mo → Bool} {T R : List Mo} (h : Run (fun c m => mstl (mthn c m)) bad T [MID] [MID] (some R)) (hd : ∀ m ∈ T, Dt m.m) : IsC R := by
  have hW : ∀ x ∈ [MID], x ∈ [MID] := fun _ h => h
  have hc := h.closed (fun x hx hn => absurd hx hn) R rfl
  have hst : ∀ m ∈ R, mstl m = m := h.all hW (Q := fun m => mstl m = m) (fun x hx => by rw [List.mem_singleton.mp hx]; exact stl_id) (fun x m _ _ => stl_idem _) rfl
  refine ⟨h.nodup hW (List.nodup_cons.mpr ⟨List.not_mem_nil, .nil⟩) rfl, hc.1 _ (List.mem_singleton.mpr rfl), fun m hm n hn => ?_, hst, ?_⟩
  · have q := h.all hW (Q := fun n => ∀ m ∈ R, mstl (mthn m n) ∈ R) (fun x hx m hm => by rw [List.mem_singleton.mp hx, mthn_id, hst m hm]; exact hm) (fun x s hx hs m hm => by
      rw [stl_thn_r, ← mthn_assoc, ← stl_thn_l]
      exact hc.2 _ (hx m hm) s hs) rfl
    exact q n hn m hm
  · exact h.all hW (Q := fun m => Dt m.m) (fun x hx => by rw [List.mem_singleton.mp hx]; exact .inl rfl) (fun x m hx hm => hx.mul (hd m hm)) rfl
theorem IsG.isC {S : List Mo} (h : IsG S) : IsC S := ⟨h.nd, h.id, h.cl, h.st, h.dt⟩
theorem IsC.perm {A B : List Mo} (h : IsC A) (p : A.Perm B) : IsC B :=
  ⟨p.nodup_iff.mp h.nd, p.mem_iff.mp h.id, fun m hm n hn => p.mem_iff.mp (h.cl m (p.mem_iff.mpr hm) n (p.mem_iff.mpr hn)), fun m hm => h.st m (p.mem_iff.mpr hm), fun m hm => h.dt m (p.mem_iff.mpr hm)⟩
theorem IsC.bck {S : List Mo} (h : IsC S) {m : Mo} (hm : m ∈ S) : mstl (mbck m) ∈ S := by
  have inj : ∀ x ∈ S, ∀ y ∈ S, mstl (mthn x m) = mstl (mthn y m) → x = y := fun x hx y hy e => by
    have := stl_iff.mpr (Meq.cancel (h.dt m hm) (stl_iff.mp e))
    rwa [h.st x hx, h.st y hy] at this
  have nd : (S.map fun n => mstl (mthn n m)).Nodup := nodup_map_of inj h.nd
  have := mem_of_full nd (fun x hx => by obtain ⟨n, hn, rfl⟩ := List.mem_map.mp hx; exact h.cl n hn m hm) (by rw [List.length_map]; exact Nat.le_refl _) h.id
  obtain ⟨n, hn, e⟩ := List.mem_map.mp this
  have e1 : Meq (mthn n m) MID := by
    have := (stl_eq (mthn n m)).symm
    rw [e] at this; exact this
  have e2 : Meq n (mbck m) := Meq.cancel (h.dt m hm) (by rw [bck_mthn (h.dt m hm)]; exact e1)
  rw [← stl_iff.mpr e2, h.st n hn]
  exact hn
/-! ### the pure shifts -/
abbrev pmv (s t : Rat) : Mo := ⟨MONE, s, t⟩
theorem pmv_thn (s t u v : Rat) : mthn (pmv s t) (pmv u v) = pmv (s + u) (t + v) := by
  apply Mo.ext'
  · exact mmul_one _
  · show lx MONE s t + u = s + u
    rw [lx_one]
  · show ly MONE s t + v = t + v
    rw [ly_one]
theorem pmv_bck (s t : Rat) : mbck (pmv s t) = pmv (-s) (-t) := by
  have e : mrev MONE = MONE := rfl
  apply Mo.ext'
  · exact e
  · show 0 - lx (mrev MONE) s t = -s
    rw [e, lx_one]; grind
  · show 0 - ly (mrev MONE) s t = -t
    rw [e, ly_one]; grind
theorem pmv_led (m : Mo) (s t : Rat) : mthn (pmv s t) m = mthn m (pmv (lx m.m s t) (ly m.m s t)) := by
  apply Mo.ext'
  · show mmul MONE m.m = mmul m.m MONE
    rw [one_mmul, mmul_one]
  · show lx m.m s t + m.x = lx MONE m.x m.y + lx m.m s t
    rw [lx_one]; grind
  · show ly m.m s t + m.y = ly MONE m.x m.y + ly m.m s t
    rw [ly_one]; grind
def Lam (S : List Mo) (s t : Rat) : Prop := mstl (pmv s t) ∈ S
structure Lat (L : Rat → Rat → Prop) : Prop where
  zero : L 0 0
  add : ∀ s t u v, L s t → L u v → L (s + u) (t + v)
  neg : ∀ s t, L s t → L (-s) (-t)
  int : ∀ (s t : Rat) (k l : Int), L s t → L (s + (k : Rat)) (t + (l : Rat))
theorem IsC.lat {S : List Mo} (h : IsC S) : Lat (Lam S) := by
  refine ⟨?_, fun s t u v a b => ?_, fun s t a => ?_, fun s t k l a => ?_⟩
  · show mstl MID ∈ S
    rw [stl_id]; exact h.id
  · have := h.cl _ a _ b
    rw [stl_thn_l, stl_thn_r, pmv_thn] at this
    exact this
  · have := h.bck a
    have e : Meq (mbck (mstl (pmv s t))) (mbck (pmv s t)) := by
      refine Meq.cancel (m := pmv s t) (.inl rfl) ?_
      rw [bck_mthn (.inl rfl)]
      refine ((Meq.refl _).thn (stl_eq (pmv s t)).symm).trans ?_
      rw [bck_mthn (.inl rfl)]
      exact .refl _
    rw [stl_iff.mpr e, pmv_bck] at this
    exact this
  · unfold Lam at *
    rw [show mstl (pmv (s + (k : Rat)) (t + (l : Rat))) = mstl (pmv s t) from stl_iff.mpr ⟨rfl, Eqz.int _ _, Eqz.int _ _⟩]
    exact a
theorem IsC.led {S : List Mo} (h : IsC S) {m : Mo} (hm : m ∈ S) {s t : Rat} (a : Lam S s t) : Lam S (lx m.m s t) (ly m.m s t) := by
  have b := h.cl _ (h.bck hm) _ (h.cl _ a m hm)
  rw [stl_thn_l, stl_thn_r, stl_iff.mpr ((Meq.refl (mbck m)).thn ((stl_eq (pmv s t)).thn (.refl m))), pmv_led, ← mthn_assoc, bck_mthn (h.dt m hm), id_mthn] at b
  exact b
theorem Lam.of {S : List Mo} (h : IsC S) {m : Mo} (hm : m ∈ S) (e : m.m = MONE) : Lam S m.x m.y := by
  unfold Lam
  rw [show pmv m.x m.y = m from Mo.ext' e.symm rfl rfl, h.st m hm]
  exact hm
theorem Lat.nmul {L : Rat → Rat → Prop} (h : Lat L) {s t : Rat} (a : L s t) : ∀ n : Nat, L ((n : Rat) * s) ((n : Rat) * t)
  | 0 => by
    have e : ∀ q : Rat, ((0 : Nat) : Rat) * q = 0 := fun q => by rw [show ((0 : Nat) : Rat) = 0 from rfl]; grind
    rw [e, e]; exact h.zero
  | n + 1 => by
    have e : ∀ q : Rat, ((n + 1 : Nat) : Rat) * q = (n : Rat) * q + q := fun q => by rw [show ((n + 1 : Nat) : Rat) = (n : Rat) + 1 from Rat.natCast_add n 1]; grind
    rw [e, e]; exact h.add _ _ _ _ (h.nmul a n) a
theorem Lat.imul {L : Rat → Rat → Prop} (h : Lat L) {s t : Rat} (a : L s t) (k : Int) : L ((k : Rat) * s) ((k : Rat) * t) := by
  rcases Int.eq_nat_or_neg k with ⟨n, rfl | rfl⟩
  · exact h.nmul a n
  · have e : ∀ q : Rat, ((-(n : Int) : Int) : Rat) * q = -((n : Rat) * q) := fun q => by rw [Rat.intCast_neg, show (((n : Int)) : Rat) = (n : Rat) from rfl]; grind
    rw [e, e]; exact h.neg _ _ (h.nmul a n)
theorem Lat.ints {L : Rat → Rat → Prop} (h : Lat L) (k l : Int) : L (k : Rat) (l : Rat) := by
  have := h.int 0 0 k l h.zero
  rwa [Rat.zero_add, Rat.zero_add] at this
theorem Lat.sub {L : Rat → Rat → Prop} (h : Lat L) {s t u v : Rat} (a : L s t) (b : L u v) : L (s - u) (t - v) := by
  rw [Rat.sub_eq_add_neg, Rat.sub_eq_add_neg]
  exact h.add _ _ _ _ a (h.neg _ _ b)
/-! ### the own basis -/
/-- (x, 0) and (y, z): x, z least -/
structure Bas (L : Rat → Rat → Prop) (x y z : Rat) : Prop where
  x0 : 0 < x
  z0 : 0 < z
  lx : L x 0
  ly : L y z
  mx : ∀ s, L s 0 → 0 < s → x ≤ s
  mz : ∀ s t, L s t → 0 < t → z ≤ t
theorem div_rest {q z : Rat} (hz : 0 < z) : ∃ k : Int, 0 ≤ q - (k : Rat) * z ∧ q - (k : Rat) * z < z := by
  have hr := rfr_rng (q / z)
  have he := rfr_eq (q / z)
  generalize (q / z).num / ((q / z).den : Int) = k at he
  generalize rfr (q / z) = r at *
  have hz' : z ≠ 0 := fun e => by rw [e] at hz; exact absurd hz (by decide)
  have hq : q = r * z + (k : Rat) * z := by
    have : q = q / z * z := (Rat.div_mul_cancel hz').symm
    rw [he] at this
    rw [this]; grind
  refine ⟨k, ?_, ?_⟩
  · rw [hq, show r * z + (k : Rat) * z - (k : Rat) * z = r * z by grind]
    exact Rat.mul_nonneg hr.1 (Rat.le_of_lt hz)
  · rw [hq, show r * z + (k : Rat) * z - (k : Rat) * z = r * z by grind]
    have := Rat.mul_lt_mul_of_pos_right hr.2 hz
    rwa [Rat.one_mul] at this
section
variable {L : Rat → Rat → Prop} {x y z : Rat}
theorem Bas.div_z (h : Lat L) (B : Bas L x y z) {s t : Rat} (a : L s t) : ∃ k : Int, t = (k : Rat) * z := by
  obtain ⟨k, h1, h2⟩ := div_rest (q := t) B.z0
  refine ⟨k, ?_⟩
  have b := h.sub a (h.imul B.ly k)
  rcases Rat.le_iff_lt_or_eq.mp h1 with c | c
  · exact absurd (B.mz _ _ b c) (by rw [Rat.not_le]; exact h2)
  · grind
theorem Bas.div_x (h : Lat L) (B : Bas L x y z) {s : Rat} (a : L s 0) : ∃ k : Int, s = (k : Rat) * x := by
  obtain ⟨k, h1, h2⟩ := div_rest (q := s) B.x0
  refine ⟨k, ?_⟩
  have b := h.sub a (h.imul B.lx k)
  rw [show (0 : Rat) - (k : Rat) * 0 = 0 by grind] at b
  rcases Rat.le_iff_lt_or_eq.mp h1 with c | c
  · exact absurd (B.mx _ b c) (by rw [Rat.not_le]; exact h2)
  · grind
theorem Bas.coords (h : Lat L) (B : Bas L x y z) {s t : Rat} (a : L s t) : ∃ k l : Int, s = (k : Rat) * x + (l : Rat) * y ∧ t = (l : Rat) * z := by
  obtain ⟨l, hl⟩ := B.div_z h a
  have b := h.sub a (h.imul B.ly l)
  rw [hl, show (l : Rat) * z - (l : Rat) * z = 0 by grind] at b
  obtain ⟨k, hk⟩ := B.div_x h b
  exact ⟨k, l, by rw [← hk]; grind, hl⟩
theorem Bas.of (h : Lat L) (B : Bas L x y z) (k l : Int) : L ((k : Rat) * x + (l : Rat) * y) ((l : Rat) * z) := by
  have := h.add _ _ _ _ (h.imul B.lx k) (h.imul B.ly l)
  rwa [show (k : Rat) * 0 + (l : Rat) * z = (l : Rat) * z by grind] at this
/-- y may be moved by whole x -/
theorem Bas.move (h : Lat L) (B : Bas L x y z) (k : Int) : Bas L x (y - (k : Rat) * x) z := by
  refine ⟨B.x0, B.z0, B.lx, ?_, B.mx, B.mz⟩
  have := h.sub B.ly (h.imul B.lx k)
  rwa [show z - (k : Rat) * 0 = z by grind] at this
/-- .. and is alone between 0 and x -/
theorem Bas.uniq (h : Lat L) {y' : Rat} (B : Bas L x y z) (B' : Bas L x y' z) (h1 : 0 ≤ y ∧ y < x) (h2 : 0 ≤ y' ∧ y' < x) : y = y' := by
  have key : ∀ {u v : Rat}, L u z → L v z → 0 ≤ u → v < x → ¬ u < v := fun {u v} a b hu hv c => by
    have d := h.sub b a
    rw [show z - z = 0 by grind] at d
    have := B.mx _ d (by grind)
    grind
  have a := key B.ly B'.ly h1.1 h2.2
  have b := key B'.ly B.ly h2.1 h1.2
  grind
end
/-! ### told in a basis -/
section
variable {x y z : Rat}
/-- n tells m -/
structure Tl (x y z : Rat) (m n : Mo) : Prop where
  a : (m.m.a : Rat) * x = (n.m.a : Rat) * x + (n.m.c : Rat) * y
  c : (m.m.c : Rat) * x = (n.m.c : Rat) * z
  b : (m.m.a : Rat) * y + (m.m.b : Rat) * z = (n.m.b : Rat) * x + (n.m.d : Rat) * y
  d : (m.m.c : Rat) * y + (m.m.d : Rat) * z = (n.m.d : Rat) * z
  s : m.x = n.x * x + n.y * y
  t : m.y = n.y * z
theorem Tl.thn {m n m' n' : Mo} (h : Tl x y z m n) (k : Tl x y z m' n') : Tl x y z (mthn m m') (mthn n n') := by
  obtain ⟨h1, h2, h3, h4, h5, h6⟩ := h
  obtain ⟨k1, k2, k3, k4, k5, k6⟩ := k
  obtain ⟨⟨a, b, c, d⟩, s, t⟩ := m
  obtain ⟨⟨e, f, g, i⟩, u, v⟩ := n
  obtain ⟨⟨a', b', c', d'⟩, s', t'⟩ := m'
  obtain ⟨⟨e', f', g', i'⟩, u', v'⟩ := n'
  simp only at h1 h2 h3 h4 h5 h6 k1 k2 k3 k4 k5 k6
  refine ⟨?_, ?_, ?_, ?_, ?_, ?_⟩
  · show ((a' * a + b' * c : Int) : Rat) * x = ((e' * e + f' * g : Int) : Rat) * x + ((g' * e + i' * g : Int) : Rat) * y
    simp only [Rat.intCast_add, Rat.intCast_mul]
    grind
  · show ((c' * a + d' * c : Int) : Rat) * x = ((g' * e + i' * g : Int) : Rat) * z
    simp only [Rat.intCast_add, Rat.intCast_mul]
    grind
  · show ((a' * a + b' * c : Int) : Rat) * y + ((a' * b + b' * d : Int) : Rat) * z = ((e' * f + f' * i : Int) : Rat) * x + ((g' * f + i' * i : Int) : Rat) * y
    simp only [Rat.intCast_add, Rat.intCast_mul]
    grind
  · show ((c' * a + d' * c : Int) : Rat) * y + ((c' * b + d' * d : Int) : Rat) * z = ((g' * f + i' * i : Int) : Rat) * z
    simp only [Rat.intCast_add, Rat.intCast_mul]
    grind
  · show (a' : Rat) * s + (b' : Rat) * t + s' = ((e' : Rat) * u + (f' : Rat) * v + u') * x + ((g' : Rat) * u + (i' : Rat) * v + v') * y
    grind
  · show (c' : Rat) * s + (d' : Rat) * t + t' = ((g' : Rat) * u + (i' : Rat) * v + v') * z
    grind
theorem int_of {k l : Int} (hz : z ≠ 0) (h : (k : Rat) * z = (l : Rat) * z) : k = l := Rat.intCast_inj.mp (by
  have := congrArg (fun q => q / z) h
  simp only [Rat.mul_div_cancel hz] at this
  exact this)
theorem rat_of {p q : Rat} (hz : z ≠ 0) (h : p * z = q * z) : p = q := by
  have := congrArg (fun q => q / z) h
  simp only [Rat.mul_div_cancel hz] at this
  exact this
theorem Tl.uniq {m n n' : Mo} (hx : x ≠ 0) (hz : z ≠ 0) (h : Tl x y z m n) (k : Tl x y z m n') : n = n' := by
  have c : n.m.c = n'.m.c := int_of hz (h.c.symm.trans k.c)
  have d : n.m.d = n'.m.d := int_of hz (h.d.symm.trans k.d)
  have t : n.y = n'.y := rat_of hz (h.t.symm.trans k.t)
  have a : n.m.a = n'.m.a := int_of hx (by have := h.a.symm.trans k.a; rw [c] at this; grind)
  have b : n.m.b = n'.m.b := int_of hx (by have := h.b.symm.trans k.b; rw [d] at this; grind)
  have s : n.x = n'.x := rat_of hx (by have := h.s.symm.trans k.s; rw [t] at this; grind)
  exact Mo.ext' (Mx.ext' a b c d) s t
def tdy (z t : Rat) : Rat := t / z
def tdx (x y z s t : Rat) : Rat := (s - t / z * y) / x
theorem td_of {s t u v : Rat} (hx : x ≠ 0) (hz : z ≠ 0) (e1 : s = u * x + v * y) (e2 : t = v * z) : tdx x y z s t = u ∧ tdy z t = v := by
  have h2 : t / z = v := by rw [e2, Rat.mul_div_cancel hz]
  refine ⟨?_, h2⟩
  unfold tdx
  rw [h2, e1, show u * x + v * y - v * y = u * x by grind, Rat.mul_div_cancel hx]
theorem td_eq (hx : x ≠ 0) (hz : z ≠ 0) (s t : Rat) : s = tdx x y z s t * x + tdy z t * y ∧ t = tdy z t * z := by
  unfold tdx tdy
  refine ⟨?_, (Rat.div_mul_cancel hz).symm⟩
  rw [Rat.div_mul_cancel hx]
  grind
def told (x y z : Rat) (m : Mo) : Mo := ⟨⟨(tdx x y z ((m.m.a : Rat) * x) ((m.m.c : Rat) * x)).num, (tdx x y z ((m.m.a : Rat) * y + (m.m.b : Rat) * z) ((m.m.c : Rat) * y + (m.m.d : Rat) * z)).num, (tdy z ((m.m.c : Rat) * x)).num, (tdy z ((m.m.c : Rat) * y + (m.m.d : Rat) * z)).num⟩, tdx x y z m.x m.y, tdy z m.y⟩
theorem num_int (k : Int) : ((k : Rat)).num = k := rfl
section
variable {S : List Mo} (h : IsC S) (B : Bas (Lam S) x y z)
include h B
theorem Bas.nx : x ≠ 0 := fun e => by have := B.x0; rw [e] at this; exact absurd this (by decide)
theorem Bas.nz : z ≠ 0 := fun e => by have := B.z0; rw [e] at this; exact absurd this (by decide)
/-- the told matrix is whole -/
theorem told_int {m : Mo} (hm : m ∈ S) : ∃ k l i j : Int, (tdx x y z ((m.m.a : Rat) * x) ((m.m.c : Rat) * x) = k ∧ tdy z ((m.m.c : Rat) * x) = l) ∧ (tdx x y z ((m.m.a : Rat) * y + (m.m.b : Rat) * z) ((m.m.c : Rat) * y + (m.m.d : Rat) * z) = i ∧ tdy z ((m.m.c : Rat) * y + (m.m.d : Rat) * z) = j) := by
  have hx := Bas.nx h B
  have hz := Bas.nz h B
  obtain ⟨k, l, e1, e2⟩ := B.coords h.lat (h.led hm B.lx)
  obtain ⟨i, j, e3, e4⟩ := B.coords h.lat (h.led hm B.ly)
  rw [show lx m.m x 0 = (m.m.a : Rat) * x by unfold TG.lx; grind] at e1
  rw [show ly m.m x 0 = (m.m.c : Rat) * x by unfold TG.ly; grind] at e2
  exact ⟨k, l, i, j, td_of hx hz e1 e2, td_of hx hz e3 e4⟩
theorem told_tl {m : Mo} (hm : m ∈ S) : Tl x y z m (told x y z m) := by
  have hx := Bas.nx h B
  have hz := Bas.nz h B
  obtain ⟨k, l, i, j, ⟨e1, e2⟩, e3, e4⟩ := told_int h B hm
  have q1 := td_eq (y := y) hx hz ((m.m.a : Rat) * x) ((m.m.c : Rat) * x)
  have q2 := td_eq (y := y) hx hz ((m.m.a : Rat) * y + (m.m.b : Rat) * z) ((m.m.c : Rat) * y + (m.m.d : Rat) * z)
  have q3 := td_eq (y := y) hx hz m.x m.y
  rw [e1, e2] at q1
  rw [e3, e4] at q2
  unfold told
  rw [e1, e2, e3, e4]
  exact ⟨q1.1, q1.2, q2.1, q2.2, q3.1, q3.2⟩
theorem Tl.meq {m m' n n' : Mo} (k : Tl x y z m n) (k' : Tl x y z m' n') (e : Meq m m') : Meq n n' := by
  obtain ⟨e1, ⟨i, e2⟩, ⟨j, e3⟩⟩ := e
  obtain ⟨p, q, c1, c2⟩ := B.coords h.lat (h.lat.ints i j)
  have t : Tl x y z m ⟨n'.m, n'.x + (p : Rat), n'.y + (q : Rat)⟩ := by
    refine ⟨by rw [e1]; exact k'.a, by rw [e1]; exact k'.c, by rw [e1]; exact k'.b, by rw [e1]; exact k'.d, ?_, ?_⟩
    · show m.x = (n'.x + (p : Rat)) * x + (n'.y + (q : Rat)) * y
      rw [e2, k'.s, c1]; grind
    · show m.y = (n'.y + (q : Rat)) * z
      rw [e3, k'.t, c2]; grind
  rw [Tl.uniq (Bas.nx h B) (Bas.nz h B) k t]
  exact ⟨rfl, Eqz.int _ _, Eqz.int _ _⟩
theorem Tl.dt {m n : Mo} (k : Tl x y z m n) (hd : Dt m.m) : Dt n.m := by
  have hx := Bas.nx h B
  have hz := Bas.nz h B
  obtain ⟨k1, k2, k3, k4, _, _⟩ := k
  have e : (mdet m.m : Rat) * (x * z) = (mdet n.m : Rat) * (x * z) := by
    unfold mdet
    simp only [Rat.intCast_sub, Rat.intCast_mul]
    grind
  have hxz : x * z ≠ 0 := fun e => by
    rcases Rat.mul_eq_zero.mp e with e | e
    · exact hx e
    · exact hz e
  unfold Dt at *
  rwa [int_of hxz e] at hd
theorem told_pure {m : Mo} (hm : m ∈ S) (e : (told x y z m).m = MONE) : mstl (told x y z m) = MID := by
  have hx := Bas.nx h B
  have hz := Bas.nz h B
  obtain ⟨k1, k2, k3, k4, k5, k6⟩ := told_tl h B hm
  rw [e] at k1 k2 k3 k4
  have o1 : ((MONE.a : Int) : Rat) = 1 := rfl
  have o2 : ((MONE.b : Int) : Rat) = 0 := rfl
  have o3 : ((MONE.c : Int) : Rat) = 0 := rfl
  have o4 : ((MONE.d : Int) : Rat) = 1 := rfl
  rw [o1, o3] at k1
  rw [o3] at k2
  rw [o2, o4] at k3
  rw [o4] at k4
  have a : m.m.a = 1 := int_of hx (by rw [k1, show ((1 : Int) : Rat) = 1 from rfl]; grind)
  have c : m.m.c = 0 := int_of hx (by rw [k2, show ((0 : Int) : Rat) = 0 from rfl]; grind)
  rw [a, show ((1 : Int) : Rat) = 1 from rfl] at k3
  rw [c, show ((0 : Int) : Rat) = 0 from rfl] at k4
  have b : m.m.b = 0 := int_of hz (by rw [show ((0 : Int) : Rat) = 0 from rfl]; grind)
  have d : m.m.d = 1 := int_of hz (by rw [show ((1 : Int) : Rat) = 1 from rfl]; grind)
  obtain ⟨p, q, c1, c2⟩ := B.coords h.lat (Lam.of h hm (Mx.ext' a b c d))
  obtain ⟨t1, t2⟩ := td_of hx hz c1 c2
  refine (stl_iff.mpr ⟨e, ?_, ?_⟩).trans stl_id
  · show Eqz (tdx x y z m.x m.y) 0
    exact ⟨p, by rw [t1, Rat.zero_add]⟩
  · show Eqz (tdy z m.y) 0
    exact ⟨q, by rw [t2, Rat.zero_add]⟩
theorem told_isG : IsG (once (S.map fun m => mstl (told x y z m))) := by
  have hx := Bas.nx h B
  have hz := Bas.nz h B
  refine ⟨nodup_once _, ?_, fun m hm n hn => ?_, fun m hm => ?_, fun m hm e => ?_, fun m hm => ?_⟩
  · refine mem_once.mpr (List.mem_map.mpr ⟨MID, h.id, ?_⟩)
    have t : Tl x y z MID MID := by
      have o1 : ((MID.m.a : Int) : Rat) = 1 := rfl
      have o2 : ((MID.m.b : Int) : Rat) = 0 := rfl
      have o3 : ((MID.m.c : Int) : Rat) = 0 := rfl
      have o4 : ((MID.m.d : Int) : Rat) = 1 := rfl
      have o5 : MID.x = 0 := rfl
      have o6 : MID.y = 0 := rfl
      refine ⟨?_, ?_, ?_, ?_, ?_, ?_⟩
      · rw [o1, o3]; grind
      · rw [o3]; grind
      · rw [o1, o2, o4]; grind
      · rw [o3, o4]; grind
      · rw [o5, o6]; grind
      · rw [o6]; grind
    rw [Tl.uniq hx hz (told_tl h B h.id) t, stl_id]
  · obtain ⟨m', hm', rfl⟩ := List.mem_map.mp (mem_once.mp hm)
    obtain ⟨n', hn', rfl⟩ := List.mem_map.mp (mem_once.mp hn)
    have hw := h.cl m' hm' n' hn'
    refine mem_once.mpr (List.mem_map.mpr ⟨_, hw, ?_⟩)
    rw [stl_thn_l, stl_thn_r]
    exact stl_iff.mpr (Tl.meq h B (told_tl h B hw) ((told_tl h B hm').thn (told_tl h B hn')) (stl_eq _))
  · obtain ⟨m', _, rfl⟩ := List.mem_map.mp (mem_once.mp hm)
    exact stl_idem _
  · obtain ⟨m', hm', rfl⟩ := List.mem_map.mp (mem_once.mp hm)
    exact told_pure h B hm' e
  · obtain ⟨m', hm', rfl⟩ := List.mem_map.mp (mem_once.mp hm)
    exact (show Dt (told x y z m').m from Tl.dt h B (told_tl h B hm') (h.dt m' hm'))
end
/-! ### the least ones of a list -/
def lpt (vs : List Rat) : Rat := vs.foldl (fun r v => if 0 < v ∧ v < r then v else r) 1
theorem lpt_snoc (vs : List Rat) (v : Rat) : lpt (vs ++ [v]) = if 0 < v ∧ v < lpt vs then v else lpt vs := by
  unfold lpt; rw [List.foldl_append]; rfl
theorem lpt_ok (vs : List Rat) : (lpt vs = 1 ∨ lpt vs ∈ vs) ∧ 0 < lpt vs ∧ lpt vs ≤ 1 ∧ ∀ v ∈ vs, 0 < v → lpt vs ≤ v := by
  refine snoc_ind (P := fun vs => (lpt vs = 1 ∨ lpt vs ∈ vs) ∧ 0 < lpt vs ∧ lpt vs ≤ 1 ∧ ∀ v ∈ vs, 0 < v → lpt vs ≤ v) ⟨.inl rfl, by decide, by decide, fun v hv => by cases hv⟩ (fun vs v ih => ?_) vs
  · obtain ⟨i1, i2, i3, i4⟩ := ih
    rw [lpt_snoc]
    by_cases c : 0 < v ∧ v < lpt vs
    · rw [if_pos c]
      refine ⟨.inr (List.mem_append_right _ List.mem_cons_self), c.1, by grind, fun w hw h0 => ?_⟩
      rcases List.mem_append.mp hw with hw | hw
      · have := i4 w hw h0; grind
      · rw [List.mem_singleton.mp hw]; exact Rat.le_refl
    · rw [if_neg c]
      refine ⟨i1.elim .inl fun z => .inr (List.mem_append_left _ z), i2, i3, fun w hw h0 => ?_⟩
      rcases List.mem_append.mp hw with hw | hw
      · exact i4 w hw h0
      · rw [List.mem_singleton.mp hw] at h0 ⊢
        have : ¬ v < lpt vs := fun z => c ⟨h0, z⟩
        grind
def isPm (m : Mo) : Bool := decide (m.m = MONE)
def shp (S : List Mo) : List Pt := (S.filter isPm).map fun m => ⟨m.x, m.y⟩
def zOf (S : List Mo) : Rat := lpt ((shp S).map fun p : Pt => p.y)
def xOf (S : List Mo) : Rat := lpt (((shp S).filter fun p : Pt => decide (p.y = 0)).map fun p : Pt => p.x)
theorem mem_shp {S : List Mo} {p : Pt} : p ∈ shp S ↔ (⟨MONE, p.x, p.y⟩ : Mo) ∈ S := by
  unfold shp
  rw [List.mem_map]
  constructor
  · rintro ⟨m, hm, rfl⟩
    obtain ⟨h1, h2⟩ := List.mem_filter.mp hm
    rw [show (⟨MONE, m.x, m.y⟩ : Mo) = m from Mo.ext' (of_decide_eq_true h2).symm rfl rfl]
    exact h1
  · intro hm
    exact ⟨_, List.mem_filter.mpr ⟨hm, decide_eq_true rfl⟩, rfl⟩
theorem lam_shp {S : List Mo} (h : IsC S) {p : Pt} (hp : p ∈ shp S) : Lam S p.x p.y := Lam.of h (mem_shp.mp hp) rfl
theorem bas_of {S : List Mo} (h : IsC S) {q : Rat} (hq : (zOf S = 1 ∧ q = 0) ∨ (⟨q, zOf S⟩ : Pt) ∈ shp S) : Bas (Lam S) (xOf S) q (zOf S) := by
  obtain ⟨z1, z2, z3, z4⟩ := lpt_ok ((shp S).map fun p : Pt => p.y)
  obtain ⟨x1, x2, x3, x4⟩ := lpt_ok (((shp S).filter fun p : Pt => decide (p.y = 0)).map fun p : Pt => p.x)
  have unit : Lam S 1 0 ∧ Lam S 0 1 := ⟨h.lat.ints 1 0, h.lat.ints 0 1⟩
  refine ⟨x2, z2, ?_, ?_, fun s a hs => ?_, fun s t a ht => ?_⟩
  · rcases x1 with e | e
    · show Lam S (lpt _) 0; rw [e]; exact unit.1
    · obtain ⟨p, hp, e2⟩ := List.mem_map.mp e
      obtain ⟨hp1, hp2⟩ := List.mem_filter.mp hp
      have := lam_shp h hp1
      rw [of_decide_eq_true hp2] at this
      show Lam S (lpt _) 0
      rw [← e2]; exact this
  · rcases hq with ⟨e1, e2⟩ | hq
    · rw [e1, e2]; exact unit.2
    · exact lam_shp h hq
  · by_cases c : s < 1
    · have e : rfr s = s := rfr_self ⟨Rat.le_of_lt hs, c⟩
      have a' : (⟨MONE, s, 0⟩ : Mo) ∈ S := by
        have : mstl (pmv s 0) = ⟨MONE, s, 0⟩ := by
          unfold mstl pmv; simp only; rw [e]; rfl
        rw [← this]; exact a
      exact x4 s (List.mem_map.mpr ⟨⟨s, 0⟩, List.mem_filter.mpr ⟨mem_shp.mpr a', decide_eq_true rfl⟩, rfl⟩) hs
    · have : xOf S ≤ 1 := x3
      grind
  · by_cases c : t < 1
    · have e : rfr t = t := rfr_self ⟨Rat.le_of_lt ht, c⟩
      have a' : (⟨MONE, rfr s, t⟩ : Mo) ∈ S := by
        have : mstl (pmv s t) = ⟨MONE, rfr s, t⟩ := by
          unfold mstl pmv; simp only; rw [e]
        rw [← this]; exact a
      exact z4 t (List.mem_map.mpr ⟨⟨rfr s, t⟩, mem_shp.mpr a', rfl⟩) ht
    · have : zOf S ≤ 1 := z3
      grind
end
/-! ### sizes: numerators of j bits, denominators of k -/
structure Rx (j k : Nat) (q : Rat) : Prop where
  num : Sz j q.num
  den : Sz k (q.den : Int)
theorem Rx.mono {j k j' k' : Nat} {q : Rat} (h : Rx j k q) (l : j ≤ j') (l' : k ≤ k') : Rx j' k' q := ⟨h.num.mono l, h.den.mono l'⟩
theorem Rz.rx {k : Nat} {q : Rat} (h : Rz k q) : Rx k k q := ⟨h.num, h.den⟩
theorem rx_divInt {j k : Nat} {n d : Int} (h : d ≠ 0) (hn : Sz j n) (hd : Sz k d) : Rx j k (Rat.divInt n d) := by
  obtain ⟨h1, h2⟩ := fr_eq (rq_pos (Rat.divInt n d)) (rq_gcd _) h (rq_cross h)
  exact ⟨by rw [← h1]; exact hn.le (fN_le h), by rw [← h2]; exact hd.le (fD_le h)⟩
theorem Rx.add {j k j' k' : Nat} {p q : Rat} (h : Rx j k p) (l : Rx j' k' q) : Rx (max (j + k') (j' + k) + 1) (k + k') (p + q) := by
  rw [← rat_add]
  exact rx_divInt (mul_ne (rq_ne p) (rq_ne q)) ((h.num.mul l.den).add (l.num.mul h.den)) (h.den.mul l.den)
theorem Rx.sub {j k j' k' : Nat} {p q : Rat} (h : Rx j k p) (l : Rx j' k' q) : Rx (max (j + k') (j' + k) + 1) (k + k') (p - q) := by
  rw [← rat_sub]
  exact rx_divInt (mul_ne (rq_ne p) (rq_ne q)) ((h.num.mul l.den).sub (l.num.mul h.den)) (h.den.mul l.den)
theorem Rx.mul {j k j' k' : Nat} {p q : Rat} (h : Rx j k p) (l : Rx j' k' q) : Rx (j + j') (k + k') (p * q) := by
  rw [← rat_mul]
  exact rx_divInt (mul_ne (rq_ne p) (rq_ne q)) (h.num.mul l.num) (h.den.mul l.den)
theorem rat_dvd {p q : Rat} (h : q ≠ 0) : Rat.divInt (p.num * (q.den : Int)) ((p.den : Int) * q.num) = p / q := by
  have hq : q.num ≠ 0 := fun e => h (Rat.num_eq_zero.mp e)
  have e1 : (p.num : Rat) / ((p.den : Int) : Rat) = p := by rw [← rat_div]; exact Rat.num_divInt_den p
  have e2 : (q.num : Rat) / ((q.den : Int) : Rat) = q := by rw [← rat_div]; exact Rat.num_divInt_den q
  have n1 : ((p.den : Int) : Rat) ≠ 0 := fun e => rq_ne p (Rat.intCast_inj.mp e)
  have n2 : ((q.den : Int) : Rat) ≠ 0 := fun e => rq_ne q (Rat.intCast_inj.mp e)
  have n3 : (q.num : Rat) ≠ 0 := fun e => hq (Rat.intCast_inj.mp e)
  rw [rat_div, Rat.intCast_mul, Rat.intCast_mul]
  generalize (p.num : Rat) = a at *
  generalize ((p.den : Int) : Rat) = b at *
  generalize (q.num : Rat) = c at *
  generalize ((q.den : Int) : Rat) = d at *
  subst e1 e2
  grind
theorem Rx.div {j k j' k' : Nat} {p q : Rat} (h0 : q ≠ 0) (h : Rx j k p) (l : Rx j' k' q) : Rx (j + k') (k + j') (p / q) := by
  rw [← rat_dvd h0]
  exact rx_divInt (mul_ne (rq_ne p) fun e => h0 (Rat.num_eq_zero.mp e)) (h.num.mul l.den) (h.den.mul l.num)
theorem rx_int {j : Nat} {i : Int} (h : Sz j i) : Rx j 1 (i : Rat) := ⟨h, sz_lit rfl⟩
theorem Zs.rx {n : Nat} {q : Rat} (h : Zs n q) (hn : 65 ≤ n) : Rx n 65 q := by
  refine ⟨(h.rz hn).num, ?_⟩
  have := Nat.le_of_dvd (by decide) h.dv
  have h3 : (LL : Nat) < 2 ^ 65 := by decide
  unfold Sz
  rw [Int.natAbs_natCast]
  omega
/-! ### what the steps by movements with small denominators lead to -/
structure Dg (D : Nat) (m : Mo) : Prop where
  x : Dv D m.x
  y : Dv D m.y
theorem Dg.thn {D : Nat} (hD : 0 < D) {m n : Mo} (h : Dg D m) (k : Dg D n) : Dg D (mthn m n) :=
  ⟨((h.x.imul hD _).add hD (h.y.imul hD _)).add hD k.x, ((h.x.imul hD _).add hD (h.y.imul hD _)).add hD k.y⟩
theorem Dg.stl {D : Nat} {m : Mo} (h : Dg D m) : Dg D (mstl m) := ⟨h.x.rfr, h.y.rfr⟩
theorem Dg.bck {D : Nat} (hD : 0 < D) {m : Mo} (h : Dg D m) : Dg D (mbck m) := by
  refine ⟨?_, ?_⟩
  · show Dv D (0 - lx (mrev m.m) m.x m.y)
    rw [show ∀ q : Rat, 0 - q = -q from fun q => by grind]
    exact ((h.x.imul hD _).add hD (h.y.imul hD _)).neg
  · show Dv D (0 - ly (mrev m.m) m.x m.y)
    rw [show ∀ q : Rat, 0 - q = -q from fun q => by grind]
    exact ((h.x.imul hD _).add hD (h.y.imul hD _)).neg
theorem dg_id (D : Nat) : Dg D MID := ⟨Nat.one_dvd _, Nat.one_dvd _⟩
theorem dg_run {D : Nat} (hD : 0 < D) {bad : List Mo → Mo → Bool} {T R : List Mo} (h : Run (fun c m => mstl (mthn c m)) bad T [MID] [MID] (some R)) (hd : ∀ m ∈ T, Dg D m) : ∀ m ∈ R, Dg D m :=
  h.all (fun _ h => h) (Q := fun m => Dg D m) (fun x hx => by rw [List.mem_singleton.mp hx]; exact dg_id D) (fun x m hx hm => (hx.thn hD (hd m hm)).stl) rfl
/-! ### y, moved to lie ahead of x -/
noncomputable def red (x q : Rat) : Rat := x * rfr (q / x)
section
variable {x q : Rat} (hx : 0 < x)
include hx
theorem red_rng : 0 ≤ red x q ∧ red x q < x := by
  have r := rfr_rng (q / x)
  refine ⟨Rat.mul_nonneg (Rat.le_of_lt hx) r.1, ?_⟩
  have := Rat.mul_lt_mul_of_pos_right r.2 hx
  rw [Rat.one_mul] at this
  unfold red
  rw [Rat.mul_comm]; exact this
theorem red_self (h : 0 ≤ q ∧ q < x) : red x q = q := by
  have nx : x ≠ 0 := fun e => by rw [e] at hx; exact absurd hx (by decide)
  unfold red
  rw [rfr_self, Rat.mul_comm, Rat.div_mul_cancel nx]
  refine ⟨?_, ?_⟩
  · refine Rat.not_lt.mp fun c => ?_
    have := Rat.mul_lt_mul_of_pos_right c hx
    rw [Rat.div_mul_cancel nx, Rat.zero_mul] at this
    grind
  · exact Rat.div_lt_iff hx |>.mpr (by rw [Rat.one_mul]; exact h.2)
theorem red_step : red x (q - x) = red x q := by
  have nx : x ≠ 0 := fun e => by rw [e] at hx; exact absurd hx (by decide)
  unfold red
  congr 1
  refine (rfr_iff _ _).mpr ⟨-1, ?_⟩
  rw [show ((-1 : Int) : Rat) = -1 from rfl]
  grind
theorem red_eq : ∃ k : Int, red x q = q - (k : Rat) * x := by
  have nx : x ≠ 0 := fun e => by rw [e] at hx; exact absurd hx (by decide)
  have he := rfr_eq (q / x)
  refine ⟨(q / x).num / ((q / x).den : Int), ?_⟩
  unfold red
  generalize (q / x).num / ((q / x).den : Int) = k at he ⊢
  have : q = q / x * x := (Rat.div_mul_cancel nx).symm
  rw [he] at this
  grind
end
theorem Bas.red {S : List Mo} (h : IsC S) {x q z : Rat} (B : Bas (Lam S) x q z) : Bas (Lam S) x (TG.red x q) z := by
  obtain ⟨k, e⟩ := red_eq (q := q) B.x0
  rw [e]
  exact B.move h.lat k
theorem red_uniq {S : List Mo} (h : IsC S) {x q q' z : Rat} (B : Bas (Lam S) x q z) (B' : Bas (Lam S) x q' z) : TG.red x q = TG.red x q' :=
  Bas.uniq h.lat (B.red h) (B'.red h) (red_rng B.x0) (red_rng B.x0)
/-! ### the own basis of a list -/
def q0 (S : List Mo) : Rat := if zOf S = 1 then 0 else (((shp S).find? fun p => decide (p.y = zOf S)).map fun p : Pt => p.x).getD 0
theorem z_or (S : List Mo) (hz : ¬ zOf S = 1) : ∃ p ∈ shp S, p.y = zOf S := by
  rcases (lpt_ok ((shp S).map fun p : Pt => p.y)).1 with e | e
  · exact absurd e hz
  · obtain ⟨p, hp, e⟩ := List.mem_map.mp e
    exact ⟨p, hp, e⟩
theorem q0_ok (S : List Mo) : (zOf S = 1 ∧ q0 S = 0) ∨ (⟨q0 S, zOf S⟩ : Pt) ∈ shp S := by
  unfold q0
  by_cases hz : zOf S = 1
  · exact .inl ⟨hz, if_pos hz⟩
  · rw [if_neg hz]
    obtain ⟨p, hp, e⟩ := z_or S hz
    cases hf : (shp S).find? fun p => decide (p.y = zOf S) with
    | none => exact absurd (List.find?_eq_none.mp hf p hp) (by simp [e])
    | some r =>
      refine .inr ?_
      have h1 := List.mem_of_find?_eq_some hf
      have h2 : r.y = zOf S := of_decide_eq_true (by have := List.find?_some hf; exact this)
      show (⟨r.x, zOf S⟩ : Pt) ∈ shp S
      rw [← h2]; exact h1
noncomputable def yOf (S : List Mo) : Rat := red (xOf S) (q0 S)
theorem bas (S : List Mo) (h : IsC S) : Bas (Lam S) (xOf S) (yOf S) (zOf S) := (bas_of h (q0_ok S)).red h
theorem yOf_of {S : List Mo} (h : IsC S) {q : Rat} (hq : (zOf S = 1 ∧ q = 0) ∨ (⟨q, zOf S⟩ : Pt) ∈ shp S) : red (xOf S) q = yOf S := red_uniq h (bas_of h hq) (bas_of h (q0_ok S))
/-- what the defs of own bases are asked at -/
structure G5 (S : List Mo) : Prop where
  c : IsC S
  d : ∃ D : Nat, 0 < D ∧ D ≤ 24 ∧ ∀ m ∈ S, Dg D m
  ok : OkO 12000 65 S
  len : S.length ≤ 600
theorem rfr_ge (m : Mo) (h : mstl m = m) : (0 ≤ m.x ∧ m.x < 1) ∧ (0 ≤ m.y ∧ m.y < 1) := by
  have h1 : rfr m.x = m.x := congrArg Mo.x h
  have h2 : rfr m.y = m.y := congrArg Mo.y h
  exact ⟨by rw [← h1]; exact rfr_rng _, by rw [← h2]; exact rfr_rng _⟩
theorem dv_lpt {D : Nat} {vs : List Rat} (h : ∀ v ∈ vs, Dv D v) : Dv D (lpt vs) := by
  rcases (lpt_ok vs).1 with e | e
  · rw [e]; exact Nat.one_dvd _
  · exact h _ e
/-- a positive multiple of 1 / D -/
theorem big_of {D : Nat} (hD : 0 < D) (hD2 : D ≤ 24) {x : Rat} (hd : Dv D x) (h0 : 0 < x) (h1 : x ≤ 1) : Rz 5 x ∧ 1 ≤ 24 * x := by
  obtain ⟨k, e⟩ := dv_mul hd
  have hDr : (0 : Rat) < ((D : Int) : Rat) := Rat.intCast_pos.mpr (by omega)
  have hk : 0 < k := Rat.intCast_pos.mp (by rw [← e]; exact Rat.mul_pos h0 hDr)
  have hk1 : (1 : Rat) ≤ (k : Rat) := by
    rw [show (1 : Rat) = ((1 : Int) : Rat) from rfl]; exact Rat.intCast_le_intCast.mpr (by omega)
  have hD24 : ((D : Int) : Rat) ≤ 24 := by
    rw [show (24 : Rat) = ((24 : Int) : Rat) from rfl]; exact Rat.intCast_le_intCast.mpr (by omega)
  refine ⟨?_, ?_⟩
  · rcases Rat.le_iff_lt_or_eq.mp h1 with c | c
    · exact rz_of_rng hD (by show (D : Int) < 32; omega) hd ⟨Rat.le_of_lt h0, c⟩
    · rw [c]; exact ⟨sz_lit rfl, sz_lit rfl⟩
  · rw [← e] at hk1
    have := Rat.mul_le_mul_of_nonneg_left hD24 (Rat.le_of_lt h0)
    grind
structure Sizes (S : List Mo) : Prop where
  x : Rz 5 (xOf S) ∧ 1 ≤ 24 * xOf S
  z : Rz 5 (zOf S) ∧ 1 ≤ 24 * zOf S
  y : Rz 5 (yOf S)
  p : ∀ p ∈ shp S, (Rz 5 p.x ∧ Rz 5 p.y) ∧ (0 ≤ p.x ∧ p.x < 1) ∧ (0 ≤ p.y ∧ p.y < 1)
theorem G5.sizes {S : List Mo} (h : G5 S) : Sizes S := by
  obtain ⟨D, hD, hD2, hd⟩ := h.d
  have hp : ∀ p ∈ shp S, Dv D p.x ∧ Dv D p.y := fun p hp => ⟨(hd _ (mem_shp.mp hp)).x, (hd _ (mem_shp.mp hp)).y⟩
  have r : ∀ p ∈ shp S, (0 ≤ p.x ∧ p.x < 1) ∧ (0 ≤ p.y ∧ p.y < 1) := fun p hp => rfr_ge ⟨MONE, p.x, p.y⟩ (h.c.st _ (mem_shp.mp hp))
  have dx : Dv D (xOf S) := dv_lpt fun v hv => by
    obtain ⟨p, hp', rfl⟩ := List.mem_map.mp hv
    exact (hp p (List.mem_filter.mp hp').1).1
  have dz : Dv D (zOf S) := dv_lpt fun v hv => by
    obtain ⟨p, hp', rfl⟩ := List.mem_map.mp hv
    exact (hp p hp').2
  have ox := lpt_ok (((shp S).filter fun p : Pt => decide (p.y = 0)).map fun p : Pt => p.x)
  have oz := lpt_ok ((shp S).map fun p : Pt => p.y)
  have b24 : (D : Int) < 2 ^ 5 := by show (D : Int) < 32; omega
  refine ⟨big_of hD hD2 dx ox.2.1 ox.2.2.1, big_of hD hD2 dz oz.2.1 oz.2.2.1, ?_, fun p hp' => ⟨⟨rz_of_rng hD b24 (hp p hp').1 (r p hp').1, rz_of_rng hD b24 (hp p hp').2 (r p hp').2⟩, r p hp'⟩⟩
  have hq : Dv D (q0 S) := by
    rcases q0_ok S with ⟨_, e⟩ | e
    · rw [e]; exact Nat.one_dvd _
    · exact (hp _ e).1
  obtain ⟨k, e⟩ := red_eq (q := q0 S) ox.2.1
  have hy : Dv D (yOf S) := by
    show Dv D (red (xOf S) (q0 S))
    rw [show red (xOf S) (q0 S) = q0 S - (k : Rat) * xOf S from e, Rat.sub_eq_add_neg]
    exact hq.add hD (dx.imul hD k).neg
  have rr := red_rng (q := q0 S) ox.2.1
  exact rz_of_rng hD b24 hy ⟨rr.1, by have h1 : xOf S ≤ 1 := ox.2.2.1; have h2 : yOf S < xOf S := rr.2; grind⟩
theorem lpt_next {vs : List Rat} {k : Nat} (h : k < vs.length) : lpt (vs.take (k + 1)) = if 0 < vs.getD k 0 ∧ vs.getD k 0 < lpt (vs.take k) then vs.getD k 0 else lpt (vs.take k) := by
  rw [List.take_succ, List.getElem?_eq_getElem h]
  show lpt (vs.take k ++ [vs[k]]) = _
  rw [lpt_snoc]
  simp [List.getD, h]
theorem den_told {S : List Mo} {D : Nat} (hD : 0 < D) (hD2 : D ≤ 24) {m : Mo} (hm : Dg D m) (h : G5 S) (hd : ∀ m ∈ S, Dg D m) : Dv LL (tdx (xOf S) (yOf S) (zOf S) m.x m.y) ∧ Dv LL (tdy (zOf S) m.y) := by
  have B := bas S h.c
  have nx := Bas.nx h.c B
  have nz := Bas.nz h.c B
  have ox := lpt_ok (((shp S).filter fun p : Pt => decide (p.y = 0)).map fun p : Pt => p.x)
  have oz := lpt_ok ((shp S).map fun p : Pt => p.y)
  have hp : ∀ p ∈ shp S, Dv D p.x ∧ Dv D p.y := fun p hp => ⟨(hd _ (mem_shp.mp hp)).x, (hd _ (mem_shp.mp hp)).y⟩
  have dx : Dv D (xOf S) := dv_lpt fun v hv => by
    obtain ⟨p, hp', rfl⟩ := List.mem_map.mp hv
    exact (hp p (List.mem_filter.mp hp').1).1
  have dz : Dv D (zOf S) := dv_lpt fun v hv => by
    obtain ⟨p, hp', rfl⟩ := List.mem_map.mp hv
    exact (hp p hp').2
  have hq : Dv D (q0 S) := by
    rcases q0_ok S with ⟨_, e⟩ | e
    · rw [e]; exact Nat.one_dvd _
    · exact (hp _ e).1
  have hy : Dv D (yOf S) := by
    obtain ⟨k, e⟩ := red_eq (q := q0 S) ox.2.1
    show Dv D (red (xOf S) (q0 S))
    rw [show red (xOf S) (q0 S) = q0 S - (k : Rat) * xOf S from e, Rat.sub_eq_add_neg]
    exact hq.add hD (dx.imul hD k).neg
  have hDr : (0 : Rat) < ((D : Int) : Rat) := Rat.intCast_pos.mpr (by omega)
  have part : ∀ {v : Rat}, Dv D v → 0 < v → v ≤ 1 → ∃ k : Nat, v * ((D : Int) : Rat) = ((k : Int) : Rat) ∧ 0 < k ∧ k ≤ 24 := fun {v} a b c => by
    obtain ⟨k, e⟩ := dv_mul a
    have hk : 0 < k := Rat.intCast_pos.mp (by rw [← e]; exact Rat.mul_pos b hDr)
    have hk2 : k ≤ (D : Int) := Rat.intCast_le_intCast.mp (by
      rw [← e]
      have := Rat.mul_le_mul_of_nonneg_right c (Rat.le_of_lt hDr)
      rwa [Rat.one_mul] at this)
    exact ⟨k.toNat, by rw [e, show ((k.toNat : Nat) : Int) = k by omega], by omega, by omega⟩
  obtain ⟨p, ep, p0, p1⟩ := part dx ox.2.1 ox.2.2.1
  obtain ⟨q, eq, q0', q1⟩ := part dz oz.2.1 oz.2.2.1
  obtain ⟨υ, ey⟩ := dv_mul hy
  obtain ⟨σ, es⟩ := dv_mul hm.x
  obtain ⟨τ, et⟩ := dv_mul hm.y
  have e2 : tdy (zOf S) m.y * ((q : Int) : Rat) = (τ : Rat) := by
    unfold tdy
    rw [← eq, ← et, ← Rat.mul_assoc, Rat.div_mul_cancel nz]
  have e1 : tdx (xOf S) (yOf S) (zOf S) m.x m.y * (((q * p : Nat) : Int) : Rat) = ((σ * (q : Int) - τ * υ : Int) : Rat) := by
    have t1 := (td_eq (y := yOf S) nx nz m.x m.y).1
    rw [Int.natCast_mul, Rat.intCast_mul, Rat.intCast_sub, Rat.intCast_mul, Rat.intCast_mul, ← ep, ← es, ← e2, ← ey]
    grind
  refine ⟨dv_small2 q1 q0' p1 p0 (rat_of_mul (Nat.mul_pos q0' p0) _ e1), dv_small2 (j := 1) q1 q0' (by decide) (by decide) ?_⟩
  rw [Nat.mul_one]
  exact rat_of_mul q0' _ e2
theorem sz_told {S : List Mo} (h : G5 S) : ∀ m ∈ S, So 12200 400 (told (xOf S) (yOf S) (zOf S) m) := fun m hm => by
  have sz := h.sizes
  have B := bas S h.c
  have nx := Bas.nx h.c B
  have nz := Bas.nz h.c B
  have ok := h.ok m hm
  have td : ∀ {j : Nat} {s t : Rat}, Rx j 70 s → Rx j 70 t → Rx (j + 100) 300 (tdx (xOf S) (yOf S) (zOf S) s t) ∧ Rx (j + 100) 300 (tdy (zOf S) t) := fun {j s t} hs ht => by
    have a := ht.div nz sz.z.1.rx
    have b := hs.sub (a.mul sz.y.rx)
    exact ⟨(b.div nx sz.x.1.rx).mono (by omega) (by omega), a.mono (by omega) (by omega)⟩
  have ia := (rx_int ok.a)
  have ib := (rx_int ok.b)
  have ic := (rx_int ok.c)
  have id := (rx_int ok.d)
  have one := td ((ia.mul sz.x.1.rx).mono (show 12000 + 5 ≤ 12050 by decide) (by decide)) ((ic.mul sz.x.1.rx).mono (show 12000 + 5 ≤ 12050 by decide) (by decide))
  have two := td (((ia.mul sz.y.rx).add (ib.mul sz.z.1.rx)).mono (show _ ≤ 12050 by decide) (by decide)) (((ic.mul sz.y.rx).add (id.mul sz.z.1.rx)).mono (show _ ≤ 12050 by decide) (by decide))
  have sh := td ((ok.x.rx (by decide)).mono (show 65 ≤ 65 by decide) (by decide)) ((ok.y.rx (by decide)).mono (show 65 ≤ 65 by decide) (by decide))
  obtain ⟨D, hD, hD2, hd⟩ := h.d
  have den : Dv LL (tdx (xOf S) (yOf S) (zOf S) m.x m.y) ∧ Dv LL (tdy (zOf S) m.y) := den_told hD hD2 (hd m hm) h hd
  have rz : ∀ {q : Rat}, Rx 165 300 q → Rz 300 q := fun hq => ⟨hq.num.mono (by decide), hq.den⟩
  exact ⟨one.1.num.mono (by decide), two.1.num.mono (by decide), one.2.num.mono (by decide), two.2.num.mono (by decide), (zs_of den.1 (rz sh.1)).mono (by decide), (zs_of den.2 (rz sh.2)).mono (by decide)⟩
end TG
namespace My
open PySem PySem.Spec PyProof.Rows L2 TG LamX NdefX
section
variable [TbT]
def topS (i : Nat) : Stmt := PySem.Challenge.pw_tilesglued_k05_own_bases.main.body.getD i (.Pass ⟨0, 0, 0, 0⟩)
abbrev s_common_divisor : Stmt := topS 10
abbrev s_fraction : Stmt := topS 11
abbrev s_plus : Stmt := topS 12
abbrev s_minus : Stmt := topS 13
abbrev s_times : Stmt := topS 14
abbrev s_divided : Stmt := topS 15
abbrev s_less : Stmt := topS 16
abbrev s_rest : Stmt := topS 17
abbrev s_common_multiple : Stmt := topS 18
abbrev s_scaled : Stmt := topS 19
abbrev s_product : Stmt := topS 22
abbrev s_led : Stmt := topS 23
abbrev s_moved : Stmt := topS 24
abbrev s_then : Stmt := topS 25
abbrev s_settled : Stmt := topS 26
abbrev s_ascending : Stmt := topS 27
abbrev s_closure_within : Stmt := topS 33
abbrev s_check_closed : Stmt := topS 34
abbrev s_Group_init : Stmt := inClass (topS 35) 0
abbrev s_Group_movements : Stmt := inClass (topS 35) 2
abbrev s_least_part : Stmt := topS 36
abbrev s_own_basis : Stmt := topS 37
abbrev s_in_basis : Stmt := topS 38
abbrev s_told_in : Stmt := topS 39
abbrev s__law_cell : Stmt := topS 41
abbrev s__law_numbers : Stmt := topS 42
abbrev s__law_same : Stmt := topS 43
abbrev s__law_gcd : Stmt := topS 44
abbrev s__law_frac : Stmt := topS 45
abbrev s__law_add : Stmt := topS 46
abbrev s__law_sub : Stmt := topS 47
abbrev s__law_mul : Stmt := topS 48
abbrev s__law_less : Stmt := topS 49
abbrev s__law_rest : Stmt := topS 50
abbrev s__law_identity : Stmt := topS 51
abbrev s__law_det : Stmt := topS 52
abbrev s__law_led : Stmt := topS 53
abbrev s__law_moved : Stmt := topS 54
abbrev s__law_product : Stmt := topS 55
abbrev s__law_then : Stmt := topS 56
abbrev s__law_back : Stmt := topS 57
abbrev s__law_settled : Stmt := topS 58
abbrev s__law_closed : Stmt := topS 59
abbrev s__law_multiple : Stmt := topS 60
abbrev s__law_sorted : Stmt := topS 61
abbrev s__law_axes : Stmt := topS 62
abbrev s__law_shift : Stmt := topS 63
abbrev s__law_change : Stmt := topS 64
abbrev s__law_steps : Stmt := topS 65
abbrev s__law_plain_group : Stmt := topS 66
abbrev s__law_changed : Stmt := topS 67
abbrev s__law_group : Stmt := topS 68
abbrev s__law_shifted : Stmt := topS 69
abbrev s__law_fine : Stmt := topS 70
abbrev s__law_basis : Stmt := topS 71
abbrev s__law_parts : Stmt := topS 72
abbrev s_law : Stmt := topS 73
structure Txt (K : PySem.W.Frag) (mg : Str → Option Value) : Prop where
  d_common_divisor : DefT K mg "common_divisor" s_common_divisor ["a", "b"] []
  d_fraction : DefT K mg "fraction" s_fraction ["n", "d"] [V.int 1]
  d_plus : DefT K mg "plus" s_plus ["f", "g"] []
  d_minus : DefT K mg "minus" s_minus ["f", "g"] []
  d_times : DefT K mg "times" s_times ["f", "g"] []
  d_divided : DefT K mg "divided" s_divided ["f", "g"] []
  d_less : DefT K mg "less" s_less ["f", "g"] []
  d_rest : DefT K mg "rest" s_rest ["f"] []
  d_common_multiple : DefT K mg "common_multiple" s_common_multiple ["fractions"] []
  d_scaled : DefT K mg "scaled" s_scaled ["f", "multiple"] []
  d_product : DefT K mg "product" s_product ["first", "second"] []
  d_led : DefT K mg "led" s_led ["matrix", "vector"] []
  d_moved : DefT K mg "moved" s_moved ["m", "point"] []
  d_then : DefT K mg "then" s_then ["m", "n"] []
  d_settled : DefT K mg "settled" s_settled ["m"] []
  d_ascending : DefT K mg "ascending" s_ascending ["movements"] []
  d_closure_within : DefT K mg "closure_within" s_closure_within ["held", "steps"] []
  d_check_closed : DefT K mg "check_closed" s_check_closed ["held"] []
  d_Group_init : InitT K mg "Group" s_Group_init ["self", "movements"] []
  d_Group_movements : PropT K "Group" "movements" s_Group_movements
  d_least_part : DefT K mg "least_part" s_least_part ["values"] []
  d_own_basis : DefT K mg "own_basis" s_own_basis ["movements"] []
  d_in_basis : DefT K mg "in_basis" s_in_basis ["vector", "basis"] []
  d_told_in : DefT K mg "told_in" s_told_in ["movements", "basis"] []
  d__law_cell : DefT K mg "_law_cell" s__law_cell ["script", "k"] []
  d__law_numbers : DefT K mg "_law_numbers" s__law_numbers ["cell", "count"] []
  d__law_same : DefT K mg "_law_same" s__law_same ["actual", "due"] []
  d__law_gcd : DefT K mg "_law_gcd" s__law_gcd ["a", "b"] []
  d__law_frac : DefT K mg "_law_frac" s__law_frac ["n", "d"] []
  d__law_add : DefT K mg "_law_add" s__law_add ["f", "g"] []
  d__law_sub : DefT K mg "_law_sub" s__law_sub ["f", "g"] []
  d__law_mul : DefT K mg "_law_mul" s__law_mul ["f", "g"] []
  d__law_less : DefT K mg "_law_less" s__law_less ["f", "g"] []
  d__law_rest : DefT K mg "_law_rest" s__law_rest ["f"] []
  d__law_identity : DefT K mg "_law_identity" s__law_identity [] []
  d__law_det : DefT K mg "_law_det" s__law_det ["m"] []
  d__law_led : DefT K mg "_law_led" s__law_led ["m", "p"] []
  d__law_moved : DefT K mg "_law_moved" s__law_moved ["m", "p"] []
  d__law_product : DefT K mg "_law_product" s__law_product ["m", "n"] []
  d__law_then : DefT K mg "_law_then" s__law_then ["m", "n"] []
  d__law_back : DefT K mg "_law_back" s__law_back ["m"] []
  d__law_settled : DefT K mg "_law_settled" s__law_settled ["m"] []
  d__law_closed : DefT K mg "_law_closed" s__law_closed ["steps", "most"] []
  d__law_multiple : DefT K mg "_law_multiple" s__law_multiple ["fractions"] []
  d__law_sorted : DefT K mg "_law_sorted" s__law_sorted ["movements"] []
  d__law_axes : DefT K mg "_law_axes" s__law_axes ["numbers"] []
  d__law_shift : DefT K mg "_law_shift" s__law_shift ["a", "b"] []
  d__law_change : DefT K mg "_law_change" s__law_change ["numbers"] []
  d__law_steps : DefT K mg "_law_steps" s__law_steps ["numbers"] []
  d__law_plain_group : DefT K mg "_law_plain_group" s__law_plain_group ["numbers"] []
  d__law_changed : DefT K mg "_law_changed" s__law_changed ["movements", "change"] []
  d__law_group : DefT K mg "_law_group" s__law_group ["numbers"] []
  d__law_shifted : DefT K mg "_law_shifted" s__law_shifted ["m", "x", "y"] []
  d__law_fine : DefT K mg "_law_fine" s__law_fine ["numbers", "sizes"] []
  d__law_basis : DefT K mg "_law_basis" s__law_basis ["movements"] []
  d__law_parts : DefT K mg "_law_parts" s__law_parts ["vector", "basis"] []
  d_law : DefT K mg "law" s_law ["script"] []
  m_abs : mg "abs" = none
  m_any : mg "any" = none
  m_bool : mg "bool" = none
  m_int : mg "int" = none
  m_isinstance : mg "isinstance" = none
  m_len : mg "len" = none
  m_list : mg "list" = none
  m_range : mg "range" = none
  m_sorted : mg "sorted" = none
  m_str : mg "str" = none
  m_tuple : mg "tuple" = none
  k_Group : ClsT K mg "Group"
  o_Group : ∃ C, mg "Group" = some (.ref C) ∧ NfT K "Group" (.ref C) ∧ KitT K mg (.ref C) "Group" true
  a_Group__movements : AtT K "Group" "_movements"
  a_Group__held : AtT K "Group" "_held"
  nf_Group_list : NfT K "Group" (.type "list")
  kt_list_Group : KitT K mg (.type "list") "Group" false
  c_ZERO : ConT K mg "ZERO" (.tup [.int 0, .int 1])
  c_ONE : ConT K mg "ONE" (.tup [.int 1, .int 1])
  c_IDENTITY : ConT K mg "IDENTITY" (.tup [.int 1, .int 0, .int 0, .int 1, .tup [.int 0, .int 1], .tup [.int 0, .int 1]])
  x_NotGroup : ExcT K mg "NotGroup"
  x_HasShifts : ExcT K mg "HasShifts"
local macro_rules | `(tactic| walk_at "tg le") => `(tactic| ((repeat (first | exact Le.nil | exact Le.refl _ | refine Le.un ?_ | refine Le.eq ?_)); done))
local macro_rules | `(tactic| walk_at "tg return") => `(tactic| first | assumption | exact hQ)
local macro_rules | `(tactic| walk_at "tg mod") => `(tactic| first | decide | omega)
local macro_rules | `(tactic| walk_at "tg div") => `(tactic| first | exact ⟨by decide, by decide⟩)
local macro_rules | `(tactic| walk_at "tg cmp") => `(tactic| first | rfl | assumption | decide +kernel)
local macro_rules | `(tactic| walk_at "tg cat") => `(tactic| first | exact cat_ok rfl)
local macro_rules | `(tactic| walk_at "tg size") => `(tactic| first | exact len_ok rfl)
local macro_rules | `(tactic| walk_at "tg szc") => `(tactic| first | assumption | (apply Sz.mul <;> walk_at "tg szc") | (apply Sz.add <;> walk_at "tg szc") | (apply Sz.sub <;> walk_at "tg szc") | (apply Sz.neg <;> walk_at "tg szc") | exact sz_num)
local macro_rules | `(tactic| walk_at "tg sz") => `(tactic| first | assumption | (apply Sz.mono; (walk_at "tg szc"); (first | decide | omega)))
local macro_rules | `(tactic| walk_at "tg rzc") => `(tactic| first | assumption | (apply Rz.mul <;> walk_at "tg rzc") | (apply Rz.add <;> walk_at "tg rzc") | (apply Rz.sub <;> walk_at "tg rzc") | (apply Rz.neg <;> walk_at "tg rzc") | exact rz0 | (apply rz_int; (walk_at "tg szc"); (first | decide | omega)))
local macro_rules | `(tactic| walk_at "tg rz") => `(tactic| first | assumption | (apply Rz.mono; (walk_at "tg rzc"); (first | decide | omega)))
local macro_rules | `(tactic| walk_at "tg pre") => `(tactic| ((repeat' (refine And.intro ?_ ?_)) <;> first | trivial | assumption | walk_at "tg sz" | walk_at "tg rz" | omega | decide))
local macro_rules | `(tactic| walk_at "tg mul") => `(tactic| (apply Sz.mulW <;> first | walk_at "tg szc" | decide | omega))
local macro_rules | `(tactic| walk_at "tg plains") => `(tactic| first | rfl | (simp only [plains_map]; done) | assumption)
local macro_rules | `(tactic| walk_at "tg depths") => `(tactic| first | (exact Nat.le_of_ble_eq_true rfl) | (refine Nat.le_trans (depths_map ?_) (Nat.le_of_ble_eq_true rfl); intro _; exact Nat.le_of_ble_eq_true rfl) | assumption)
local macro_rules | `(tactic| walk_at "tg tyn") => `(tactic| first | (simp [D.tyN]; done) | assumption)

local macro_rules | `(tactic| walk_at "tg dkey") => `(tactic| first | rfl | assumption)
theorem cut4 (p : Mx) (r : List D) : cutD (mxL p ++ r) none (some 4) = mxL p := by
  exact (cut_lo (ds := mxL p ++ r) (i := 4) 4 rfl (by simp)).trans rfl
theorem cutMo (m : Mo) : cutD [.int m.m.a, .int m.m.b, .int m.m.c, .int m.m.d, rq m.x, rq m.y] none (some 4) = mxL m.m := by
  exact (cut_lo (i := 4) 4 rfl (by simp)).trans rfl
theorem at4 {p : Mx} {r : List D} (k : Nat) {i : Int} (e : i = (k : Int)) {d : D} (h : (mxL p)[k]? = some d) : atI (mxL p ++ r) i = some d := by
  refine atI_at k e ?_
  rw [List.getElem?_append_left (by have := (List.getElem?_eq_some_iff.mp h).1; exact this)]
  exact h
abbrev gM (c m : Mo) : Mo := mstl (mthn c m)
abbrev heldBad (S F : List Mo) (t : Mo) : Bool := !decide (t ∈ S)
noncomputable def cloH (S T : List Mo) : Option (List Mo) := cloR gM (heldBad S) T [MID] [MID]
noncomputable def cloW (S T : List Mo) : List Mo := (cloH S T).getD []
noncomputable def cloL (T : List Mo) (n : Nat) : Option (List Mo) := cloR gM (full n) T [MID] [MID]
noncomputable abbrev resL (Z : List Mo) (n : Nat) : O := oN ((cloL Z n).map fun F => F.map moD)
structure IsCl (S : List Mo) : Prop where
  id : MID ∈ S
  cl : ∀ m ∈ S, ∀ n ∈ S, mstl (mthn m n) ∈ S
theorem _root_.TG.IsG.isCl {S : List Mo} (h : IsG S) : IsCl S := ⟨h.id, h.cl⟩
theorem run_held {S T : List Mo} (h : IsCl S) (hT : ∀ m ∈ T, m ∈ S) : Run gM (heldBad S) T [MID] [MID] (cloH S T) := by
  refine cloR_run (run_total S.length (fun F => F.Nodup ∧ ∀ x ∈ F, x ∈ S) (fun F cur m hI hc hm hn hb => ?_) _ [MID] [MID] (Nat.le_refl _) (fun _ h => h) ⟨List.nodup_cons.mpr ⟨List.not_mem_nil, .nil⟩, fun x hx => by rw [List.mem_singleton.mp hx]; exact h.id⟩)
  have hin : gM cur m ∈ S := by simpa using hb
  have nd : (F ++ [gM cur m]).Nodup := by
    rw [List.nodup_append]
    exact ⟨hI.1, List.nodup_cons.mpr ⟨List.not_mem_nil, .nil⟩, fun x hx y hy z => hn (by rw [← List.mem_singleton.mp hy, ← z]; exact hx)⟩
  have sub : ∀ x ∈ F ++ [gM cur m], x ∈ S := fun x hx => (List.mem_append.mp hx).elim (hI.2 x) fun z => by rw [List.mem_singleton.mp z]; exact hin
  have l := len_sub nd sub
  rw [List.length_append, List.length_singleton] at l
  exact ⟨by omega, nd, sub⟩
theorem run_cloL (T : List Mo) {n : Nat} (hn : 1 ≤ n) : Run gM (full n) T [MID] [MID] (cloL T n) := cloR_run (run_full n hn fun _ h => h)
/-- what the inner loop keeps of a set that is closed -/
structure InnH (S F : List Mo) (b : Nat) (F' W' : List Mo) : Prop where
  sub : ∀ x ∈ F', x ∈ S
  nd : F'.Nodup
  wf : ∀ x ∈ W', x ∈ F'
  ms : 2 * (S.length - F'.length) + W'.length ≤ b
theorem InnH.new {S F F' W' : List Mo} {b : Nat} (h : InnH S F b F' W') {t : Mo} (ht : t ∈ S) (hn : t ∉ F') : InnH S F b (F' ++ [t]) (W' ++ [t]) := by
  have nd : (F' ++ [t]).Nodup := by
    rw [List.nodup_append]
    exact ⟨h.nd, List.nodup_cons.mpr ⟨List.not_mem_nil, .nil⟩, fun x hx y hy z => hn (by rw [← List.mem_singleton.mp hy, ← z]; exact hx)⟩
  have sub : ∀ x ∈ F' ++ [t], x ∈ S := fun x hx => (List.mem_append.mp hx).elim (h.sub x) fun z => by rw [List.mem_singleton.mp z]; exact ht
  refine ⟨sub, nd, fun x hx => (List.mem_append.mp hx).elim (fun z => List.mem_append_left _ (h.wf x z)) (fun z => List.mem_append_right _ z), ?_⟩
  have l := len_sub nd sub
  have m := h.ms
  rw [List.length_append, List.length_singleton] at l
  rw [List.length_append, List.length_append, List.length_singleton]; omega
theorem InnH.len {S F F' W' : List Mo} {b : Nat} (h : InnH S F b F' W') : F'.length ≤ S.length := len_sub h.nd h.sub
theorem ins_new {S : List Mo} {t : Mo} (h : t ∉ S) : ins1 S t = S ++ [t] := if_neg h
/-- .. with a limit -/
structure InnL (n : Nat) (b : Nat) (F' W' : List Mo) : Prop where
  len : F'.length ≤ n
  ok : ∀ x ∈ F', So (19 * F'.length + 2) 65 x
  wf : ∀ x ∈ W', x ∈ F'
  ms : 2 * (n - F'.length) + W'.length ≤ b
theorem InnL.new {n b : Nat} {F' W' : List Mo} (h : InnL n b F' W') {c t : Mo} (hc : c ∈ F') (ht : So 16 100 t) (hl : ¬ F'.length = n) : InnL n b (F' ++ [gM c t]) (W' ++ [gM c t]) := by
  have hL := h.len
  have e : (F' ++ [gM c t]).length = F'.length + 1 := by rw [List.length_append, List.length_singleton]
  refine ⟨by omega, fun x hx => ?_, fun x hx => (List.mem_append.mp hx).elim (fun z => List.mem_append_left _ (h.wf x z)) (fun z => List.mem_append_right _ z), ?_⟩
  · rw [e]
    rcases List.mem_append.mp hx with z | z
    · exact (h.ok x z).mono (by omega) (by omega)
    · rw [List.mem_singleton.mp z]
      exact (((h.ok c hc).thn ht).stl).mono (by omega) (by omega)
  · have m := h.ms
    rw [e, List.length_append, List.length_singleton]; omega
theorem cloL_ok {j : Nat} {T : List Mo} {n : Nat} (hn : 1 ≤ n) (hT : OkO j 100 T) {R : List Mo} (e : cloL T n = some R) : R.length ≤ n ∧ OkO ((j + 1) * n + 2) 65 R := by
  have h := run_cloL T hn
  rw [e] at h
  have := h.ind (P := fun F W => (∀ x ∈ W, x ∈ F) ∧ F.length ≤ n ∧ ∀ x ∈ F, So ((j + 1) * F.length + 2) 65 x) (fun F W c p => ⟨fun x hx => p.1 x (List.mem_append_left _ hx), p.2⟩)
    (fun F W cur m hm hc p nn b => by
      have hl : ¬ F.length = n := of_decide_eq_false b
      have hL := p.2.1
      have e : (F ++ [gM cur m]).length = F.length + 1 := by rw [List.length_append, List.length_singleton]
      refine ⟨fun x hx => (List.mem_append.mp hx).elim (fun z => List.mem_append_left _ (p.1 x z)) (fun z => List.mem_append_right _ z), by omega, fun x hx => ?_⟩
      rw [e, Nat.mul_succ]
      rcases List.mem_append.mp hx with z | z
      · exact (p.2.2 x z).mono (by omega) (by omega)
      · rw [List.mem_singleton.mp z]
        exact (((p.2.2 cur hc).thn (hT m hm)).stl).mono (by omega) (by omega)) (fun F W p => p.1) ⟨fun _ h => h, hn, fun x hx => by rw [List.mem_singleton.mp hx]; exact so_id.mono (by omega) (by decide)⟩ R rfl
  refine ⟨this.2.1, fun x hx => (this.2.2 x hx).mono ?_ (by omega)⟩
  have := Nat.mul_le_mul_left (j + 1) this.2.1
  omega
abbrev groupD (S : List Mo) : D := .obj "Group" ["_movements", "_held"] [.tup ((ascO S).map moD), .dct (S.map moD) (yes S)]
abbrev lsO (S : List Mo) : D := .lst (S.map moD)
def hasPure (m : Mo) : Bool := D.eqv (mxD m.m) (mxD MONE) && !D.eqv (moD m) (moD MID)
theorem no_pure {S : List Mo} (h : IsG S) (e : (S.map hasPure).any id = true) : False := by
  rw [List.any_map, List.any_eq_true] at e
  obtain ⟨m, hm, e⟩ := e
  have e' : hasPure m = true := e
  unfold hasPure at e'
  rw [keyF_mx.eqv, keyF_mo.eqv, Bool.and_eq_true, Bool.not_eq_true'] at e'
  exact of_decide_eq_false e'.2 (h.pu m hm (of_decide_eq_true e'.1))
noncomputable def fHo : Nat → D → Option (D × D) := fun _ d => some (moD (mstl (und moD d)), .bl true)
theorem fHo_is (k : Nat) (x : Mo) : fHo k (moD x) = some (moD (mstl x), .bl true) := by unfold fHo; rw [keyF_mo.und]
theorem sz_cm {fs : List Rat} {L k : Nat} (hL0 : 0 < L) (hLs : Sz 4000 (L : Int)) (hz : ∀ f ∈ fs, Dv L f ∧ Rz 2000 f) : Sz 4000 ((cmN (fs.take k) : Nat) : Int) := by
  have := Nat.le_of_dvd hL0 (cmN_dvd (fs := fs.take k) (L := L) fun f hf => (hz f (List.mem_of_mem_take hf)).1)
  unfold Sz at *
  rw [Int.natAbs_natCast] at *
  omega
theorem cm_step2 {fs : List Rat} {k L : Nat} (hL0 : 0 < L) (hLs : Sz 4000 (L : Int)) (hz : ∀ f ∈ fs, Dv L f ∧ Rz 2000 f) (h : k < fs.length) : CMulW (((cmN (fs.take k) : Nat) : Int).fdiv ((Int.gcd ((cmN (fs.take k) : Nat) : Int) ((fs.getD k 0).den : Int) : Nat) : Int)) ((fs.getD k 0).den : Int) := by
  have hs := sz_cm (k := k) hL0 hLs hz
  have hd := (hz _ (getD_mem (x := 0) h)).2.den
  have hg : (0 : Int) < ((Int.gcd ((cmN (fs.take k) : Nat) : Int) ((fs.getD k 0).den : Int) : Nat) : Int) := by
    have := gcd_nz (r := ((cmN (fs.take k) : Nat) : Int)) (rq_ne (fs.getD k 0))
    omega
  exact Sz.mulE (sz_quo (by omega) hg hs) hd
def eqG : List D ⊕ List Mo → D
  | .inl l => .lst l
  | .inr S => groupD S
def eqGR (S : List Mo) : List D ⊕ List Mo → Bool
  | .inl _ => false
  | .inr T => decide (ascO S = ascO T)
abbrev Rng (ns : List Int) : Prop := ∀ x ∈ ns, 0 ≤ x ∧ x < 1000
theorem rng_at {ns : List Int} (h : Rng ns) (k : Nat) : 0 ≤ ns.getD k 0 ∧ ns.getD k 0 < 1000 := by
  by_cases hk : k < ns.length
  · exact h _ (getD_mem (x := 0) hk)
  · rw [show ns.getD k 0 = 0 by simp [List.getD, List.getElem?_eq_none (Nat.not_lt.mp hk)]]; omega
theorem rng_drop {ns : List Int} (h : Rng ns) (k : Nat) : Rng (ns.drop k) := fun x hx => h x (List.mem_of_mem_drop hx)

theorem den_le {n d : Int} (h : d ≠ 0) : (Rat.divInt n d).den ≤ d.natAbs := by
  have e := rq_frac (n := n) (d := d) h
  have e2 : fD n d = ((Rat.divInt n d).den : Int) := by
    injection e with e; injection e with _ e; injection e with e _; injection e
  have := fD_le (n := n) h
  rw [e2, Int.natAbs_natCast] at this
  exact this
theorem zs_frac {k : Nat} {n d : Int} (h : d ≠ 0) (h1 : Sz k n) (h2 : d.natAbs ≤ 24) (hk : 5 ≤ k) : Zs (k + 65) (Rat.divInt n d) :=
  zs_of (dv_small (Nat.le_trans (den_le h) h2)) (rz_divInt h h1 (Sz.mono (m := 5) (Nat.lt_of_le_of_lt h2 (by decide)) hk))
def axM (ns : List Int) : Mx := if ns.getD 2 0 % 2 = 1 then ⟨1 + (ns.getD 0 0 % 5 - 2) * (ns.getD 1 0 % 5 - 2), 0 - (ns.getD 0 0 % 5 - 2), ns.getD 1 0 % 5 - 2, -1⟩ else ⟨1 + (ns.getD 0 0 % 5 - 2) * (ns.getD 1 0 % 5 - 2), ns.getD 0 0 % 5 - 2, ns.getD 1 0 % 5 - 2, 1⟩
theorem sz_m5 (x : Int) : Sz 2 (x % 5 - 2) := by unfold Sz; omega
theorem axM_dt (ns : List Int) : Dt (axM ns) := by
  unfold axM
  split
  · refine .inr ?_
    unfold mdet
    grind
  · refine .inl ?_
    unfold mdet
    grind
theorem axM_sz (ns : List Int) : SzM 6 (axM ns) := by
  have p := (((sz_lit rfl : Sz 1 1).add ((sz_m5 (ns.getD 0 0)).mul (sz_m5 (ns.getD 1 0)))).mono (show max 1 (2 + 2) + 1 ≤ 6 by decide))
  have k := (sz_m5 (ns.getD 0 0)).mono (show 2 ≤ 6 by decide)
  have j := (sz_m5 (ns.getD 1 0)).mono (show 2 ≤ 6 by decide)
  unfold axM
  split
  · exact ⟨p, by rw [Int.zero_sub]; exact k.neg, j, sz_lit rfl⟩
  · exact ⟨p, k, j, sz_lit rfl⟩
abbrev DEN6 : List Int := [1, 2, 3, 4, 6, 12]
def shR (a b : Int) : Rat := Rat.divInt (a % 49 - 24) (DEN6.getD (b % 6).toNat default)
theorem getD_all {α : Type} [Inhabited α] {P : α → Prop} {l : List α} {i : Int} (h : ∀ x ∈ l, P x) (h0 : 0 ≤ i) (h1 : i < (l.length : Int)) : P (l.getD i.toNat default) := h _ (getD_mem (x := default) (by omega))
theorem den6_ok (b : Int) : 1 ≤ DEN6.getD (b % 6).toNat default ∧ DEN6.getD (b % 6).toNat default ≤ 12 := getD_all (P := fun x : Int => 1 ≤ x ∧ x ≤ 12) (by decide) (by omega) (by show b % 6 < 6; omega)
theorem shR_zs (a b : Int) : Zs 71 (shR a b) := by
  have h := den6_ok b
  exact zs_frac (k := 6) (by omega) (by unfold Sz; omega) (by omega) (by decide)
def chM (ns : List Int) : Mo := ⟨axM ns, shR (ns.getD 3 0) (ns.getD 4 0), shR (ns.getD 5 0) (ns.getD 6 0)⟩
theorem chM_so (ns : List Int) : So 6 71 (chM ns) := ⟨(axM_sz ns).1, (axM_sz ns).2.1, (axM_sz ns).2.2.1, (axM_sz ns).2.2.2, shR_zs _ _, shR_zs _ _⟩
abbrev TURNS : List Mx := [⟨1, 0, 0, 1⟩, ⟨-1, 0, 0, -1⟩, ⟨0, -1, 1, 0⟩, ⟨0, -1, 1, -1⟩, ⟨1, -1, 1, 0⟩]
abbrev FLIPS : List Mx := [⟨1, 0, 0, 1⟩, ⟨1, 0, 0, -1⟩, ⟨0, 1, 1, 0⟩, ⟨0, -1, -1, 0⟩]
abbrev HALVES : List Rat := [0, Rat.divInt 1 2]
theorem half_rq : rq (Rat.divInt 1 2) = fr 1 2 := by
  have h : (Rat.divInt 1 2).num = 1 ∧ (Rat.divInt 1 2).den = 2 := by decide +kernel
  unfold rq; rw [h.1, h.2]; rfl
theorem halves_at {i : Int} (h : 0 ≤ i) (h2 : i < 2) : atI [fr 0 1, fr 1 2] i = some (rq (HALVES.getD i.toNat default)) := by
  rcases (show i = 0 ∨ i = 1 by omega) with rfl | rfl
  · rfl
  · show some (fr 1 2) = some (rq (Rat.divInt 1 2)); rw [half_rq]
instance decSz (n : Nat) (x : Int) : Decidable (Sz n x) := inferInstanceAs (Decidable (_ < _))
instance decDt (p : Mx) : Decidable (Dt p) := inferInstanceAs (Decidable (_ ∨ _))
def trn (x : Int) : Mx := TURNS.getD (x % 5).toNat default
def flp (x : Int) : Mx := FLIPS.getD (x % 4).toNat default
def hlv (x : Int) : Rat := HALVES.getD (x % 2).toNat default
theorem trn_ok (x : Int) : SzM 2 (trn x) ∧ Dt (trn x) := getD_all (P := fun p : Mx => SzM 2 p ∧ Dt p) (by decide) (by omega) (by show x % 5 < 5; omega)
theorem flp_ok (x : Int) : SzM 2 (flp x) ∧ Dt (flp x) := getD_all (P := fun p : Mx => SzM 2 p ∧ Dt p) (by decide) (by omega) (by show x % 4 < 4; omega)
theorem zs_half : Zs 70 (Rat.divInt 1 2) := zs_frac (k := 5) (by decide) (sz_lit rfl) (by decide) (by decide)
theorem hlv_zs (x : Int) : Zs 70 (hlv x) := getD_all (P := fun q : Rat => Zs 70 q) (by
  intro q hq
  rcases List.mem_cons.mp hq with rfl | hq
  · exact zs_zero.mono (by decide)
  · rw [List.mem_singleton.mp hq]; exact zs_half) (by omega) (by show x % 2 < 2; omega)
def stpM (ns : List Int) : List Mo := if ns.getD 1 0 % 4 = 0 then [⟨trn (ns.getD 0 0), 0, 0⟩] else [⟨trn (ns.getD 0 0), 0, 0⟩, ⟨flp (ns.getD 1 0), hlv (ns.getD 2 0), hlv (ns.getD 3 0)⟩]
theorem so_mk {j k : Nat} {p : Mx} {x y : Rat} (h : SzM j p) (hx : Zs k x) (hy : Zs k y) : So j k ⟨p, x, y⟩ := ⟨h.1, h.2.1, h.2.2.1, h.2.2.2, hx, hy⟩
theorem stpM_ok (ns : List Int) : OkO 2 70 (stpM ns) ∧ (∀ m ∈ stpM ns, Dt m.m) ∧ 1 ≤ (stpM ns).length ∧ (stpM ns).length ≤ 2 := by
  have t := trn_ok (ns.getD 0 0)
  have f := flp_ok (ns.getD 1 0)
  have z := zs_zero.mono (show 1 ≤ 70 by decide)
  unfold stpM
  split
  · refine ⟨fun m hm => ?_, fun m hm => ?_, Nat.le_of_ble_eq_true rfl, Nat.le_of_ble_eq_true rfl⟩
    · rw [List.mem_singleton.mp hm]; exact so_mk t.1 z z
    · rw [List.mem_singleton.mp hm]; exact t.2
  · refine ⟨fun m hm => ?_, fun m hm => ?_, Nat.le_of_ble_eq_true rfl, Nat.le_of_ble_eq_true rfl⟩
    · rcases List.mem_cons.mp hm with rfl | hm
      · exact so_mk t.1 z z
      · rw [List.mem_singleton.mp hm]; exact so_mk f.1 (hlv_zs _) (hlv_zs _)
    · rcases List.mem_cons.mp hm with rfl | hm
      · exact t.2
      · rw [List.mem_singleton.mp hm]; exact f.2
def zsh (m : Mo) : Mo := ⟨m.m, 0, 0⟩
def SWP : Mo := ⟨⟨0, 1, 1, 0⟩, 0, 0⟩
def triedM (S : List Mo) : List (List Mo) := [S, S.map zsh, (S.map zsh).take 1 ++ List.replicate (S.length - 1) SWP, (S.map zsh).take 1]
theorem rep1 {α : Type} (x : α) : ∀ n : Nat, (List.replicate n [x]).flatten = List.replicate n x
  | 0 => rfl
  | n + 1 => by rw [List.replicate_succ, List.flatten_cons, rep1 x n]; rfl
theorem tried_map {S : List Mo} (h : 1 ≤ S.length) : [D.lst (S.map moD), D.lst ((S.map zsh).map moD), D.lst (((S.map zsh).map moD).take 1 ++ (List.replicate ((((((S.map zsh).map moD).length : Nat) : Int)) - 1).toNat [moD SWP]).flatten), D.lst (((S.map zsh).map moD).take 1)] = (triedM S).map lsO := by
  have e : ((((((S.map zsh).map moD).length : Nat) : Int)) - 1).toNat = S.length - 1 := by rw [List.length_map, List.length_map]; omega
  rw [rep1, e, ← List.map_take]
  unfold triedM
  simp only [List.map_cons, List.map_nil, List.map_append, List.map_replicate, lsO]
theorem tried_ok {S : List Mo} (h : OkO 2 70 S) (hd : ∀ m ∈ S, Dt m.m) : ∀ T ∈ triedM S, OkO 2 100 T ∧ ∀ m ∈ T, Dt m.m := by
  have z := zs_zero.mono (show 1 ≤ 100 by decide)
  have a : ∀ m ∈ S.map zsh, So 2 100 m ∧ Dt m.m := fun m hm => by
    obtain ⟨n, hn, rfl⟩ := List.mem_map.mp hm
    have := (h n hn).szm
    exact ⟨so_mk ⟨this.1.mono (by decide), this.2.1.mono (by decide), this.2.2.1.mono (by decide), this.2.2.2.mono (by decide)⟩ z z, hd n hn⟩
  have s : So 2 100 SWP ∧ Dt SWP.m := ⟨so_mk ⟨sz_lit rfl, sz_lit rfl, sz_lit rfl, sz_lit rfl⟩ z z, by decide⟩
  have b : ∀ m ∈ (S.map zsh).take 1, So 2 100 m ∧ Dt m.m := fun m hm => a m (List.mem_of_mem_take hm)
  intro T hT
  unfold triedM at hT
  simp only [List.mem_cons, List.not_mem_nil, or_false] at hT
  rcases hT with rfl | rfl | rfl | rfl
  · exact ⟨fun m hm => (h m hm).mono (by decide) (by decide), hd⟩
  · exact ⟨fun m hm => (a m hm).1, fun m hm => (a m hm).2⟩
  · have c : ∀ m ∈ (S.map zsh).take 1 ++ List.replicate (S.length - 1) SWP, So 2 100 m ∧ Dt m.m := fun m hm => (List.mem_append.mp hm).elim (b m) fun q => by rw [List.eq_of_mem_replicate q]; exact s
    exact ⟨fun m hm => (c m hm).1, fun m hm => (c m hm).2⟩
  · exact ⟨fun m hm => (b m hm).1, fun m hm => (b m hm).2⟩
def isPu (m : Mo) : Bool := D.eqv (mxD m.m) (mxD MONE)
theorem one_pure {F : List Mo} (hid : MID ∈ F) (h : (F.filter isPu).length = 1) : ∀ m ∈ F, m.m = MONE → m = MID := by
  have hp : ∀ m : Mo, isPu m = true ↔ m.m = MONE := fun m => by unfold isPu; rw [keyF_mx.eqv]; exact decide_eq_true_iff
  obtain ⟨x, hx⟩ : ∃ x, F.filter isPu = [x] := by
    cases e : F.filter isPu with
    | nil => rw [e] at h; cases h
    | cons x r =>
      rw [e] at h
      cases r with
      | nil => exact ⟨x, rfl⟩
      | cons => simp at h
  have h1 : MID ∈ F.filter isPu := List.mem_filter.mpr ⟨hid, (hp MID).mpr rfl⟩
  intro m hm e
  have h2 : m ∈ F.filter isPu := List.mem_filter.mpr ⟨hm, (hp m).mpr e⟩
  rw [hx] at h1 h2
  rw [List.mem_singleton.mp h1, List.mem_singleton.mp h2]
theorem isG_id : IsG [MID] := ⟨List.nodup_cons.mpr ⟨List.not_mem_nil, .nil⟩, List.mem_singleton.mpr rfl, fun m hm n hn => by
  rw [List.mem_singleton.mp hm, List.mem_singleton.mp hn, mthn_id, stl_id]; exact List.mem_singleton.mpr rfl, fun m hm => by rw [List.mem_singleton.mp hm]; exact stl_id, fun m hm _ => List.mem_singleton.mp hm, fun m hm => by rw [List.mem_singleton.mp hm]; exact .inl rfl⟩
theorem cloL_isG {Z F : List Mo} {n : Nat} (hn : 1 ≤ n) (hd : ∀ m ∈ Z, Dt m.m) (e : cloL Z n = some F) (hp : (F.filter isPu).length = 1) : IsG F := by
  have h := run_cloL Z hn
  rw [e] at h
  refine isG_of_run h hd (one_pure ?_ hp)
  exact (h.closed (fun x hx hn => absurd hx hn) F rfl).1 _ (List.mem_singleton.mpr rfl)
noncomputable def fPu : Nat → D → Option D := fun _ d => if isPu (und moD d) = true then some (moD (und moD d)) else none
theorem pick_pu (F : List Mo) : pick fPu 0 (F.map moD) = (F.filter isPu).map moD := keyF_mo.pickF isPu moD F 0
structure PlG (S : List Mo) : Prop where
  g : IsG S
  ok : OkO 70 65 S
  len : S.length ≤ 12
noncomputable def tryG (T : List Mo) : Option (List Mo) := match cloL T 12 with
  | some F => if (F.filter isPu).length = 1 then some F else none
  | none => none
noncomputable def plG (ns : List Int) : List Mo := ((triedM (stpM ns)).findSome? tryG).getD [MID]
theorem plG_ok (ns : List Int) : PlG (plG ns) := by
  have hst := stpM_ok ns
  have htr := tried_ok hst.1 hst.2.1
  unfold plG
  cases h : (triedM (stpM ns)).findSome? tryG with
  | none => exact ⟨isG_id, fun m hm => by rw [List.mem_singleton.mp hm]; exact so_id.mono (by decide) (by decide), by decide⟩
  | some F =>
    obtain ⟨T, hT, e⟩ := List.exists_of_findSome?_eq_some h
    obtain ⟨hz, hzd⟩ := htr T hT
    unfold tryG at e
    cases hc : cloL T 12 with
    | none => rw [hc] at e; cases e
    | some G =>
      rw [hc] at e
      by_cases hp : (G.filter isPu).length = 1
      · rw [show (match some G with | some F => if (F.filter isPu).length = 1 then some F else none | none => none) = some G from if_pos hp] at e
        cases e
        obtain ⟨a, b⟩ := cloL_ok (by decide) hz hc
        exact ⟨cloL_isG (by decide) hzd hc hp, b.mono (by decide) (by decide), a⟩
      · rw [show (match some G with | some F => if (F.filter isPu).length = 1 then some F else none | none => none) = none from if_neg hp] at e
        cases e
theorem fs_next {α β : Type} {f : α → Option β} {l : List α} {k : Nat} (x : α) (h : k < l.length) (h1 : (l.take k).findSome? f = none) (h2 : f (l.getD k x) = none) : (l.take (k + 1)).findSome? f = none := by
  rw [take_getD x h, List.findSome?_append, h1]
  show List.findSome? f [_] = none
  rw [List.findSome?_cons, h2]; rfl
theorem fs_found {α β : Type} {f : α → Option β} {l : List α} {k : Nat} (x : α) {y : β} (h : k < l.length) (h1 : (l.take k).findSome? f = none) (h2 : f (l.getD k x) = some y) : l.findSome? f = some y := by
  have e : l = l.take k ++ l.drop k := (List.take_append_drop k l).symm
  rw [e, List.findSome?_append, h1, drop_getD x h]
  show List.findSome? f (_ :: _) = _
  rw [List.findSome?_cons, h2]
noncomputable def fCh (c : Mo) : Nat → D → Option D := fun _ d => some (moD (mstl (cnj c (und moD d))))
theorem pick_ch (c : Mo) (S : List Mo) : pick (fCh c) 0 (S.map moD) = (chg c S).map moD := by
  unfold fCh chg
  rw [keyF_mo.pick (fun m => moD (mstl (cnj c m))), List.map_map]; rfl
noncomputable def fCj (c : Mo) : Nat → D → Option D := fun _ d => some (moD (cnj c (und moD d)))
theorem pick_cj (c : Mo) (S : List Mo) : pick (fCj c) 0 (S.map moD) = (S.map (cnj c)).map moD := by
  unfold fCj
  rw [keyF_mo.pick (fun m => moD (cnj c m)), List.map_map]; rfl
theorem once_chg {c : Mo} (hc : Dt c.m) {S : List Mo} (h : IsG S) : once ((S.map (cnj c)).map mstl) = chg c S := by
  rw [List.map_map]
  exact once_nodup (h.chg hc).nd

theorem groupD_perm {A B : List Mo} (h : A.Perm B) : eqGR A (.inr B) = true := decide_eq_true (ascO_perm h)
theorem mos_depth (S : List Mo) : D.depth (.tup (S.map moD)) ≤ 8 := by
  show D.depths (S.map moD) + 1 ≤ 8
  have := depths_map (f := moD) (n := 2) (fun _ => Nat.le_of_ble_eq_true rfl) (l := S)
  omega
theorem same_mos {S T : List Mo} {Q : O → Prop} (h : S = T) (q : Q (.va (.bl true))) : ∃ d, [D.tup (S.map moD), .tup (T.map moD)] = [d, d] ∧ (d.plain = true ∧ d.depth ≤ 8) ∧ Q (.va (.bl true)) :=
  ⟨.tup (T.map moD), by rw [h], ⟨keyF_mo.plains T, mos_depth T⟩, q⟩
structure GOk (S : List Mo) : Prop where
  g : IsG S
  ok : OkO 110 65 S
  len : S.length ≤ 40
theorem GOk.chg {c : Mo} {S : List Mo} {j : Nat} (hc : So 15 100 c) (hd : Dt c.m) (h : IsG S) (ho : OkO j 65 S) (hl : S.length ≤ 40) (hj : j + 32 ≤ 110) : GOk (TG.chg c (ascO S)) := by
  have p := ascO_p S
  refine ⟨(h.perm p.symm).chg hd, fun m hm => ?_, by rw [chg_len, ascO_len]; exact hl⟩
  obtain ⟨a, ha, rfl⟩ := List.mem_map.mp hm
  exact ((So.cnj hd hc (ho a (ascO_mem.mp ha))).stl).mono (by omega) (by decide)
theorem chg_asc {c e : Mo} (hc : Dt c.m) (he : Dt e.m) (S : List Mo) : (TG.chg e (ascO (TG.chg c (ascO S)))).Perm (TG.chg (mthn c e) S) := by
  have h1 := chg_perm e (ascO_p (TG.chg c (ascO S)))
  rw [chg_chg hc he] at h1
  exact h1.trans (chg_perm _ (ascO_p S))

theorem rat_one {x : Int} : rq (Rat.divInt x 1) = rq (x : Rat) := by
  have e : Rat.divInt x 1 = (x : Rat) := by rw [rat_div, show ((1 : Int) : Rat) = 1 from rfl, Rat.div_def]; grind
  rw [e]
noncomputable def fSh : Nat → D → Option D := fun _ d => if isPm (und moD d) = true then some (ptD ⟨(und moD d).x, (und moD d).y⟩) else none
theorem pick_sh (S : List Mo) : pick fSh 0 (S.map moD) = (shp S).map ptD := by
  rw [show (shp S).map ptD = (S.filter isPm).map fun m => ptD ⟨m.x, m.y⟩ by unfold shp; rw [List.map_map]; rfl]
  exact keyF_mo.pickF isPm (fun m => ptD ⟨m.x, m.y⟩) S 0
noncomputable def fPy : Nat → D → Option D := fun _ d => some (rq (und ptD d).y)
theorem pick_py (P : List Pt) : pick fPy 0 (P.map ptD) = (P.map fun p : Pt => p.y).map rq := by
  rw [List.map_map]
  exact keyF_pt.pick (fun p => rq p.y) P
noncomputable def fPx : Nat → D → Option D := fun _ d => if decide ((und ptD d).y = 0) = true then some (rq (und ptD d).x) else none
theorem pick_px (P : List Pt) : pick fPx 0 (P.map ptD) = ((P.filter fun p : Pt => decide (p.y = 0)).map fun p : Pt => p.x).map rq := by
  rw [List.map_map]
  exact keyF_pt.pickF (fun p : Pt => decide (p.y = 0)) (fun p => rq p.x) P 0
theorem zero_rq : D.tup [.int 0, .int 1] = rq 0 := rfl
theorem one_rq : D.tup [.int 1, .int 1] = rq 1 := rfl
theorem shp_len (S : List Mo) : (shp S).length ≤ S.length := by unfold shp; rw [List.length_map]; exact List.length_filter_le _ _
theorem rx5 {q : Rat} (h : Rz 5 q) : Rx 40000 2000 q := h.rx.mono (by decide) (by decide)
/-- where y stands in the walk over the shifts -/
def yAt (S : List Mo) (k : Nat) (y : Rat) : Prop := (y = 0 ∧ ∀ p ∈ (shp S).take k, ¬ (p.y = rfr (zOf S) ∧ ¬ zOf S = 1)) ∨ (¬ zOf S = 1 ∧ (⟨y, zOf S⟩ : Pt) ∈ shp S)
theorem rest_z {S : List Mo} (h : G5 S) (hz : ¬ zOf S = 1) : rfr (zOf S) = zOf S := by
  have oz := lpt_ok ((shp S).map fun p : Pt => p.y)
  refine rfr_self ⟨Rat.le_of_lt oz.2.1, ?_⟩
  rcases Rat.le_iff_lt_or_eq.mp oz.2.2.1 with c | c
  · exact c
  · exact absurd c hz
theorem yAt_end {S : List Mo} (h : G5 S) {y : Rat} (hy : yAt S (shp S).length y) : (zOf S = 1 ∧ y = 0) ∨ (⟨y, zOf S⟩ : Pt) ∈ shp S := by
  rcases hy with ⟨e, hn⟩ | ⟨_, hy⟩
  · by_cases hz : zOf S = 1
    · exact .inl ⟨hz, e⟩
    · obtain ⟨p, hp, e2⟩ := z_or S hz
      exact absurd ⟨e2.trans (rest_z h hz).symm, hz⟩ (hn p (by rw [List.take_length]; exact hp))
  · exact .inr hy
theorem yAt_rz {S : List Mo} (h : G5 S) {y : Rat} {k : Nat} (hy : yAt S k y) : Rz 5 y ∧ 0 ≤ y ∧ y < 1 := by
  rcases hy with ⟨e, _⟩ | ⟨_, hy⟩
  · rw [e]; exact ⟨⟨sz_lit rfl, sz_lit rfl⟩, by decide, by decide⟩
  · have := h.sizes.p _ hy
    exact ⟨this.1.1, this.2.1⟩

theorem yAt_yes {S : List Mo} (h : G5 S) {p : Pt} {k : Nat} (hp : p ∈ shp S) (h1 : p.y = rfr (zOf S)) (h2 : ¬ zOf S = 1) : yAt S k p.x := .inr ⟨h2, by
  have e : p.y = zOf S := h1.trans (rest_z h h2)
  rw [← e]; exact hp⟩
theorem yAt_no {S : List Mo} {y : Rat} {k : Nat} (hk : k < (shp S).length) (hy : yAt S k y) (hn : ¬ (((shp S).getD k default).y = rfr (zOf S) ∧ ¬ zOf S = 1)) : yAt S (k + 1) y := by
  rcases hy with ⟨e, h⟩ | hy
  · refine .inl ⟨e, fun p hp => ?_⟩
    rw [take_getD default hk] at hp
    rcases List.mem_append.mp hp with hp | hp
    · exact h p hp
    · rw [List.mem_singleton.mp hp]; exact hn
  · exact .inr hy
/-- where y stands on its way below x -/
structure YW (S : List Mo) (D : Nat) (y : Rat) : Prop where
  r : red (xOf S) y = yOf S
  g : 0 ≤ y ∧ y < 1
  d : Dv D y
theorem YW.rz {S : List Mo} {D : Nat} (hD : 0 < D) (hD2 : D ≤ 24) {y : Rat} (h : YW S D y) : Rz 5 y := rz_of_rng hD (by show (D : Int) < 32; omega) h.d h.g
theorem YW.step {S : List Mo} {D : Nat} (h : G5 S) (hD : 0 < D) (dx : Dv D (xOf S)) {y : Rat} (w : YW S D y) (hn : ¬ y < xOf S) : YW S D (y - xOf S) := by
  have x0 := (bas S h.c).x0
  refine ⟨by rw [red_step x0]; exact w.r, ⟨by grind, by have := w.g.2; grind⟩, ?_⟩
  rw [Rat.sub_eq_add_neg]
  exact w.d.add hD dx.neg
theorem YW.stop {S : List Mo} {D : Nat} (h : G5 S) {y : Rat} (w : YW S D y) (hl : y < xOf S) : y = yOf S := by
  rw [← w.r, red_self (bas S h.c).x0 ⟨w.g.1, hl⟩]
theorem dv_x {S : List Mo} {D : Nat} (hd : ∀ m ∈ S, Dg D m) : Dv D (xOf S) := dv_lpt fun v hv => by
  obtain ⟨p, hp', rfl⟩ := List.mem_map.mp hv
  exact (hd _ (mem_shp.mp (List.mem_filter.mp hp').1)).x
theorem YW.of {S : List Mo} {D : Nat} (h : G5 S) (hd : ∀ m ∈ S, Dg D m) {y : Rat} (hy : (zOf S = 1 ∧ y = 0) ∨ (⟨y, zOf S⟩ : Pt) ∈ shp S) : YW S D y := by
  refine ⟨yOf_of h.c hy, ?_, ?_⟩
  · rcases hy with ⟨_, e⟩ | hy
    · rw [e]; exact ⟨by decide, by decide⟩
    · exact (h.sizes.p _ hy).2.1
  · rcases hy with ⟨_, e⟩ | hy
    · rw [e]; exact Nat.one_dvd _
    · exact (hd _ (mem_shp.mp hy)).x
theorem few {x q : Rat} {j : Nat} (hx : 1 ≤ 24 * x) (hq : q < 1) (h : 0 ≤ q - ((j : Nat) : Rat) * x) : j < 24 := by
  have x0 : 0 < x := by grind
  have h1 : ((j : Nat) : Rat) * x < 24 * x := by grind
  have h2 : ((j : Nat) : Rat) < 24 := by
    refine Rat.not_le.mp fun c => ?_
    have := Rat.mul_le_mul_of_nonneg_right c (Rat.le_of_lt x0)
    grind
  have h3 : (((j : Nat) : Int) : Rat) < ((24 : Int) : Rat) := h2
  have := Rat.intCast_lt_intCast.mp h3
  omega
def zk (S : List Mo) (k : Nat) : Rat := lpt (((shp S).take k).map fun p : Pt => p.y)
def xk (S : List Mo) (k : Nat) : Rat := lpt ((((shp S).take k).filter fun p : Pt => decide (p.y = 0)).map fun p : Pt => p.x)
theorem zk_next {S : List Mo} {k : Nat} (h : k < (shp S).length) : zk S (k + 1) = if 0 < ((shp S).getD k default).y ∧ ((shp S).getD k default).y < zk S k then ((shp S).getD k default).y else zk S k := by
  unfold zk
  rw [take_getD default h, List.map_append, List.map_singleton, lpt_snoc]
theorem xk_next {S : List Mo} {k : Nat} (h : k < (shp S).length) : xk S (k + 1) = if ((shp S).getD k default).y = 0 ∧ 0 < ((shp S).getD k default).x ∧ ((shp S).getD k default).x < xk S k then ((shp S).getD k default).x else xk S k := by
  unfold xk
  rw [take_getD default h, List.filter_append, List.map_append]
  generalize (shp S).getD k default = p
  by_cases e : p.y = 0
  · rw [show [p].filter (fun p : Pt => decide (p.y = 0)) = [p] from List.filter_cons_of_pos (decide_eq_true e), List.map_singleton, lpt_snoc]
    by_cases c : 0 < p.x ∧ p.x < lpt ((((shp S).take k).filter fun p : Pt => decide (p.y = 0)).map fun p : Pt => p.x)
    · rw [if_pos c, if_pos ⟨e, c⟩]
    · rw [if_neg c, if_neg fun z => c z.2]
  · rw [show [p].filter (fun p : Pt => decide (p.y = 0)) = [] from List.filter_cons_of_neg (by simpa using e), List.map_nil, List.append_nil, if_neg fun z => e z.1]
theorem k_rz {S : List Mo} (h : Sizes S) (k : Nat) : Rz 5 (zk S k) ∧ Rz 5 (xk S k) := by
  refine ⟨?_, ?_⟩
  · rcases (lpt_ok (((shp S).take k).map fun p : Pt => p.y)).1 with e | e
    · show Rz 5 (lpt _); rw [e]; exact ⟨sz_lit rfl, sz_lit rfl⟩
    · obtain ⟨p, hp, e⟩ := List.mem_map.mp e
      show Rz 5 (lpt _)
      rw [← e]; exact (h.p p (List.mem_of_mem_take hp)).1.2
  · rcases (lpt_ok ((((shp S).take k).filter fun p : Pt => decide (p.y = 0)).map fun p : Pt => p.x)).1 with e | e
    · show Rz 5 (lpt _); rw [e]; exact ⟨sz_lit rfl, sz_lit rfl⟩
    · obtain ⟨p, hp, e⟩ := List.mem_map.mp e
      show Rz 5 (lpt _)
      rw [← e]; exact (h.p p (List.mem_of_mem_take (List.mem_filter.mp hp).1)).1.1
theorem k_end (S : List Mo) : zk S (shp S).length = zOf S ∧ xk S (shp S).length = xOf S := by unfold zk xk; rw [List.take_length]; exact ⟨rfl, rfl⟩
theorem num_pos' {q : Rat} : (0 < q.num) ↔ 0 < q := by
  have := Rat.num_nonneg (q := q)
  have e := Rat.num_eq_zero (q := q)
  constructor
  · intro h
    rcases Rat.le_iff_lt_or_eq.mp (this.mp (by omega)) with c | c
    · exact c
    · rw [← c] at h; exact absurd h (by decide)
  · intro h
    have h1 := this.mpr (Rat.le_of_lt h)
    have h2 : q.num ≠ 0 := fun z => by rw [e.mp z] at h; exact absurd h (by decide)
    omega
noncomputable def fFd (z : Rat) : Nat → D → Option D := fun _ d => if decide ((und ptD d).y = rfr z) = true then some (rq (und ptD d).x) else none
def fdL (S : List Mo) : List Rat := ((shp S).filter fun p : Pt => decide (p.y = rfr (zOf S))).map fun p : Pt => p.x
theorem pick_fd (S : List Mo) : pick (fFd (zOf S)) 0 ((shp S).map ptD) = (fdL S).map rq := by
  unfold fdL
  rw [List.map_map]
  exact keyF_pt.pickF (fun p : Pt => decide (p.y = rfr (zOf S))) (fun p => rq p.x) (shp S) 0
theorem fd_ok {S : List Mo} (h : G5 S) : ∃ q : Rat, (fdL S)[0]? = some q ∧ (¬ zOf S = 1 → (⟨q, zOf S⟩ : Pt) ∈ shp S) := by
  have ne : ∃ p ∈ shp S, p.y = rfr (zOf S) := by
    by_cases hz : zOf S = 1
    · refine ⟨⟨0, 0⟩, mem_shp.mpr h.c.id, ?_⟩
      rw [hz]; decide +kernel
    · obtain ⟨p, hp, e⟩ := z_or S hz
      exact ⟨p, hp, e.trans (rest_z h hz).symm⟩
  obtain ⟨p, hp, e⟩ := ne
  have hm : p.x ∈ fdL S := List.mem_map.mpr ⟨p, List.mem_filter.mpr ⟨hp, decide_eq_true e⟩, rfl⟩
  have hl : 0 < (fdL S).length := List.length_pos_of_mem hm
  refine ⟨(fdL S)[0], List.getElem?_eq_getElem hl, fun hz => ?_⟩
  obtain ⟨r, hr, e2⟩ := List.mem_map.mp (List.getElem_mem hl)
  obtain ⟨hr1, hr2⟩ := List.mem_filter.mp hr
  have e3 : r.y = zOf S := (of_decide_eq_true hr2).trans (rest_z h hz)
  rw [← e2, ← e3]
  exact hr1
noncomputable abbrev basD (S : List Mo) : D := .tup [rq (xOf S), rq (yOf S), rq (zOf S)]

theorem at_fd {S : List Mo} {q : Rat} (h : (fdL S)[0]? = some q) : atI ((fdL S).map rq) 0 = some (rq q) := atI_at 0 rfl (by rw [List.getElem?_map, h]; rfl)

def SZ8 : List Int := [1, 2, 3, 4, 6, 8, 12, 24]
def SZ4 : List Int := [1, 2, 3, 4]
/-- the sizes of shifts that are drawn -/
structure SzOk (szs : List Int) (N : Nat) : Prop where
  N0 : 0 < N
  N1 : N ≤ 24
  len : 1 ≤ szs.length ∧ szs.length ≤ 8
  el : ∀ s ∈ szs, 1 ≤ s ∧ s ≤ 24 ∧ s.toNat ∣ N
  two : szs.length = 1 ∨ 2 ∣ N
theorem sz8_ok : SzOk SZ8 24 := ⟨by decide, by decide, by decide, by decide, .inr (by decide)⟩
theorem sz4_ok : SzOk SZ4 12 := ⟨by decide, by decide, by decide, by decide, .inr (by decide)⟩
theorem sz1_ok {n : Int} (h : 1 ≤ n) (h2 : n ≤ 24) : SzOk [n] n.toNat := ⟨by omega, by omega, (show 1 ≤ 1 ∧ 1 ≤ 8 by decide), fun s hs => by rw [List.mem_singleton.mp hs]; exact ⟨h, h2, Nat.dvd_refl _⟩, .inl rfl⟩
def szq (szs : List Int) (i : Int) : Int := szs.getD (i % (szs.length : Int)).toNat default
theorem szq_in {szs : List Int} {N : Nat} (h : SzOk szs N) (i : Int) : szq szs i ∈ szs := by
  have h1 := h.len.1
  have a := Int.emod_nonneg i (show (szs.length : Int) ≠ 0 by omega)
  have b := Int.emod_lt_of_pos i (show 0 < (szs.length : Int) by omega)
  exact getD_mem (x := default) (by omega)
theorem szq_at {szs : List Int} {N : Nat} (h : SzOk szs N) (i : Int) : atI (szs.map D.int) (i % (((szs.map D.int).length : Nat) : Int)) = some (.int (szq szs i)) := by
  have h1 := h.len.1
  rw [List.length_map]
  have a := Int.emod_nonneg i (show (szs.length : Int) ≠ 0 by omega)
  have b := Int.emod_lt_of_pos i (show 0 < (szs.length : Int) by omega)
  exact atI_map (f := D.int) (l := szs) a b
def shq (szs : List Int) (ns : List Int) (i j : Nat) : Rat := Rat.divInt (ns.getD i 0 % 24) (szq szs (ns.getD j 0))
theorem shq_ok {szs : List Int} {N : Nat} (h : SzOk szs N) (ns : List Int) (i j : Nat) : Zs 70 (shq szs ns i j) ∧ Dv N (shq szs ns i j) := by
  obtain ⟨a, b, c⟩ := h.el _ (szq_in h (ns.getD j 0))
  refine ⟨zs_frac (k := 5) (by omega) (by unfold Sz; omega) (by omega) (by decide), ?_⟩
  refine Nat.dvd_trans ?_ c
  have e : (szq szs (ns.getD j 0)) = ((szq szs (ns.getD j 0)).toNat : Int) := by omega
  unfold shq
  rw [e]
  have hz : 0 < (szq szs (ns.getD j 0)).toNat := by omega
  refine rat_of_mul hz (ns.getD i 0 % 24) ?_
  rw [rat_div]
  exact Rat.div_mul_cancel (fun z => by have := Rat.intCast_inj.mp (z.trans (show (0 : Rat) = ((0 : Int) : Rat) from rfl)); omega)
def stA (szs ns : List Int) : List Mo := if szs.length = 1 then (stpM ns).map zsh else stpM ns
def lstM (L : List Mo) : Mo := L.getD (L.length - 1) default
def stB (szs ns : List Int) : List Mo := (stA szs ns).set ((stA szs ns).length - 1) ⟨(lstM (stA szs ns)).m, (lstM (stA szs ns)).x + shq szs ns 4 5, (lstM (stA szs ns)).y + shq szs ns 6 7⟩
def stC (szs ns : List Int) : List Mo := if 0 < ns.getD 8 0 % 3 then stB szs ns ++ [⟨MONE, shq szs ns 9 10, shq szs ns 11 12⟩] else stB szs ns
def stx (ns : List Int) : Mo := ⟨axM (ns.drop 13), 0, 0⟩
def finM (szs ns : List Int) : List Mo := (stC szs ns).map (cnj (stx ns))
structure StOk (N j k : Nat) (m : Mo) : Prop where
  so : So j k m
  dt : Dt m.m
  dg : Dg N m
theorem StOk.mono {N j k j' k' : Nat} {m : Mo} (h : StOk N j k m) (a : j ≤ j') (b : k ≤ k') : StOk N j' k' m := ⟨h.so.mono a b, h.dt, h.dg⟩
theorem dv_half {N : Nat} (h : 2 ∣ N) : Dv N (Rat.divInt 1 2) := by
  have e : (Rat.divInt 1 2).den = 2 := by decide +kernel
  unfold Dv; rw [e]; exact h
theorem hlv_dv {N : Nat} (h : 2 ∣ N) (x : Int) : Dv N (hlv x) := getD_all (P := fun q : Rat => Dv N q) (by
  intro q hq
  rcases List.mem_cons.mp hq with rfl | hq
  · exact Nat.one_dvd _
  · rw [List.mem_singleton.mp hq]; exact dv_half h) (by omega) (by show x % 2 < 2; omega)
theorem stA_ok {szs : List Int} {N : Nat} (h : SzOk szs N) (ns : List Int) : (∀ m ∈ stA szs ns, StOk N 2 70 m) ∧ 1 ≤ (stA szs ns).length ∧ (stA szs ns).length ≤ 2 := by
  obtain ⟨a, b, c, d⟩ := stpM_ok ns
  have z := zs_zero.mono (show 1 ≤ 70 by decide)
  unfold stA
  split
  · refine ⟨fun m hm => ?_, by rw [List.length_map]; exact c, by rw [List.length_map]; exact d⟩
    obtain ⟨m', hm', rfl⟩ := List.mem_map.mp hm
    have := a m' hm'
    exact ⟨⟨this.a, this.b, this.c, this.d, z, z⟩, b m' hm', ⟨Nat.one_dvd _, Nat.one_dvd _⟩⟩
  · rename_i hn
    have h2 : 2 ∣ N := h.two.resolve_left hn
    refine ⟨fun m hm => ⟨a m hm, b m hm, ?_⟩, c, d⟩
    unfold stpM at hm
    split at hm
    · rw [List.mem_singleton.mp hm]; exact ⟨Nat.one_dvd _, Nat.one_dvd _⟩
    · rcases List.mem_cons.mp hm with rfl | hm
      · exact ⟨Nat.one_dvd _, Nat.one_dvd _⟩
      · rw [List.mem_singleton.mp hm]; exact ⟨hlv_dv h2 _, hlv_dv h2 _⟩
theorem lst_in {L : List Mo} (h : 1 ≤ L.length) : lstM L ∈ L := getD_mem (x := default) (by omega)
theorem lst_at {L : List Mo} (h : 1 ≤ L.length) : atI (L.map moD) (-1) = some (moD (lstM L)) := by
  unfold L2.atI
  have e : L2.ixN (L.map moD).length (-1) = some (L.length - 1) := by
    unfold L2.ixN
    rw [List.length_map]
    simp
    omega
  rw [e]
  have hk : L.length - 1 < L.length := by omega
  show (L.map moD)[L.length - 1]? = _
  rw [List.getElem?_map, List.getElem?_eq_getElem hk]
  unfold lstM
  simp [List.getD, hk]
theorem lst_ix {L : List Mo} (h : 1 ≤ L.length) : L2.ixN (L.map moD).length (-1) = some (L.length - 1) := by
  unfold L2.ixN
  rw [List.length_map]
  simp
  omega
theorem stB_ok {szs : List Int} {N : Nat} (h : SzOk szs N) (ns : List Int) : (∀ m ∈ stB szs ns, StOk N 2 72 m) ∧ (stB szs ns).length ≤ 2 := by
  obtain ⟨a, b, d⟩ := stA_ok h ns
  refine ⟨fun m hm => ?_, by unfold stB; rw [List.length_set]; exact d⟩
  rcases List.mem_or_eq_of_mem_set hm with hm | rfl
  · exact (a m hm).mono (by decide) (by decide)
  · obtain ⟨o, p, q⟩ := a _ (lst_in b)
    exact ⟨⟨o.a, o.b, o.c, o.d, (o.x.add (shq_ok h ns 4 5).1).mono (by decide), (o.y.add (shq_ok h ns 6 7).1).mono (by decide)⟩, p, ⟨q.x.add h.N0 (shq_ok h ns 4 5).2, q.y.add h.N0 (shq_ok h ns 6 7).2⟩⟩
theorem stC_ok {szs : List Int} {N : Nat} (h : SzOk szs N) (ns : List Int) : (∀ m ∈ stC szs ns, StOk N 2 72 m) ∧ (stC szs ns).length ≤ 3 := by
  obtain ⟨a, b⟩ := stB_ok h ns
  unfold stC
  split
  · refine ⟨fun m hm => ?_, by rw [List.length_append]; simp only [List.length_cons, List.length_nil]; omega⟩
    rcases List.mem_append.mp hm with hm | hm
    · exact a m hm
    · rw [List.mem_singleton.mp hm]
      exact ⟨⟨sz_lit rfl, sz_lit rfl, sz_lit rfl, sz_lit rfl, (shq_ok h ns 9 10).1.mono (by decide), (shq_ok h ns 11 12).1.mono (by decide)⟩, .inl rfl, ⟨(shq_ok h ns 9 10).2, (shq_ok h ns 11 12).2⟩⟩
  · exact ⟨a, by omega⟩
theorem stx_ok (N : Nat) (ns : List Int) : StOk N 6 1 (stx ns) := ⟨so_mk (axM_sz _) zs_zero zs_zero, axM_dt _, ⟨Nat.one_dvd _, Nat.one_dvd _⟩⟩
theorem finM_ok {szs : List Int} {N : Nat} (h : SzOk szs N) (ns : List Int) : (∀ m ∈ finM szs ns, StOk N 16 100 m) ∧ (finM szs ns).length ≤ 3 := by
  obtain ⟨a, b⟩ := stC_ok h ns
  refine ⟨fun m hm => ?_, by unfold finM; rw [List.length_map]; exact b⟩
  obtain ⟨m', hm', rfl⟩ := List.mem_map.mp hm
  obtain ⟨o, p, q⟩ := a m' hm'
  obtain ⟨o', p', q'⟩ := stx_ok N ns
  exact ⟨(So.cnj p' o' o).mono (by decide) (by decide), p'.cnj p, ((q'.bck h.N0).thn h.N0 q).thn h.N0 q'⟩
theorem g5_run {szs ns : List Int} {N n : Nat} (h : SzOk szs N) (hn : 1 ≤ n) (hn2 : n ≤ 600) {R : List Mo} (e : cloL (finM szs ns) n = some R) : G5 R := by
  obtain ⟨a, _⟩ := finM_ok h ns
  have r := run_cloL (finM szs ns) hn
  rw [e] at r
  obtain ⟨l, o⟩ := cloL_ok hn (fun m hm => (a m hm).so) e
  refine ⟨isC_of_run r fun m hm => (a m hm).dt, ⟨N, h.N0, h.N1, dg_run h.N0 r fun m hm => (a m hm).dg⟩, o.mono ?_ (by decide), by omega⟩
  have : (16 + 1) * n ≤ (16 + 1) * 600 := Nat.mul_le_mul_left _ hn2
  omega
theorem _root_.TG.G5.asc {S : List Mo} (h : G5 S) : G5 (ascO S) := by
  obtain ⟨N, a, b, d⟩ := h.d
  exact ⟨h.c.perm (ascO_p S).symm, ⟨N, a, b, fun m hm => d m (ascO_mem.mp hm)⟩, h.ok.asc, by rw [ascO_len]; exact h.len⟩
theorem dg_dvd {M N : Nat} (h : M ∣ N) {m : Mo} (k : Dg M m) : Dg N m := ⟨Nat.dvd_trans k.x h, Nat.dvd_trans k.y h⟩
theorem plG_dg (ns : List Int) : ∀ m ∈ plG ns, Dg 24 m := by
  have hs : ∀ m ∈ stpM ns, Dg 24 m := fun m hm => by
    unfold stpM at hm
    split at hm
    · rw [List.mem_singleton.mp hm]; exact ⟨Nat.one_dvd _, Nat.one_dvd _⟩
    · rcases List.mem_cons.mp hm with rfl | hm
      · exact ⟨Nat.one_dvd _, Nat.one_dvd _⟩
      · rw [List.mem_singleton.mp hm]; exact ⟨hlv_dv (by decide) _, hlv_dv (by decide) _⟩
  have hz : ∀ m ∈ (stpM ns).map zsh, Dg 24 m := fun m hm => by
    obtain ⟨m', _, rfl⟩ := List.mem_map.mp hm
    exact ⟨Nat.one_dvd _, Nat.one_dvd _⟩
  have ht : ∀ Z ∈ triedM (stpM ns), ∀ m ∈ Z, Dg 24 m := fun Z hZ => by
    unfold triedM at hZ
    simp only [List.mem_cons, List.not_mem_nil, or_false] at hZ
    rcases hZ with rfl | rfl | rfl | rfl
    · exact hs
    · exact hz
    · intro m hm
      rcases List.mem_append.mp hm with hm | hm
      · exact hz m (List.mem_of_mem_take hm)
      · rw [List.eq_of_mem_replicate hm]; exact ⟨Nat.one_dvd _, Nat.one_dvd _⟩
    · exact fun m hm => hz m (List.mem_of_mem_take hm)
  unfold plG
  cases h : (triedM (stpM ns)).findSome? tryG with
  | none => exact fun m hm => by rw [List.mem_singleton.mp hm]; exact dg_id 24
  | some F =>
    obtain ⟨Z, hZ, e⟩ := List.exists_of_findSome?_eq_some h
    unfold tryG at e
    cases hc : cloL Z 12 with
    | none => rw [hc] at e; cases e
    | some G =>
      rw [hc] at e
      by_cases hp : (G.filter isPu).length = 1
      · rw [show (match some G with | some F => if (F.filter isPu).length = 1 then some F else none | none => none) = some G from if_pos hp] at e
        cases e
        have r := run_cloL Z (n := 12) (by decide)
        rw [hc] at r
        exact dg_run (by decide) r (ht Z hZ)
      · rw [show (match some G with | some F => if (F.filter isPu).length = 1 then some F else none | none => none) = none from if_neg hp] at e
        cases e
theorem shR_dv (a b : Int) : Dv 24 (shR a b) := by
  have hd : ∀ s ∈ DEN6, 1 ≤ s ∧ s.toNat ∣ 24 := by decide
  have h := getD_all (P := fun s : Int => 1 ≤ s ∧ s.toNat ∣ 24) (l := DEN6) (i := b % 6) hd (by omega) (by show b % 6 < 6; omega)
  unfold shR
  generalize DEN6.getD (b % 6).toNat default = s at *
  refine Nat.dvd_trans ?_ h.2
  rw [show s = ((s.toNat : Nat) : Int) by omega]
  refine rat_of_mul (L := (((s.toNat : Nat) : Int)).toNat) (by omega) (a % 49 - 24) ?_
  rw [rat_div, show ((((s.toNat : Nat) : Int)).toNat : Int) = ((s.toNat : Nat) : Int) by omega]
  exact Rat.div_mul_cancel (fun z => by have := Rat.intCast_inj.mp (z.trans (show (0 : Rat) = ((0 : Int) : Rat) from rfl)); omega)
theorem g5_group (ns : List Int) : G5 (ascO (chg (chM (ns.drop 4)) (plG ns))) := by
  have hP := plG_ok ns
  have hc := chM_so (ns.drop 4)
  have hd : Dg 24 (chM (ns.drop 4)) := ⟨shR_dv _ _, shR_dv _ _⟩
  refine G5.asc ⟨(hP.g.chg (axM_dt _)).isC, ⟨24, by decide, by decide, fun m hm => ?_⟩, fun m hm => ?_, by rw [chg_len]; have := hP.len; omega⟩
  · obtain ⟨a, ha, rfl⟩ := List.mem_map.mp hm
    exact (((hd.bck (by decide)).thn (by decide) (plG_dg ns a ha)).thn (by decide) hd).stl
  · obtain ⟨a, ha, rfl⟩ := List.mem_map.mp hm
    exact ((So.cnj (axM_dt _) hc (hP.ok a ha)).stl).mono (by decide) (by decide)

theorem zsh_pick (S : List Mo) : pick (fun _ d => some (moD (zsh (und moD d)))) 0 (S.map moD) = (S.map zsh).map moD := by
  rw [keyF_mo.pick (fun m => moD (zsh m)), List.map_map]; rfl
theorem set_moD (L : List Mo) (i : Nat) (m : Mo) : (L.map moD).set i (moD m) = (L.set i m).map moD := by rw [List.map_set]

noncomputable abbrev rN (r : Option (List Mo)) : D := dN (r.map fun S => S.map moD)
theorem szs_at {n x : Int} (h : 0 ≤ x) (h2 : x < 2) : atI [D.lst (SZ8.map D.int), .lst [.int n]] x = some (.lst ((if x = 0 then SZ8 else [n]).map D.int)) := by
  rcases (show x = 0 ∨ x = 1 by omega) with rfl | rfl <;> rfl
noncomputable abbrev tS (S : List Mo) (m : Mo) : Mo := mstl (told (xOf S) (yOf S) (zOf S) m)
theorem once_take {S T' : List Mo} {k : Nat} (h : k < S.length) : once ((S.take (k + 1)).map (tS T')) = ins1 (once ((S.take k).map (tS T'))) (tS T' (S.getD k default)) := by
  rw [take_getD default h, List.map_append, List.map_singleton, once_snoc]
theorem zs_bas {S : List Mo} (h : G5 S) : (Zs 70 (xOf S) ∧ Zs 70 (yOf S)) ∧ Zs 70 (zOf S) := by
  have sz := h.sizes
  obtain ⟨N, hD, hD2, hd⟩ := h.d
  have dx := dv_x hd
  have dz : Dv N (zOf S) := dv_lpt fun v hv => by
    obtain ⟨p, hp', rfl⟩ := List.mem_map.mp hv
    exact (hd _ (mem_shp.mp hp')).y
  have dy : Dv N (yOf S) := (YW.of h hd (q0_ok S)).r ▸ (by
    obtain ⟨k, e⟩ := red_eq (q := q0 S) (bas S h.c).x0
    rw [show red (xOf S) (q0 S) = q0 S - (k : Rat) * xOf S from e, Rat.sub_eq_add_neg]
    exact (YW.of h hd (q0_ok S)).d.add hD (dx.imul hD k).neg)
  have le : ∀ {q : Rat}, Dv N q → q.den ≤ 24 := fun hq => Nat.le_trans (Dv.le hD hq) hD2
  exact ⟨⟨zs_of (dv_small (le dx)) sz.x.1, zs_of (dv_small (le dy)) sz.y⟩, zs_of (dv_small (le dz)) sz.z.1⟩
theorem lx0 (m : Mo) (x : Rat) : lx m.m x 0 = (m.m.a : Rat) * x ∧ ly m.m x 0 = (m.m.c : Rat) * x := by unfold lx ly; constructor <;> grind
section
variable {P : Program} {w : World} {K : PySem.W.Frag} {mg : Str → Option Value} {base : Heap}
abbrev S_Group_movements : Spc := ⟨fun ds Q => ∃ S : List Mo, ds = [groupD S] ∧ (True) ∧ Q (.va (.tup ((ascO S).map moD))), fun _ _ _ kk_ ⟨S, e_, p_, q_⟩ => ⟨S, e_, p_, kk_ _ q_⟩⟩

theorem sc_Group_movements : FnScope ["self"] ["self"] (defScope s_Group_movements) := ⟨rfl, rfl, rfl, by decide +kernel, rfl, by decide +kernel, by decide +kernel⟩
theorem body_Group_movements (T : Txt K mg)  {f : Addr} {cdv : Value} {A : Around} {outer : List Env} {s : Shared} {H : Hp} (hr : Room (0) (A.deeper (envOfC (("Group" : Str) ++ "." ++ "movements") (defScope s_Group_movements) s.heap.objs.size f cdv))) (ds : List D) (Q : O → Prop) (hS : (S_Group_movements).S ds Q) :
    WSs (cxOf CX0 P w K mg base ["self"] (("Group" : Str) ++ "." ++ "movements") (defScope s_Group_movements) f cdv A outer s H E0).nox noX (defBody s_Group_movements) (slots 1 ds) { nx := fun _ => Q (.va .non), rt := Q } := by
  have sc := sc_Group_movements
  obtain ⟨S, rfl, hp, hQ⟩ := hS
  refine ws_norm (ρ' := [_]) rfl ?_
  refine ws_one ?_
  refine ws_retE (ee_fld T.k_Group T.a_Group__movements (ee_var 0 rfl) rfl) ?_
  walk_at "tg return"
theorem cal_Group_movements (T : Txt K mg)  : CalP P w K mg base 1 "Group" "movements" S_Group_movements :=
  T.d_Group_movements.fn (P := P) (w := w) (base := base) (S := S_Group_movements) (k := 0) sc_Group_movements (fun ds Q h => by obtain ⟨_, rfl, _⟩ := h; rfl) (fun f cdv A outer s H hr ds Q hS => body_Group_movements T  hr ds Q hS)
abbrev S__law_less : Spc := ⟨fun ds Q => ∃ p : Rat, ∃ q : Rat, ds = [rq p, rq q] ∧ (Rx 40000 2000 p ∧ Rx 40000 2000 q) ∧ Q (.va (.bl (decide (p < q)))), fun _ _ _ kk_ ⟨p, q, e_, p_, q_⟩ => ⟨p, q, e_, p_, kk_ _ q_⟩⟩

theorem sc__law_less : FnScope ["f", "g"] ["f", "g"] (defScope s__law_less) := ⟨rfl, rfl, rfl, by decide +kernel, rfl, by decide +kernel, by decide +kernel⟩
theorem body__law_less (T : Txt K mg)  {f : Addr} {cdv : Value} {A : Around} {outer : List Env} {s : Shared} {H : Hp} (hr : Room (0) (A.deeper (envOfC "_law_less" (defScope s__law_less) s.heap.objs.size f cdv))) (ds : List D) (Q : O → Prop) (hS : (S__law_less).S ds Q) :
    WSs (cxOf CX0 P w K mg base ["f", "g"] "_law_less" (defScope s__law_less) f cdv A outer s H E0).nox noX (defBody s__law_less) (slots 2 ds) { nx := fun _ => Q (.va .non), rt := Q } := by
  have sc := sc__law_less
  obtain ⟨p, q, rfl, ⟨hp, hq⟩, hQ⟩ := hS
  refine ws_norm (ρ' := [_, _]) rfl ?_
  have h1 := hp.num
  have h2 := hp.den
  have h3 := hq.num
  have h4 := hq.den
  rw [decide_eq_decide.mpr (Rat.lt_iff p q)] at hQ
  refine ws_one ?_
  refine ws_retE (ee_lt (ee_mul (ee_ix (ee_var 0 rfl) ee_int rfl rfl) (ee_ix (ee_var 1 rfl) ee_int rfl rfl) (by exact Sz.mulE (by assumption) (by assumption))) (ee_mul (ee_ix (ee_var 1 rfl) ee_int rfl rfl) (ee_ix (ee_var 0 rfl) ee_int rfl rfl) (by exact Sz.mulE (by assumption) (by assumption)))) ?_
  walk_at "tg return"
theorem cal__law_less (T : Txt K mg)  : Cal P w K mg base 1 "_law_less" S__law_less [] :=
  cal_of (T.d__law_less.fn (P := P) (w := w) (base := base) (S := S__law_less) (k := 0) sc__law_less (fun ds Q h => by obtain ⟨_, _, rfl, _⟩ := h; rfl) fun f cdv A outer s H hr ds Q hS => body__law_less T  hr ds Q hS) 0 (by decide) (fun G => .nil)
abbrev S__law_rest : Spc := ⟨fun ds Q => ∃ f : Rat, ds = [rq f] ∧ (True) ∧ Q (.va (rq (rfr f))), fun _ _ _ kk_ ⟨f, e_, p_, q_⟩ => ⟨f, e_, p_, kk_ _ q_⟩⟩

theorem sc__law_rest : FnScope ["f"] ["f"] (defScope s__law_rest) := ⟨rfl, rfl, rfl, by decide +kernel, rfl, by decide +kernel, by decide +kernel⟩
theorem body__law_rest (T : Txt K mg)  {f : Addr} {cdv : Value} {A : Around} {outer : List Env} {s : Shared} {H : Hp} (hr : Room (0) (A.deeper (envOfC "_law_rest" (defScope s__law_rest) s.heap.objs.size f cdv))) (ds : List D) (Q : O → Prop) (hS : (S__law_rest).S ds Q) :
    WSs (cxOf CX0 P w K mg base ["f"] "_law_rest" (defScope s__law_rest) f cdv A outer s H E0).nox noX (defBody s__law_rest) (slots 1 ds) { nx := fun _ => Q (.va .non), rt := Q } := by
  have sc := sc__law_rest
  obtain ⟨f, rfl, hp, hQ⟩ := hS
  refine ws_norm (ρ' := [_]) rfl ?_
  refine ws_one ?_
  refine ws_retE (ee_tup (ea_cons (ee_mod (ee_toInt rfl T.m_int (ea_cons (ee_ix (ee_var 0 rfl) ee_int rfl rfl) ea_nil)) (ee_ix (ee_var 0 rfl) ee_int rfl rfl) (by exact rq_pos _)) (ea_cons (ee_ix (ee_var 0 rfl) ee_int rfl rfl) ea_nil))) ?_
  walk_at "tg return"
theorem cal__law_rest (T : Txt K mg)  : Cal P w K mg base 1 "_law_rest" S__law_rest [] :=
  cal_of (T.d__law_rest.fn (P := P) (w := w) (base := base) (S := S__law_rest) (k := 0) sc__law_rest (fun ds Q h => by obtain ⟨_, rfl, _⟩ := h; rfl) fun f cdv A outer s H hr ds Q hS => body__law_rest T  hr ds Q hS) 0 (by decide) (fun G => .nil)
theorem euclid_next {x y k n : Nat} (hy : 0 < y) (h : (k = 0 ∧ y < 2 ^ n) ∨ (0 < k ∧ y < x ∧ x * y * 2 ^ (k - 1) < 2 ^ (2 * n))) : 0 < k + 1 ∧ x % y < y ∧ y * (x % y) * 2 ^ (k + 1 - 1) < 2 ^ (2 * n) := by
  have hr : x % y < y := Nat.mod_lt _ hy
  refine ⟨Nat.succ_pos _, hr, ?_⟩
  rw [Nat.add_sub_cancel]
  rcases h with ⟨rfl, hn⟩ | ⟨hk, hx, hb⟩
  · rw [Nat.pow_zero, Nat.mul_one, Nat.two_mul, Nat.pow_add]
    exact Nat.lt_of_le_of_lt (Nat.mul_le_mul_left _ (Nat.le_of_lt hr)) (Nat.mul_lt_mul'' hn hn)
  · refine Nat.lt_of_le_of_lt ?_ hb
    obtain ⟨j, rfl⟩ : ∃ j, k = j + 1 := ⟨k - 1, by omega⟩
    rw [Nat.add_sub_cancel, Nat.pow_succ, Nat.mul_comm (2 ^ j) 2, ← Nat.mul_assoc]
    refine Nat.mul_le_mul_right _ ?_
    have h2 : 2 * (x % y) ≤ x := by
      have e := Nat.div_add_mod x y
      have q : 1 ≤ x / y := Nat.div_pos (Nat.le_of_lt hx) hy
      have : y ≤ y * (x / y) := Nat.le_mul_of_pos_right _ q
      omega
    calc y * (x % y) * 2 = y * (2 * (x % y)) := by rw [Nat.mul_assoc, Nat.mul_comm (x % y)]
      _ ≤ y * x := Nat.mul_le_mul_left _ h2
      _ = x * y := Nat.mul_comm ..
theorem euclid_end {x y : Nat} (h : (10000 = 0 ∧ y < 2 ^ 4999) ∨ (0 < 10000 ∧ y < x ∧ x * y * 2 ^ (10000 - 1) < 2 ^ (2 * 4999))) : y = 0 := by
  rcases h with ⟨h, _⟩ | ⟨_, hx, hb⟩
  · omega
  · by_cases hy : y = 0
    · exact hy
    · exfalso
      have p : 1 ≤ x * y := Nat.mul_pos (by omega) (by omega)
      have q : 2 ^ (2 * 4999) ≤ 1 * 2 ^ (10000 - 1) := by
        rw [Nat.one_mul]
        exact Nat.pow_le_pow_right (by decide) (by decide)
      have := Nat.mul_le_mul_right (2 ^ (10000 - 1)) p
      omega
abbrev S__law_gcd : Spc := ⟨fun ds Q => ∃ a : Int, ∃ b : Int, ds = [.int a, .int b] ∧ (Sz 4999 b) ∧ Q (.va (.int (Int.gcd a b))), fun _ _ _ kk_ ⟨a, b, e_, p_, q_⟩ => ⟨a, b, e_, p_, kk_ _ q_⟩⟩

theorem sc__law_gcd : FnScope ["a", "b", "k", "c"] ["a", "b"] (defScope s__law_gcd) := ⟨rfl, rfl, rfl, by decide +kernel, rfl, by decide +kernel, by decide +kernel⟩
theorem body__law_gcd (T : Txt K mg)  {f : Addr} {cdv : Value} {A : Around} {outer : List Env} {s : Shared} {H : Hp} (hr : Room (0) (A.deeper (envOfC "_law_gcd" (defScope s__law_gcd) s.heap.objs.size f cdv))) (ds : List D) (Q : O → Prop) (hS : (S__law_gcd).S ds Q) :
    WSs (cxOf CX0 P w K mg base ["a", "b", "k", "c"] "_law_gcd" (defScope s__law_gcd) f cdv A outer s H E0).nox noX (defBody s__law_gcd) (slots 4 ds) { nx := fun _ => Q (.va .non), rt := Q } := by
  have sc := sc__law_gcd
  obtain ⟨a, b, rfl, hsz, hQ⟩ := hS
  refine ws_norm (ρ' := [_, _, _, _]) rfl ?_
  refine ws_cons ?_
  refine ws_setE 0 (ee_abs rfl T.m_abs (ea_cons (ee_var 0 rfl) ea_nil)) ?_ sc.nd
  refine ws_norm (ρ' := [_, _, _, _]) rfl ?_
  rw [natAbs_if]
  refine ws_cons ?_
  refine ws_setE 1 (ee_abs rfl T.m_abs (ea_cons (ee_var 1 rfl) ea_nil)) ?_ sc.nd
  refine ws_norm (ρ' := [_, _, _, _]) rfl ?_
  rw [natAbs_if]
  refine ws_cons ?_
  refine ws_forR (fun k ρ => ∃ x y : Nat, ρ = [.va (.int x), .va (.int y), .un, .un] ∧ Nat.gcd x y = Int.gcd a b ∧ ((k = 0 ∧ y < 2 ^ 4999) ∨ (0 < k ∧ y < x ∧ x * y * 2 ^ (k - 1) < 2 ^ (2 * 4999)))) T.m_range (ea_cons ee_int ea_nil) ?start4 nox_own ?turn4 ?fin4 (by decide)
  case start4 =>
    exact Up.of ⟨a.natAbs, b.natAbs, rfl, rfl, .inl ⟨rfl, hsz⟩⟩
  case turn4 =>
    intro k ρ hk hR
    obtain ⟨x, y, rfl, hg, hb⟩ := hR
    refine ⟨_, (at_name 2 sc.nd), ?_⟩
    refine ws_norm (ρ' := [_, _, _, _]) rfl ?_
    refine ws_cons ?_
    refine ws_if (et_eqI hr.units (ee_var 1 rfl) ee_int) (fun h5 => ?_) (fun h5 => ?_)
    · skip
      skip
      refine ws_one ?_
      refine ws_break ?_
      have hy : (y : Int) = 0 := of_decide_eq_true h5
      obtain rfl : y = 0 := by omega
      rw [Nat.gcd_zero_right] at hg
      subst hg
      refine ws_one ?_
      refine ws_retE (ee_var 0 rfl) ?_
      walk_at "tg return"
    · skip
      have hy : ¬ (y : Int) = 0 := of_decide_eq_false h5
      refine ws_nil ?_
      refine ws_cons ?_
      refine ws_setE 3 (ee_mod (ee_toInt rfl T.m_int (ea_cons (ee_var 0 rfl) ea_nil)) (ee_var 1 rfl) (by walk_at "tg mod")) ?_ sc.nd
      refine ws_norm (ρ' := [_, _, _, _]) rfl ?_
      refine ws_cons ?_
      refine ws_setE 0 (ee_var 1 rfl) ?_ sc.nd
      refine ws_norm (ρ' := [_, _, _, _]) rfl ?_
      refine ws_one ?_
      refine ws_setE 1 (ee_var 3 rfl) ?_ sc.nd
      exact up_intro ⟨y, x % y, rfl, (gcd_turn x y).trans hg, .inr (euclid_next (by omega) hb)⟩ (by walk_at "tg le")
  case fin4 =>
    intro ρ hR
    obtain ⟨x, y, rfl, hg, hb⟩ := hR
    obtain rfl := euclid_end hb
    rw [Nat.gcd_zero_right] at hg
    subst hg
    refine ws_one ?_
    refine ws_retE (ee_var 0 rfl) ?_
    walk_at "tg return"
theorem cal__law_gcd (T : Txt K mg)  : Cal P w K mg base 1 "_law_gcd" S__law_gcd [] :=
  cal_of (T.d__law_gcd.fn (P := P) (w := w) (base := base) (S := S__law_gcd) (k := 0) sc__law_gcd (fun ds Q h => by obtain ⟨_, _, rfl, _⟩ := h; rfl) fun f cdv A outer s H hr ds Q hS => body__law_gcd T  hr ds Q hS) 0 (by decide) (fun G => .nil)
abbrev S__law_frac : Spc := ⟨fun ds Q => ∃ n : Int, ∃ d : Int, ds = [.int n, .int d] ∧ (d ≠ 0 ∧ Sz 4999 d) ∧ Q (.va (rq (Rat.divInt n d))), fun _ _ _ kk_ ⟨n, d, e_, p_, q_⟩ => ⟨n, d, e_, p_, kk_ _ q_⟩⟩

theorem sc__law_frac : FnScope ["n", "d", "g"] ["n", "d"] (defScope s__law_frac) := ⟨rfl, rfl, rfl, by decide +kernel, rfl, by decide +kernel, by decide +kernel⟩
theorem body__law_frac (T : Txt K mg) (C__law_gcd : Cal P w K mg base 1 "_law_gcd" S__law_gcd []) {f : Addr} {cdv : Value} {A : Around} {outer : List Env} {s : Shared} {H : Hp} (hr : Room (1) (A.deeper (envOfC "_law_frac" (defScope s__law_frac) s.heap.objs.size f cdv))) (ds : List D) (Q : O → Prop) (hS : (S__law_frac).S ds Q) :
    WSs (cxOf CX0 P w K mg base ["n", "d", "g"] "_law_frac" (defScope s__law_frac) f cdv A outer s H E0).nox noX (defBody s__law_frac) (slots 3 ds) { nx := fun _ => Q (.va .non), rt := Q } := by
  have sc := sc__law_frac
  obtain ⟨n, d, rfl, ⟨hd, hsz⟩, hQ⟩ := hS
  refine ws_norm (ρ' := [_, _, _]) rfl ?_
  rw [← rq_frac hd] at hQ
  have hg := fg_ne (n := n) hd
  have hgs := fg_sz (n := n) hd hsz
  refine ws_cons ?_
  refine ws_setE 2 (ee_cal (C__law_gcd) (hr.mono (by decide)) (ea_cons (ee_var 0 rfl) (ea_cons (ee_var 1 rfl) ea_nil)) (by exact ⟨_, _, rfl, hsz, rfl⟩)) ?_ sc.nd
  refine ws_norm (ρ' := [_, _, _]) rfl ?_
  refine ws_cons ?_
  refine ws_if (et_lt (ee_var 1 rfl) ee_int) (fun h3 => ?_) (fun h3 => ?_)
  · skip
    have hd0 : d < 0 := of_decide_eq_true h3
    have e : fg n d = -(Int.gcd n d : Int) := if_pos hd0
    refine ws_one ?_
    refine ws_setE 2 (ee_sub ee_int (ee_var 2 rfl)) ?_ sc.nd
    refine ws_norm (ρ' := [_, _, _]) rfl ?_
    refine ws_one ?_
    refine ws_retE (ee_tup (ea_cons (ee_fdiv (ee_var 0 rfl) (ee_var 2 rfl) (by first | (rw [← e]; exact hgs.div hg) | (rw [Int.zero_sub, ← e]; exact hgs.div hg))) (ea_cons (ee_fdiv (ee_var 1 rfl) (ee_var 2 rfl) (by first | (rw [← e]; exact hgs.div hg) | (rw [Int.zero_sub, ← e]; exact hgs.div hg))) ea_nil))) ?_
    first | (rw [← e]; exact hQ) | (rw [Int.zero_sub, ← e]; exact hQ)
  · skip
    have hd0 : ¬ d < 0 := of_decide_eq_false h3
    have e : fg n d = (Int.gcd n d : Int) := if_neg hd0
    refine ws_nil ?_
    refine ws_one ?_
    refine ws_retE (ee_tup (ea_cons (ee_fdiv (ee_var 0 rfl) (ee_var 2 rfl) (by first | (rw [← e]; exact hgs.div hg) | (rw [Int.zero_sub, ← e]; exact hgs.div hg))) (ea_cons (ee_fdiv (ee_var 1 rfl) (ee_var 2 rfl) (by first | (rw [← e]; exact hgs.div hg) | (rw [Int.zero_sub, ← e]; exact hgs.div hg))) ea_nil))) ?_
    first | (rw [← e]; exact hQ) | (rw [Int.zero_sub, ← e]; exact hQ)
theorem cal__law_frac (T : Txt K mg) (C__law_gcd : Cal P w K mg base 1 "_law_gcd" S__law_gcd []) : Cal P w K mg base 2 "_law_frac" S__law_frac [] :=
  cal_of (T.d__law_frac.fn (P := P) (w := w) (base := base) (S := S__law_frac) (k := 1) sc__law_frac (fun ds Q h => by obtain ⟨_, _, rfl, _⟩ := h; rfl) fun f cdv A outer s H hr ds Q hS => body__law_frac T C__law_gcd hr ds Q hS) 0 (by decide) (fun G => .nil)
abbrev S__law_sub : Spc := ⟨fun ds Q => ∃ p : Rat, ∃ q : Rat, ds = [rq p, rq q] ∧ (Rx 40000 2000 p ∧ Rx 40000 2000 q) ∧ Q (.va (rq (p - q))), fun _ _ _ kk_ ⟨p, q, e_, p_, q_⟩ => ⟨p, q, e_, p_, kk_ _ q_⟩⟩

theorem sc__law_sub : FnScope ["f", "g"] ["f", "g"] (defScope s__law_sub) := ⟨rfl, rfl, rfl, by decide +kernel, rfl, by decide +kernel, by decide +kernel⟩
theorem body__law_sub (T : Txt K mg) (C__law_frac : Cal P w K mg base 2 "_law_frac" S__law_frac []) {f : Addr} {cdv : Value} {A : Around} {outer : List Env} {s : Shared} {H : Hp} (hr : Room (2) (A.deeper (envOfC "_law_sub" (defScope s__law_sub) s.heap.objs.size f cdv))) (ds : List D) (Q : O → Prop) (hS : (S__law_sub).S ds Q) :
    WSs (cxOf CX0 P w K mg base ["f", "g"] "_law_sub" (defScope s__law_sub) f cdv A outer s H E0).nox noX (defBody s__law_sub) (slots 2 ds) { nx := fun _ => Q (.va .non), rt := Q } := by
  have sc := sc__law_sub
  obtain ⟨p, q, rfl, ⟨hp, hq⟩, hQ⟩ := hS
  refine ws_norm (ρ' := [_, _]) rfl ?_
  have h1 := hp.num
  have h2 := hp.den
  have h3 := hq.num
  have h4 := hq.den
  refine ws_one ?_
  refine ws_retE (ee_cal (C__law_frac) (hr.mono (by decide)) (ea_cons (ee_sub (ee_mul (ee_ix (ee_var 0 rfl) ee_int rfl rfl) (ee_ix (ee_var 1 rfl) ee_int rfl rfl) (by exact Sz.mulE (by assumption) (by assumption))) (ee_mul (ee_ix (ee_var 1 rfl) ee_int rfl rfl) (ee_ix (ee_var 0 rfl) ee_int rfl rfl) (by exact Sz.mulE (by assumption) (by assumption)))) (ea_cons (ee_mul (ee_ix (ee_var 0 rfl) ee_int rfl rfl) (ee_ix (ee_var 1 rfl) ee_int rfl rfl) (by exact Sz.mulE (by assumption) (by assumption))) ea_nil)) (by exact ⟨_, _, rfl, ⟨mul_ne (rq_ne p) (rq_ne q), (h2.mul h4).mono (by decide)⟩, rfl⟩)) ?_
  rw [rat_sub]; exact hQ
theorem cal__law_sub (T : Txt K mg) (C__law_frac : Cal P w K mg base 2 "_law_frac" S__law_frac []) : Cal P w K mg base 3 "_law_sub" S__law_sub [] :=
  cal_of (T.d__law_sub.fn (P := P) (w := w) (base := base) (S := S__law_sub) (k := 2) sc__law_sub (fun ds Q h => by obtain ⟨_, _, rfl, _⟩ := h; rfl) fun f cdv A outer s H hr ds Q hS => body__law_sub T C__law_frac hr ds Q hS) 0 (by decide) (fun G => .nil)
abbrev S__law_basis : Spc := ⟨fun ds Q => ∃ S : List Mo, ds = [lsO S] ∧ (G5 S) ∧ Q (.va (basD S)), fun _ _ _ kk_ ⟨S, e_, p_, q_⟩ => ⟨S, e_, p_, kk_ _ q_⟩⟩

theorem sc__law_basis : FnScope ["movements", "shifts", "m", "z", "x", "s", "found", "y", "k"] ["movements"] (defScope s__law_basis) := ⟨rfl, rfl, rfl, by decide +kernel, rfl, by decide +kernel, by decide +kernel⟩
theorem body__law_basis (T : Txt K mg) (C__law_less : Cal P w K mg base 1 "_law_less" S__law_less []) (C__law_rest : Cal P w K mg base 1 "_law_rest" S__law_rest []) (C__law_sub : Cal P w K mg base 3 "_law_sub" S__law_sub []) {f : Addr} {cdv : Value} {A : Around} {outer : List Env} {s : Shared} {H : Hp} (hr : Room (3) (A.deeper (envOfC "_law_basis" (defScope s__law_basis) s.heap.objs.size f cdv))) (ds : List D) (Q : O → Prop) (hS : (S__law_basis).S ds Q) :
    WSs (cxOf CX0 P w K mg base ["movements", "shifts", "m", "z", "x", "s", "found", "y", "k"] "_law_basis" (defScope s__law_basis) f cdv A outer s H E0).nox noX (defBody s__law_basis) (slots 9 ds) { nx := fun _ => Q (.va .non), rt := Q } := by
  have sc := sc__law_basis
  obtain ⟨S, rfl, hG, hQ⟩ := hS
  refine ws_norm (ρ' := [_, _, _, _, _, _, _, _, _]) rfl ?_
  have sz := hG.sizes
  obtain ⟨N, hD, hD2, hd⟩ := hG.d
  have dx := dv_x hd
  have hsl := shp_len S
  have hSl := hG.len
  refine ws_cons ?_
  refine ws_setLc 1 (f := fSh) [("m", 2)] (ei_lst (ee_var 0 rfl)) sc.nd (blkOk_by (N := ["movements", "shifts", "m", "z", "x", "s", "found", "y", "k"]) (sc := defScope s__law_basis) (by first | decide +kernel | kernel_rfl)) (by rw [List.length_map]; have := hG.len; exact Nat.le_of_lt (small1000 (by omega))) ?turn2 ?nx2
  case turn2 =>
    intro k d hk
    obtain ⟨hk', rfl⟩ := map_getK (f := moD) (l := S) default hk
    refine ⟨_, _, fun _ _ _ _ _ => (ab_name 2 (by decide) sc.nd), fun _ _ _ _ _ => (ets_one (et_eq hr.units (ee_slT (ee_var 2 rfl) ep_none (ep_some ee_int) (by exact cutMo _)) (ee_tup (ea_cons ee_int (ea_cons ee_int (ea_cons ee_int (ea_cons ee_int ea_nil))))) (by walk_at "tg cmp") (by walk_at "tg cmp"))), fun ht => ?_, fun hf => ?_⟩
    · skip
      exact ⟨_, (by show (if isPm (und moD (moD _)) = true then some (ptD ⟨(und moD (moD _)).x, (und moD (moD _)).y⟩) else none) = _; rw [keyF_mo.und]; exact if_pos (by have ht' : D.eqv (mxD _) (mxD MONE) = true := ht; rw [keyF_mx.eqv] at ht'; exact ht')), fun _ _ _ _ _ => (ee_tup (ea_cons (ee_ix (ee_var 2 rfl) ee_int rfl (by rfl)) (ea_cons (ee_ix (ee_var 2 rfl) ee_int rfl (by rfl)) ea_nil)))⟩
    · skip
      show (if isPm (und moD (moD _)) = true then some (ptD ⟨(und moD (moD _)).x, (und moD (moD _)).y⟩) else none) = _
      rw [keyF_mo.und]
      exact if_neg (by have hf' : D.eqv (mxD _) (mxD MONE) = false := hf; rw [keyF_mx.eqv] at hf'; rw [show isPm _ = false from hf']; exact Bool.false_ne_true)
  case nx2 =>
    refine ws_norm (ρ' := [_, _, _, _, _, _, _, _, _]) rfl ?_
    refine ws_freeze 1 rfl ?_
    refine ws_norm (ρ' := [_, _, _, _, _, _, _, _, _]) rfl ?_
    rw [pick_sh]
    refine ws_cons ?_
    refine ws_setE 3 (ee_tup (ea_cons ee_int (ea_cons ee_int ea_nil))) ?_ sc.nd
    refine ws_norm (ρ' := [_, _, _, _, _, _, _, _, _]) rfl ?_
    refine ws_cons ?_
    refine ws_setE 4 (ee_tup (ea_cons ee_int (ea_cons ee_int ea_nil))) ?_ sc.nd
    refine ws_norm (ρ' := [_, _, _, _, _, _, _, _, _]) rfl ?_
    refine ws_cons ?_
    refine ws_forL (fun k ρ => ρ = [.va (lsO S), .va (.lst ((shp S).map ptD)), .un, .va (rq (zk S k)), .va (rq (xk S k)), .un, .un, .un, .un]) (ee_var 1 rfl) ?start5 nox_own ?turn5 ?fin5
    case start5 =>
      exact up_intro rfl (by walk_at "tg le")
    case turn5 =>
      intro k d ρ hk hR
      subst hR
      obtain ⟨hk', rfl⟩ := map_getK (f := ptD) (l := shp S) default hk
      have hps := sz.p _ (getD_mem (x := default) hk')
      have zn := zk_next hk'
      have xn := xk_next hk'
      have kz := k_rz sz k
      generalize (shp S).getD k default = p at *
      refine ⟨_, (at_name 5 sc.nd), ?_⟩
      refine ws_norm (ρ' := [_, _, _, _, _, _, _, _, _]) rfl ?_
      refine ws_cutU (fun ρ => ρ = [.va (lsO S), .va (.lst ((shp S).map ptD)), .un, .va (rq (zk S (k + 1))), .va (rq (xk S k)), .va (ptD p), .un, .un, .un]) ?_ ?_
      · skip
        refine ws_if (EW.et (ew_and (et_gt (ee_ix (ee_ix (ee_var 5 rfl) ee_int rfl (by rfl)) ee_int rfl (by rfl)) ee_int) (fun hv => (ew_and1 (et_val (ee_cal (C__law_less) (hr.mono (by decide)) (ea_cons (ee_ix (ee_var 5 rfl) ee_int rfl (by rfl)) (ea_cons (ee_var 3 rfl) ea_nil)) (by exact ⟨p.y, zk S k, rfl, ⟨rx5 hps.1.2, rx5 kz.1⟩, rfl⟩))))))) (fun h6 => ?_) (fun h6 => ?_)
        · skip
          have h6' : 0 < p.y ∧ p.y < zk S k := by have h6b := h6; simp only [Bool.and_eq_true, decide_eq_true_eq] at h6b; exact ⟨num_pos'.mp h6b.1, h6b.2⟩
          refine ws_one ?_
          refine ws_setE 3 (ee_ix (ee_var 5 rfl) ee_int rfl (by rfl)) ?_ sc.nd
          first | exact Up.of (by rw [zn, if_pos h6'] <;> rfl) | exact Up.of (by rw [zn, if_neg h6'] <;> rfl)
        · skip
          have h6' : ¬ (0 < p.y ∧ p.y < zk S k) := fun w => by have h6b := h6; rw [decide_eq_true (show p.y.num > 0 from num_pos'.mpr w.1), decide_eq_true w.2] at h6b; cases h6b
          refine ws_nil ?_
          first | exact Up.of (by rw [zn, if_pos h6'] <;> rfl) | exact Up.of (by rw [zn, if_neg h6'] <;> rfl)
      · intro ρ hM
        subst hM
        refine ws_norm (ρ' := [_, _, _, _, _, _, _, _, _]) rfl ?_
        refine ws_one ?_
        refine ws_if (EW.et (ew_and (et_eq hr.units (ee_ix (ee_var 5 rfl) ee_int rfl (by rfl)) (ee_tup (ea_cons ee_int (ea_cons ee_int ea_nil))) (by walk_at "tg cmp") (by walk_at "tg cmp")) (fun hv => (ew_and (et_gt (ee_ix (ee_ix (ee_var 5 rfl) ee_int rfl (by rfl)) ee_int rfl (by rfl)) ee_int) (fun hv => (ew_and1 (et_val (ee_cal (C__law_less) (hr.mono (by decide)) (ea_cons (ee_ix (ee_var 5 rfl) ee_int rfl (by rfl)) (ea_cons (ee_var 4 rfl) ea_nil)) (by exact ⟨p.x, xk S k, rfl, ⟨rx5 hps.1.1, rx5 kz.2⟩, rfl⟩))))))))) (fun h8 => ?_) (fun h8 => ?_)
        · skip
          have h8' : p.y = 0 ∧ 0 < p.x ∧ p.x < xk S k := by have h8b := h8; rw [show D.eqv (rq p.y) (.tup [.int 0, .int 1]) = decide (p.y = 0) from rq_eqv _ 0] at h8b; simp only [Bool.and_eq_true, decide_eq_true_eq] at h8b; exact ⟨h8b.1, num_pos'.mp h8b.2.1, h8b.2.2⟩
          refine ws_one ?_
          refine ws_setE 4 (ee_ix (ee_var 5 rfl) ee_int rfl (by rfl)) ?_ sc.nd
          first | (rw [show rq p.x = rq (xk S (k + 1)) by rw [xn, if_pos h8']]; exact up_intro rfl (by walk_at "tg le")) | (rw [show rq (xk S k) = rq (xk S (k + 1)) by rw [xn, if_neg h8']]; exact up_intro rfl (by walk_at "tg le"))
        · skip
          have h8' : ¬ (p.y = 0 ∧ 0 < p.x ∧ p.x < xk S k) := fun w => by have h8b := h8; rw [show D.eqv (rq p.y) (.tup [.int 0, .int 1]) = decide (p.y = 0) from rq_eqv _ 0, decide_eq_true w.1, decide_eq_true (show p.x.num > 0 from num_pos'.mpr w.2.1), decide_eq_true w.2.2] at h8b; cases h8b
          refine ws_nil ?_
          first | (rw [show rq p.x = rq (xk S (k + 1)) by rw [xn, if_pos h8']]; exact up_intro rfl (by walk_at "tg le")) | (rw [show rq (xk S k) = rq (xk S (k + 1)) by rw [xn, if_neg h8']]; exact up_intro rfl (by walk_at "tg le"))
    case fin5 =>
      intro ρ hR
      subst hR
      rw [List.length_map, (k_end S).1, (k_end S).2]
      refine ws_cons ?_
      refine ws_setLc 6 (f := fFd (zOf S)) [("s", 5)] (ei_lst (ee_var 1 rfl)) sc.nd (blkOk_by (N := ["movements", "shifts", "m", "z", "x", "s", "found", "y", "k"]) (sc := defScope s__law_basis) (by first | decide +kernel | kernel_rfl)) (by rw [List.length_map]; exact Nat.le_of_lt (small1000 (by omega))) ?turn10 ?nx10
      case turn10 =>
        intro k d hk
        obtain ⟨hk', rfl⟩ := map_getK (f := ptD) (l := shp S) default hk
        refine ⟨_, _, fun _ _ _ _ _ => (ab_name 5 (by decide) sc.nd), fun _ _ _ _ _ => (ets_one (et_eq hr.units (ee_ix (ee_var 5 rfl) ee_int rfl (by rfl)) (ee_cal (C__law_rest) (hr.mono (by decide)) (ea_cons (ee_var 3 rfl) ea_nil) (by exact ⟨_, rfl, trivial, rfl⟩)) (by walk_at "tg cmp") (by walk_at "tg cmp"))), fun ht => ?_, fun hf => ?_⟩
        · skip
          exact ⟨_, (by show (if decide ((und ptD (ptD _)).y = rfr (zOf S)) = true then some (rq (und ptD (ptD _)).x) else none) = _; rw [keyF_pt.und]; exact if_pos ((rq_eqv _ _).symm.trans ht)), fun _ _ _ _ _ => (ee_ix (ee_var 5 rfl) ee_int rfl (by rfl))⟩
        · skip
          show (if decide ((und ptD (ptD _)).y = rfr (zOf S)) = true then some (rq (und ptD (ptD _)).x) else none) = _
          rw [keyF_pt.und]
          exact if_neg (by rw [(rq_eqv _ _).symm.trans hf]; exact Bool.false_ne_true)
      case nx10 =>
        refine ws_norm (ρ' := [_, _, _, _, _, _, _, _, _]) rfl ?_
        refine ws_freeze 6 rfl ?_
        refine ws_norm (ρ' := [_, _, _, _, _, _, _, _, _]) rfl ?_
        rw [pick_fd]
        obtain ⟨q, hq0, hq⟩ := fd_ok hG
        refine ws_cons ?_
        refine ws_setE 7 (ee_ix (ee_var 6 rfl) ee_int rfl (by exact at_fd hq0)) ?_ sc.nd
        refine ws_norm (ρ' := [_, _, _, _, _, _, _, _, _]) rfl ?_
        refine ws_cutU (fun ρ => ∃ y : Rat, ρ = [.va (lsO S), .va (.lst ((shp S).map ptD)), .un, .va (rq (zOf S)), .va (rq (xOf S)), .un, .un, .va (rq y), .un] ∧ ((zOf S = 1 ∧ y = 0) ∨ (⟨y, zOf S⟩ : Pt) ∈ shp S)) ?_ ?_
        · skip
          refine ws_if (et_eq hr.units (ee_var 3 rfl) (ee_tup (ea_cons ee_int (ea_cons ee_int ea_nil))) (by walk_at "tg cmp") (by walk_at "tg cmp")) (fun h12 => ?_) (fun h12 => ?_)
          · skip
            have h12' : zOf S = 1 := of_decide_eq_true ((rq_eqv _ 1).symm.trans h12)
            refine ws_one ?_
            refine ws_setE 7 (ee_tup (ea_cons ee_int (ea_cons ee_int ea_nil))) ?_ sc.nd
            first | exact up_intro ⟨0, rfl, .inl ⟨h12', rfl⟩⟩ (by walk_at "tg le") | exact up_intro ⟨q, rfl, .inr (hq h12')⟩ (by walk_at "tg le")
          · skip
            have h12' : ¬ zOf S = 1 := of_decide_eq_false ((rq_eqv _ 1).symm.trans h12)
            refine ws_nil ?_
            first | exact up_intro ⟨0, rfl, .inl ⟨h12', rfl⟩⟩ (by walk_at "tg le") | exact up_intro ⟨q, rfl, .inr (hq h12')⟩ (by walk_at "tg le")
        · intro ρ hM
          obtain ⟨y, rfl, hy⟩ := hM
          have hyw := YW.of hG hd hy
          refine ws_norm (ρ' := [_, _, _, _, _, _, _, _, _]) rfl ?_
          refine ws_cons ?_
          refine ws_forR (fun k ρ => ∃ u : Rat, ρ = [.va (lsO S), .va (.lst ((shp S).map ptD)), .un, .va (rq (zOf S)), .va (rq (xOf S)), .un, .un, .va (rq u), .un] ∧ YW S N u ∧ (u < xOf S ∨ u < (24 - ((k : Nat) : Rat)) * xOf S)) T.m_range (ea_cons ee_int ea_nil) ?start14 nox_own ?turn14 ?fin14 (by decide)
          case start14 =>
            exact up_intro ⟨y, rfl, hyw, .inr (by rw [show ((0 : Nat) : Rat) = 0 from rfl]; have := hyw.g.2; have := sz.x.2; grind)⟩ (by walk_at "tg le")
          case turn14 =>
            intro k ρ hk hR
            obtain ⟨u, rfl, hu, hul⟩ := hR
            have hur := hu.rz hD hD2
            refine ⟨_, (at_name 8 sc.nd), ?_⟩
            refine ws_norm (ρ' := [_, _, _, _, _, _, _, _, _]) rfl ?_
            refine ws_one ?_
            refine ws_if (et_not (et_val (ee_cal (C__law_less) (hr.mono (by decide)) (ea_cons (ee_var 7 rfl) (ea_cons (ee_var 4 rfl) ea_nil)) (by exact ⟨u, xOf S, rfl, ⟨rx5 hur, rx5 sz.x.1⟩, rfl⟩)))) (fun h15 => ?_) (fun h15 => ?_)
            · skip
              have h15' : ¬ u < xOf S := by simpa using h15
              refine ws_one ?_
              refine ws_setE 7 (ee_cal (C__law_sub) (hr.mono (by decide)) (ea_cons (ee_var 7 rfl) (ea_cons (ee_var 4 rfl) ea_nil)) (by exact ⟨u, xOf S, rfl, ⟨rx5 hur, rx5 sz.x.1⟩, rfl⟩)) ?_ sc.nd
              first | exact up_intro ⟨u - xOf S, rfl, hu.step hG hD dx h15', .inr (by rw [show ((k + 1 : Nat) : Rat) = (k : Rat) + 1 from Rat.natCast_add k 1]; rcases hul with c | c; exact absurd c h15'; grind)⟩ (by walk_at "tg le") | exact up_intro ⟨u, rfl, hu, .inl h15'⟩ (by walk_at "tg le")
            · skip
              have h15' : u < xOf S := by simpa using h15
              refine ws_nil ?_
              first | exact up_intro ⟨u - xOf S, rfl, hu.step hG hD dx h15', .inr (by rw [show ((k + 1 : Nat) : Rat) = (k : Rat) + 1 from Rat.natCast_add k 1]; rcases hul with c | c; exact absurd c h15'; grind)⟩ (by walk_at "tg le") | exact up_intro ⟨u, rfl, hu, .inl h15'⟩ (by walk_at "tg le")
          case fin14 =>
            intro ρ hR
            obtain ⟨u, rfl, hu, hul⟩ := hR
            have hl : u < xOf S := by
              rcases hul with c | c
              · exact c
              · have e : ((((24 : Int).toNat : Nat)) : Rat) = 24 := rfl
                rw [e] at c
                have := hu.g.1
                grind
            have hue := hu.stop hG hl
            subst hue
            refine ws_one ?_
            refine ws_retE (ee_tup (ea_cons (ee_var 4 rfl) (ea_cons (ee_var 7 rfl) (ea_cons (ee_var 3 rfl) ea_nil)))) ?_
            walk_at "tg return"
theorem cal__law_basis (T : Txt K mg) (C__law_less : Cal P w K mg base 1 "_law_less" S__law_less []) (C__law_rest : Cal P w K mg base 1 "_law_rest" S__law_rest []) (C__law_sub : Cal P w K mg base 3 "_law_sub" S__law_sub []) : Cal P w K mg base 4 "_law_basis" S__law_basis [] :=
  cal_of (T.d__law_basis.fn (P := P) (w := w) (base := base) (S := S__law_basis) (k := 3) sc__law_basis (fun ds Q h => by obtain ⟨_, rfl, _⟩ := h; rfl) fun f cdv A outer s H hr ds Q hS => body__law_basis T C__law_less C__law_rest C__law_sub hr ds Q hS) 0 (by decide) (fun G => .nil)
abbrev S__law_cell : Spc := ⟨fun ds Q => ∃ ns : List Int, ∃ k : Nat, ds = [.cst (ns.map .int), .int (k : Int)] ∧ (True) ∧ Q (.va (.int (ns.getD k 0))), fun _ _ _ kk_ ⟨ns, k, e_, p_, q_⟩ => ⟨ns, k, e_, p_, kk_ _ q_⟩⟩

theorem sc__law_cell : FnScope ["script", "k"] ["script", "k"] (defScope s__law_cell) := ⟨rfl, rfl, rfl, by decide +kernel, rfl, by decide +kernel, by decide +kernel⟩
theorem body__law_cell (T : Txt K mg)  {f : Addr} {cdv : Value} {A : Around} {outer : List Env} {s : Shared} {H : Hp} (hr : Room (0) (A.deeper (envOfC "_law_cell" (defScope s__law_cell) s.heap.objs.size f cdv))) (ds : List D) (Q : O → Prop) (hS : (S__law_cell).S ds Q) :
    WSs (cxOf CX0 P w K mg base ["script", "k"] "_law_cell" (defScope s__law_cell) f cdv A outer s H E0).nox noX (defBody s__law_cell) (slots 2 ds) { nx := fun _ => Q (.va .non), rt := Q } := by
  have sc := sc__law_cell
  obtain ⟨ns, k, rfl, hp, hQ⟩ := hS
  refine ws_norm (ρ' := [_, _]) rfl ?_
  refine ws_cons ?_
  refine ws_if (et_lt (ee_var 1 rfl) (ee_len rfl T.m_len (ea_cons (ee_var 0 rfl) ea_nil) rfl)) (fun h2 => ?_) (fun h2 => ?_)
  · skip
    have hk : k < ns.length := by
      have := of_decide_eq_true h2
      rw [List.length_map] at this
      omega
    refine ws_one ?_
    refine ws_retE (ee_ix (ee_var 0 rfl) (ee_var 1 rfl) rfl (by exact atI_ints hk)) ?_
    walk_at "tg return"
  · skip
    have hk : ¬ k < ns.length := fun hk => by
      have := of_decide_eq_false h2
      rw [List.length_map] at this
      omega
    refine ws_nil ?_
    refine ws_one ?_
    refine ws_retE ee_int ?_
    rw [show ns.getD k 0 = 0 by simp [List.getD, List.getElem?_eq_none (Nat.not_lt.mp hk)]] at hQ; exact hQ
theorem cal__law_cell (T : Txt K mg)  : Cal P w K mg base 1 "_law_cell" S__law_cell [] :=
  cal_of (T.d__law_cell.fn (P := P) (w := w) (base := base) (S := S__law_cell) (k := 0) sc__law_cell (fun ds Q h => by obtain ⟨_, _, rfl, _⟩ := h; rfl) fun f cdv A outer s H hr ds Q hS => body__law_cell T  hr ds Q hS) 0 (by decide) (fun G => .nil)
abbrev S__law_identity : Spc := ⟨fun ds Q => ds = [] ∧ (True) ∧ Q (.va (moD MID)), fun _ _ _ kk_ ⟨e_, p_, q_⟩ => ⟨e_, p_, kk_ _ q_⟩⟩

theorem sc__law_identity : FnScope [] [] (defScope s__law_identity) := ⟨rfl, rfl, rfl, by decide +kernel, rfl, by decide +kernel, by decide +kernel⟩
theorem body__law_identity (T : Txt K mg)  {f : Addr} {cdv : Value} {A : Around} {outer : List Env} {s : Shared} {H : Hp} (hr : Room (0) (A.deeper (envOfC "_law_identity" (defScope s__law_identity) s.heap.objs.size f cdv))) (ds : List D) (Q : O → Prop) (hS : (S__law_identity).S ds Q) :
    WSs (cxOf CX0 P w K mg base [] "_law_identity" (defScope s__law_identity) f cdv A outer s H E0).nox noX (defBody s__law_identity) (slots 0 ds) { nx := fun _ => Q (.va .non), rt := Q } := by
  have sc := sc__law_identity
  obtain ⟨rfl, hp, hQ⟩ := hS
  refine ws_norm (ρ' := []) rfl ?_
  refine ws_one ?_
  refine ws_retE (ee_tup (ea_cons ee_int (ea_cons ee_int (ea_cons ee_int (ea_cons ee_int (ea_cons (ee_tup (ea_cons ee_int (ea_cons ee_int ea_nil))) (ea_cons (ee_tup (ea_cons ee_int (ea_cons ee_int ea_nil))) ea_nil))))))) ?_
  walk_at "tg return"
theorem cal__law_identity (T : Txt K mg)  : Cal P w K mg base 1 "_law_identity" S__law_identity [] :=
  cal_of (T.d__law_identity.fn (P := P) (w := w) (base := base) (S := S__law_identity) (k := 0) sc__law_identity (fun ds Q h => by obtain ⟨rfl, _⟩ := h; rfl) fun f cdv A outer s H hr ds Q hS => body__law_identity T  hr ds Q hS) 0 (by decide) (fun G => .nil)
abbrev S__law_settled : Spc := ⟨fun ds Q => ∃ m : Mo, ds = [moD m] ∧ (True) ∧ Q (.va (moD (mstl m))), fun _ _ _ kk_ ⟨m, e_, p_, q_⟩ => ⟨m, e_, p_, kk_ _ q_⟩⟩

theorem sc__law_settled : FnScope ["m"] ["m"] (defScope s__law_settled) := ⟨rfl, rfl, rfl, by decide +kernel, rfl, by decide +kernel, by decide +kernel⟩
theorem body__law_settled (T : Txt K mg) (C__law_rest : Cal P w K mg base 1 "_law_rest" S__law_rest []) {f : Addr} {cdv : Value} {A : Around} {outer : List Env} {s : Shared} {H : Hp} (hr : Room (1) (A.deeper (envOfC "_law_settled" (defScope s__law_settled) s.heap.objs.size f cdv))) (ds : List D) (Q : O → Prop) (hS : (S__law_settled).S ds Q) :
    WSs (cxOf CX0 P w K mg base ["m"] "_law_settled" (defScope s__law_settled) f cdv A outer s H E0).nox noX (defBody s__law_settled) (slots 1 ds) { nx := fun _ => Q (.va .non), rt := Q } := by
  have sc := sc__law_settled
  obtain ⟨m, rfl, hp, hQ⟩ := hS
  refine ws_norm (ρ' := [_]) rfl ?_
  refine ws_one ?_
  refine ws_retE (ee_catT (ee_slT (ee_var 0 rfl) ep_none (ep_some ee_int) (by exact cutMo _)) (ee_tup (ea_cons (ee_cal (C__law_rest) (hr.mono (by decide)) (ea_cons (ee_ix (ee_var 0 rfl) ee_int rfl (by rfl)) ea_nil) (by exact ⟨_, rfl, trivial, rfl⟩)) (ea_cons (ee_cal (C__law_rest) (hr.mono (by decide)) (ea_cons (ee_ix (ee_var 0 rfl) ee_int rfl (by rfl)) ea_nil) (by exact ⟨_, rfl, trivial, rfl⟩)) ea_nil))) (by walk_at "tg cat")) ?_
  walk_at "tg return"
theorem cal__law_settled (T : Txt K mg) (C__law_rest : Cal P w K mg base 1 "_law_rest" S__law_rest []) : Cal P w K mg base 2 "_law_settled" S__law_settled [] :=
  cal_of (T.d__law_settled.fn (P := P) (w := w) (base := base) (S := S__law_settled) (k := 1) sc__law_settled (fun ds Q h => by obtain ⟨_, rfl, _⟩ := h; rfl) fun f cdv A outer s H hr ds Q hS => body__law_settled T C__law_rest hr ds Q hS) 0 (by decide) (fun G => .nil)
abbrev S__law_add : Spc := ⟨fun ds Q => ∃ p : Rat, ∃ q : Rat, ds = [rq p, rq q] ∧ (Rx 40000 2000 p ∧ Rx 40000 2000 q) ∧ Q (.va (rq (p + q))), fun _ _ _ kk_ ⟨p, q, e_, p_, q_⟩ => ⟨p, q, e_, p_, kk_ _ q_⟩⟩

theorem sc__law_add : FnScope ["f", "g"] ["f", "g"] (defScope s__law_add) := ⟨rfl, rfl, rfl, by decide +kernel, rfl, by decide +kernel, by decide +kernel⟩
theorem body__law_add (T : Txt K mg) (C__law_frac : Cal P w K mg base 2 "_law_frac" S__law_frac []) {f : Addr} {cdv : Value} {A : Around} {outer : List Env} {s : Shared} {H : Hp} (hr : Room (2) (A.deeper (envOfC "_law_add" (defScope s__law_add) s.heap.objs.size f cdv))) (ds : List D) (Q : O → Prop) (hS : (S__law_add).S ds Q) :
    WSs (cxOf CX0 P w K mg base ["f", "g"] "_law_add" (defScope s__law_add) f cdv A outer s H E0).nox noX (defBody s__law_add) (slots 2 ds) { nx := fun _ => Q (.va .non), rt := Q } := by
  have sc := sc__law_add
  obtain ⟨p, q, rfl, ⟨hp, hq⟩, hQ⟩ := hS
  refine ws_norm (ρ' := [_, _]) rfl ?_
  have h1 := hp.num
  have h2 := hp.den
  have h3 := hq.num
  have h4 := hq.den
  refine ws_one ?_
  refine ws_retE (ee_cal (C__law_frac) (hr.mono (by decide)) (ea_cons (ee_add (ee_mul (ee_ix (ee_var 0 rfl) ee_int rfl rfl) (ee_ix (ee_var 1 rfl) ee_int rfl rfl) (by exact Sz.mulE (by assumption) (by assumption))) (ee_mul (ee_ix (ee_var 1 rfl) ee_int rfl rfl) (ee_ix (ee_var 0 rfl) ee_int rfl rfl) (by exact Sz.mulE (by assumption) (by assumption)))) (ea_cons (ee_mul (ee_ix (ee_var 0 rfl) ee_int rfl rfl) (ee_ix (ee_var 1 rfl) ee_int rfl rfl) (by exact Sz.mulE (by assumption) (by assumption))) ea_nil)) (by exact ⟨_, _, rfl, ⟨mul_ne (rq_ne p) (rq_ne q), (h2.mul h4).mono (by decide)⟩, rfl⟩)) ?_
  rw [rat_add]; exact hQ
theorem cal__law_add (T : Txt K mg) (C__law_frac : Cal P w K mg base 2 "_law_frac" S__law_frac []) : Cal P w K mg base 3 "_law_add" S__law_add [] :=
  cal_of (T.d__law_add.fn (P := P) (w := w) (base := base) (S := S__law_add) (k := 2) sc__law_add (fun ds Q h => by obtain ⟨_, _, rfl, _⟩ := h; rfl) fun f cdv A outer s H hr ds Q hS => body__law_add T C__law_frac hr ds Q hS) 0 (by decide) (fun G => .nil)
abbrev S__law_mul : Spc := ⟨fun ds Q => ∃ p : Rat, ∃ q : Rat, ds = [rq p, rq q] ∧ (Rx 40000 2000 p ∧ Rx 40000 2000 q) ∧ Q (.va (rq (p * q))), fun _ _ _ kk_ ⟨p, q, e_, p_, q_⟩ => ⟨p, q, e_, p_, kk_ _ q_⟩⟩

theorem sc__law_mul : FnScope ["f", "g"] ["f", "g"] (defScope s__law_mul) := ⟨rfl, rfl, rfl, by decide +kernel, rfl, by decide +kernel, by decide +kernel⟩
theorem body__law_mul (T : Txt K mg) (C__law_frac : Cal P w K mg base 2 "_law_frac" S__law_frac []) {f : Addr} {cdv : Value} {A : Around} {outer : List Env} {s : Shared} {H : Hp} (hr : Room (2) (A.deeper (envOfC "_law_mul" (defScope s__law_mul) s.heap.objs.size f cdv))) (ds : List D) (Q : O → Prop) (hS : (S__law_mul).S ds Q) :
    WSs (cxOf CX0 P w K mg base ["f", "g"] "_law_mul" (defScope s__law_mul) f cdv A outer s H E0).nox noX (defBody s__law_mul) (slots 2 ds) { nx := fun _ => Q (.va .non), rt := Q } := by
  have sc := sc__law_mul
  obtain ⟨p, q, rfl, ⟨hp, hq⟩, hQ⟩ := hS
  refine ws_norm (ρ' := [_, _]) rfl ?_
  have h1 := hp.num
  have h2 := hp.den
  have h3 := hq.num
  have h4 := hq.den
  refine ws_one ?_
  refine ws_retE (ee_cal (C__law_frac) (hr.mono (by decide)) (ea_cons (ee_mul (ee_ix (ee_var 0 rfl) ee_int rfl rfl) (ee_ix (ee_var 1 rfl) ee_int rfl rfl) (by exact Sz.mulE (by assumption) (by assumption))) (ea_cons (ee_mul (ee_ix (ee_var 0 rfl) ee_int rfl rfl) (ee_ix (ee_var 1 rfl) ee_int rfl rfl) (by exact Sz.mulE (by assumption) (by assumption))) ea_nil)) (by exact ⟨_, _, rfl, ⟨mul_ne (rq_ne p) (rq_ne q), (h2.mul h4).mono (by decide)⟩, rfl⟩)) ?_
  rw [rat_mul]; exact hQ
theorem cal__law_mul (T : Txt K mg) (C__law_frac : Cal P w K mg base 2 "_law_frac" S__law_frac []) : Cal P w K mg base 3 "_law_mul" S__law_mul [] :=
  cal_of (T.d__law_mul.fn (P := P) (w := w) (base := base) (S := S__law_mul) (k := 2) sc__law_mul (fun ds Q h => by obtain ⟨_, _, rfl, _⟩ := h; rfl) fun f cdv A outer s H hr ds Q hS => body__law_mul T C__law_frac hr ds Q hS) 0 (by decide) (fun G => .nil)
abbrev S__law_led : Spc := ⟨fun ds Q => ∃ p : Mx, ∃ r : List D, ∃ x : Rat, ∃ y : Rat, ds = [.tup (mxL p ++ r), .tup [rq x, rq y]] ∧ (SzM 13000 p ∧ Zs 400 x ∧ Zs 400 y) ∧ Q (.va (.tup [rq (lx p x y), rq (ly p x y)])), fun _ _ _ kk_ ⟨p, r, x, y, e_, p_, q_⟩ => ⟨p, r, x, y, e_, p_, kk_ _ q_⟩⟩

theorem sc__law_led : FnScope ["m", "p", "x", "y"] ["m", "p"] (defScope s__law_led) := ⟨rfl, rfl, rfl, by decide +kernel, rfl, by decide +kernel, by decide +kernel⟩
theorem body__law_led (T : Txt K mg) (C__law_add : Cal P w K mg base 3 "_law_add" S__law_add []) (C__law_mul : Cal P w K mg base 3 "_law_mul" S__law_mul []) {f : Addr} {cdv : Value} {A : Around} {outer : List Env} {s : Shared} {H : Hp} (hr : Room (3) (A.deeper (envOfC "_law_led" (defScope s__law_led) s.heap.objs.size f cdv))) (ds : List D) (Q : O → Prop) (hS : (S__law_led).S ds Q) :
    WSs (cxOf CX0 P w K mg base ["m", "p", "x", "y"] "_law_led" (defScope s__law_led) f cdv A outer s H E0).nox noX (defBody s__law_led) (slots 4 ds) { nx := fun _ => Q (.va .non), rt := Q } := by
  have sc := sc__law_led
  obtain ⟨p, r, x, y, rfl, ⟨⟨ha, hb, hc, hd⟩, hx, hy⟩, hQ⟩ := hS
  refine ws_norm (ρ' := [_, _, _, _]) rfl ?_
  have ia := rx_int ha
  have ib := rx_int hb
  have ic := rx_int hc
  have id := rx_int hd
  have rx := hx.rx (by decide)
  have ry := hy.rx (by decide)
  have ma := ia.mul rx
  have mb := ib.mul ry
  have mc := ic.mul rx
  have md := id.mul ry
  refine ws_cons ?_
  refine ws_setE 2 (ee_cal (C__law_add) (hr.mono (by decide)) (ea_cons (ee_cal (C__law_mul) (hr.mono (by decide)) (ea_cons (ee_tup (ea_cons (ee_ix (ee_var 0 rfl) ee_int rfl (by exact at4 0 rfl rfl)) (ea_cons ee_int ea_nil))) (ea_cons (ee_ix (ee_var 1 rfl) ee_int rfl rfl) ea_nil)) (by first | exact ⟨(p.a : Rat), x, rfl, ⟨ia.mono (by decide) (by decide), rx.mono (by decide) (by decide)⟩, rfl⟩ | exact ⟨(p.b : Rat), y, rfl, ⟨ib.mono (by decide) (by decide), ry.mono (by decide) (by decide)⟩, rfl⟩ | exact ⟨(p.c : Rat), x, rfl, ⟨ic.mono (by decide) (by decide), rx.mono (by decide) (by decide)⟩, rfl⟩ | exact ⟨(p.d : Rat), y, rfl, ⟨id.mono (by decide) (by decide), ry.mono (by decide) (by decide)⟩, rfl⟩)) (ea_cons (ee_cal (C__law_mul) (hr.mono (by decide)) (ea_cons (ee_tup (ea_cons (ee_ix (ee_var 0 rfl) ee_int rfl (by exact at4 1 rfl rfl)) (ea_cons ee_int ea_nil))) (ea_cons (ee_ix (ee_var 1 rfl) ee_int rfl rfl) ea_nil)) (by first | exact ⟨(p.a : Rat), x, rfl, ⟨ia.mono (by decide) (by decide), rx.mono (by decide) (by decide)⟩, rfl⟩ | exact ⟨(p.b : Rat), y, rfl, ⟨ib.mono (by decide) (by decide), ry.mono (by decide) (by decide)⟩, rfl⟩ | exact ⟨(p.c : Rat), x, rfl, ⟨ic.mono (by decide) (by decide), rx.mono (by decide) (by decide)⟩, rfl⟩ | exact ⟨(p.d : Rat), y, rfl, ⟨id.mono (by decide) (by decide), ry.mono (by decide) (by decide)⟩, rfl⟩)) ea_nil)) (by first | exact ⟨_, _, rfl, ⟨ma.mono (by decide) (by decide), mb.mono (by decide) (by decide)⟩, rfl⟩ | exact ⟨_, _, rfl, ⟨mc.mono (by decide) (by decide), md.mono (by decide) (by decide)⟩, rfl⟩)) ?_ sc.nd
  refine ws_norm (ρ' := [_, _, _, _]) rfl ?_
  refine ws_cons ?_
  refine ws_setE 3 (ee_cal (C__law_add) (hr.mono (by decide)) (ea_cons (ee_cal (C__law_mul) (hr.mono (by decide)) (ea_cons (ee_tup (ea_cons (ee_ix (ee_var 0 rfl) ee_int rfl (by exact at4 2 rfl rfl)) (ea_cons ee_int ea_nil))) (ea_cons (ee_ix (ee_var 1 rfl) ee_int rfl rfl) ea_nil)) (by first | exact ⟨(p.a : Rat), x, rfl, ⟨ia.mono (by decide) (by decide), rx.mono (by decide) (by decide)⟩, rfl⟩ | exact ⟨(p.b : Rat), y, rfl, ⟨ib.mono (by decide) (by decide), ry.mono (by decide) (by decide)⟩, rfl⟩ | exact ⟨(p.c : Rat), x, rfl, ⟨ic.mono (by decide) (by decide), rx.mono (by decide) (by decide)⟩, rfl⟩ | exact ⟨(p.d : Rat), y, rfl, ⟨id.mono (by decide) (by decide), ry.mono (by decide) (by decide)⟩, rfl⟩)) (ea_cons (ee_cal (C__law_mul) (hr.mono (by decide)) (ea_cons (ee_tup (ea_cons (ee_ix (ee_var 0 rfl) ee_int rfl (by exact at4 3 rfl rfl)) (ea_cons ee_int ea_nil))) (ea_cons (ee_ix (ee_var 1 rfl) ee_int rfl rfl) ea_nil)) (by first | exact ⟨(p.a : Rat), x, rfl, ⟨ia.mono (by decide) (by decide), rx.mono (by decide) (by decide)⟩, rfl⟩ | exact ⟨(p.b : Rat), y, rfl, ⟨ib.mono (by decide) (by decide), ry.mono (by decide) (by decide)⟩, rfl⟩ | exact ⟨(p.c : Rat), x, rfl, ⟨ic.mono (by decide) (by decide), rx.mono (by decide) (by decide)⟩, rfl⟩ | exact ⟨(p.d : Rat), y, rfl, ⟨id.mono (by decide) (by decide), ry.mono (by decide) (by decide)⟩, rfl⟩)) ea_nil)) (by first | exact ⟨_, _, rfl, ⟨ma.mono (by decide) (by decide), mb.mono (by decide) (by decide)⟩, rfl⟩ | exact ⟨_, _, rfl, ⟨mc.mono (by decide) (by decide), md.mono (by decide) (by decide)⟩, rfl⟩)) ?_ sc.nd
  refine ws_norm (ρ' := [_, _, _, _]) rfl ?_
  refine ws_one ?_
  refine ws_retE (ee_tup (ea_cons (ee_var 2 rfl) (ea_cons (ee_var 3 rfl) ea_nil))) ?_
  walk_at "tg return"
theorem cal__law_led (T : Txt K mg) (C__law_add : Cal P w K mg base 3 "_law_add" S__law_add []) (C__law_mul : Cal P w K mg base 3 "_law_mul" S__law_mul []) : Cal P w K mg base 4 "_law_led" S__law_led [] :=
  cal_of (T.d__law_led.fn (P := P) (w := w) (base := base) (S := S__law_led) (k := 3) sc__law_led (fun ds Q h => by obtain ⟨_, _, _, _, rfl, _⟩ := h; rfl) fun f cdv A outer s H hr ds Q hS => body__law_led T C__law_add C__law_mul hr ds Q hS) 0 (by decide) (fun G => .nil)
abbrev S__law_moved : Spc := ⟨fun ds Q => ∃ n : Mo, ∃ x : Rat, ∃ y : Rat, ds = [moD n, .tup [rq x, rq y]] ∧ (So 13000 400 n ∧ Zs 400 x ∧ Zs 400 y) ∧ Q (.va (.tup [rq (lx n.m x y + n.x), rq (ly n.m x y + n.y)])), fun _ _ _ kk_ ⟨n, x, y, e_, p_, q_⟩ => ⟨n, x, y, e_, p_, kk_ _ q_⟩⟩

theorem sc__law_moved : FnScope ["m", "p", "x", "y"] ["m", "p"] (defScope s__law_moved) := ⟨rfl, rfl, rfl, by decide +kernel, rfl, by decide +kernel, by decide +kernel⟩
theorem body__law_moved (T : Txt K mg) (C__law_add : Cal P w K mg base 3 "_law_add" S__law_add []) (C__law_led : Cal P w K mg base 4 "_law_led" S__law_led []) {f : Addr} {cdv : Value} {A : Around} {outer : List Env} {s : Shared} {H : Hp} (hr : Room (4) (A.deeper (envOfC "_law_moved" (defScope s__law_moved) s.heap.objs.size f cdv))) (ds : List D) (Q : O → Prop) (hS : (S__law_moved).S ds Q) :
    WSs (cxOf CX0 P w K mg base ["m", "p", "x", "y"] "_law_moved" (defScope s__law_moved) f cdv A outer s H E0).nox noX (defBody s__law_moved) (slots 4 ds) { nx := fun _ => Q (.va .non), rt := Q } := by
  have sc := sc__law_moved
  obtain ⟨n, x, y, rfl, ⟨hn, hx, hy⟩, hQ⟩ := hS
  refine ws_norm (ρ' := [_, _, _, _]) rfl ?_
  have k1 := ((zs_two hn.a hn.b hx hy).rx (by decide)).mono (show 13000 + 400 + 1 ≤ 40000 by decide) (show 65 ≤ 2000 by decide)
  have k2 := ((zs_two hn.c hn.d hx hy).rx (by decide)).mono (show 13000 + 400 + 1 ≤ 40000 by decide) (show 65 ≤ 2000 by decide)
  have k3 := (hn.x.rx (by decide)).mono (show 400 ≤ 40000 by decide) (show 65 ≤ 2000 by decide)
  have k4 := (hn.y.rx (by decide)).mono (show 400 ≤ 40000 by decide) (show 65 ≤ 2000 by decide)
  refine ws_cons ?_
  refine ws_unpack (ee_cal (C__law_led) (hr.mono (by decide)) (ea_cons (ee_var 0 rfl) (ea_cons (ee_var 1 rfl) ea_nil)) (by exact ⟨n.m, [rq n.x, rq n.y], x, y, rfl, ⟨hn.szm, hx, hy⟩, rfl⟩)) (at_tup (ats_cons (at_name 2 sc.nd) (ats_cons (at_name 3 sc.nd) ats_nil))) ?_
  refine ws_norm (ρ' := [_, _, _, _]) rfl ?_
  refine ws_one ?_
  refine ws_retE (ee_tup (ea_cons (ee_cal (C__law_add) (hr.mono (by decide)) (ea_cons (ee_var 2 rfl) (ea_cons (ee_ix (ee_var 0 rfl) ee_int rfl (by rfl)) ea_nil)) (by first | exact ⟨_, _, rfl, ⟨k1, k3⟩, rfl⟩ | exact ⟨_, _, rfl, ⟨k2, k4⟩, rfl⟩)) (ea_cons (ee_cal (C__law_add) (hr.mono (by decide)) (ea_cons (ee_var 3 rfl) (ea_cons (ee_ix (ee_var 0 rfl) ee_int rfl (by rfl)) ea_nil)) (by first | exact ⟨_, _, rfl, ⟨k1, k3⟩, rfl⟩ | exact ⟨_, _, rfl, ⟨k2, k4⟩, rfl⟩)) ea_nil))) ?_
  walk_at "tg return"
theorem cal__law_moved (T : Txt K mg) (C__law_add : Cal P w K mg base 3 "_law_add" S__law_add []) (C__law_led : Cal P w K mg base 4 "_law_led" S__law_led []) : Cal P w K mg base 5 "_law_moved" S__law_moved [] :=
  cal_of (T.d__law_moved.fn (P := P) (w := w) (base := base) (S := S__law_moved) (k := 4) sc__law_moved (fun ds Q h => by obtain ⟨_, _, _, rfl, _⟩ := h; rfl) fun f cdv A outer s H hr ds Q hS => body__law_moved T C__law_add C__law_led hr ds Q hS) 0 (by decide) (fun G => .nil)
abbrev S__law_product : Spc := ⟨fun ds Q => ∃ p : Mx, ∃ r : List D, ∃ q : Mx, ∃ t : List D, ds = [.tup (mxL p ++ r), .tup (mxL q ++ t)] ∧ (SzM 13000 p ∧ SzM 13000 q) ∧ Q (.va (mxD (mmul p q))), fun _ _ _ kk_ ⟨p, r, q, t, e_, p_, q_⟩ => ⟨p, r, q, t, e_, p_, kk_ _ q_⟩⟩

theorem sc__law_product : FnScope ["m", "n", "first"] ["m", "n"] (defScope s__law_product) := ⟨rfl, rfl, rfl, by decide +kernel, rfl, by decide +kernel, by decide +kernel⟩
theorem body__law_product (T : Txt K mg)  {f : Addr} {cdv : Value} {A : Around} {outer : List Env} {s : Shared} {H : Hp} (hr : Room (0) (A.deeper (envOfC "_law_product" (defScope s__law_product) s.heap.objs.size f cdv))) (ds : List D) (Q : O → Prop) (hS : (S__law_product).S ds Q) :
    WSs (cxOf CX0 P w K mg base ["m", "n", "first"] "_law_product" (defScope s__law_product) f cdv A outer s H E0).nox noX (defBody s__law_product) (slots 3 ds) { nx := fun _ => Q (.va .non), rt := Q } := by
  have sc := sc__law_product
  obtain ⟨p, r, q, t, rfl, ⟨⟨ha, hb, hc, hd⟩, ⟨he, hf, hg, hh⟩⟩, hQ⟩ := hS
  refine ws_norm (ρ' := [_, _, _]) rfl ?_
  refine ws_cons ?_
  refine ws_setE 2 (ee_tup (ea_cons (ee_add (ee_mul (ee_ix (ee_var 1 rfl) ee_int rfl (by exact at4 0 rfl rfl)) (ee_ix (ee_var 0 rfl) ee_int rfl (by exact at4 0 rfl rfl)) (by exact Sz.mulE (by assumption) (by assumption))) (ee_mul (ee_ix (ee_var 1 rfl) ee_int rfl (by exact at4 1 rfl rfl)) (ee_ix (ee_var 0 rfl) ee_int rfl (by exact at4 2 rfl rfl)) (by exact Sz.mulE (by assumption) (by assumption)))) (ea_cons (ee_add (ee_mul (ee_ix (ee_var 1 rfl) ee_int rfl (by exact at4 0 rfl rfl)) (ee_ix (ee_var 0 rfl) ee_int rfl (by exact at4 1 rfl rfl)) (by exact Sz.mulE (by assumption) (by assumption))) (ee_mul (ee_ix (ee_var 1 rfl) ee_int rfl (by exact at4 1 rfl rfl)) (ee_ix (ee_var 0 rfl) ee_int rfl (by exact at4 3 rfl rfl)) (by exact Sz.mulE (by assumption) (by assumption)))) ea_nil))) ?_ sc.nd
  refine ws_norm (ρ' := [_, _, _]) rfl ?_
  refine ws_one ?_
  refine ws_retE (ee_catT (ee_var 2 rfl) (ee_tup (ea_cons (ee_add (ee_mul (ee_ix (ee_var 1 rfl) ee_int rfl (by exact at4 2 rfl rfl)) (ee_ix (ee_var 0 rfl) ee_int rfl (by exact at4 0 rfl rfl)) (by exact Sz.mulE (by assumption) (by assumption))) (ee_mul (ee_ix (ee_var 1 rfl) ee_int rfl (by exact at4 3 rfl rfl)) (ee_ix (ee_var 0 rfl) ee_int rfl (by exact at4 2 rfl rfl)) (by exact Sz.mulE (by assumption) (by assumption)))) (ea_cons (ee_add (ee_mul (ee_ix (ee_var 1 rfl) ee_int rfl (by exact at4 2 rfl rfl)) (ee_ix (ee_var 0 rfl) ee_int rfl (by exact at4 1 rfl rfl)) (by exact Sz.mulE (by assumption) (by assumption))) (ee_mul (ee_ix (ee_var 1 rfl) ee_int rfl (by exact at4 3 rfl rfl)) (ee_ix (ee_var 0 rfl) ee_int rfl (by exact at4 3 rfl rfl)) (by exact Sz.mulE (by assumption) (by assumption)))) ea_nil))) (by walk_at "tg cat")) ?_
  walk_at "tg return"
theorem cal__law_product (T : Txt K mg)  : Cal P w K mg base 1 "_law_product" S__law_product [] :=
  cal_of (T.d__law_product.fn (P := P) (w := w) (base := base) (S := S__law_product) (k := 0) sc__law_product (fun ds Q h => by obtain ⟨_, _, _, _, rfl, _⟩ := h; rfl) fun f cdv A outer s H hr ds Q hS => body__law_product T  hr ds Q hS) 0 (by decide) (fun G => .nil)
abbrev S__law_then : Spc := ⟨fun ds Q => ∃ m : Mo, ∃ n : Mo, ds = [moD m, moD n] ∧ (So 13000 400 m ∧ So 13000 400 n) ∧ Q (.va (moD (mthn m n))), fun _ _ _ kk_ ⟨m, n, e_, p_, q_⟩ => ⟨m, n, e_, p_, kk_ _ q_⟩⟩

theorem sc__law_then : FnScope ["m", "n"] ["m", "n"] (defScope s__law_then) := ⟨rfl, rfl, rfl, by decide +kernel, rfl, by decide +kernel, by decide +kernel⟩
theorem body__law_then (T : Txt K mg) (C__law_moved : Cal P w K mg base 5 "_law_moved" S__law_moved []) (C__law_product : Cal P w K mg base 1 "_law_product" S__law_product []) {f : Addr} {cdv : Value} {A : Around} {outer : List Env} {s : Shared} {H : Hp} (hr : Room (5) (A.deeper (envOfC "_law_then" (defScope s__law_then) s.heap.objs.size f cdv))) (ds : List D) (Q : O → Prop) (hS : (S__law_then).S ds Q) :
    WSs (cxOf CX0 P w K mg base ["m", "n"] "_law_then" (defScope s__law_then) f cdv A outer s H E0).nox noX (defBody s__law_then) (slots 2 ds) { nx := fun _ => Q (.va .non), rt := Q } := by
  have sc := sc__law_then
  obtain ⟨m, n, rfl, ⟨hm, hn⟩, hQ⟩ := hS
  refine ws_norm (ρ' := [_, _]) rfl ?_
  refine ws_one ?_
  refine ws_retE (ee_catT (ee_cal (C__law_product) (hr.mono (by decide)) (ea_cons (ee_var 0 rfl) (ea_cons (ee_var 1 rfl) ea_nil)) (by exact ⟨m.m, [rq m.x, rq m.y], n.m, [rq n.x, rq n.y], rfl, ⟨hm.szm, hn.szm⟩, rfl⟩)) (ee_cal (C__law_moved) (hr.mono (by decide)) (ea_cons (ee_var 1 rfl) (ea_cons (ee_tup (ea_cons (ee_ix (ee_var 0 rfl) ee_int rfl (by rfl)) (ea_cons (ee_ix (ee_var 0 rfl) ee_int rfl (by rfl)) ea_nil))) ea_nil)) (by exact ⟨n, m.x, m.y, rfl, ⟨hn, hm.x, hm.y⟩, rfl⟩)) (by walk_at "tg cat")) ?_
  walk_at "tg return"
theorem cal__law_then (T : Txt K mg) (C__law_moved : Cal P w K mg base 5 "_law_moved" S__law_moved []) (C__law_product : Cal P w K mg base 1 "_law_product" S__law_product []) : Cal P w K mg base 6 "_law_then" S__law_then [] :=
  cal_of (T.d__law_then.fn (P := P) (w := w) (base := base) (S := S__law_then) (k := 5) sc__law_then (fun ds Q h => by obtain ⟨_, _, rfl, _⟩ := h; rfl) fun f cdv A outer s H hr ds Q hS => body__law_then T C__law_moved C__law_product hr ds Q hS) 0 (by decide) (fun G => .nil)
abbrev S__law_closed : Spc := ⟨fun ds Q => ∃ Z : List Mo, ∃ n : Nat, ds = [.lst (Z.map moD), .int (n : Int)] ∧ (OkO 16 100 Z ∧ 1 ≤ n ∧ n ≤ 600) ∧ Q (resL Z n), fun _ _ _ kk_ ⟨Z, n, e_, p_, q_⟩ => ⟨Z, n, e_, p_, kk_ _ q_⟩⟩

theorem sc__law_closed : FnScope ["steps", "most", "found", "waiting", "turn", "current", "m", "target"] ["steps", "most"] (defScope s__law_closed) := ⟨rfl, rfl, rfl, by decide +kernel, rfl, by decide +kernel, by decide +kernel⟩
theorem body__law_closed (T : Txt K mg) (C__law_identity : Cal P w K mg base 1 "_law_identity" S__law_identity []) (C__law_settled : Cal P w K mg base 2 "_law_settled" S__law_settled []) (C__law_then : Cal P w K mg base 6 "_law_then" S__law_then []) {f : Addr} {cdv : Value} {A : Around} {outer : List Env} {s : Shared} {H : Hp} (hr : Room (6) (A.deeper (envOfC "_law_closed" (defScope s__law_closed) s.heap.objs.size f cdv))) (ds : List D) (Q : O → Prop) (hS : (S__law_closed).S ds Q) :
    WSs (cxOf CX0 P w K mg base ["steps", "most", "found", "waiting", "turn", "current", "m", "target"] "_law_closed" (defScope s__law_closed) f cdv A outer s H E0).nox noX (defBody s__law_closed) (slots 8 ds) { nx := fun _ => Q (.va .non), rt := Q } := by
  have sc := sc__law_closed
  obtain ⟨Z, n, rfl, ⟨hz, hn1, hn2⟩, hQ⟩ := hS
  refine ws_norm (ρ' := [_, _, _, _, _, _, _, _]) rfl ?_
  have hrun := run_cloL Z hn1
  refine ws_cons ?_
  refine ws_set 2 (eo_disp1 hr (ee_va (eo_cal0 (C__law_identity) (hr.mono (by decide)) (by exact ⟨rfl, trivial, rfl⟩))) ee_bl (by walk_at "tg dkey")) ?_ sc.nd
  rintro _ rfl
  refine ws_norm (ρ' := [_, _, _, _, _, _, _, _]) rfl ?_
  refine ws_cons ?_
  refine ws_setM 3 (eo_lst (ea_cons (ee_va (eo_cal0 (C__law_identity) (hr.mono (by decide)) (by exact ⟨rfl, trivial, rfl⟩))) ea_nil)) ?_ sc.nd
  refine ws_norm (ρ' := [_, _, _, _, _, _, _, _]) rfl ?_
  refine ws_cons ?_
  refine ws_forR (fun k ρ => ∃ F W : List Mo, ρ = [.va (.lst (Z.map moD)), .va (.int (n : Int)), .md (F.map moD) (yes F), .ml (W.map moD), .un, .un, .un, .un] ∧ Run gM (full n) Z F W (cloL Z n) ∧ InnL n (2 * n + 1 - k) F W ∧ 2 * (n - F.length) + W.length + k ≤ 2 * n + 1) T.m_range (ea_cons ee_int ea_nil) ?start4 nox_own ?turn4 ?fin4 (by decide)
  case start4 =>
    exact up_intro ⟨[MID], [MID], rfl, hrun, ⟨hn1, fun x hx => by rw [List.mem_singleton.mp hx]; exact so_id.mono (by decide) (by decide), fun _ h => h, by simp only [List.length_cons, List.length_nil]; omega⟩, by simp only [List.length_cons, List.length_nil]; omega⟩ (by walk_at "tg le")
  case turn4 =>
    intro k ρ hk hR_
    obtain ⟨F, W, rfl, hR, hI, hK⟩ := hR_
    refine ⟨_, (at_name 4 sc.nd), ?_⟩
    refine ws_norm (ρ' := [_, _, _, _, _, _, _, _]) rfl ?_
    refine ws_cons ?_
    refine ws_if (et_bor 3 rfl (et_eq hr.units (ee_var 3 rfl) (ee_lst (eo_lst ea_nil)) (by exact keyF_mo.cmpL W) (by rfl))) (fun h5 => ?_) (fun h5 => ?_)
    · skip
      refine ws_one ?_
      refine ws_break ?_
      have hw : W = [] := by
        have h5' : D.eqv (.lst (W.map moD)) (.lst (([] : List Mo).map moD)) = true := h5
        rw [keyF_mo.eqvL] at h5'
        exact of_decide_eq_true h5'
      subst hw
      have hcw : cloL Z n = some F := hR.nil_inv
      refine ws_one ?_
      refine ws_ret (P := fun o => o = .ml _) (eo_listX rfl T.m_list (ed_own 2 rfl)) ?_
      rintro _ rfl
      have hQ' : Q (oN ((cloL Z n).map fun F => F.map moD)) := hQ
      rw [hcw] at hQ'; exact hQ'
    · skip
      obtain ⟨V, c', rfl⟩ := snoc_of (l := W) (by intro z; rw [z] at h5; exact absurd h5 (by decide))
      have hcF := hI.wf c' (List.mem_append_right _ List.mem_cons_self)
      have hlen : (V ++ [c']).length = V.length + 1 := by rw [List.length_append, List.length_singleton]
      refine ws_nil ?_
      refine ws_cons ?_
      refine ws_pop 3 5 rfl (by exact pop_at) ?_ sc.nd
      refine ws_norm (ρ' := [_, _, _, _, _, _, _, _]) rfl ?_
      rw [pop_map]
      refine ws_one ?_
      refine ws_forL (fun k ρ => ∃ F' W' : List Mo, ρ = [.va (.lst (Z.map moD)), .va (.int (n : Int)), .md (F'.map moD) (yes F'), .ml (W'.map moD), .un, .va (moD c'), .un, .un] ∧ inn gM (full n) c' (Z.drop k) (F', W') = inn gM (full n) c' Z (F, V) ∧ InnL n (2 * (n - F.length) + V.length) F' W' ∧ c' ∈ F') (ee_var 0 rfl) ?start8 nox_own ?turn8 ?fin8
      case start8 =>
        exact up_intro ⟨F, V, rfl, rfl, ⟨hI.len, hI.ok, fun x hx => hI.wf x (List.mem_append_left _ hx), Nat.le_refl _⟩, hcF⟩ (by walk_at "tg le")
      case turn8 =>
        intro j d ρ hj hS_
        obtain ⟨F', W', rfl, hi, hJ, hcF'⟩ := hS_
        obtain ⟨hj', rfl⟩ := map_getK (f := moD) (l := Z) default hj
        have hmT := getD_mem (x := default) hj'
        rw [drop_getD default hj'] at hi
        generalize Z.getD j default = t at *
        have hF' := hJ.len
        have hso := (hJ.ok c' hcF').mono (show 19 * F'.length + 2 ≤ 13000 by omega) (show 65 ≤ 400 by decide)
        refine ⟨_, (at_name 6 sc.nd), ?_⟩
        refine ws_norm (ρ' := [_, _, _, _, _, _, _, _]) rfl ?_
        refine ws_cons ?_
        refine ws_setE 7 (ee_cal (C__law_settled) (hr.mono (by decide)) (ea_cons (ee_cal (C__law_then) (hr.mono (by decide)) (ea_cons (ee_var 5 rfl) (ea_cons (ee_var 6 rfl) ea_nil)) (by exact ⟨c', t, rfl, ⟨hso, (hz t hmT).mono (by decide) (by decide)⟩, rfl⟩)) ea_nil) (by exact ⟨_, rfl, trivial, rfl⟩)) ?_ sc.nd
        refine ws_norm (ρ' := [_, _, _, _, _, _, _, _]) rfl ?_
        refine ws_one ?_
        refine ws_if (et_ninX hr (ee_var 7 rfl) (ed_own 2 rfl) (by walk_at "tg dkey")) (fun h10 => ?_) (fun h10 => ?_)
        · skip
          have hnin : gM c' t ∉ F' := by
            rw [keyF_mo.mem, Bool.not_eq_true'] at h10
            exact of_decide_eq_false h10
          refine ws_cons ?_
          refine ws_if (et_eqI hr.units (ee_lenX hr rfl T.m_len (ed_own 2 rfl)) (ee_var 1 rfl)) (fun h11 => ?_) (fun h11 => ?_)
          · skip
            have hf11 : F'.length = n := by have := of_decide_eq_true h11; rw [List.length_map] at this; omega
            refine ws_one ?_
            refine ws_retE ee_non ?_
            have hno : inn gM (full n) c' Z (F, V) = none := by rw [← hi, inn_cons_bad hnin (decide_eq_true hf11)]
            have hcn : cloL Z n = none := by
              rcases hR.inv with ⟨_, e⟩ | ⟨_, _, e, _⟩
              · exact e
              · rw [hno] at e; cases e
            have hQ' : Q (oN ((cloL Z n).map fun F => F.map moD)) := hQ
            rw [hcn] at hQ'; exact hQ'
          · skip
            have hfull : ¬ F'.length = n := by have := of_decide_eq_false h11; rw [List.length_map] at this; omega
            refine ws_nil ?_
            refine ws_cons ?_
            refine ws_dput 2 rfl hr ee_bl (ee_var 7 rfl) (by walk_at "tg dkey") (by rw [List.length_map]; exact line_of (by omega)) ?_
            refine ws_norm (ρ' := [_, _, _, _, _, _, _, _]) rfl ?_
            rw [keyF_mo.insK, keyF_mo.insV, ins_new hnin]
            refine ws_one ?_
            refine ws_append 3 rfl (ee_var 7 rfl) (by rw [List.length_map]; have := hJ.ms; exact line_of (by omega)) ?_
            first | exact up_intro ⟨F' ++ [gM c' t], W' ++ [gM c' t], by rw [List.map_append (l₁ := W')] <;> rfl, by rw [← hi, inn_cons_new hnin (decide_eq_false hfull)], hJ.new hcF' (hz t hmT) hfull, List.mem_append_left _ hcF'⟩ (by walk_at "tg le") | exact up_intro ⟨F', W', rfl, by rw [← hi, inn_cons_in hin], hJ, hcF'⟩ (by walk_at "tg le")
        · skip
          have hin : gM c' t ∈ F' := by
            rw [keyF_mo.mem, Bool.not_eq_false'] at h10
            exact of_decide_eq_true h10
          refine ws_nil ?_
          first | exact up_intro ⟨F' ++ [gM c' t], W' ++ [gM c' t], by rw [List.map_append (l₁ := W')] <;> rfl, by rw [← hi, inn_cons_new hnin (decide_eq_false hfull)], hJ.new hcF' (hz t hmT) hfull, List.mem_append_left _ hcF'⟩ (by walk_at "tg le") | exact up_intro ⟨F', W', rfl, by rw [← hi, inn_cons_in hin], hJ, hcF'⟩ (by walk_at "tg le")
      case fin8 =>
        intro ρ hS_
        obtain ⟨F', W', rfl, hi, hJ, hcF'⟩ := hS_
        rw [List.length_map, List.drop_length] at hi
        rcases hR.inv with ⟨e, _⟩ | ⟨F2, W2, e, hR2⟩
        · rw [e] at hi; cases hi
        · rw [e] at hi; cases hi
          exact up_intro ⟨F', W', rfl, hR2, ⟨hJ.len, hJ.ok, hJ.wf, by have := hJ.ms; omega⟩, by have := hJ.ms; omega⟩ (by walk_at "tg le")
  case fin4 =>
    intro ρ hR_
    obtain ⟨F, W, rfl, hR, hI, hK⟩ := hR_
    exfalso
    have hk2 : (2000 : Int).toNat = 2000 := rfl
    omega
theorem cal__law_closed (T : Txt K mg) (C__law_identity : Cal P w K mg base 1 "_law_identity" S__law_identity []) (C__law_settled : Cal P w K mg base 2 "_law_settled" S__law_settled []) (C__law_then : Cal P w K mg base 6 "_law_then" S__law_then []) : Cal P w K mg base 7 "_law_closed" S__law_closed [] :=
  cal_of (T.d__law_closed.fn (P := P) (w := w) (base := base) (S := S__law_closed) (k := 6) sc__law_closed (fun ds Q h => by obtain ⟨_, _, rfl, _⟩ := h; rfl) fun f cdv A outer s H hr ds Q hS => body__law_closed T C__law_identity C__law_settled C__law_then hr ds Q hS) 0 (by decide) (fun G => .nil)
abbrev S__law_axes : Spc := ⟨fun ds Q => ∃ ns : List Int, ds = [.lst (ns.map .int)] ∧ (3 ≤ ns.length ∧ Rng ns) ∧ Q (.va (mxD (axM ns))), fun _ _ _ kk_ ⟨ns, e_, p_, q_⟩ => ⟨ns, e_, p_, kk_ _ q_⟩⟩

theorem sc__law_axes : FnScope ["numbers", "k", "j"] ["numbers"] (defScope s__law_axes) := ⟨rfl, rfl, rfl, by decide +kernel, rfl, by decide +kernel, by decide +kernel⟩
theorem body__law_axes (T : Txt K mg)  {f : Addr} {cdv : Value} {A : Around} {outer : List Env} {s : Shared} {H : Hp} (hr : Room (0) (A.deeper (envOfC "_law_axes" (defScope s__law_axes) s.heap.objs.size f cdv))) (ds : List D) (Q : O → Prop) (hS : (S__law_axes).S ds Q) :
    WSs (cxOf CX0 P w K mg base ["numbers", "k", "j"] "_law_axes" (defScope s__law_axes) f cdv A outer s H E0).nox noX (defBody s__law_axes) (slots 3 ds) { nx := fun _ => Q (.va .non), rt := Q } := by
  have sc := sc__law_axes
  obtain ⟨ns, rfl, ⟨hn, hr'⟩, hQ⟩ := hS
  refine ws_norm (ρ' := [_, _, _]) rfl ?_
  refine ws_cons ?_
  refine ws_setE 1 (ee_sub (ee_mod (ee_ix (ee_var 0 rfl) ee_int rfl (by exact atI_lit 0 rfl (by omega))) ee_int (by walk_at "tg mod")) ee_int) ?_ sc.nd
  refine ws_norm (ρ' := [_, _, _]) rfl ?_
  refine ws_cons ?_
  refine ws_setE 2 (ee_sub (ee_mod (ee_ix (ee_var 0 rfl) ee_int rfl (by exact atI_lit 1 rfl (by omega))) ee_int (by walk_at "tg mod")) ee_int) ?_ sc.nd
  refine ws_norm (ρ' := [_, _, _]) rfl ?_
  refine ws_cons ?_
  refine ws_if (et_eqI hr.units (ee_mod (ee_ix (ee_var 0 rfl) ee_int rfl (by exact atI_lit 2 rfl (by omega))) ee_int (by walk_at "tg mod")) ee_int) (fun h4 => ?_) (fun h4 => ?_)
  · skip
    refine ws_one ?_
    refine ws_retE (ee_tup (ea_cons (ee_add ee_int (ee_mul (ee_var 1 rfl) (ee_var 2 rfl) (by exact Sz.mulE (sz_m5 _) (sz_m5 _)))) (ea_cons (ee_sub ee_int (ee_var 1 rfl)) (ea_cons (ee_var 2 rfl) (ea_cons (ee_neg ee_int) ea_nil))))) ?_
    rw [axM, if_pos (of_decide_eq_true h4)] at hQ; exact hQ
  · skip
    refine ws_nil ?_
    refine ws_one ?_
    refine ws_retE (ee_tup (ea_cons (ee_add ee_int (ee_mul (ee_var 1 rfl) (ee_var 2 rfl) (by exact Sz.mulE (sz_m5 _) (sz_m5 _)))) (ea_cons (ee_var 1 rfl) (ea_cons (ee_var 2 rfl) (ea_cons ee_int ea_nil))))) ?_
    rw [axM, if_neg (of_decide_eq_false h4)] at hQ; exact hQ
theorem cal__law_axes (T : Txt K mg)  : Cal P w K mg base 1 "_law_axes" S__law_axes [] :=
  cal_of (T.d__law_axes.fn (P := P) (w := w) (base := base) (S := S__law_axes) (k := 0) sc__law_axes (fun ds Q h => by obtain ⟨_, rfl, _⟩ := h; rfl) fun f cdv A outer s H hr ds Q hS => body__law_axes T  hr ds Q hS) 0 (by decide) (fun G => .nil)
abbrev S__law_det : Spc := ⟨fun ds Q => ∃ p : Mx, ∃ r : List D, ds = [.tup (mxL p ++ r)] ∧ (SzM 200 p) ∧ Q (.va (.int (mdet p))), fun _ _ _ kk_ ⟨p, r, e_, p_, q_⟩ => ⟨p, r, e_, p_, kk_ _ q_⟩⟩

theorem sc__law_det : FnScope ["m"] ["m"] (defScope s__law_det) := ⟨rfl, rfl, rfl, by decide +kernel, rfl, by decide +kernel, by decide +kernel⟩
theorem body__law_det (T : Txt K mg)  {f : Addr} {cdv : Value} {A : Around} {outer : List Env} {s : Shared} {H : Hp} (hr : Room (0) (A.deeper (envOfC "_law_det" (defScope s__law_det) s.heap.objs.size f cdv))) (ds : List D) (Q : O → Prop) (hS : (S__law_det).S ds Q) :
    WSs (cxOf CX0 P w K mg base ["m"] "_law_det" (defScope s__law_det) f cdv A outer s H E0).nox noX (defBody s__law_det) (slots 1 ds) { nx := fun _ => Q (.va .non), rt := Q } := by
  have sc := sc__law_det
  obtain ⟨p, r, rfl, ⟨ha, hb, hc, hd⟩, hQ⟩ := hS
  refine ws_norm (ρ' := [_]) rfl ?_
  refine ws_one ?_
  refine ws_retE (ee_sub (ee_mul (ee_ix (ee_var 0 rfl) ee_int rfl (by exact at4 0 rfl rfl)) (ee_ix (ee_var 0 rfl) ee_int rfl (by exact at4 3 rfl rfl)) (by exact Sz.mulE (by assumption) (by assumption))) (ee_mul (ee_ix (ee_var 0 rfl) ee_int rfl (by exact at4 1 rfl rfl)) (ee_ix (ee_var 0 rfl) ee_int rfl (by exact at4 2 rfl rfl)) (by exact Sz.mulE (by assumption) (by assumption)))) ?_
  walk_at "tg return"
theorem cal__law_det (T : Txt K mg)  : Cal P w K mg base 1 "_law_det" S__law_det [] :=
  cal_of (T.d__law_det.fn (P := P) (w := w) (base := base) (S := S__law_det) (k := 0) sc__law_det (fun ds Q h => by obtain ⟨_, _, rfl, _⟩ := h; rfl) fun f cdv A outer s H hr ds Q hS => body__law_det T  hr ds Q hS) 0 (by decide) (fun G => .nil)
abbrev S__law_back : Spc := ⟨fun ds Q => ∃ m : Mo, ds = [moD m] ∧ (So 200 400 m ∧ Dt m.m) ∧ Q (.va (moD (mbck m))), fun _ _ _ kk_ ⟨m, e_, p_, q_⟩ => ⟨m, e_, p_, kk_ _ q_⟩⟩

theorem sc__law_back : FnScope ["m", "sign", "matrix", "x", "y"] ["m"] (defScope s__law_back) := ⟨rfl, rfl, rfl, by decide +kernel, rfl, by decide +kernel, by decide +kernel⟩
theorem body__law_back (T : Txt K mg) (C__law_det : Cal P w K mg base 1 "_law_det" S__law_det []) (C__law_led : Cal P w K mg base 4 "_law_led" S__law_led []) {f : Addr} {cdv : Value} {A : Around} {outer : List Env} {s : Shared} {H : Hp} (hr : Room (4) (A.deeper (envOfC "_law_back" (defScope s__law_back) s.heap.objs.size f cdv))) (ds : List D) (Q : O → Prop) (hS : (S__law_back).S ds Q) :
    WSs (cxOf CX0 P w K mg base ["m", "sign", "matrix", "x", "y"] "_law_back" (defScope s__law_back) f cdv A outer s H E0).nox noX (defBody s__law_back) (slots 5 ds) { nx := fun _ => Q (.va .non), rt := Q } := by
  have sc := sc__law_back
  obtain ⟨m, rfl, ⟨hm, hd⟩, hQ⟩ := hS
  refine ws_norm (ρ' := [_, _, _, _, _]) rfl ?_
  have hr' := szm_rev hd hm.szm
  have hr2 : SzM 13000 (mrev m.m) := ⟨hr'.1.mono (by decide), hr'.2.1.mono (by decide), hr'.2.2.1.mono (by decide), hr'.2.2.2.mono (by decide)⟩
  have hx := hm.x
  have hy := hm.y
  have k1 := ((zs_two hr'.1 hr'.2.1 hx hy).rx (by decide)).mono (show 200 + 400 + 1 ≤ 40000 by decide) (show 65 ≤ 2000 by decide)
  have k2 := ((zs_two hr'.2.2.1 hr'.2.2.2 hx hy).rx (by decide)).mono (show 200 + 400 + 1 ≤ 40000 by decide) (show 65 ≤ 2000 by decide)
  have hdz : Sz 2 (mdet m.m) := by rcases hd with h | h <;> rw [h] <;> exact sz_lit rfl
  have hrv : [D.int (mdet m.m * m.m.d), .int (0 - mdet m.m * m.m.b), .int (0 - mdet m.m * m.m.c), .int (mdet m.m * m.m.a)] = mxL (mrev m.m) := by show _ = [D.int (mdet m.m * m.m.d), .int (-mdet m.m * m.m.b), .int (-mdet m.m * m.m.c), .int (mdet m.m * m.m.a)]; rw [Int.zero_sub, Int.zero_sub, Int.neg_mul, Int.neg_mul]
  have ha := hm.a
  have hb := hm.b
  have hc := hm.c
  have hd' := hm.d
  refine ws_cons ?_
  refine ws_setE 1 (ee_cal (C__law_det) (hr.mono (by decide)) (ea_cons (ee_var 0 rfl) ea_nil) (by exact ⟨m.m, [rq m.x, rq m.y], rfl, hm.szm, rfl⟩)) ?_ sc.nd
  refine ws_norm (ρ' := [_, _, _, _, _]) rfl ?_
  refine ws_cons ?_
  refine ws_setE 2 (ee_tup (ea_cons (ee_mul (ee_var 1 rfl) (ee_ix (ee_var 0 rfl) ee_int rfl (by rfl)) (by exact Sz.mulE hdz (by assumption))) (ea_cons (ee_sub ee_int (ee_mul (ee_var 1 rfl) (ee_ix (ee_var 0 rfl) ee_int rfl (by rfl)) (by exact Sz.mulE hdz (by assumption)))) (ea_cons (ee_sub ee_int (ee_mul (ee_var 1 rfl) (ee_ix (ee_var 0 rfl) ee_int rfl (by rfl)) (by exact Sz.mulE hdz (by assumption)))) (ea_cons (ee_mul (ee_var 1 rfl) (ee_ix (ee_var 0 rfl) ee_int rfl (by rfl)) (by exact Sz.mulE hdz (by assumption))) ea_nil))))) ?_ sc.nd
  refine ws_norm (ρ' := [_, _, _, _, _]) rfl ?_
  rw [hrv]
  refine ws_cons ?_
  refine ws_unpack (ee_cal (C__law_led) (hr.mono (by decide)) (ea_cons (ee_var 2 rfl) (ea_cons (ee_tup (ea_cons (ee_ix (ee_var 0 rfl) ee_int rfl (by rfl)) (ea_cons (ee_ix (ee_var 0 rfl) ee_int rfl (by rfl)) ea_nil))) ea_nil)) (by exact ⟨mrev m.m, [], m.x, m.y, rfl, ⟨hr2, hx, hy⟩, rfl⟩)) (at_tup (ats_cons (at_name 3 sc.nd) (ats_cons (at_name 4 sc.nd) ats_nil))) ?_
  refine ws_norm (ρ' := [_, _, _, _, _]) rfl ?_
  refine ws_one ?_
  refine ws_retE (ee_catT (ee_var 2 rfl) (ee_tup (ea_cons (ee_tup (ea_cons (ee_sub ee_int (ee_ix (ee_var 3 rfl) ee_int rfl (by rfl))) (ea_cons (ee_ix (ee_var 3 rfl) ee_int rfl (by rfl)) ea_nil))) (ea_cons (ee_tup (ea_cons (ee_sub ee_int (ee_ix (ee_var 4 rfl) ee_int rfl (by rfl))) (ea_cons (ee_ix (ee_var 4 rfl) ee_int rfl (by rfl)) ea_nil))) ea_nil))) (by walk_at "tg cat")) ?_
  have e : moD (mbck m) = .tup (mxL (mrev m.m) ++ [fr (0 - (lx (mrev m.m) m.x m.y).num) (lx (mrev m.m) m.x m.y).den, fr (0 - (ly (mrev m.m) m.x m.y).num) (ly (mrev m.m) m.x m.y).den]) := by rw [← rq_neg, ← rq_neg]; unfold mbck; rw [show ∀ z : Rat, 0 - z = -z from fun z => by grind]; simp only [show ∀ z : Rat, 0 - z = -z from fun z => by grind]; rfl
  rw [e] at hQ; exact hQ
theorem cal__law_back (T : Txt K mg) (C__law_det : Cal P w K mg base 1 "_law_det" S__law_det []) (C__law_led : Cal P w K mg base 4 "_law_led" S__law_led []) : Cal P w K mg base 5 "_law_back" S__law_back [] :=
  cal_of (T.d__law_back.fn (P := P) (w := w) (base := base) (S := S__law_back) (k := 4) sc__law_back (fun ds Q h => by obtain ⟨_, rfl, _⟩ := h; rfl) fun f cdv A outer s H hr ds Q hS => body__law_back T C__law_det C__law_led hr ds Q hS) 0 (by decide) (fun G => .nil)
abbrev S__law_shifted : Spc := ⟨fun ds Q => ∃ m : Mo, ∃ x : Rat, ∃ y : Rat, ds = [moD m, rq x, rq y] ∧ ((Zs 400 m.x ∧ Zs 400 m.y) ∧ (Zs 400 x ∧ Zs 400 y)) ∧ Q (.va (moD ⟨m.m, m.x + x, m.y + y⟩)), fun _ _ _ kk_ ⟨m, x, y, e_, p_, q_⟩ => ⟨m, x, y, e_, p_, kk_ _ q_⟩⟩

theorem sc__law_shifted : FnScope ["m", "x", "y"] ["m", "x", "y"] (defScope s__law_shifted) := ⟨rfl, rfl, rfl, by decide +kernel, rfl, by decide +kernel, by decide +kernel⟩
theorem body__law_shifted (T : Txt K mg) (C__law_add : Cal P w K mg base 3 "_law_add" S__law_add []) {f : Addr} {cdv : Value} {A : Around} {outer : List Env} {s : Shared} {H : Hp} (hr : Room (3) (A.deeper (envOfC "_law_shifted" (defScope s__law_shifted) s.heap.objs.size f cdv))) (ds : List D) (Q : O → Prop) (hS : (S__law_shifted).S ds Q) :
    WSs (cxOf CX0 P w K mg base ["m", "x", "y"] "_law_shifted" (defScope s__law_shifted) f cdv A outer s H E0).nox noX (defBody s__law_shifted) (slots 3 ds) { nx := fun _ => Q (.va .non), rt := Q } := by
  have sc := sc__law_shifted
  obtain ⟨m, x, y, rfl, ⟨⟨h1, h2⟩, ⟨h3, h4⟩⟩, hQ⟩ := hS
  refine ws_norm (ρ' := [_, _, _]) rfl ?_
  refine ws_one ?_
  refine ws_retE (ee_catT (ee_slT (ee_var 0 rfl) ep_none (ep_some ee_int) (by exact cutMo _)) (ee_tup (ea_cons (ee_cal (C__law_add) (hr.mono (by decide)) (ea_cons (ee_ix (ee_var 0 rfl) ee_int rfl (by rfl)) (ea_cons (ee_var 1 rfl) ea_nil)) (by first | exact ⟨m.x, x, rfl, ⟨(h1.rx (by decide)).mono (by decide) (by decide), (h3.rx (by decide)).mono (by decide) (by decide)⟩, rfl⟩ | exact ⟨m.y, y, rfl, ⟨(h2.rx (by decide)).mono (by decide) (by decide), (h4.rx (by decide)).mono (by decide) (by decide)⟩, rfl⟩)) (ea_cons (ee_cal (C__law_add) (hr.mono (by decide)) (ea_cons (ee_ix (ee_var 0 rfl) ee_int rfl (by rfl)) (ea_cons (ee_var 2 rfl) ea_nil)) (by first | exact ⟨m.x, x, rfl, ⟨(h1.rx (by decide)).mono (by decide) (by decide), (h3.rx (by decide)).mono (by decide) (by decide)⟩, rfl⟩ | exact ⟨m.y, y, rfl, ⟨(h2.rx (by decide)).mono (by decide) (by decide), (h4.rx (by decide)).mono (by decide) (by decide)⟩, rfl⟩)) ea_nil))) (by walk_at "tg cat")) ?_
  walk_at "tg return"
theorem cal__law_shifted (T : Txt K mg) (C__law_add : Cal P w K mg base 3 "_law_add" S__law_add []) : Cal P w K mg base 4 "_law_shifted" S__law_shifted [] :=
  cal_of (T.d__law_shifted.fn (P := P) (w := w) (base := base) (S := S__law_shifted) (k := 3) sc__law_shifted (fun ds Q h => by obtain ⟨_, _, _, rfl, _⟩ := h; rfl) fun f cdv A outer s H hr ds Q hS => body__law_shifted T C__law_add hr ds Q hS) 0 (by decide) (fun G => .nil)
abbrev S__law_steps : Spc := ⟨fun ds Q => ∃ ns : List Int, ds = [.lst (ns.map .int)] ∧ (4 ≤ ns.length ∧ Rng ns) ∧ Q (.ml ((stpM ns).map moD)), fun _ _ _ kk_ ⟨ns, e_, p_, q_⟩ => ⟨ns, e_, p_, kk_ _ q_⟩⟩

theorem sc__law_steps : FnScope ["numbers", "turns", "flips", "flip", "x", "y"] ["numbers"] (defScope s__law_steps) := ⟨rfl, rfl, rfl, by decide +kernel, rfl, by decide +kernel, by decide +kernel⟩
theorem body__law_steps (T : Txt K mg)  {f : Addr} {cdv : Value} {A : Around} {outer : List Env} {s : Shared} {H : Hp} (hr : Room (0) (A.deeper (envOfC "_law_steps" (defScope s__law_steps) s.heap.objs.size f cdv))) (ds : List D) (Q : O → Prop) (hS : (S__law_steps).S ds Q) :
    WSs (cxOf CX0 P w K mg base ["numbers", "turns", "flips", "flip", "x", "y"] "_law_steps" (defScope s__law_steps) f cdv A outer s H E0).nox noX (defBody s__law_steps) (slots 6 ds) { nx := fun _ => Q (.va .non), rt := Q } := by
  have sc := sc__law_steps
  obtain ⟨ns, rfl, ⟨hn, hr'⟩, hQ⟩ := hS
  refine ws_norm (ρ' := [_, _, _, _, _, _]) rfl ?_
  refine ws_cons ?_
  refine ws_setM 1 (eo_lst (ea_cons (ee_tup (ea_cons ee_int (ea_cons ee_int (ea_cons ee_int (ea_cons ee_int ea_nil))))) (ea_cons (ee_tup (ea_cons (ee_neg ee_int) (ea_cons ee_int (ea_cons ee_int (ea_cons (ee_neg ee_int) ea_nil))))) (ea_cons (ee_tup (ea_cons ee_int (ea_cons (ee_neg ee_int) (ea_cons ee_int (ea_cons ee_int ea_nil))))) (ea_cons (ee_tup (ea_cons ee_int (ea_cons (ee_neg ee_int) (ea_cons ee_int (ea_cons (ee_neg ee_int) ea_nil))))) (ea_cons (ee_tup (ea_cons ee_int (ea_cons (ee_neg ee_int) (ea_cons ee_int (ea_cons ee_int ea_nil))))) ea_nil)))))) ?_ sc.nd
  refine ws_norm (ρ' := [_, _, _, _, _, _]) rfl ?_
  refine ws_freeze 1 rfl ?_
  refine ws_norm (ρ' := [_, _, _, _, _, _]) rfl ?_
  refine ws_cons ?_
  refine ws_setM 2 (eo_lst (ea_cons (ee_tup (ea_cons ee_int (ea_cons ee_int (ea_cons ee_int (ea_cons ee_int ea_nil))))) (ea_cons (ee_tup (ea_cons ee_int (ea_cons ee_int (ea_cons ee_int (ea_cons (ee_neg ee_int) ea_nil))))) (ea_cons (ee_tup (ea_cons ee_int (ea_cons ee_int (ea_cons ee_int (ea_cons ee_int ea_nil))))) (ea_cons (ee_tup (ea_cons ee_int (ea_cons (ee_neg ee_int) (ea_cons (ee_neg ee_int) (ea_cons ee_int ea_nil))))) ea_nil))))) ?_ sc.nd
  refine ws_norm (ρ' := [_, _, _, _, _, _]) rfl ?_
  refine ws_freeze 2 rfl ?_
  refine ws_norm (ρ' := [_, _, _, _, _, _]) rfl ?_
  refine ws_cons ?_
  refine ws_setE 3 (ee_ix (ee_var 2 rfl) (ee_mod (ee_ix (ee_var 0 rfl) ee_int rfl (by exact atI_lit 1 rfl (by omega))) ee_int (by walk_at "tg mod")) rfl (by exact atI_map (f := mxD) (l := FLIPS) (by omega) (by show ns.getD 1 0 % 4 < 4; omega))) ?_ sc.nd
  refine ws_norm (ρ' := [_, _, _, _, _, _]) rfl ?_
  refine ws_cons ?_
  refine ws_setE 4 (ee_ix (ee_lst (eo_lst (ea_cons (ee_tup (ea_cons ee_int (ea_cons ee_int ea_nil))) (ea_cons (ee_tup (ea_cons ee_int (ea_cons ee_int ea_nil))) ea_nil)))) (ee_mod (ee_ix (ee_var 0 rfl) ee_int rfl (by exact atI_lit 2 rfl (by omega))) ee_int (by walk_at "tg mod")) rfl (by exact halves_at (by omega) (by omega))) ?_ sc.nd
  refine ws_norm (ρ' := [_, _, _, _, _, _]) rfl ?_
  refine ws_cons ?_
  refine ws_setE 5 (ee_ix (ee_lst (eo_lst (ea_cons (ee_tup (ea_cons ee_int (ea_cons ee_int ea_nil))) (ea_cons (ee_tup (ea_cons ee_int (ea_cons ee_int ea_nil))) ea_nil)))) (ee_mod (ee_ix (ee_var 0 rfl) ee_int rfl (by exact atI_lit 3 rfl (by omega))) ee_int (by walk_at "tg mod")) rfl (by exact halves_at (by omega) (by omega))) ?_ sc.nd
  refine ws_norm (ρ' := [_, _, _, _, _, _]) rfl ?_
  refine ws_cons ?_
  refine ws_if (et_eqI hr.units (ee_mod (ee_ix (ee_var 0 rfl) ee_int rfl (by exact atI_lit 1 rfl (by omega))) ee_int (by walk_at "tg mod")) ee_int) (fun h7 => ?_) (fun h7 => ?_)
  · skip
    refine ws_one ?_
    refine ws_ret (P := fun o => o = .ml _) (eo_lst (ea_cons (ee_catT (ee_ix (ee_var 1 rfl) (ee_mod (ee_ix (ee_var 0 rfl) ee_int rfl (by exact atI_lit 0 rfl (by omega))) ee_int (by walk_at "tg mod")) rfl (by exact atI_map (f := mxD) (l := TURNS) (by omega) (by show ns.getD 0 0 % 5 < 5; omega))) (ee_tup (ea_cons (ee_tup (ea_cons ee_int (ea_cons ee_int ea_nil))) (ea_cons (ee_tup (ea_cons ee_int (ea_cons ee_int ea_nil))) ea_nil))) (by walk_at "tg cat")) ea_nil)) ?_
    rintro _ rfl
    rw [stpM, if_pos (of_decide_eq_true h7)] at hQ; exact hQ
  · skip
    refine ws_nil ?_
    refine ws_one ?_
    refine ws_ret (P := fun o => o = .ml _) (eo_lst (ea_cons (ee_catT (ee_ix (ee_var 1 rfl) (ee_mod (ee_ix (ee_var 0 rfl) ee_int rfl (by exact atI_lit 0 rfl (by omega))) ee_int (by walk_at "tg mod")) rfl (by exact atI_map (f := mxD) (l := TURNS) (by omega) (by show ns.getD 0 0 % 5 < 5; omega))) (ee_tup (ea_cons (ee_tup (ea_cons ee_int (ea_cons ee_int ea_nil))) (ea_cons (ee_tup (ea_cons ee_int (ea_cons ee_int ea_nil))) ea_nil))) (by walk_at "tg cat")) (ea_cons (ee_catT (ee_var 3 rfl) (ee_tup (ea_cons (ee_var 4 rfl) (ea_cons (ee_var 5 rfl) ea_nil))) (by walk_at "tg cat")) ea_nil))) ?_
    rintro _ rfl
    rw [stpM, if_neg (of_decide_eq_false h7)] at hQ; exact hQ
theorem cal__law_steps (T : Txt K mg)  : Cal P w K mg base 1 "_law_steps" S__law_steps [] :=
  cal_of (T.d__law_steps.fn (P := P) (w := w) (base := base) (S := S__law_steps) (k := 0) sc__law_steps (fun ds Q h => by obtain ⟨_, rfl, _⟩ := h; rfl) fun f cdv A outer s H hr ds Q hS => body__law_steps T  hr ds Q hS) 0 (by decide) (fun G => .nil)
abbrev S__law_fine : Spc := ⟨fun ds Q => ∃ ns : List Int, ∃ szs : List Int, ∃ N : Nat, ds = [.lst (ns.map .int), .lst (szs.map .int)] ∧ (20 ≤ ns.length ∧ Rng ns ∧ SzOk szs N) ∧ Q (.ml ((finM szs ns).map moD)), fun _ _ _ kk_ ⟨ns, szs, N, e_, p_, q_⟩ => ⟨ns, szs, N, e_, p_, kk_ _ q_⟩⟩

theorem sc__law_fine : FnScope ["numbers", "sizes", "steps", "m", "last", "many", "start"] ["numbers", "sizes"] (defScope s__law_fine) := ⟨rfl, rfl, rfl, by decide +kernel, rfl, by decide +kernel, by decide +kernel⟩
theorem body__law_fine (T : Txt K mg) (C__law_axes : Cal P w K mg base 1 "_law_axes" S__law_axes []) (C__law_back : Cal P w K mg base 5 "_law_back" S__law_back []) (C__law_frac : Cal P w K mg base 2 "_law_frac" S__law_frac []) (C__law_shifted : Cal P w K mg base 4 "_law_shifted" S__law_shifted []) (C__law_steps : Cal P w K mg base 1 "_law_steps" S__law_steps []) (C__law_then : Cal P w K mg base 6 "_law_then" S__law_then []) {f : Addr} {cdv : Value} {A : Around} {outer : List Env} {s : Shared} {H : Hp} (hr : Room (6) (A.deeper (envOfC "_law_fine" (defScope s__law_fine) s.heap.objs.size f cdv))) (ds : List D) (Q : O → Prop) (hS : (S__law_fine).S ds Q) :
    WSs (cxOf CX0 P w K mg base ["numbers", "sizes", "steps", "m", "last", "many", "start"] "_law_fine" (defScope s__law_fine) f cdv A outer s H E0).nox noX (defBody s__law_fine) (slots 7 ds) { nx := fun _ => Q (.va .non), rt := Q } := by
  have sc := sc__law_fine
  obtain ⟨ns, szs, N, rfl, ⟨hn, hr', hszs⟩, hQ⟩ := hS
  refine ws_norm (ρ' := [_, _, _, _, _, _, _]) rfl ?_
  obtain ⟨hA, hA1, hA2⟩ := stA_ok hszs ns
  obtain ⟨hB, hB2⟩ := stB_ok hszs ns
  obtain ⟨hC, hC2⟩ := stC_ok hszs ns
  obtain ⟨hst1, hst2, hst3, hst4⟩ := stpM_ok ns
  obtain ⟨xo, xd, xg⟩ := stx_ok N ns
  have hlen := hszs.len
  refine ws_cons ?_
  refine ws_setM 2 (eo_cal (C__law_steps) (hr.mono (by decide)) (ea_cons (ee_var 0 rfl) ea_nil) (by exact ⟨ns, rfl, ⟨by omega, hr'⟩, rfl⟩)) ?_ sc.nd
  refine ws_norm (ρ' := [_, _, _, _, _, _, _]) rfl ?_
  refine ws_cutU (fun ρ => ρ = [.va (.lst (ns.map .int)), .va (.lst (szs.map .int)), .ml ((stA szs ns).map moD), .un, .un, .un, .un]) ?_ ?_
  · skip
    refine ws_if (et_eqI hr.units (ee_len rfl T.m_len (ea_cons (ee_var 1 rfl) ea_nil) rfl) ee_int) (fun h3 => ?_) (fun h3 => ?_)
    · skip
      have h3' : szs.length = 1 := by have h3b := of_decide_eq_true h3; rw [List.length_map] at h3b; omega
      refine ws_freeze 2 rfl ?_
      refine ws_norm (ρ' := [_, _, _, _, _, _, _]) rfl ?_
      refine ws_cons ?_
      refine ws_setLc 2 (f := fun _ d => some (moD (zsh (und moD d)))) [("m", 3)] (ei_lst (ee_var 2 rfl)) sc.nd (blkOk_by (N := ["numbers", "sizes", "steps", "m", "last", "many", "start"]) (sc := defScope s__law_fine) (by first | decide +kernel | kernel_rfl)) (by rw [List.length_map]; exact Nat.le_of_lt (small1000 (by omega))) ?turn4 ?nx4
      case turn4 =>
        intro k d hk
        obtain ⟨hk', rfl⟩ := map_getK (f := moD) (l := stpM ns) default hk
        refine ⟨_, _, fun _ _ _ _ _ => (ab_name 3 (by decide) sc.nd), fun _ _ _ _ _ => ets_nil, fun ht => ?_, fun hf => ?_⟩
        · skip
          exact ⟨.tup (mxL ((stpM ns).getD k default).m ++ [rq 0, rq 0]), (by show some (moD (zsh (und moD (moD _)))) = _; rw [keyF_mo.und] <;> rfl), fun _ _ _ _ _ => (ee_catT (ee_slT (ee_var 3 rfl) ep_none (ep_some ee_int) (by exact cutMo _)) (ee_tup (ea_cons (ee_tup (ea_cons ee_int (ea_cons ee_int ea_nil))) (ea_cons (ee_tup (ea_cons ee_int (ea_cons ee_int ea_nil))) ea_nil))) (by walk_at "tg cat"))⟩
        · skip
          exact absurd hf (by decide)
      case nx4 =>
        refine ws_norm (ρ' := [_, _, _, _, _, _, _]) rfl ?_
        rw [zsh_pick]
        refine ws_nil ?_
        first | (rw [show (stA szs ns) = (stpM ns).map zsh from if_pos h3']; exact Up.of rfl) | (rw [show (stA szs ns) = stpM ns from if_neg h3']; exact Up.of rfl)
    · skip
      have h3' : ¬ szs.length = 1 := by have h3b := of_decide_eq_false h3; rw [List.length_map] at h3b; omega
      refine ws_nil ?_
      first | (rw [show (stA szs ns) = (stpM ns).map zsh from if_pos h3']; exact Up.of rfl) | (rw [show (stA szs ns) = stpM ns from if_neg h3']; exact Up.of rfl)
  · intro ρ hM
    subst hM
    refine ws_norm (ρ' := [_, _, _, _, _, _, _]) rfl ?_
    refine ws_cons ?_
    refine ws_setE 4 (ee_bor 2 rfl (ee_ix (ee_var 2 rfl) (ee_neg ee_int) rfl (by exact lst_at hA1)) (by rfl)) ?_ sc.nd
    refine ws_norm (ρ' := [_, _, _, _, _, _, _]) rfl ?_
    refine ws_cons ?_
    refine ws_setE 5 (ee_len rfl T.m_len (ea_cons (ee_var 1 rfl) ea_nil) rfl) ?_ sc.nd
    refine ws_norm (ρ' := [_, _, _, _, _, _, _]) rfl ?_
    refine ws_cons ?_
    refine ws_lput 2 rfl (ee_cal (C__law_shifted) (hr.mono (by decide)) (ea_cons (ee_var 4 rfl) (ea_cons (ee_cal (C__law_frac) (hr.mono (by decide)) (ea_cons (ee_mod (ee_ix (ee_var 0 rfl) ee_int rfl (by exact atI_lit 4 rfl (by omega))) ee_int (by first | decide | (rw [List.length_map]; omega))) (ea_cons (ee_ix (ee_var 1 rfl) (ee_mod (ee_ix (ee_var 0 rfl) ee_int rfl (by exact atI_lit 5 rfl (by omega))) (ee_var 5 rfl) (by first | decide | (rw [List.length_map]; omega))) rfl (by first | exact szq_at hszs _)) ea_nil)) (by first | exact ⟨_, _, rfl, ⟨by have := (hszs.el _ (szq_in hszs (ns.getD 5 0))).1; omega, by have := (hszs.el _ (szq_in hszs (ns.getD 5 0))).2.1; have := (hszs.el _ (szq_in hszs (ns.getD 5 0))).1; unfold Sz; have : (2 : Nat) ^ 5 ≤ 2 ^ 4999 := Nat.pow_le_pow_right (by decide) (by decide); omega⟩, rfl⟩ | exact ⟨_, _, rfl, ⟨by have := (hszs.el _ (szq_in hszs (ns.getD 7 0))).1; omega, by have := (hszs.el _ (szq_in hszs (ns.getD 7 0))).2.1; have := (hszs.el _ (szq_in hszs (ns.getD 7 0))).1; unfold Sz; have : (2 : Nat) ^ 5 ≤ 2 ^ 4999 := Nat.pow_le_pow_right (by decide) (by decide); omega⟩, rfl⟩)) (ea_cons (ee_cal (C__law_frac) (hr.mono (by decide)) (ea_cons (ee_mod (ee_ix (ee_var 0 rfl) ee_int rfl (by exact atI_lit 6 rfl (by omega))) ee_int (by first | decide | (rw [List.length_map]; omega))) (ea_cons (ee_ix (ee_var 1 rfl) (ee_mod (ee_ix (ee_var 0 rfl) ee_int rfl (by exact atI_lit 7 rfl (by omega))) (ee_var 5 rfl) (by first | decide | (rw [List.length_map]; omega))) rfl (by first | exact szq_at hszs _)) ea_nil)) (by first | exact ⟨_, _, rfl, ⟨by have := (hszs.el _ (szq_in hszs (ns.getD 5 0))).1; omega, by have := (hszs.el _ (szq_in hszs (ns.getD 5 0))).2.1; have := (hszs.el _ (szq_in hszs (ns.getD 5 0))).1; unfold Sz; have : (2 : Nat) ^ 5 ≤ 2 ^ 4999 := Nat.pow_le_pow_right (by decide) (by decide); omega⟩, rfl⟩ | exact ⟨_, _, rfl, ⟨by have := (hszs.el _ (szq_in hszs (ns.getD 7 0))).1; omega, by have := (hszs.el _ (szq_in hszs (ns.getD 7 0))).2.1; have := (hszs.el _ (szq_in hszs (ns.getD 7 0))).1; unfold Sz; have : (2 : Nat) ^ 5 ≤ 2 ^ 4999 := Nat.pow_le_pow_right (by decide) (by decide); omega⟩, rfl⟩)) ea_nil))) (by exact ⟨lstM (stA szs ns), shq szs ns 4 5, shq szs ns 6 7, rfl, ⟨⟨(hA _ (lst_in hA1)).so.x.mono (by decide), (hA _ (lst_in hA1)).so.y.mono (by decide)⟩, (shq_ok hszs ns 4 5).1.mono (by decide), (shq_ok hszs ns 6 7).1.mono (by decide)⟩, rfl⟩)) (ee_neg ee_int) (by exact lst_ix hA1) ?_
    refine ws_norm (ρ' := [_, _, _, _, _, _, _]) rfl ?_
    rw [set_moD]
    refine ws_cutU (fun ρ => ρ = [.va (.lst (ns.map .int)), .va (.lst (szs.map .int)), .ml ((stC szs ns).map moD), .un, .va (moD (lstM (stA szs ns))), .va (.int (((szs.map D.int).length : Nat) : Int)), .un]) ?_ ?_
    · skip
      refine ws_if (et_gt (ee_mod (ee_ix (ee_var 0 rfl) ee_int rfl (by exact atI_lit 8 rfl (by omega))) ee_int (by first | decide | (rw [List.length_map]; omega))) ee_int) (fun h8 => ?_) (fun h8 => ?_)
      · skip
        have h8' : 0 < ns.getD 8 0 % 3 := of_decide_eq_true h8
        refine ws_one ?_
        refine ws_append 2 rfl (ee_tup (ea_cons ee_int (ea_cons ee_int (ea_cons ee_int (ea_cons ee_int (ea_cons (ee_cal (C__law_frac) (hr.mono (by decide)) (ea_cons (ee_mod (ee_ix (ee_var 0 rfl) ee_int rfl (by exact atI_lit 9 rfl (by omega))) ee_int (by first | decide | (rw [List.length_map]; omega))) (ea_cons (ee_ix (ee_var 1 rfl) (ee_mod (ee_ix (ee_var 0 rfl) ee_int rfl (by exact atI_lit 10 rfl (by omega))) (ee_var 5 rfl) (by first | decide | (rw [List.length_map]; omega))) rfl (by exact szq_at hszs _)) ea_nil)) (by first | exact ⟨_, _, rfl, ⟨by have := (hszs.el _ (szq_in hszs (ns.getD 10 0))).1; omega, by have := (hszs.el _ (szq_in hszs (ns.getD 10 0))).2.1; have := (hszs.el _ (szq_in hszs (ns.getD 10 0))).1; unfold Sz; have : (2 : Nat) ^ 5 ≤ 2 ^ 4999 := Nat.pow_le_pow_right (by decide) (by decide); omega⟩, rfl⟩ | exact ⟨_, _, rfl, ⟨by have := (hszs.el _ (szq_in hszs (ns.getD 12 0))).1; omega, by have := (hszs.el _ (szq_in hszs (ns.getD 12 0))).2.1; have := (hszs.el _ (szq_in hszs (ns.getD 12 0))).1; unfold Sz; have : (2 : Nat) ^ 5 ≤ 2 ^ 4999 := Nat.pow_le_pow_right (by decide) (by decide); omega⟩, rfl⟩)) (ea_cons (ee_cal (C__law_frac) (hr.mono (by decide)) (ea_cons (ee_mod (ee_ix (ee_var 0 rfl) ee_int rfl (by exact atI_lit 11 rfl (by omega))) ee_int (by first | decide | (rw [List.length_map]; omega))) (ea_cons (ee_ix (ee_var 1 rfl) (ee_mod (ee_ix (ee_var 0 rfl) ee_int rfl (by exact atI_lit 12 rfl (by omega))) (ee_var 5 rfl) (by first | decide | (rw [List.length_map]; omega))) rfl (by exact szq_at hszs _)) ea_nil)) (by first | exact ⟨_, _, rfl, ⟨by have := (hszs.el _ (szq_in hszs (ns.getD 10 0))).1; omega, by have := (hszs.el _ (szq_in hszs (ns.getD 10 0))).2.1; have := (hszs.el _ (szq_in hszs (ns.getD 10 0))).1; unfold Sz; have : (2 : Nat) ^ 5 ≤ 2 ^ 4999 := Nat.pow_le_pow_right (by decide) (by decide); omega⟩, rfl⟩ | exact ⟨_, _, rfl, ⟨by have := (hszs.el _ (szq_in hszs (ns.getD 12 0))).1; omega, by have := (hszs.el _ (szq_in hszs (ns.getD 12 0))).2.1; have := (hszs.el _ (szq_in hszs (ns.getD 12 0))).1; unfold Sz; have : (2 : Nat) ^ 5 ≤ 2 ^ 4999 := Nat.pow_le_pow_right (by decide) (by decide); omega⟩, rfl⟩)) ea_nil))))))) (by rw [List.length_map]; exact small1000 (by first | omega | (rw [List.length_set]; omega))) ?_
        first | (rw [show (stC szs ns).map moD = (stB szs ns).map moD ++ [moD ⟨MONE, shq szs ns 9 10, shq szs ns 11 12⟩] by unfold stC; rw [if_pos h8', List.map_append]; rfl]; exact Up.of rfl) | (rw [show stC szs ns = stB szs ns from if_neg h8']; exact Up.of rfl)
      · skip
        have h8' : ¬ 0 < ns.getD 8 0 % 3 := of_decide_eq_false h8
        refine ws_nil ?_
        first | (rw [show (stC szs ns).map moD = (stB szs ns).map moD ++ [moD ⟨MONE, shq szs ns 9 10, shq szs ns 11 12⟩] by unfold stC; rw [if_pos h8', List.map_append]; rfl]; exact Up.of rfl) | (rw [show stC szs ns = stB szs ns from if_neg h8']; exact Up.of rfl)
    · intro ρ hM
      subst hM
      refine ws_norm (ρ' := [_, _, _, _, _, _, _]) rfl ?_
      refine ws_cons ?_
      refine ws_setE 6 (ee_catT (ee_cal (C__law_axes) (hr.mono (by decide)) (ea_cons (ee_lst (eo_slL (ee_var 0 rfl) (ep_some ee_int) ep_none (by exact cut_ints 13 rfl (by omega)))) ea_nil) (by exact ⟨ns.drop 13, rfl, ⟨by rw [List.length_drop]; omega, rng_drop hr' 13⟩, rfl⟩)) (ee_tup (ea_cons (ee_tup (ea_cons ee_int (ea_cons ee_int ea_nil))) (ea_cons (ee_tup (ea_cons ee_int (ea_cons ee_int ea_nil))) ea_nil))) (by walk_at "tg cat")) ?_ sc.nd
      refine ws_norm (ρ' := [_, _, _, _, _, _, _]) rfl ?_
      refine ws_abs 6 (fun d => d = moD (stx ns)) rfl (rfl) ?_
      rintro _ rfl
      refine ws_norm (ρ' := [_, _, _, _, _, _, _]) rfl ?_
      refine ws_freeze 2 rfl ?_
      refine ws_norm (ρ' := [_, _, _, _, _, _, _]) rfl ?_
      refine ws_one ?_
      refine ws_ret (P := fun o => o = .ml _) (eo_lc (f := fCj (stx ns)) [("m", 3)] (ei_lst (ee_var 2 rfl)) sc.nd (blkOk_by (N := ["numbers", "sizes", "steps", "m", "last", "many", "start"]) (sc := defScope s__law_fine) (by first | decide +kernel | kernel_rfl)) (by rw [List.length_map]; exact Nat.le_of_lt (small1000 (by omega))) (by intro k d hk; obtain ⟨hk', rfl⟩ := map_getK (f := moD) (l := stC szs ns) default hk; have hm := hC _ (getD_mem (x := default) hk'); have ht1 := ((xo.bck xd).thn hm.so); generalize (stC szs ns).getD k default = w' at *; exact ⟨_, _, fun _ _ _ _ _ => (ab_name 3 (by decide) sc.nd), fun _ _ _ _ _ => ets_nil, fun ht => ⟨_, (by show some (moD (cnj (stx ns) (und moD (moD _)))) = _; rw [keyF_mo.und] <;> rfl), fun _ _ _ _ _ => (ee_cal (C__law_then) (hr.mono (by decide)) (ea_cons (ee_cal (C__law_then) (hr.mono (by decide)) (ea_cons (ee_cal (C__law_back) (hr.mono (by decide)) (ea_cons (ee_var 6 rfl) ea_nil) (by exact ⟨stx ns, rfl, ⟨xo.mono (by decide) (by decide), xd⟩, rfl⟩)) (ea_cons (ee_var 3 rfl) ea_nil)) (by first | exact ⟨mbck (stx ns), w', rfl, ⟨(xo.bck xd).mono (by decide) (by decide), hm.so.mono (by decide) (by decide)⟩, rfl⟩ | exact ⟨mthn (mbck (stx ns)) w', stx ns, rfl, ⟨ht1.mono (by decide) (by decide), xo.mono (by decide) (by decide)⟩, rfl⟩)) (ea_cons (ee_var 6 rfl) ea_nil)) (by first | exact ⟨mbck (stx ns), w', rfl, ⟨(xo.bck xd).mono (by decide) (by decide), hm.so.mono (by decide) (by decide)⟩, rfl⟩ | exact ⟨mthn (mbck (stx ns)) w', stx ns, rfl, ⟨ht1.mono (by decide) (by decide), xo.mono (by decide) (by decide)⟩, rfl⟩))⟩, fun hf => absurd hf (by decide)⟩)) ?_
      rintro _ rfl
      show Q _
      rw [pick_cj]; exact hQ
theorem cal__law_fine (T : Txt K mg) (C__law_axes : Cal P w K mg base 1 "_law_axes" S__law_axes []) (C__law_back : Cal P w K mg base 5 "_law_back" S__law_back []) (C__law_frac : Cal P w K mg base 2 "_law_frac" S__law_frac []) (C__law_shifted : Cal P w K mg base 4 "_law_shifted" S__law_shifted []) (C__law_steps : Cal P w K mg base 1 "_law_steps" S__law_steps []) (C__law_then : Cal P w K mg base 6 "_law_then" S__law_then []) : Cal P w K mg base 7 "_law_fine" S__law_fine [] :=
  cal_of (T.d__law_fine.fn (P := P) (w := w) (base := base) (S := S__law_fine) (k := 6) sc__law_fine (fun ds Q h => by obtain ⟨_, _, _, rfl, _⟩ := h; rfl) fun f cdv A outer s H hr ds Q hS => body__law_fine T C__law_axes C__law_back C__law_frac C__law_shifted C__law_steps C__law_then hr ds Q hS) 0 (by decide) (fun G => .nil)
abbrev S__law_shift : Spc := ⟨fun ds Q => ∃ a : Int, ∃ b : Int, ds = [.int a, .int b] ∧ (True) ∧ Q (.va (rq (shR a b))), fun _ _ _ kk_ ⟨a, b, e_, p_, q_⟩ => ⟨a, b, e_, p_, kk_ _ q_⟩⟩

theorem sc__law_shift : FnScope ["a", "b"] ["a", "b"] (defScope s__law_shift) := ⟨rfl, rfl, rfl, by decide +kernel, rfl, by decide +kernel, by decide +kernel⟩
theorem body__law_shift (T : Txt K mg) (C__law_frac : Cal P w K mg base 2 "_law_frac" S__law_frac []) {f : Addr} {cdv : Value} {A : Around} {outer : List Env} {s : Shared} {H : Hp} (hr : Room (2) (A.deeper (envOfC "_law_shift" (defScope s__law_shift) s.heap.objs.size f cdv))) (ds : List D) (Q : O → Prop) (hS : (S__law_shift).S ds Q) :
    WSs (cxOf CX0 P w K mg base ["a", "b"] "_law_shift" (defScope s__law_shift) f cdv A outer s H E0).nox noX (defBody s__law_shift) (slots 2 ds) { nx := fun _ => Q (.va .non), rt := Q } := by
  have sc := sc__law_shift
  obtain ⟨a, b, rfl, hp, hQ⟩ := hS
  refine ws_norm (ρ' := [_, _]) rfl ?_
  have hd := den6_ok b
  refine ws_one ?_
  refine ws_retE (ee_cal (C__law_frac) (hr.mono (by decide)) (ea_cons (ee_sub (ee_mod (ee_var 0 rfl) ee_int (by walk_at "tg mod")) ee_int) (ea_cons (ee_ix (ee_lst (eo_lst (ea_cons ee_int (ea_cons ee_int (ea_cons ee_int (ea_cons ee_int (ea_cons ee_int (ea_cons ee_int ea_nil)))))))) (ee_mod (ee_var 1 rfl) ee_int (by walk_at "tg mod")) rfl (by exact atI_map (f := D.int) (l := DEN6) (by omega) (by show b % 6 < 6; omega))) ea_nil)) (by exact ⟨_, _, rfl, ⟨by omega, by unfold Sz; have : (2 : Nat) ^ 4 ≤ 2 ^ 4999 := Nat.pow_le_pow_right (by decide) (by decide); omega⟩, rfl⟩)) ?_
  walk_at "tg return"
theorem cal__law_shift (T : Txt K mg) (C__law_frac : Cal P w K mg base 2 "_law_frac" S__law_frac []) : Cal P w K mg base 3 "_law_shift" S__law_shift [] :=
  cal_of (T.d__law_shift.fn (P := P) (w := w) (base := base) (S := S__law_shift) (k := 2) sc__law_shift (fun ds Q h => by obtain ⟨_, _, rfl, _⟩ := h; rfl) fun f cdv A outer s H hr ds Q hS => body__law_shift T C__law_frac hr ds Q hS) 0 (by decide) (fun G => .nil)
abbrev S__law_change : Spc := ⟨fun ds Q => ∃ ns : List Int, ds = [.lst (ns.map .int)] ∧ (7 ≤ ns.length ∧ Rng ns) ∧ Q (.va (moD (chM ns))), fun _ _ _ kk_ ⟨ns, e_, p_, q_⟩ => ⟨ns, e_, p_, kk_ _ q_⟩⟩

theorem sc__law_change : FnScope ["numbers"] ["numbers"] (defScope s__law_change) := ⟨rfl, rfl, rfl, by decide +kernel, rfl, by decide +kernel, by decide +kernel⟩
theorem body__law_change (T : Txt K mg) (C__law_axes : Cal P w K mg base 1 "_law_axes" S__law_axes []) (C__law_shift : Cal P w K mg base 3 "_law_shift" S__law_shift []) {f : Addr} {cdv : Value} {A : Around} {outer : List Env} {s : Shared} {H : Hp} (hr : Room (3) (A.deeper (envOfC "_law_change" (defScope s__law_change) s.heap.objs.size f cdv))) (ds : List D) (Q : O → Prop) (hS : (S__law_change).S ds Q) :
    WSs (cxOf CX0 P w K mg base ["numbers"] "_law_change" (defScope s__law_change) f cdv A outer s H E0).nox noX (defBody s__law_change) (slots 1 ds) { nx := fun _ => Q (.va .non), rt := Q } := by
  have sc := sc__law_change
  obtain ⟨ns, rfl, ⟨hn, hr'⟩, hQ⟩ := hS
  refine ws_norm (ρ' := [_]) rfl ?_
  refine ws_one ?_
  refine ws_retE (ee_catT (ee_cal (C__law_axes) (hr.mono (by decide)) (ea_cons (ee_var 0 rfl) ea_nil) (by exact ⟨ns, rfl, ⟨by omega, hr'⟩, rfl⟩)) (ee_tup (ea_cons (ee_cal (C__law_shift) (hr.mono (by decide)) (ea_cons (ee_ix (ee_var 0 rfl) ee_int rfl (by exact atI_lit 3 rfl (by omega))) (ea_cons (ee_ix (ee_var 0 rfl) ee_int rfl (by exact atI_lit 4 rfl (by omega))) ea_nil)) (by exact ⟨_, _, rfl, trivial, rfl⟩)) (ea_cons (ee_cal (C__law_shift) (hr.mono (by decide)) (ea_cons (ee_ix (ee_var 0 rfl) ee_int rfl (by exact atI_lit 5 rfl (by omega))) (ea_cons (ee_ix (ee_var 0 rfl) ee_int rfl (by exact atI_lit 6 rfl (by omega))) ea_nil)) (by exact ⟨_, _, rfl, trivial, rfl⟩)) ea_nil))) (by walk_at "tg cat")) ?_
  walk_at "tg return"
theorem cal__law_change (T : Txt K mg) (C__law_axes : Cal P w K mg base 1 "_law_axes" S__law_axes []) (C__law_shift : Cal P w K mg base 3 "_law_shift" S__law_shift []) : Cal P w K mg base 4 "_law_change" S__law_change [] :=
  cal_of (T.d__law_change.fn (P := P) (w := w) (base := base) (S := S__law_change) (k := 3) sc__law_change (fun ds Q h => by obtain ⟨_, rfl, _⟩ := h; rfl) fun f cdv A outer s H hr ds Q hS => body__law_change T C__law_axes C__law_shift hr ds Q hS) 0 (by decide) (fun G => .nil)
abbrev S__law_multiple : Spc := ⟨fun ds Q => ∃ fs : List Rat, ds = [.lst (fs.map rq)] ∧ (∃ L : Nat, 0 < L ∧ Sz 4000 (L : Int) ∧ ∀ f ∈ fs, Dv L f ∧ Rz 2000 f) ∧ Q (.va (.int ((cmN fs : Nat) : Int))), fun _ _ _ kk_ ⟨fs, e_, p_, q_⟩ => ⟨fs, e_, p_, kk_ _ q_⟩⟩

theorem sc__law_multiple : FnScope ["fractions", "result", "f"] ["fractions"] (defScope s__law_multiple) := ⟨rfl, rfl, rfl, by decide +kernel, rfl, by decide +kernel, by decide +kernel⟩
theorem body__law_multiple (T : Txt K mg) (C__law_gcd : Cal P w K mg base 1 "_law_gcd" S__law_gcd []) {f : Addr} {cdv : Value} {A : Around} {outer : List Env} {s : Shared} {H : Hp} (hr : Room (1) (A.deeper (envOfC "_law_multiple" (defScope s__law_multiple) s.heap.objs.size f cdv))) (ds : List D) (Q : O → Prop) (hS : (S__law_multiple).S ds Q) :
    WSs (cxOf CX0 P w K mg base ["fractions", "result", "f"] "_law_multiple" (defScope s__law_multiple) f cdv A outer s H E0).nox noX (defBody s__law_multiple) (slots 3 ds) { nx := fun _ => Q (.va .non), rt := Q } := by
  have sc := sc__law_multiple
  obtain ⟨fs, rfl, ⟨L, hL0, hLs, hz⟩, hQ⟩ := hS
  refine ws_norm (ρ' := [_, _, _]) rfl ?_
  refine ws_cons ?_
  refine ws_setE 1 ee_int ?_ sc.nd
  refine ws_norm (ρ' := [_, _, _]) rfl ?_
  refine ws_cons ?_
  refine ws_forL (fun k ρ => ρ = [.va (.lst (fs.map rq)), .va (.int ((cmN (fs.take k) : Nat) : Int)), .un]) (ee_var 0 rfl) ?start3 nox_own ?turn3 ?fin3
  case start3 =>
    exact up_intro rfl (by walk_at "tg le")
  case turn3 =>
    intro k d ρ hk hR
    subst hR
    obtain ⟨hk', rfl⟩ := map_getK (f := rq) (l := fs) 0 hk
    have hf := (hz _ (getD_mem (x := 0) hk')).2
    refine ⟨_, (at_name 2 sc.nd), ?_⟩
    refine ws_norm (ρ' := [_, _, _]) rfl ?_
    refine ws_one ?_
    refine ws_setE 1 (ee_mul (ee_fdiv (ee_var 1 rfl) (ee_cal (C__law_gcd) (hr.mono (by decide)) (ea_cons (ee_var 1 rfl) (ea_cons (ee_ix (ee_var 2 rfl) ee_int rfl rfl) ea_nil)) (by exact ⟨_, _, rfl, hf.den.mono (by decide), rfl⟩)) (by exact Sz.div (gcd_nz (rq_ne _)) (sz_gcd (rq_ne _) hf.den))) (ee_ix (ee_var 2 rfl) ee_int rfl rfl) (by exact cm_step2 hL0 hLs hz hk')) ?_ sc.nd
    rw [cm_step _ _ (cmN_pos _), ← cm_next hk']
    exact up_intro rfl (by walk_at "tg le")
  case fin3 =>
    intro ρ hR
    subst hR
    rw [List.length_map, List.take_length]
    refine ws_one ?_
    refine ws_retE (ee_var 1 rfl) ?_
    walk_at "tg return"
theorem cal__law_multiple (T : Txt K mg) (C__law_gcd : Cal P w K mg base 1 "_law_gcd" S__law_gcd []) : Cal P w K mg base 2 "_law_multiple" S__law_multiple [] :=
  cal_of (T.d__law_multiple.fn (P := P) (w := w) (base := base) (S := S__law_multiple) (k := 1) sc__law_multiple (fun ds Q h => by obtain ⟨_, rfl, _⟩ := h; rfl) fun f cdv A outer s H hr ds Q hS => body__law_multiple T C__law_gcd hr ds Q hS) 0 (by decide) (fun G => .nil)
abbrev S__law_sorted : Spc := ⟨fun ds Q => ∃ S : List Mo, ds = [lsO S] ∧ (OkO 13000 2000 S ∧ S.length ≤ 1000) ∧ Q (.ml ((ascO S).map moD)), fun _ _ _ kk_ ⟨S, e_, p_, q_⟩ => ⟨S, e_, p_, kk_ _ q_⟩⟩

theorem sc__law_sorted : FnScope ["movements", "size", "m"] ["movements"] (defScope s__law_sorted) := ⟨rfl, rfl, rfl, by decide +kernel, rfl, by decide +kernel, by decide +kernel⟩
theorem body__law_sorted (T : Txt K mg) (C__law_multiple : Cal P w K mg base 2 "_law_multiple" S__law_multiple []) {f : Addr} {cdv : Value} {A : Around} {outer : List Env} {s : Shared} {H : Hp} (hcd : CodeT base mg cdv (("_law_sorted" : Str) ++ ".<locals>.")) (hr : Room (7) (A.deeper (envOfC "_law_sorted" (defScope s__law_sorted) s.heap.objs.size f cdv))) (ds : List D) (Q : O → Prop) (hS : (S__law_sorted).S ds Q) :
    WSs (cxOf CX0 P w K mg base ["movements", "size", "m"] "_law_sorted" (defScope s__law_sorted) f cdv A outer s H E0).nox noX (defBody s__law_sorted) (slots 3 ds) { nx := fun _ => Q (.va .non), rt := Q } := by
  have sc := sc__law_sorted
  obtain ⟨S, rfl, ⟨hz, hl⟩, hQ⟩ := hS
  refine ws_norm (ρ' := [_, _, _]) rfl ?_
  refine ws_cons ?_
  refine ws_setE 1 (ee_cal (C__law_multiple) (hr.mono (by decide)) (ea_cons (ee_lst (eo_catL (ee_lst (eo_lc (f := fun _ d => some (rq (und moD d).x)) [("m", 2)] (ei_lst (ee_var 0 rfl)) sc.nd (blkOk_by (N := ["movements", "size", "m"]) (sc := defScope s__law_sorted) (by first | decide +kernel | kernel_rfl)) (by rw [List.length_map]; exact Nat.le_of_lt (small1000 (by omega))) (by intro k d hk; obtain ⟨hk', rfl⟩ := map_getK (f := moD) (l := S) default hk; exact ⟨_, _, fun _ _ _ _ _ => (ab_name 2 (by decide) sc.nd), fun _ _ _ _ _ => ets_nil, fun ht => ⟨_, (by show some (rq (und moD (moD _)).x) = _; rw [keyF_mo.und]), fun _ _ _ _ _ => (ee_ix (ee_var 2 rfl) ee_int rfl (by rfl))⟩, fun hf => absurd hf (by decide)⟩))) (ee_lst (eo_lc (f := fun _ d => some (rq (und moD d).y)) [("m", 2)] (ei_lst (ee_var 0 rfl)) sc.nd (blkOk_by (N := ["movements", "size", "m"]) (sc := defScope s__law_sorted) (by first | decide +kernel | kernel_rfl)) (by rw [List.length_map]; exact Nat.le_of_lt (small1000 (by omega))) (by intro k d hk; obtain ⟨hk', rfl⟩ := map_getK (f := moD) (l := S) default hk; exact ⟨_, _, fun _ _ _ _ _ => (ab_name 2 (by decide) sc.nd), fun _ _ _ _ _ => ets_nil, fun ht => ⟨_, (by show some (rq (und moD (moD _)).y) = _; rw [keyF_mo.und]), fun _ _ _ _ _ => (ee_ix (ee_var 2 rfl) ee_int rfl (by rfl))⟩, fun hf => absurd hf (by decide)⟩))) (by rw [keyF_mo.pick (fun m => rq m.x), keyF_mo.pick (fun m => rq m.y), List.length_map, List.length_map]; exact Nat.le_of_lt (small2000 hl)))) ea_nil) (by exact ⟨S.map (·.x) ++ S.map (·.y), by rw [keyF_mo.pick (fun m => rq m.x), keyF_mo.pick (fun m => rq m.y), List.map_append, List.map_map, List.map_map]; rfl, ⟨LL, by decide, sz_lit rfl, fun f hf => ⟨(ok_fr hz f hf).dv, (ok_fr hz f hf).rz (by decide)⟩⟩, rfl⟩)) ?_ sc.nd
  refine ws_norm (ρ' := [_, _, _]) rfl ?_
  refine ws_one ?_
  refine ws_ret (P := fun o => o = .ml _) (eo_sortedK (k := 2) (N' := ["m", "size"]) (ps := ["m"]) (fr := ["size"]) [1] [.int ((cmO S : Nat) : Int)] (S.map (kyO (cmO S))) (hr.mono (by decide)) rfl T.m_sorted hcd (ea_cons (ee_var 0 rfl) ea_nil) (nscope_by (by decide +kernel)) rfl rfl rfl (by show ndefB (defScope s__law_sorted) _ _ = true; decide +kernel) (fun _ _ _ _ _ _ => rfl) rfl (by rw [List.length_map, List.length_map]) (by exact plains_map (fun _ => rfl) S) (by exact kyO_rows _ _) (by refine Nat.le_trans (depths_map (n := 1) ?_) (Nat.le_of_ble_eq_true rfl); intro _; exact Nat.le_of_ble_eq_true rfl) (by intro i d κ hd hk cl c f A outer s H hr; obtain ⟨hi, rfl⟩ := map_getK (f := moD) (l := S) default hd; obtain ⟨_, rfl⟩ := map_getK (f := kyO (cmO S)) (l := S) default hk; have hm := hz _ (getD_mem (x := default) hi); have hL := (sz_dvd (cmO_ok hz)).mono (show 65 ≤ 4000 by decide); generalize S.getD i default = x at *; have hx := hm.x.rz (by decide); have hy := hm.y.rz (by decide); show EE _ _ _ _ (.tup (mxL x.m ++ [.int (scl _ x.x), .int (scl _ x.y)])); exact (ee_catT (ee_slT (ee_var 0 rfl) ep_none (ep_some ee_int) (by exact cutMo _)) (ee_tup (ea_cons (ee_mul (ee_ix (ee_ix (ee_var 0 rfl) ee_int rfl (by rfl)) ee_int rfl (by rfl)) (ee_fdiv (ee_var 1 rfl) (ee_ix (ee_ix (ee_var 0 rfl) ee_int rfl (by rfl)) ee_int rfl (by rfl)) (by first | exact Sz.div (rq_ne _) hx.den | exact Sz.div (rq_ne _) hy.den)) (by first | exact Sz.mulE hx.num (sz_quo (by omega) (rq_pos _) hL) | exact Sz.mulE hy.num (sz_quo (by omega) (rq_pos _) hL))) (ea_cons (ee_mul (ee_ix (ee_ix (ee_var 0 rfl) ee_int rfl (by rfl)) ee_int rfl (by rfl)) (ee_fdiv (ee_var 1 rfl) (ee_ix (ee_ix (ee_var 0 rfl) ee_int rfl (by rfl)) ee_int rfl (by rfl)) (by first | exact Sz.div (rq_ne _) hx.den | exact Sz.div (rq_ne _) hy.den)) (by first | exact Sz.mulE hx.num (sz_quo (by omega) (rq_pos _) hL) | exact Sz.mulE hy.num (sz_quo (by omega) (rq_pos _) hL))) ea_nil))) (by walk_at "tg cat")))) ?_
  rintro _ rfl
  rw [ascO_srt]; exact hQ
theorem cal__law_sorted (T : Txt K mg) (M__law_sorted : MakT K mg base "_law_sorted") (C__law_multiple : Cal P w K mg base 2 "_law_multiple" S__law_multiple []) : Cal P w K mg base 8 "_law_sorted" S__law_sorted [] :=
  cal_of (T.d__law_sorted.fnM M__law_sorted (P := P) (w := w) (base := base) (S := S__law_sorted) (k := 7) sc__law_sorted (fun ds Q h => by obtain ⟨_, rfl, _⟩ := h; rfl) fun f cdv A outer s H hcd hr ds Q hS => body__law_sorted T C__law_multiple hcd hr ds Q hS) 0 (by decide) (fun G => .nil)
abbrev S__law_changed : Spc := ⟨fun ds Q => ∃ S : List Mo, ∃ c : Mo, ds = [lsO S, moD c] ∧ (IsG S ∧ OkO 160 65 S ∧ So 15 100 c ∧ Dt c.m ∧ S.length ≤ 40) ∧ Q (.ml ((ascO (chg c S)).map moD)), fun _ _ _ kk_ ⟨S, c, e_, p_, q_⟩ => ⟨S, c, e_, p_, kk_ _ q_⟩⟩

theorem sc__law_changed : FnScope ["movements", "change", "start", "m"] ["movements", "change"] (defScope s__law_changed) := ⟨rfl, rfl, rfl, by decide +kernel, rfl, by decide +kernel, by decide +kernel⟩
theorem body__law_changed (T : Txt K mg) (C__law_back : Cal P w K mg base 5 "_law_back" S__law_back []) (C__law_settled : Cal P w K mg base 2 "_law_settled" S__law_settled []) (C__law_sorted : Cal P w K mg base 8 "_law_sorted" S__law_sorted []) (C__law_then : Cal P w K mg base 6 "_law_then" S__law_then []) {f : Addr} {cdv : Value} {A : Around} {outer : List Env} {s : Shared} {H : Hp} (hr : Room (8) (A.deeper (envOfC "_law_changed" (defScope s__law_changed) s.heap.objs.size f cdv))) (ds : List D) (Q : O → Prop) (hS : (S__law_changed).S ds Q) :
    WSs (cxOf CX0 P w K mg base ["movements", "change", "start", "m"] "_law_changed" (defScope s__law_changed) f cdv A outer s H E0).nox noX (defBody s__law_changed) (slots 4 ds) { nx := fun _ => Q (.va .non), rt := Q } := by
  have sc := sc__law_changed
  obtain ⟨S, c, rfl, ⟨hG, hz, hc, hd, hl⟩, hQ⟩ := hS
  refine ws_norm (ρ' := [_, _, _, _]) rfl ?_
  have hbk := hc.bck hd
  have hcj : ∀ m ∈ S, So 200 400 (cnj c m) := fun m hm => (So.cnj hd hc (hz m hm)).mono (by decide) (by decide)
  refine ws_cons ?_
  refine ws_setE 2 (ee_cal (C__law_back) (hr.mono (by decide)) (ea_cons (ee_var 1 rfl) ea_nil) (by exact ⟨c, rfl, ⟨hc.mono (by decide) (by decide), hd⟩, rfl⟩)) ?_ sc.nd
  refine ws_norm (ρ' := [_, _, _, _]) rfl ?_
  refine ws_one ?_
  refine ws_ret (P := fun o => o = .ml _) (eo_cal (C__law_sorted) (hr.mono (by decide)) (ea_cons (ee_lst (eo_lc (f := fCh c) [("m", 3)] (ei_lst (ee_var 0 rfl)) sc.nd (blkOk_by (N := ["movements", "change", "start", "m"]) (sc := defScope s__law_changed) (by first | decide +kernel | kernel_rfl)) (by rw [List.length_map]; exact Nat.le_of_lt (small1000 (by omega))) (by intro k d hk; obtain ⟨hk', rfl⟩ := map_getK (f := moD) (l := S) default hk; have hm := hz _ (getD_mem (x := default) hk'); have ht1 := (hbk.thn hm).mono (show 160 + 15 + 1 ≤ 13000 by decide) (show max (160 + (15 + 100 + 1) + 1) 65 + 1 ≤ 400 by decide); generalize S.getD k default = x at *; exact ⟨_, _, fun _ _ _ _ _ => (ab_name 3 (by decide) sc.nd), fun _ _ _ _ _ => ets_nil, fun ht => ⟨_, (by show some (moD (mstl (cnj c (und moD (moD _))))) = _; rw [keyF_mo.und] <;> rfl), fun _ _ _ _ _ => (ee_cal (C__law_settled) (hr.mono (by decide)) (ea_cons (ee_cal (C__law_then) (hr.mono (by decide)) (ea_cons (ee_cal (C__law_then) (hr.mono (by decide)) (ea_cons (ee_var 2 rfl) (ea_cons (ee_var 3 rfl) ea_nil)) (by first | exact ⟨mbck c, x, rfl, ⟨hbk.mono (by decide) (by decide), hm.mono (by decide) (by decide)⟩, rfl⟩ | exact ⟨mthn (mbck c) x, c, rfl, ⟨ht1, hc.mono (by decide) (by decide)⟩, rfl⟩)) (ea_cons (ee_var 1 rfl) ea_nil)) (by first | exact ⟨mbck c, x, rfl, ⟨hbk.mono (by decide) (by decide), hm.mono (by decide) (by decide)⟩, rfl⟩ | exact ⟨mthn (mbck c) x, c, rfl, ⟨ht1, hc.mono (by decide) (by decide)⟩, rfl⟩)) ea_nil) (by exact ⟨_, rfl, trivial, rfl⟩))⟩, fun hf => absurd hf (by decide)⟩))) ea_nil) (by exact ⟨chg c S, by rw [pick_ch]; rfl, ⟨fun m hm => by obtain ⟨a, ha, rfl⟩ := List.mem_map.mp hm; exact (hcj a ha).stl.mono (by decide) (by decide), by rw [chg_len]; omega⟩, rfl⟩)) ?_
  rintro _ rfl
  walk_at "tg return"
theorem cal__law_changed (T : Txt K mg) (C__law_back : Cal P w K mg base 5 "_law_back" S__law_back []) (C__law_settled : Cal P w K mg base 2 "_law_settled" S__law_settled []) (C__law_sorted : Cal P w K mg base 8 "_law_sorted" S__law_sorted []) (C__law_then : Cal P w K mg base 6 "_law_then" S__law_then []) : Cal P w K mg base 9 "_law_changed" S__law_changed [] :=
  cal_of (T.d__law_changed.fn (P := P) (w := w) (base := base) (S := S__law_changed) (k := 8) sc__law_changed (fun ds Q h => by obtain ⟨_, _, rfl, _⟩ := h; rfl) fun f cdv A outer s H hr ds Q hS => body__law_changed T C__law_back C__law_settled C__law_sorted C__law_then hr ds Q hS) 0 (by decide) (fun G => .nil)
abbrev S__law_plain_group : Spc := ⟨fun ds Q => ∃ ns : List Int, ds = [.lst (ns.map .int)] ∧ (4 ≤ ns.length ∧ Rng ns) ∧ Q (.va (lsO (plG ns))), fun _ _ _ kk_ ⟨ns, e_, p_, q_⟩ => ⟨ns, e_, p_, kk_ _ q_⟩⟩

theorem sc__law_plain_group : FnScope ["numbers", "steps", "plain", "m", "swap", "tried", "held"] ["numbers"] (defScope s__law_plain_group) := ⟨rfl, rfl, rfl, by decide +kernel, rfl, by decide +kernel, by decide +kernel⟩
theorem body__law_plain_group (T : Txt K mg) (C__law_closed : Cal P w K mg base 7 "_law_closed" S__law_closed []) (C__law_identity : Cal P w K mg base 1 "_law_identity" S__law_identity []) (C__law_steps : Cal P w K mg base 1 "_law_steps" S__law_steps []) {f : Addr} {cdv : Value} {A : Around} {outer : List Env} {s : Shared} {H : Hp} (hr : Room (7) (A.deeper (envOfC "_law_plain_group" (defScope s__law_plain_group) s.heap.objs.size f cdv))) (ds : List D) (Q : O → Prop) (hS : (S__law_plain_group).S ds Q) :
    WSs (cxOf CX0 P w K mg base ["numbers", "steps", "plain", "m", "swap", "tried", "held"] "_law_plain_group" (defScope s__law_plain_group) f cdv A outer s H E0).nox noX (defBody s__law_plain_group) (slots 7 ds) { nx := fun _ => Q (.va .non), rt := Q } := by
  have sc := sc__law_plain_group
  obtain ⟨ns, rfl, ⟨hn, hr'⟩, hQ⟩ := hS
  refine ws_norm (ρ' := [_, _, _, _, _, _, _]) rfl ?_
  have hst := stpM_ok ns
  have htr := tried_ok hst.1 hst.2.1
  refine ws_cons ?_
  refine ws_setM 1 (eo_cal (C__law_steps) (hr.mono (by decide)) (ea_cons (ee_var 0 rfl) ea_nil) (by exact ⟨ns, rfl, ⟨hn, hr'⟩, rfl⟩)) ?_ sc.nd
  refine ws_norm (ρ' := [_, _, _, _, _, _, _]) rfl ?_
  refine ws_freeze 1 rfl ?_
  refine ws_norm (ρ' := [_, _, _, _, _, _, _]) rfl ?_
  refine ws_cons ?_
  refine ws_setLc 2 (f := fun _ d => some (moD (zsh (und moD d)))) [("m", 3)] (ei_lst (ee_var 1 rfl)) sc.nd (blkOk_by (N := ["numbers", "steps", "plain", "m", "swap", "tried", "held"]) (sc := defScope s__law_plain_group) (by first | decide +kernel | kernel_rfl)) (by rw [List.length_map]; have := hst.2.2.2; exact Nat.le_of_lt (small1000 (by omega))) ?turn3 ?nx3
  case turn3 =>
    intro k d hk
    obtain ⟨hk', rfl⟩ := map_getK (f := moD) (l := stpM ns) default hk
    refine ⟨_, _, fun _ _ _ _ _ => (ab_name 3 (by decide) sc.nd), fun _ _ _ _ _ => ets_nil, fun ht => ?_, fun hf => ?_⟩
    · skip
      exact ⟨.tup (mxL ((stpM ns).getD k default).m ++ [rq 0, rq 0]), (by show some (moD (zsh (und moD (moD _)))) = _; rw [keyF_mo.und] <;> rfl), fun _ _ _ _ _ => (ee_catT (ee_slT (ee_var 3 rfl) ep_none (ep_some ee_int) (by exact cutMo _)) (ee_tup (ea_cons (ee_tup (ea_cons ee_int (ea_cons ee_int ea_nil))) (ea_cons (ee_tup (ea_cons ee_int (ea_cons ee_int ea_nil))) ea_nil))) (by walk_at "tg cat"))⟩
    · skip
      exact absurd hf (by decide)
  case nx3 =>
    refine ws_norm (ρ' := [_, _, _, _, _, _, _]) rfl ?_
    refine ws_freeze 2 rfl ?_
    refine ws_norm (ρ' := [_, _, _, _, _, _, _]) rfl ?_
    rw [keyF_mo.pick (fun m => moD (zsh m)), show (stpM ns).map (fun m => moD (zsh m)) = ((stpM ns).map zsh).map moD by rw [List.map_map]; rfl]
    refine ws_cons ?_
    refine ws_setE 4 (ee_tup (ea_cons ee_int (ea_cons ee_int (ea_cons ee_int (ea_cons ee_int (ea_cons (ee_tup (ea_cons ee_int (ea_cons ee_int ea_nil))) (ea_cons (ee_tup (ea_cons ee_int (ea_cons ee_int ea_nil))) ea_nil))))))) ?_ sc.nd
    refine ws_norm (ρ' := [_, _, _, _, _, _, _]) rfl ?_
    refine ws_cons ?_
    refine ws_forL (fun k ρ => ρ = [.va (.lst (ns.map .int)), .va (lsO (stpM ns)), .va (lsO ((stpM ns).map zsh)), .un, .va (moD SWP), .un, .un] ∧ ((triedM (stpM ns)).take k).findSome? tryG = none) (ee_lst (eo_lst (ea_cons (ee_var 1 rfl) (ea_cons (ee_var 2 rfl) (ea_cons (ee_lst (eo_catL (ee_lst (eo_slL (ee_var 2 rfl) ep_none (ep_some ee_int) (by exact cut_lo 1 rfl (by rw [List.length_map, List.length_map]; exact hst.2.2.1)))) (ee_lst (eo_repL (ee_lst (eo_lst (ea_cons (ee_var 4 rfl) ea_nil))) (ee_sub (ee_len rfl T.m_len (ea_cons (ee_var 2 rfl) ea_nil) rfl) ee_int) (by rw [List.length_map, List.length_map]; have := hst.2.2; refine ⟨by omega, by omega, ?_⟩; exact Nat.le_of_lt (small1000 (by simp only [List.length_cons, List.length_nil]; omega))))) (by rw [rep1, List.length_replicate, List.length_take, List.length_map, List.length_map]; have := hst.2.2; exact Nat.le_of_lt (small1000 (by omega))))) (ea_cons (ee_lst (eo_slL (ee_var 2 rfl) ep_none (ep_some ee_int) (by exact cut_lo 1 rfl (by rw [List.length_map, List.length_map]; exact hst.2.2.1)))) ea_nil)))))) ?start5 nox_own ?turn5 ?fin5
    case start5 =>
      exact up_intro ⟨rfl, rfl⟩ (by walk_at "tg le")
    case turn5 =>
      intro k d ρ hk hR
      obtain ⟨rfl, hno⟩ := hR
      obtain ⟨hk', rfl⟩ := map_getK (f := lsO) (l := triedM (stpM ns)) [] (by rw [← tried_map hst.2.2.1]; exact hk)
      obtain ⟨hz, hzd⟩ := htr _ (getD_mem (x := []) hk')
      have hnx := fs_next [] hk' hno
      have hfd := fun y => fs_found (y := y) [] hk' hno
      generalize (triedM (stpM ns)).getD k [] = Z at *
      refine ⟨_, (at_name 5 sc.nd), ?_⟩
      refine ws_norm (ρ' := [_, _, _, _, _, _, _]) rfl ?_
      refine ws_cons ?_
      refine ws_set 6 (eo_cal (C__law_closed) (hr.mono (by decide)) (ea_cons (ee_var 5 rfl) (ea_cons ee_int ea_nil)) (by exact ⟨Z, 12, rfl, ⟨hz.mono (by decide) (by decide), by decide, by decide⟩, rfl⟩)) ?_ sc.nd
      rintro _ rfl
      refine ws_norm (ρ' := [_, _, _, _, _, _, _]) rfl ?_
      refine ws_freezeN 6 rfl ?_
      refine ws_norm (ρ' := [_, _, _, _, _, _, _]) rfl ?_
      obtain hr7 | ⟨F, hr7⟩ : cloL Z 12 = none ∨ ∃ F, cloL Z 12 = some F := by cases cloL Z 12 with | none => exact .inl rfl | some F => exact .inr ⟨F, rfl⟩
      · rw [hr7]
        refine ws_one (ws_if (t := false && true) (EW.et (ew_and (t := false) (et_notN (d := .non) (ee_var 6 rfl)) (fun hv => by cases hv))) (fun h => by cases h) (fun _ => ws_nil ?_))
        exact up_intro ⟨rfl, hnx (by unfold tryG; rw [hr7])⟩ (by walk_at "tg le")
      rw [hr7]
      obtain ⟨hFl, hFo⟩ := cloL_ok (by decide) hz hr7
      refine ws_one ?_
      refine ws_if (EW.et (ew_and (et_notN (ee_var 6 rfl)) (fun hv => (ew_and1 (et_eqI hr.units (ee_len rfl T.m_len (ea_cons (ee_lst (eo_lc (f := fPu) [("m", 3)] (ei_lst (ee_var 6 rfl)) sc.nd (blkOk_by (N := ["numbers", "steps", "plain", "m", "swap", "tried", "held"]) (sc := defScope s__law_plain_group) (by first | decide +kernel | kernel_rfl)) (by rw [List.length_map]; exact Nat.le_of_lt (small1000 (by omega))) (by intro k d hk; obtain ⟨hk', rfl⟩ := map_getK (f := moD) (l := F) default hk; exact ⟨_, _, fun _ _ _ _ _ => (ab_name 3 (by decide) sc.nd), fun _ _ _ _ _ => (ets_one (et_eq hr.units (ee_slT (ee_var 3 rfl) ep_none (ep_some ee_int) (by exact cutMo _)) (ee_tup (ea_cons ee_int (ea_cons ee_int (ea_cons ee_int (ea_cons ee_int ea_nil))))) (by walk_at "tg cmp") (by walk_at "tg cmp"))), fun ht => ⟨_, (by show (if isPu (und moD (moD _)) = true then some (moD (und moD (moD _))) else none) = _; rw [keyF_mo.und]; exact if_pos ht), fun _ _ _ _ _ => (ee_var 3 rfl)⟩, fun hf => (by show (if isPu (und moD (moD _)) = true then some (moD (und moD (moD _))) else none) = _; rw [keyF_mo.und]; exact if_neg (by rw [show isPu _ = false from hf]; exact Bool.false_ne_true))⟩))) ea_nil) rfl) ee_int))))) (fun h7 => ?_) (fun h7 => ?_)
      · skip
        have h7' : decide (((pick fPu 0 (F.map moD)).length : Int) = 1) = true := h7
        rw [pick_pu, List.length_map] at h7'
        have h7'' := of_decide_eq_true h7'
        refine ws_one ?_
        refine ws_retE (ee_var 6 rfl) ?_
        have hpl : plG ns = F := by unfold plG; rw [hfd F (by unfold tryG; rw [hr7]; exact if_pos (by omega))]; rfl
        rw [hpl] at hQ; exact hQ
      · skip
        refine ws_nil ?_
        exact up_intro ⟨rfl, hnx (by unfold tryG; rw [hr7]; exact if_neg (by have h7' : decide (((pick fPu 0 (F.map moD)).length : Int) = 1) = false := h7; rw [pick_pu, List.length_map] at h7'; have := of_decide_eq_false h7'; omega))⟩ (by walk_at "tg le")
    case fin5 =>
      intro ρ hR
      obtain ⟨rfl, hno⟩ := hR
      have hall : (triedM (stpM ns)).findSome? tryG = none := by
        have e : ∀ n, n = (triedM (stpM ns)).length → ((triedM (stpM ns)).take n).findSome? tryG = none → (triedM (stpM ns)).findSome? tryG = none := fun n hn h => by rw [hn, List.take_length] at h; exact h
        exact e _ rfl hno
      refine ws_one ?_
      refine ws_retE (ee_lst (eo_lst (ea_cons (ee_va (eo_cal0 (C__law_identity) (hr.mono (by decide)) (by exact ⟨rfl, trivial, rfl⟩))) ea_nil))) ?_
      have hpl : plG ns = [MID] := by unfold plG; rw [hall]; rfl
      rw [hpl] at hQ; exact hQ
theorem cal__law_plain_group (T : Txt K mg) (C__law_closed : Cal P w K mg base 7 "_law_closed" S__law_closed []) (C__law_identity : Cal P w K mg base 1 "_law_identity" S__law_identity []) (C__law_steps : Cal P w K mg base 1 "_law_steps" S__law_steps []) : Cal P w K mg base 8 "_law_plain_group" S__law_plain_group [] :=
  cal_of (T.d__law_plain_group.fn (P := P) (w := w) (base := base) (S := S__law_plain_group) (k := 7) sc__law_plain_group (fun ds Q h => by obtain ⟨_, rfl, _⟩ := h; rfl) fun f cdv A outer s H hr ds Q hS => body__law_plain_group T C__law_closed C__law_identity C__law_steps hr ds Q hS) 0 (by decide) (fun G => .nil)
abbrev S__law_group : Spc := ⟨fun ds Q => ∃ ns : List Int, ds = [.lst (ns.map .int)] ∧ (12 ≤ ns.length ∧ Rng ns) ∧ Q (.ml ((ascO (chg (chM (ns.drop 4)) (plG ns))).map moD)), fun _ _ _ kk_ ⟨ns, e_, p_, q_⟩ => ⟨ns, e_, p_, kk_ _ q_⟩⟩

theorem sc__law_group : FnScope ["numbers"] ["numbers"] (defScope s__law_group) := ⟨rfl, rfl, rfl, by decide +kernel, rfl, by decide +kernel, by decide +kernel⟩
theorem body__law_group (T : Txt K mg) (C__law_change : Cal P w K mg base 4 "_law_change" S__law_change []) (C__law_changed : Cal P w K mg base 9 "_law_changed" S__law_changed []) (C__law_plain_group : Cal P w K mg base 8 "_law_plain_group" S__law_plain_group []) {f : Addr} {cdv : Value} {A : Around} {outer : List Env} {s : Shared} {H : Hp} (hr : Room (9) (A.deeper (envOfC "_law_group" (defScope s__law_group) s.heap.objs.size f cdv))) (ds : List D) (Q : O → Prop) (hS : (S__law_group).S ds Q) :
    WSs (cxOf CX0 P w K mg base ["numbers"] "_law_group" (defScope s__law_group) f cdv A outer s H E0).nox noX (defBody s__law_group) (slots 1 ds) { nx := fun _ => Q (.va .non), rt := Q } := by
  have sc := sc__law_group
  obtain ⟨ns, rfl, ⟨hn, hr'⟩, hQ⟩ := hS
  refine ws_norm (ρ' := [_]) rfl ?_
  have hP := plG_ok ns
  have hc := chM_so (ns.drop 4)
  refine ws_one ?_
  refine ws_ret (P := fun o => o = .ml _) (eo_cal (C__law_changed) (hr.mono (by decide)) (ea_cons (ee_cal (C__law_plain_group) (hr.mono (by decide)) (ea_cons (ee_var 0 rfl) ea_nil) (by exact ⟨ns, rfl, ⟨by omega, hr'⟩, rfl⟩)) (ea_cons (ee_cal (C__law_change) (hr.mono (by decide)) (ea_cons (ee_lst (eo_slL (ee_var 0 rfl) (ep_some ee_int) ep_none (by exact cut_ints 4 rfl (by omega)))) ea_nil) (by exact ⟨ns.drop 4, rfl, ⟨by rw [List.length_drop]; omega, rng_drop hr' 4⟩, rfl⟩)) ea_nil)) (by exact ⟨_, _, rfl, ⟨hP.g, hP.ok.mono (by decide) (by decide), hc.mono (by decide) (by decide), axM_dt _, by have := hP.len; omega⟩, rfl⟩)) ?_
  rintro _ rfl
  walk_at "tg return"
theorem cal__law_group (T : Txt K mg) (C__law_change : Cal P w K mg base 4 "_law_change" S__law_change []) (C__law_changed : Cal P w K mg base 9 "_law_changed" S__law_changed []) (C__law_plain_group : Cal P w K mg base 8 "_law_plain_group" S__law_plain_group []) : Cal P w K mg base 10 "_law_group" S__law_group [] :=
  cal_of (T.d__law_group.fn (P := P) (w := w) (base := base) (S := S__law_group) (k := 9) sc__law_group (fun ds Q h => by obtain ⟨_, rfl, _⟩ := h; rfl) fun f cdv A outer s H hr ds Q hS => body__law_group T C__law_change C__law_changed C__law_plain_group hr ds Q hS) 0 (by decide) (fun G => .nil)
theorem mod_range {x m : Int} (h : 0 < m) : 0 ≤ x % m ∧ x % m < m := ⟨Int.emod_nonneg _ (by omega), Int.emod_lt_of_pos _ h⟩
theorem all_snoc {P : Int → Prop} {ns : List Int} {x : Int} (h : ∀ y ∈ ns, P y) (hx : P x) : ∀ y ∈ ns ++ [x], P y := fun y hy => by
  rcases List.mem_append.mp hy with h' | h'
  · exact h y h'
  · rw [List.mem_singleton.mp h']; exact hx
theorem room_of {ns : List Int} {k : Nat} (h : ns.length = k) (hk : k < 1000) : (ns.map D.int).length < sizeLine := by
  rw [List.length_map, h]
  exact small1000 (by omega)
/-- the numbers of a cell, by both ways -/
def numA (cell : Int) : Nat → Int × List Int
  | 0 => (cell, [])
  | k + 1 => ((numA cell k).1 / 1000, (numA cell k).2 ++ [(numA cell k).1 % 1000])
def numB (cell : Int) : Nat → Int × List Int
  | 0 => (cell % 2147483647, [])
  | k + 1 => (((numB cell k).1 * 48271 + 69621 * ((k : Int) + 1)) % 2147483647, (numB cell k).2 ++ [((numB cell k).1 * 48271 + 69621 * ((k : Int) + 1)) % 2147483647 / 7 % 1000])
@[irreducible] def nums (cell : Int) (n : Nat) : List Int := if (10 : Int) ^ 18 ≤ cell then (numA cell n).2 else (numB cell n).2
theorem numA_ok (cell : Int) : ∀ n, (numA cell n).2.length = n ∧ ∀ x ∈ (numA cell n).2, 0 ≤ x ∧ x < 1000
  | 0 => ⟨rfl, fun x h => by cases h⟩
  | k + 1 => ⟨by show ((numA cell k).2 ++ [_]).length = k + 1; rw [List.length_append, (numA_ok cell k).1]; rfl, all_snoc (numA_ok cell k).2 (mod_range (by decide))⟩
theorem numB_ok (cell : Int) : ∀ n, (numB cell n).2.length = n ∧ ∀ x ∈ (numB cell n).2, 0 ≤ x ∧ x < 1000
  | 0 => ⟨rfl, fun x h => by cases h⟩
  | k + 1 => ⟨by show ((numB cell k).2 ++ [_]).length = k + 1; rw [List.length_append, (numB_ok cell k).1]; rfl, all_snoc (numB_ok cell k).2 (mod_range (by decide))⟩
theorem numB_m (cell : Int) : ∀ n, 0 ≤ (numB cell n).1 ∧ (numB cell n).1 < 2147483647
  | 0 => mod_range (by decide)
  | k + 1 => mod_range (by decide)
theorem nums_len (cell : Int) (n : Nat) : (nums cell n).length = n := by
  unfold nums; split
  · exact (numA_ok cell n).1
  · exact (numB_ok cell n).1
theorem nums_range (cell : Int) (n : Nat) : ∀ x ∈ nums cell n, 0 ≤ x ∧ x < 1000 := by
  unfold nums; split
  · exact (numA_ok cell n).2
  · exact (numB_ok cell n).2
theorem numA_end {cell : Int} {n : Nat} (h : (10 : Int) ^ 18 ≤ cell) : (numA cell n).2 = nums cell n := by unfold nums; rw [if_pos h]
theorem numB_end {cell : Int} {n : Nat} (h : ¬ (10 : Int) ^ 18 ≤ cell) : (numB cell n).2 = nums cell n := by unfold nums; rw [if_neg h]
abbrev S__law_numbers : Spc := ⟨fun ds Q => ∃ cell : Int, ∃ n : Nat, ds = [.int cell, .int (n : Int)] ∧ (n ≤ 1000) ∧ Q (.ml ((nums cell n).map .int)), fun _ _ _ kk_ ⟨cell, n, e_, p_, q_⟩ => ⟨cell, n, e_, p_, kk_ _ q_⟩⟩

theorem sc__law_numbers : FnScope ["cell", "count", "numbers", "k", "mixed"] ["cell", "count"] (defScope s__law_numbers) := ⟨rfl, rfl, rfl, by decide +kernel, rfl, by decide +kernel, by decide +kernel⟩
theorem body__law_numbers (T : Txt K mg)  {f : Addr} {cdv : Value} {A : Around} {outer : List Env} {s : Shared} {H : Hp} (hr : Room (0) (A.deeper (envOfC "_law_numbers" (defScope s__law_numbers) s.heap.objs.size f cdv))) (ds : List D) (Q : O → Prop) (hS : (S__law_numbers).S ds Q) :
    WSs (cxOf CX0 P w K mg base ["cell", "count", "numbers", "k", "mixed"] "_law_numbers" (defScope s__law_numbers) f cdv A outer s H E0).nox noX (defBody s__law_numbers) (slots 5 ds) { nx := fun _ => Q (.va .non), rt := Q } := by
  have sc := sc__law_numbers
  obtain ⟨cell, n, rfl, hn, hQ⟩ := hS
  refine ws_norm (ρ' := [_, _, _, _, _]) rfl ?_
  refine ws_cons ?_
  refine ws_setM 2 (eo_lst ea_nil) ?_ sc.nd
  refine ws_norm (ρ' := [_, _, _, _, _]) rfl ?_
  refine ws_cons ?_
  refine ws_if (et_ge (ee_var 0 rfl) (ee_pow ee_int ee_int (by exact ⟨by decide, by decide, by decide⟩))) (fun h3 => ?_) (fun h3 => ?_)
  · skip
    have hc : (10 : Int) ^ 18 ≤ cell := of_decide_eq_true h3
    refine ws_cons ?_
    refine ws_forR (fun k ρ => ρ = [.va (.int (numA cell k).1), .va (.int (n : Int)), .ml ((numA cell k).2.map .int), .un, .un]) T.m_range (ea_cons (ee_var 1 rfl) ea_nil) ?start4 nox_own ?turn4 ?fin4 (by omega)
    case start4 =>
      exact up_intro rfl (by walk_at "tg le")
    case turn4 =>
      intro k ρ hk hR
      subst hR
      refine ⟨_, (at_name 3 sc.nd), ?_⟩
      refine ws_norm (ρ' := [_, _, _, _, _]) rfl ?_
      refine ws_cons ?_
      refine ws_append 2 rfl (ee_mod (ee_toInt rfl T.m_int (ea_cons (ee_var 0 rfl) ea_nil)) ee_int (by walk_at "tg mod")) (by first | exact room_of (numA_ok cell k).1 (by omega) | exact room_of (numB_ok cell k).1 (by omega)) ?_
      refine ws_norm (ρ' := [_, _, _, _, _]) rfl ?_
      refine ws_one ?_
      refine ws_setE 0 (ee_div (ee_var 0 rfl) ee_int (by walk_at "tg div")) ?_ sc.nd
      rw [map_snoc]
      exact up_intro rfl (by walk_at "tg le")
    case fin4 =>
      intro ρ hR
      subst hR
      refine ws_one ?_
      refine ws_retM 2 rfl ?_
      rw [show ((n : Int)).toNat = n from Int.toNat_natCast n, numA_end hc]; exact hQ
  · skip
    have hc : ¬ (10 : Int) ^ 18 ≤ cell := of_decide_eq_false h3
    refine ws_nil ?_
    refine ws_cons ?_
    refine ws_setE 4 (ee_mod (ee_toInt rfl T.m_int (ea_cons (ee_var 0 rfl) ea_nil)) ee_int (by walk_at "tg mod")) ?_ sc.nd
    refine ws_norm (ρ' := [_, _, _, _, _]) rfl ?_
    refine ws_cons ?_
    refine ws_forR (fun k ρ => ρ = [.va (.int cell), .va (.int (n : Int)), .ml ((numB cell k).2.map .int), .un, .va (.int (numB cell k).1)]) T.m_range (ea_cons (ee_var 1 rfl) ea_nil) ?start9 nox_own ?turn9 ?fin9 (by omega)
    case start9 =>
      exact up_intro rfl (by walk_at "tg le")
    case turn9 =>
      intro k ρ hk hR
      subst hR
      have hm := numB_m cell k
      refine ⟨_, (at_name 3 sc.nd), ?_⟩
      refine ws_norm (ρ' := [_, _, _, _, _]) rfl ?_
      refine ws_cons ?_
      refine ws_setE 4 (ee_mod (ee_toInt rfl T.m_int (ea_cons (ee_add (ee_mul (ee_var 4 rfl) ee_int (by exact Sz.mulE (m := 31) (n := 16) (Sz.nn hm.1 (by omega)) (sz_lit rfl))) (ee_mul ee_int (ee_add (ee_var 3 rfl) ee_int) (by exact Sz.mulE (m := 17) (n := 31) (sz_lit rfl) (Sz.nn (by omega) (by omega))))) ea_nil)) ee_int (by walk_at "tg mod")) ?_ sc.nd
      refine ws_norm (ρ' := [_, _, _, _, _]) rfl ?_
      refine ws_one ?_
      refine ws_append 2 rfl (ee_mod (ee_div (ee_var 4 rfl) ee_int (by walk_at "tg div")) ee_int (by walk_at "tg mod")) (by first | exact room_of (numA_ok cell k).1 (by omega) | exact room_of (numB_ok cell k).1 (by omega)) ?_
      rw [map_snoc]
      exact up_intro rfl (by walk_at "tg le")
    case fin9 =>
      intro ρ hR
      subst hR
      refine ws_one ?_
      refine ws_retM 2 rfl ?_
      rw [show ((n : Int)).toNat = n from Int.toNat_natCast n, numB_end hc]; exact hQ
theorem cal__law_numbers (T : Txt K mg)  : Cal P w K mg base 1 "_law_numbers" S__law_numbers [] :=
  cal_of (T.d__law_numbers.fn (P := P) (w := w) (base := base) (S := S__law_numbers) (k := 0) sc__law_numbers (fun ds Q h => by obtain ⟨_, _, rfl, _⟩ := h; rfl) fun f cdv A outer s H hr ds Q hS => body__law_numbers T  hr ds Q hS) 0 (by decide) (fun G => .nil)
theorem inv_rq {q : Rat} (h : q ≠ 0) (p : Rat) : p * Rat.divInt (q.den : Int) q.num = p / q := by
  have e := rat_dvd (p := 1) h
  rw [show (1 : Rat).num = 1 from rfl, show ((1 : Rat).den : Int) = 1 from rfl, Int.one_mul, Int.one_mul] at e
  rw [e]
  grind
abbrev S__law_parts : Spc := ⟨fun ds Q => ∃ v : Rat, ∃ w' : Rat, ∃ x : Rat, ∃ y : Rat, ∃ z : Rat, ds = [.tup [rq v, rq w'], .tup [rq x, rq y, rq z]] ∧ ((Rx 20000 200 v ∧ Rx 20000 200 w') ∧ (Rz 5 x ∧ Rz 5 y ∧ Rz 5 z) ∧ x ≠ 0 ∧ z ≠ 0) ∧ Q (.va (.tup [rq (tdx x y z v w'), rq (tdy z w')])), fun _ _ _ kk_ ⟨v, w', x, y, z, e_, p_, q_⟩ => ⟨v, w', x, y, z, e_, p_, kk_ _ q_⟩⟩

theorem sc__law_parts : FnScope ["vector", "basis", "second", "first"] ["vector", "basis"] (defScope s__law_parts) := ⟨rfl, rfl, rfl, by decide +kernel, rfl, by decide +kernel, by decide +kernel⟩
theorem body__law_parts (T : Txt K mg) (C__law_frac : Cal P w K mg base 2 "_law_frac" S__law_frac []) (C__law_mul : Cal P w K mg base 3 "_law_mul" S__law_mul []) (C__law_sub : Cal P w K mg base 3 "_law_sub" S__law_sub []) {f : Addr} {cdv : Value} {A : Around} {outer : List Env} {s : Shared} {H : Hp} (hr : Room (3) (A.deeper (envOfC "_law_parts" (defScope s__law_parts) s.heap.objs.size f cdv))) (ds : List D) (Q : O → Prop) (hS : (S__law_parts).S ds Q) :
    WSs (cxOf CX0 P w K mg base ["vector", "basis", "second", "first"] "_law_parts" (defScope s__law_parts) f cdv A outer s H E0).nox noX (defBody s__law_parts) (slots 4 ds) { nx := fun _ => Q (.va .non), rt := Q } := by
  have sc := sc__law_parts
  obtain ⟨v, w', x, y, z, rfl, ⟨⟨hv', hw⟩, ⟨hx, hy, hz⟩, nx, nz⟩, hQ⟩ := hS
  refine ws_norm (ρ' := [_, _, _, _]) rfl ?_
  have a := hw.div nz hz.rx
  have b := a.mul hy.rx
  have d := hv'.sub b
  refine ws_cons ?_
  refine ws_setE 2 (ee_cal (C__law_mul) (hr.mono (by decide)) (ea_cons (ee_ix (ee_var 0 rfl) ee_int rfl (by rfl)) (ea_cons (ee_cal (C__law_frac) (hr.mono (by decide)) (ea_cons (ee_ix (ee_ix (ee_var 1 rfl) ee_int rfl (by rfl)) ee_int rfl (by rfl)) (ea_cons (ee_ix (ee_ix (ee_var 1 rfl) ee_int rfl (by rfl)) ee_int rfl (by rfl)) ea_nil)) (by first | exact ⟨(z.den : Int), z.num, rfl, ⟨fun e => nz (Rat.num_eq_zero.mp e), hz.num.mono (by decide)⟩, rfl⟩ | exact ⟨(x.den : Int), x.num, rfl, ⟨fun e => nx (Rat.num_eq_zero.mp e), hx.num.mono (by decide)⟩, rfl⟩)) ea_nil)) (by first | exact ⟨w', Rat.divInt (z.den : Int) z.num, rfl, ⟨hw.mono (by decide) (by decide), (rx_divInt (fun e => nz (Rat.num_eq_zero.mp e)) hz.den hz.num).mono (by decide) (by decide)⟩, rfl⟩ | exact ⟨w' / z, y, rfl, ⟨a.mono (by decide) (by decide), hy.rx.mono (by decide) (by decide)⟩, rfl⟩ | exact ⟨v - w' / z * y, Rat.divInt (x.den : Int) x.num, rfl, ⟨d.mono (by decide) (by decide), (rx_divInt (fun e => nx (Rat.num_eq_zero.mp e)) hx.den hx.num).mono (by decide) (by decide)⟩, rfl⟩)) ?_ sc.nd
  refine ws_norm (ρ' := [_, _, _, _]) rfl ?_
  rw [inv_rq nz]
  refine ws_cons ?_
  refine ws_setE 3 (ee_cal (C__law_sub) (hr.mono (by decide)) (ea_cons (ee_ix (ee_var 0 rfl) ee_int rfl (by rfl)) (ea_cons (ee_cal (C__law_mul) (hr.mono (by decide)) (ea_cons (ee_var 2 rfl) (ea_cons (ee_ix (ee_var 1 rfl) ee_int rfl (by rfl)) ea_nil)) (by first | exact ⟨w', Rat.divInt (z.den : Int) z.num, rfl, ⟨hw.mono (by decide) (by decide), (rx_divInt (fun e => nz (Rat.num_eq_zero.mp e)) hz.den hz.num).mono (by decide) (by decide)⟩, rfl⟩ | exact ⟨w' / z, y, rfl, ⟨a.mono (by decide) (by decide), hy.rx.mono (by decide) (by decide)⟩, rfl⟩ | exact ⟨v - w' / z * y, Rat.divInt (x.den : Int) x.num, rfl, ⟨d.mono (by decide) (by decide), (rx_divInt (fun e => nx (Rat.num_eq_zero.mp e)) hx.den hx.num).mono (by decide) (by decide)⟩, rfl⟩)) ea_nil)) (by exact ⟨v, w' / z * y, rfl, ⟨hv'.mono (by decide) (by decide), b.mono (by decide) (by decide)⟩, rfl⟩)) ?_ sc.nd
  refine ws_norm (ρ' := [_, _, _, _]) rfl ?_
  refine ws_one ?_
  refine ws_retE (ee_tup (ea_cons (ee_cal (C__law_mul) (hr.mono (by decide)) (ea_cons (ee_var 3 rfl) (ea_cons (ee_cal (C__law_frac) (hr.mono (by decide)) (ea_cons (ee_ix (ee_ix (ee_var 1 rfl) ee_int rfl (by rfl)) ee_int rfl (by rfl)) (ea_cons (ee_ix (ee_ix (ee_var 1 rfl) ee_int rfl (by rfl)) ee_int rfl (by rfl)) ea_nil)) (by first | exact ⟨(z.den : Int), z.num, rfl, ⟨fun e => nz (Rat.num_eq_zero.mp e), hz.num.mono (by decide)⟩, rfl⟩ | exact ⟨(x.den : Int), x.num, rfl, ⟨fun e => nx (Rat.num_eq_zero.mp e), hx.num.mono (by decide)⟩, rfl⟩)) ea_nil)) (by first | exact ⟨w', Rat.divInt (z.den : Int) z.num, rfl, ⟨hw.mono (by decide) (by decide), (rx_divInt (fun e => nz (Rat.num_eq_zero.mp e)) hz.den hz.num).mono (by decide) (by decide)⟩, rfl⟩ | exact ⟨w' / z, y, rfl, ⟨a.mono (by decide) (by decide), hy.rx.mono (by decide) (by decide)⟩, rfl⟩ | exact ⟨v - w' / z * y, Rat.divInt (x.den : Int) x.num, rfl, ⟨d.mono (by decide) (by decide), (rx_divInt (fun e => nx (Rat.num_eq_zero.mp e)) hx.den hx.num).mono (by decide) (by decide)⟩, rfl⟩)) (ea_cons (ee_var 2 rfl) ea_nil))) ?_
  show Q _
  rw [inv_rq nx]; exact hQ
theorem cal__law_parts (T : Txt K mg) (C__law_frac : Cal P w K mg base 2 "_law_frac" S__law_frac []) (C__law_mul : Cal P w K mg base 3 "_law_mul" S__law_mul []) (C__law_sub : Cal P w K mg base 3 "_law_sub" S__law_sub []) : Cal P w K mg base 4 "_law_parts" S__law_parts [] :=
  cal_of (T.d__law_parts.fn (P := P) (w := w) (base := base) (S := S__law_parts) (k := 3) sc__law_parts (fun ds Q h => by obtain ⟨_, _, _, _, _, rfl, _⟩ := h; rfl) fun f cdv A outer s H hr ds Q hS => body__law_parts T C__law_frac C__law_mul C__law_sub hr ds Q hS) 0 (by decide) (fun G => .nil)
theorem same_bool (t : Bool) : (!D.eqv (.bl t) (.bl t)) = false := by cases t <;> rfl
abbrev S__law_same (n : Nat) : Spc := ⟨fun ds Q => ∃ d : D, ds = [d, d] ∧ (d.plain = true ∧ d.depth ≤ n) ∧ Q (.va (.bl true)), fun _ _ _ kk_ ⟨d, e_, p_, q_⟩ => ⟨d, e_, p_, kk_ _ q_⟩⟩
abbrev S8 : Spc := S__law_same 8
theorem sc__law_same : FnScope ["actual", "due", "k"] ["actual", "due"] (defScope s__law_same) := ⟨rfl, rfl, rfl, by decide +kernel, rfl, by decide +kernel, by decide +kernel⟩
theorem body__law_same (T : Txt K mg)  (n : Nat) (hrec : ∀ m, m < n → Cal P w K mg base (m + 1) "_law_same" (S__law_same m) []) {f : Addr} {cdv : Value} {A : Around} {outer : List Env} {s : Shared} {H : Hp} (hr : Room (n) (A.deeper (envOfC "_law_same" (defScope s__law_same) s.heap.objs.size f cdv))) (ds : List D) (Q : O → Prop) (hS : (S__law_same n).S ds Q) :
    WSs (cxOf CX0 P w K mg base ["actual", "due", "k"] "_law_same" (defScope s__law_same) f cdv A outer s H E0).nox noX (defBody s__law_same) (slots 3 ds) { nx := fun _ => Q (.va .non), rt := Q } := by
  have sc := sc__law_same
  obtain ⟨d, rfl, ⟨hp, hd⟩, hQ⟩ := hS
  have hty := tyN_plain hp
  refine ws_norm (ρ' := [_, _, _]) rfl ?_
  refine ws_cons ?_
  refine ws_if (et_isN (ee_var 1 rfl)) (fun h2 => ?_) (fun h2 => ?_)
  · skip
    have he : d.isN = true := h2
    refine ws_one ?_
    refine ws_retE (ee_isN (ee_var 0 rfl)) ?_
    rw [show d.isN = true from h2]; exact hQ
  · skip
    refine ws_nil ?_
    refine ws_cons ?_
    refine ws_if (EW.et (ew_or (et_val (ee_isA rfl T.m_isinstance (ea_cons (ee_var 1 rfl) (ea_cons (ee_ty rfl T.m_list bt_list) ea_nil)) (by decide) (by assumption))) (fun hv => (ew_or1 (et_val (ee_isA rfl T.m_isinstance (ea_cons (ee_var 1 rfl) (ea_cons (ee_ty rfl T.m_tuple bt_tuple) ea_nil)) (by decide) (by assumption))))))) (fun h4 => ?_) (fun h4 => ?_)
    · skip
      obtain ⟨is, hi, hpi, hdi⟩ := isA_items h4
      rw [hpi] at hp
      refine ws_cons ?_
      refine ws_if (EW.et (ew_or (et_ne hr.units (ee_isA rfl T.m_isinstance (ea_cons (ee_var 1 rfl) (ea_cons (ee_ty rfl T.m_list bt_list) ea_nil)) (by decide) (by assumption)) (ee_isA rfl T.m_isinstance (ea_cons (ee_var 0 rfl) (ea_cons (ee_ty rfl T.m_list bt_list) ea_nil)) (by decide) (by assumption)) (by rfl) (by rfl)) (fun hv => (ew_or1 (et_ne hr.units (ee_isA rfl T.m_isinstance (ea_cons (ee_var 1 rfl) (ea_cons (ee_ty rfl T.m_tuple bt_tuple) ea_nil)) (by decide) (by assumption)) (ee_isA rfl T.m_isinstance (ea_cons (ee_var 0 rfl) (ea_cons (ee_ty rfl T.m_tuple bt_tuple) ea_nil)) (by decide) (by assumption)) (by rfl) (by rfl)))))) (fun h5 => ?_) (fun h5 => ?_)
      · skip
        rw [same_bool, same_bool] at h5
        exact absurd h5 (by decide)
      · skip
        refine ws_nil ?_
        refine ws_cons ?_
        refine ws_if (et_neI hr.units (ee_len rfl T.m_len (ea_cons (ee_var 0 rfl) ea_nil) (by exact hi)) (ee_len rfl T.m_len (ea_cons (ee_var 1 rfl) ea_nil) (by exact hi))) (fun h7 => ?_) (fun h7 => ?_)
        · skip
          exact absurd h7 (by simp)
        · skip
          refine ws_nil ?_
          refine ws_len 1 rfl hi fun hline => ?_
          refine ws_cons ?_
          refine ws_forR (fun k ρ => ρ = [.va d, .va d, .un]) T.m_range (ea_cons (ee_len rfl T.m_len (ea_cons (ee_var 1 rfl) ea_nil) (by exact hi)) ea_nil) ?start9 nox_own ?turn9 ?fin9 (by exact line_lt hline)
          case start9 =>
            exact Up.of rfl
          case turn9 =>
            intro k ρ hk hR
            subst hR
            have hk' : k < is.length := by omega
            have hg := List.getElem?_eq_getElem hk'
            have hp' := plains_get hp hg
            have hd' := depths_get hg
            obtain ⟨m, rfl⟩ : ∃ m, n = m + 1 := ⟨n - 1, by omega⟩
            refine ⟨_, (at_name 2 sc.nd), ?_⟩
            refine ws_norm (ρ' := [_, _, _]) rfl ?_
            refine ws_one ?_
            refine ws_if (et_not (et_val (ee_cal (hrec m (by omega)) hr (ea_cons (ee_ix (ee_var 0 rfl) (ee_var 2 rfl) hi (atI_of hk')) (ea_cons (ee_ix (ee_var 1 rfl) (ee_var 2 rfl) hi (atI_of hk')) ea_nil)) (by exact ⟨_, rfl, ⟨hp', by omega⟩, rfl⟩)))) (fun h10 => ?_) (fun h10 => ?_)
            · skip
              exact absurd h10 (by decide)
            · skip
              refine ws_nil ?_
              exact up_intro rfl (by walk_at "tg le")
          case fin9 =>
            intro ρ hR
            subst hR
            refine ws_one ?_
            refine ws_retE ee_bl ?_
            walk_at "tg return"
    · skip
      have hd0 := isA_flat h4
      refine ws_nil ?_
      refine ws_cons ?_
      refine ws_if (EW.et (ew_or (et_ne hr.units (ee_isA rfl T.m_isinstance (ea_cons (ee_var 1 rfl) (ea_cons (ee_ty rfl T.m_bool bt_bool) ea_nil)) (by decide) (by assumption)) (ee_isA rfl T.m_isinstance (ea_cons (ee_var 0 rfl) (ea_cons (ee_ty rfl T.m_bool bt_bool) ea_nil)) (by decide) (by assumption)) (by walk_at "tg cmp") (by walk_at "tg cmp")) (fun hv => (ew_or1 (et_ne hr.units (ee_isA rfl T.m_isinstance (ea_cons (ee_var 1 rfl) (ea_cons (ee_ty rfl T.m_int bt_int) ea_nil)) (by decide) (by assumption)) (ee_isA rfl T.m_isinstance (ea_cons (ee_var 0 rfl) (ea_cons (ee_ty rfl T.m_int bt_int) ea_nil)) (by decide) (by assumption)) (by walk_at "tg cmp") (by walk_at "tg cmp")))))) (fun h13 => ?_) (fun h13 => ?_)
      · skip
        rw [same_bool, same_bool] at h13
        exact absurd h13 (by decide)
      · skip
        refine ws_nil ?_
        refine ws_one ?_
        refine ws_retE (ee_and (ee_eq hr.units (ee_isA rfl T.m_isinstance (ea_cons (ee_var 1 rfl) (ea_cons (ee_ty rfl T.m_str bt_str) ea_nil)) (by decide) (by assumption)) (ee_isA rfl T.m_isinstance (ea_cons (ee_var 0 rfl) (ea_cons (ee_ty rfl T.m_str bt_str) ea_nil)) (by decide) (by assumption)) (by rfl) (by rfl)) (fun hv => (ee_one (ee_eq hr.units (ee_var 0 rfl) (ee_var 1 rfl) (by unfold D.cmp; rw [hp, hd0]; rfl) (by unfold D.cmp; rw [hp, hd0]; rfl))))) ?_
        rw [eqv_self d hp, show D.eqv (.bl (d.isA "str")) (.bl (d.isA "str")) = true from eqv_self _ rfl]; exact hQ
theorem same_all (T : Txt K mg) (n : Nat) : Cal P w K mg base (n + 1) "_law_same" (S__law_same n) [] := by
  induction n using Nat.strongRecOn with
  | _ n ih => exact cal_of (T.d__law_same.fn (P := P) (w := w) (base := base) (S := S__law_same n) (k := n) sc__law_same (fun ds Q h => by obtain ⟨_, rfl, _⟩ := h; rfl) fun f cdv A outer s H hr ds Q hS => body__law_same T n ih hr ds Q hS) 0 (by decide) (fun G => .nil)
theorem cal__law_same (T : Txt K mg) : Cal P w K mg base 9 "_law_same" S8 [] := same_all T 8
abbrev S_less : Spc := ⟨fun ds Q => ∃ p : Rat, ∃ q : Rat, ds = [rq p, rq q] ∧ (Rx 40000 2000 p ∧ Rx 40000 2000 q) ∧ Q (.va (.bl (decide (p < q)))), fun _ _ _ kk_ ⟨p, q, e_, p_, q_⟩ => ⟨p, q, e_, p_, kk_ _ q_⟩⟩

theorem sc_less : FnScope ["f", "g"] ["f", "g"] (defScope s_less) := ⟨rfl, rfl, rfl, by decide +kernel, rfl, by decide +kernel, by decide +kernel⟩
theorem body_less (T : Txt K mg)  {f : Addr} {cdv : Value} {A : Around} {outer : List Env} {s : Shared} {H : Hp} (hr : Room (0) (A.deeper (envOfC "less" (defScope s_less) s.heap.objs.size f cdv))) (ds : List D) (Q : O → Prop) (hS : (S_less).S ds Q) :
    WSs (cxOf CX0 P w K mg base ["f", "g"] "less" (defScope s_less) f cdv A outer s H E0).nox noX (defBody s_less) (slots 2 ds) { nx := fun _ => Q (.va .non), rt := Q } := by
  have sc := sc_less
  obtain ⟨p, q, rfl, ⟨hp, hq⟩, hQ⟩ := hS
  refine ws_norm (ρ' := [_, _]) rfl ?_
  have h1 := hp.num
  have h2 := hp.den
  have h3 := hq.num
  have h4 := hq.den
  rw [decide_eq_decide.mpr (Rat.lt_iff p q)] at hQ
  refine ws_one ?_
  refine ws_retE (ee_lt (ee_mul (ee_ix (ee_var 0 rfl) ee_int rfl rfl) (ee_ix (ee_var 1 rfl) ee_int rfl rfl) (by exact Sz.mulE (by assumption) (by assumption))) (ee_mul (ee_ix (ee_var 1 rfl) ee_int rfl rfl) (ee_ix (ee_var 0 rfl) ee_int rfl rfl) (by exact Sz.mulE (by assumption) (by assumption)))) ?_
  walk_at "tg return"
theorem cal_less (T : Txt K mg)  : Cal P w K mg base 1 "less" S_less [] :=
  cal_of (T.d_less.fn (P := P) (w := w) (base := base) (S := S_less) (k := 0) sc_less (fun ds Q h => by obtain ⟨_, _, rfl, _⟩ := h; rfl) fun f cdv A outer s H hr ds Q hS => body_less T  hr ds Q hS) 0 (by decide) (fun G => .nil)
abbrev S_least_part : Spc := ⟨fun ds Q => ∃ vs : List Rat, ds = [.lst (vs.map rq)] ∧ (∀ v ∈ vs, Rz 5 v) ∧ Q (.va (rq (lpt vs))), fun _ _ _ kk_ ⟨vs, e_, p_, q_⟩ => ⟨vs, e_, p_, kk_ _ q_⟩⟩

theorem sc_least_part : FnScope ["values", "result", "value"] ["values"] (defScope s_least_part) := ⟨rfl, rfl, rfl, by decide +kernel, rfl, by decide +kernel, by decide +kernel⟩
theorem body_least_part (T : Txt K mg) (C_less : Cal P w K mg base 1 "less" S_less []) {f : Addr} {cdv : Value} {A : Around} {outer : List Env} {s : Shared} {H : Hp} (hr : Room (1) (A.deeper (envOfC "least_part" (defScope s_least_part) s.heap.objs.size f cdv))) (ds : List D) (Q : O → Prop) (hS : (S_least_part).S ds Q) :
    WSs (cxOf CX0 P w K mg base ["values", "result", "value"] "least_part" (defScope s_least_part) f cdv A outer s H E0).nox noX (defBody s_least_part) (slots 3 ds) { nx := fun _ => Q (.va .non), rt := Q } := by
  have sc := sc_least_part
  obtain ⟨vs, rfl, hv', hQ⟩ := hS
  refine ws_norm (ρ' := [_, _, _]) rfl ?_
  refine ws_cons ?_
  refine ws_setE 1 (ee_con T.c_ONE) ?_ sc.nd
  refine ws_norm (ρ' := [_, _, _]) rfl ?_
  refine ws_cons ?_
  refine ws_forL (fun k ρ => ρ = [.va (.lst (vs.map rq)), .va (rq (lpt (vs.take k))), .un]) (ee_var 0 rfl) ?start3 nox_own ?turn3 ?fin3
  case start3 =>
    exact up_intro rfl (by walk_at "tg le")
  case turn3 =>
    intro k d ρ hk hR
    subst hR
    obtain ⟨hk', rfl⟩ := map_getK (f := rq) (l := vs) 0 hk
    have hz := hv' _ (getD_mem (x := 0) hk')
    have hl : Rz 5 (lpt (vs.take k)) := by rcases (lpt_ok (vs.take k)).1 with e | e; exact e ▸ ⟨sz_lit rfl, sz_lit rfl⟩; exact hv' _ (List.mem_of_mem_take e)
    have hnx := lpt_next hk'
    generalize vs.getD k 0 = v at *
    refine ⟨_, (at_name 2 sc.nd), ?_⟩
    refine ws_norm (ρ' := [_, _, _]) rfl ?_
    refine ws_one ?_
    refine ws_if (EW.et (ew_and (et_val (ee_cal (C_less) (hr.mono (by decide)) (ea_cons (ee_con T.c_ZERO) (ea_cons (ee_var 2 rfl) ea_nil)) (by first | exact ⟨0, v, rfl, ⟨rz0.rx.mono (by decide) (by decide), rx5 hz⟩, rfl⟩ | exact ⟨v, lpt (vs.take k), rfl, ⟨rx5 hz, rx5 hl⟩, rfl⟩))) (fun hv => (ew_and1 (et_val (ee_cal (C_less) (hr.mono (by decide)) (ea_cons (ee_var 2 rfl) (ea_cons (ee_var 1 rfl) ea_nil)) (by first | exact ⟨0, v, rfl, ⟨rz0.rx.mono (by decide) (by decide), rx5 hz⟩, rfl⟩ | exact ⟨v, lpt (vs.take k), rfl, ⟨rx5 hz, rx5 hl⟩, rfl⟩))))))) (fun h4 => ?_) (fun h4 => ?_)
    · skip
      have hc : 0 < v ∧ v < lpt (vs.take k) := by have h4b := h4; simp only [Bool.and_eq_true, decide_eq_true_eq] at h4b; exact h4b
      refine ws_one ?_
      refine ws_setE 1 (ee_var 2 rfl) ?_ sc.nd
      first | (rw [show rq v = rq (lpt (vs.take (k + 1))) by rw [hnx, if_pos hc]]; exact up_intro rfl (by walk_at "tg le")) | (rw [show rq (lpt (vs.take k)) = rq (lpt (vs.take (k + 1))) by rw [hnx, if_neg hc]]; exact up_intro rfl (by walk_at "tg le"))
    · skip
      have hc : ¬ (0 < v ∧ v < lpt (vs.take k)) := fun z => by rw [decide_eq_true z.1, decide_eq_true z.2] at h4; cases h4
      refine ws_nil ?_
      first | (rw [show rq v = rq (lpt (vs.take (k + 1))) by rw [hnx, if_pos hc]]; exact up_intro rfl (by walk_at "tg le")) | (rw [show rq (lpt (vs.take k)) = rq (lpt (vs.take (k + 1))) by rw [hnx, if_neg hc]]; exact up_intro rfl (by walk_at "tg le"))
  case fin3 =>
    intro ρ hR
    subst hR
    rw [List.length_map, List.take_length]
    refine ws_one ?_
    refine ws_retE (ee_var 1 rfl) ?_
    walk_at "tg return"
theorem cal_least_part (T : Txt K mg) (C_less : Cal P w K mg base 1 "less" S_less []) : Cal P w K mg base 2 "least_part" S_least_part [] :=
  cal_of (T.d_least_part.fn (P := P) (w := w) (base := base) (S := S_least_part) (k := 1) sc_least_part (fun ds Q h => by obtain ⟨_, rfl, _⟩ := h; rfl) fun f cdv A outer s H hr ds Q hS => body_least_part T C_less hr ds Q hS) 0 (by decide) (fun G => .nil)
abbrev S_common_divisor : Spc := ⟨fun ds Q => ∃ a : Int, ∃ b : Int, ds = [.int a, .int b] ∧ (True) ∧ Q (.va (.int (Int.gcd a b))), fun _ _ _ kk_ ⟨a, b, e_, p_, q_⟩ => ⟨a, b, e_, p_, kk_ _ q_⟩⟩

theorem sc_common_divisor : FnScope ["a", "b"] ["a", "b"] (defScope s_common_divisor) := ⟨rfl, rfl, rfl, by decide +kernel, rfl, by decide +kernel, by decide +kernel⟩
theorem body_common_divisor (T : Txt K mg)  {f : Addr} {cdv : Value} {A : Around} {outer : List Env} {s : Shared} {H : Hp} (hr : Room (0) (A.deeper (envOfC "common_divisor" (defScope s_common_divisor) s.heap.objs.size f cdv))) (ds : List D) (Q : O → Prop) (hS : (S_common_divisor).S ds Q) :
    WSs (cxOf CX0 P w K mg base ["a", "b"] "common_divisor" (defScope s_common_divisor) f cdv A outer s H E0).nox noX (defBody s_common_divisor) (slots 2 ds) { nx := fun _ => Q (.va .non), rt := Q } := by
  have sc := sc_common_divisor
  obtain ⟨a, b, rfl, hp, hQ⟩ := hS
  refine ws_norm (ρ' := [_, _]) rfl ?_
  refine ws_cons ?_
  refine ws_setE 0 (ee_abs rfl T.m_abs (ea_cons (ee_var 0 rfl) ea_nil)) ?_ sc.nd
  refine ws_norm (ρ' := [_, _]) rfl ?_
  rw [natAbs_if]
  refine ws_cons ?_
  refine ws_setE 1 (ee_abs rfl T.m_abs (ea_cons (ee_var 1 rfl) ea_nil)) ?_ sc.nd
  refine ws_norm (ρ' := [_, _]) rfl ?_
  rw [natAbs_if]
  refine ws_cons ?_
  refine ws_while (fun m ρ => ∃ x y : Nat, ρ = [.va (.int x), .va (.int y)] ∧ Nat.gcd x y = Int.gcd a b ∧ m = y) (b.natAbs) ?start4 nox_own ?turn4
  case start4 =>
    exact Up.of ⟨a.natAbs, b.natAbs, rfl, rfl, rfl⟩
  case turn4 =>
    rintro m ρ ⟨x, y, rfl, hg, rfl⟩
    refine ⟨_, (et_gt (ee_var 1 rfl) ee_int), fun ht => ?_, fun hf => ?_⟩
    · skip
      have hy : 0 < (m : Int) := of_decide_eq_true ht
      refine ws_one ?_
      refine ws_par 0 1 (ea_cons (ee_var 1 rfl) (ea_cons (ee_mod (ee_var 0 rfl) (ee_var 1 rfl) (by walk_at "tg mod")) ea_nil)) ?_ sc.nd
      exact ⟨x % m, Nat.mod_lt _ (by omega), up_intro ⟨m, x % m, rfl, (gcd_turn x m).trans hg, rfl⟩ (by walk_at "tg le")⟩
    · skip
      have hy : ¬ 0 < (m : Int) := of_decide_eq_false hf
      obtain rfl : m = 0 := by omega
      rw [Nat.gcd_zero_right] at hg
      subst hg
      refine ws_one ?_
      refine ws_retE (ee_var 0 rfl) ?_
      walk_at "tg return"
theorem cal_common_divisor (T : Txt K mg)  : Cal P w K mg base 1 "common_divisor" S_common_divisor [] :=
  cal_of (T.d_common_divisor.fn (P := P) (w := w) (base := base) (S := S_common_divisor) (k := 0) sc_common_divisor (fun ds Q h => by obtain ⟨_, _, rfl, _⟩ := h; rfl) fun f cdv A outer s H hr ds Q hS => body_common_divisor T  hr ds Q hS) 0 (by decide) (fun G => .nil)
abbrev S_fraction : Spc := ⟨fun ds Q => ∃ n : Int, ∃ d : Int, ds = [.int n, .int d] ∧ (d ≠ 0 ∧ Sz 4999 d) ∧ Q (.va (rq (Rat.divInt n d))), fun _ _ _ kk_ ⟨n, d, e_, p_, q_⟩ => ⟨n, d, e_, p_, kk_ _ q_⟩⟩

theorem sc_fraction : FnScope ["n", "d", "g"] ["n", "d"] (defScope s_fraction) := ⟨rfl, rfl, rfl, by decide +kernel, rfl, by decide +kernel, by decide +kernel⟩
theorem body_fraction (T : Txt K mg) (C_common_divisor : Cal P w K mg base 1 "common_divisor" S_common_divisor []) {f : Addr} {cdv : Value} {A : Around} {outer : List Env} {s : Shared} {H : Hp} (hr : Room (1) (A.deeper (envOfC "fraction" (defScope s_fraction) s.heap.objs.size f cdv))) (ds : List D) (Q : O → Prop) (hS : (S_fraction).S ds Q) :
    WSs (cxOf CX0 P w K mg base ["n", "d", "g"] "fraction" (defScope s_fraction) f cdv A outer s H E0).nox noX (defBody s_fraction) (slots 3 ds) { nx := fun _ => Q (.va .non), rt := Q } := by
  have sc := sc_fraction
  obtain ⟨n, d, rfl, ⟨hd, hsz⟩, hQ⟩ := hS
  refine ws_norm (ρ' := [_, _, _]) rfl ?_
  rw [← rq_frac hd] at hQ
  have hg := fg_ne (n := n) hd
  have hgs := fg_sz (n := n) hd hsz
  refine ws_cons ?_
  refine ws_setE 2 (ee_cal (C_common_divisor) (hr.mono (by decide)) (ea_cons (ee_var 0 rfl) (ea_cons (ee_var 1 rfl) ea_nil)) (by exact ⟨_, _, rfl, trivial, rfl⟩)) ?_ sc.nd
  refine ws_norm (ρ' := [_, _, _]) rfl ?_
  refine ws_cons ?_
  refine ws_if (et_lt (ee_var 1 rfl) ee_int) (fun h3 => ?_) (fun h3 => ?_)
  · skip
    have hd0 : d < 0 := of_decide_eq_true h3
    have e : fg n d = -(Int.gcd n d : Int) := if_pos hd0
    refine ws_one ?_
    refine ws_setE 2 (ee_neg (ee_var 2 rfl)) ?_ sc.nd
    refine ws_norm (ρ' := [_, _, _]) rfl ?_
    refine ws_one ?_
    refine ws_retE (ee_tup (ea_cons (ee_fdiv (ee_var 0 rfl) (ee_var 2 rfl) (by first | (rw [← e]; exact hgs.div hg) | (rw [Int.zero_sub, ← e]; exact hgs.div hg))) (ea_cons (ee_fdiv (ee_var 1 rfl) (ee_var 2 rfl) (by first | (rw [← e]; exact hgs.div hg) | (rw [Int.zero_sub, ← e]; exact hgs.div hg))) ea_nil))) ?_
    first | (rw [← e]; exact hQ) | (rw [Int.zero_sub, ← e]; exact hQ)
  · skip
    have hd0 : ¬ d < 0 := of_decide_eq_false h3
    have e : fg n d = (Int.gcd n d : Int) := if_neg hd0
    refine ws_nil ?_
    refine ws_one ?_
    refine ws_retE (ee_tup (ea_cons (ee_fdiv (ee_var 0 rfl) (ee_var 2 rfl) (by first | (rw [← e]; exact hgs.div hg) | (rw [Int.zero_sub, ← e]; exact hgs.div hg))) (ea_cons (ee_fdiv (ee_var 1 rfl) (ee_var 2 rfl) (by first | (rw [← e]; exact hgs.div hg) | (rw [Int.zero_sub, ← e]; exact hgs.div hg))) ea_nil))) ?_
    first | (rw [← e]; exact hQ) | (rw [Int.zero_sub, ← e]; exact hQ)
theorem cal_fraction_1 (T : Txt K mg) (C_common_divisor : Cal P w K mg base 1 "common_divisor" S_common_divisor []) : Cal P w K mg base 2 "fraction" S_fraction [.int 1] :=
  cal_of (T.d_fraction.fn (P := P) (w := w) (base := base) (S := S_fraction) (k := 1) sc_fraction (fun ds Q h => by obtain ⟨_, _, rfl, _⟩ := h; rfl) fun f cdv A outer s H hr ds Q hS => body_fraction T C_common_divisor hr ds Q hS) 0 (by decide) (fun G => (.cons (Rep.int _) .nil))
theorem cal_fraction (T : Txt K mg) (C_common_divisor : Cal P w K mg base 1 "common_divisor" S_common_divisor []) : Cal P w K mg base 2 "fraction" S_fraction [] :=
  cal_of (T.d_fraction.fn (P := P) (w := w) (base := base) (S := S_fraction) (k := 1) sc_fraction (fun ds Q h => by obtain ⟨_, _, rfl, _⟩ := h; rfl) fun f cdv A outer s H hr ds Q hS => body_fraction T C_common_divisor hr ds Q hS) 1 (by decide) (fun G => .nil)
abbrev S_minus : Spc := ⟨fun ds Q => ∃ p : Rat, ∃ q : Rat, ds = [rq p, rq q] ∧ (Rx 40000 2000 p ∧ Rx 40000 2000 q) ∧ Q (.va (rq (p - q))), fun _ _ _ kk_ ⟨p, q, e_, p_, q_⟩ => ⟨p, q, e_, p_, kk_ _ q_⟩⟩

theorem sc_minus : FnScope ["f", "g"] ["f", "g"] (defScope s_minus) := ⟨rfl, rfl, rfl, by decide +kernel, rfl, by decide +kernel, by decide +kernel⟩
theorem body_minus (T : Txt K mg) (C_fraction : Cal P w K mg base 2 "fraction" S_fraction []) {f : Addr} {cdv : Value} {A : Around} {outer : List Env} {s : Shared} {H : Hp} (hr : Room (2) (A.deeper (envOfC "minus" (defScope s_minus) s.heap.objs.size f cdv))) (ds : List D) (Q : O → Prop) (hS : (S_minus).S ds Q) :
    WSs (cxOf CX0 P w K mg base ["f", "g"] "minus" (defScope s_minus) f cdv A outer s H E0).nox noX (defBody s_minus) (slots 2 ds) { nx := fun _ => Q (.va .non), rt := Q } := by
  have sc := sc_minus
  obtain ⟨p, q, rfl, ⟨hp, hq⟩, hQ⟩ := hS
  refine ws_norm (ρ' := [_, _]) rfl ?_
  have h1 := hp.num
  have h2 := hp.den
  have h3 := hq.num
  have h4 := hq.den
  refine ws_one ?_
  refine ws_retE (ee_cal (C_fraction) (hr.mono (by decide)) (ea_cons (ee_sub (ee_mul (ee_ix (ee_var 0 rfl) ee_int rfl rfl) (ee_ix (ee_var 1 rfl) ee_int rfl rfl) (by exact Sz.mulE (by assumption) (by assumption))) (ee_mul (ee_ix (ee_var 1 rfl) ee_int rfl rfl) (ee_ix (ee_var 0 rfl) ee_int rfl rfl) (by exact Sz.mulE (by assumption) (by assumption)))) (ea_cons (ee_mul (ee_ix (ee_var 0 rfl) ee_int rfl rfl) (ee_ix (ee_var 1 rfl) ee_int rfl rfl) (by exact Sz.mulE (by assumption) (by assumption))) ea_nil)) (by exact ⟨_, _, rfl, ⟨mul_ne (rq_ne p) (rq_ne q), (h2.mul h4).mono (by decide)⟩, rfl⟩)) ?_
  rw [rat_sub]; exact hQ
theorem cal_minus (T : Txt K mg) (C_fraction : Cal P w K mg base 2 "fraction" S_fraction []) : Cal P w K mg base 3 "minus" S_minus [] :=
  cal_of (T.d_minus.fn (P := P) (w := w) (base := base) (S := S_minus) (k := 2) sc_minus (fun ds Q h => by obtain ⟨_, _, rfl, _⟩ := h; rfl) fun f cdv A outer s H hr ds Q hS => body_minus T C_fraction hr ds Q hS) 0 (by decide) (fun G => .nil)
abbrev S_rest : Spc := ⟨fun ds Q => ∃ f : Rat, ds = [rq f] ∧ (True) ∧ Q (.va (rq (rfr f))), fun _ _ _ kk_ ⟨f, e_, p_, q_⟩ => ⟨f, e_, p_, kk_ _ q_⟩⟩

theorem sc_rest : FnScope ["f"] ["f"] (defScope s_rest) := ⟨rfl, rfl, rfl, by decide +kernel, rfl, by decide +kernel, by decide +kernel⟩
theorem body_rest (T : Txt K mg)  {f : Addr} {cdv : Value} {A : Around} {outer : List Env} {s : Shared} {H : Hp} (hr : Room (0) (A.deeper (envOfC "rest" (defScope s_rest) s.heap.objs.size f cdv))) (ds : List D) (Q : O → Prop) (hS : (S_rest).S ds Q) :
    WSs (cxOf CX0 P w K mg base ["f"] "rest" (defScope s_rest) f cdv A outer s H E0).nox noX (defBody s_rest) (slots 1 ds) { nx := fun _ => Q (.va .non), rt := Q } := by
  have sc := sc_rest
  obtain ⟨f, rfl, hp, hQ⟩ := hS
  refine ws_norm (ρ' := [_]) rfl ?_
  refine ws_one ?_
  refine ws_retE (ee_tup (ea_cons (ee_mod (ee_ix (ee_var 0 rfl) ee_int rfl rfl) (ee_ix (ee_var 0 rfl) ee_int rfl rfl) (by exact rq_pos _)) (ea_cons (ee_ix (ee_var 0 rfl) ee_int rfl rfl) ea_nil))) ?_
  walk_at "tg return"
theorem cal_rest (T : Txt K mg)  : Cal P w K mg base 1 "rest" S_rest [] :=
  cal_of (T.d_rest.fn (P := P) (w := w) (base := base) (S := S_rest) (k := 0) sc_rest (fun ds Q h => by obtain ⟨_, rfl, _⟩ := h; rfl) fun f cdv A outer s H hr ds Q hS => body_rest T  hr ds Q hS) 0 (by decide) (fun G => .nil)
abbrev S_own_basis : Spc := ⟨fun ds Q => ∃ S : List Mo, ds = [lsO S] ∧ (G5 S) ∧ Q (.va (basD S)), fun _ _ _ kk_ ⟨S, e_, p_, q_⟩ => ⟨S, e_, p_, kk_ _ q_⟩⟩

theorem sc_own_basis : FnScope ["movements", "shifts", "m", "z", "x", "y", "shift"] ["movements"] (defScope s_own_basis) := ⟨rfl, rfl, rfl, by decide +kernel, rfl, by decide +kernel, by decide +kernel⟩
theorem body_own_basis (T : Txt K mg) (C_least_part : Cal P w K mg base 2 "least_part" S_least_part []) (C_less : Cal P w K mg base 1 "less" S_less []) (C_minus : Cal P w K mg base 3 "minus" S_minus []) (C_rest : Cal P w K mg base 1 "rest" S_rest []) {f : Addr} {cdv : Value} {A : Around} {outer : List Env} {s : Shared} {H : Hp} (hr : Room (3) (A.deeper (envOfC "own_basis" (defScope s_own_basis) s.heap.objs.size f cdv))) (ds : List D) (Q : O → Prop) (hS : (S_own_basis).S ds Q) :
    WSs (cxOf CX0 P w K mg base ["movements", "shifts", "m", "z", "x", "y", "shift"] "own_basis" (defScope s_own_basis) f cdv A outer s H E0).nox noX (defBody s_own_basis) (slots 7 ds) { nx := fun _ => Q (.va .non), rt := Q } := by
  have sc := sc_own_basis
  obtain ⟨S, rfl, hG, hQ⟩ := hS
  refine ws_norm (ρ' := [_, _, _, _, _, _, _]) rfl ?_
  have sz := hG.sizes
  obtain ⟨N, hD, hD2, hd⟩ := hG.d
  have dx := dv_x hd
  have hsl := shp_len S
  have hSl := hG.len
  refine ws_cons ?_
  refine ws_setLc 1 (f := fSh) [("m", 2)] (ei_lst (ee_var 0 rfl)) sc.nd (blkOk_by (N := ["movements", "shifts", "m", "z", "x", "y", "shift"]) (sc := defScope s_own_basis) (by first | decide +kernel | kernel_rfl)) (by rw [List.length_map]; have := hG.len; exact Nat.le_of_lt (small1000 (by omega))) ?turn2 ?nx2
  case turn2 =>
    intro k d hk
    obtain ⟨hk', rfl⟩ := map_getK (f := moD) (l := S) default hk
    refine ⟨_, _, fun _ _ _ _ _ => (ab_name 2 (by decide) sc.nd), fun _ _ _ _ _ => (ets_one (et_eq hr.units (ee_slT (ee_var 2 rfl) ep_none (ep_some ee_int) (by exact cutMo _)) (ee_slT (ee_con T.c_IDENTITY) ep_none (ep_some ee_int) (by exact cutMo MID)) (by walk_at "tg cmp") (by walk_at "tg cmp"))), fun ht => ?_, fun hf => ?_⟩
    · skip
      exact ⟨_, (by show (if isPm (und moD (moD _)) = true then some (ptD ⟨(und moD (moD _)).x, (und moD (moD _)).y⟩) else none) = _; rw [keyF_mo.und]; exact if_pos (by have ht' := ht; rw [keyF_mx.eqv] at ht'; exact ht')), fun _ _ _ _ _ => (ee_tup (ea_cons (ee_ix (ee_var 2 rfl) ee_int rfl (by rfl)) (ea_cons (ee_ix (ee_var 2 rfl) ee_int rfl (by rfl)) ea_nil)))⟩
    · skip
      show (if isPm (und moD (moD _)) = true then some (ptD ⟨(und moD (moD _)).x, (und moD (moD _)).y⟩) else none) = _
      rw [keyF_mo.und]
      exact if_neg (by have hf' := hf; rw [keyF_mx.eqv] at hf'; rw [show isPm _ = false from hf']; exact Bool.false_ne_true)
  case nx2 =>
    refine ws_norm (ρ' := [_, _, _, _, _, _, _]) rfl ?_
    refine ws_freeze 1 rfl ?_
    refine ws_norm (ρ' := [_, _, _, _, _, _, _]) rfl ?_
    rw [pick_sh]
    refine ws_cons ?_
    refine ws_setE 3 (ee_cal (C_least_part) (hr.mono (by decide)) (ea_cons (ee_lst (eo_lc (f := fPy) [("x", 4), ("y", 5)] (ei_lst (ee_var 1 rfl)) sc.nd (blkOk_by (N := ["movements", "shifts", "m", "z", "x", "y", "shift"]) (sc := defScope s_own_basis) (by first | decide +kernel | kernel_rfl)) (by rw [List.length_map]; exact Nat.le_of_lt (small1000 (by omega))) (by intro k d hk; obtain ⟨hk', rfl⟩ := map_getK (f := ptD) (l := shp S) default hk; exact ⟨_, _, fun _ _ _ _ _ => (ab_tup (abs_cons (ab_name 4 (by decide) sc.nd) (abs_cons (ab_name 5 (by decide) sc.nd) abs_nil))), fun _ _ _ _ _ => ets_nil, fun ht => ⟨_, (by show some (rq (und ptD (ptD _)).y) = _; rw [keyF_pt.und]), fun _ _ _ _ _ => (ee_var 5 rfl)⟩, fun hf => absurd hf (by decide)⟩))) ea_nil) (by first | exact ⟨(shp S).map fun p : Pt => p.y, by rw [pick_py]; rfl, fun v hv => by obtain ⟨p, hp, rfl⟩ := List.mem_map.mp hv; exact (sz.p p hp).1.2, rfl⟩ | exact ⟨((shp S).filter fun p : Pt => decide (p.y = 0)).map fun p : Pt => p.x, by rw [pick_px]; rfl, fun v hv => by obtain ⟨p, hp, rfl⟩ := List.mem_map.mp hv; exact (sz.p p (List.mem_filter.mp hp).1).1.1, rfl⟩)) ?_ sc.nd
    refine ws_norm (ρ' := [_, _, _, _, _, _, _]) rfl ?_
    rw [show lpt ((shp S).map fun p : Pt => p.y) = zOf S from rfl]
    refine ws_cons ?_
    refine ws_setE 4 (ee_cal (C_least_part) (hr.mono (by decide)) (ea_cons (ee_lst (eo_lc (f := fPx) [("x", 4), ("y", 5)] (ei_lst (ee_var 1 rfl)) sc.nd (blkOk_by (N := ["movements", "shifts", "m", "z", "x", "y", "shift"]) (sc := defScope s_own_basis) (by first | decide +kernel | kernel_rfl)) (by rw [List.length_map]; exact Nat.le_of_lt (small1000 (by omega))) (by intro k d hk; obtain ⟨hk', rfl⟩ := map_getK (f := ptD) (l := shp S) default hk; exact ⟨_, _, fun _ _ _ _ _ => (ab_tup (abs_cons (ab_name 4 (by decide) sc.nd) (abs_cons (ab_name 5 (by decide) sc.nd) abs_nil))), fun _ _ _ _ _ => (ets_one (et_eq hr.units (ee_var 5 rfl) (ee_con T.c_ZERO) (by walk_at "tg cmp") (by walk_at "tg cmp"))), fun ht => ⟨_, (by show (if decide ((und ptD (ptD _)).y = 0) = true then some (rq (und ptD (ptD _)).x) else none) = _; rw [keyF_pt.und]; exact if_pos ((rq_eqv _ 0).symm.trans ht)), fun _ _ _ _ _ => (ee_var 4 rfl)⟩, fun hf => (by show (if decide ((und ptD (ptD _)).y = 0) = true then some (rq (und ptD (ptD _)).x) else none) = _; rw [keyF_pt.und]; exact if_neg (by rw [(rq_eqv _ 0).symm.trans hf]; exact Bool.false_ne_true))⟩))) ea_nil) (by first | exact ⟨(shp S).map fun p : Pt => p.y, by rw [pick_py]; rfl, fun v hv => by obtain ⟨p, hp, rfl⟩ := List.mem_map.mp hv; exact (sz.p p hp).1.2, rfl⟩ | exact ⟨((shp S).filter fun p : Pt => decide (p.y = 0)).map fun p : Pt => p.x, by rw [pick_px]; rfl, fun v hv => by obtain ⟨p, hp, rfl⟩ := List.mem_map.mp hv; exact (sz.p p (List.mem_filter.mp hp).1).1.1, rfl⟩)) ?_ sc.nd
    refine ws_norm (ρ' := [_, _, _, _, _, _, _]) rfl ?_
    rw [show lpt (((shp S).filter fun p : Pt => decide (p.y = 0)).map fun p : Pt => p.x) = xOf S from rfl]
    refine ws_cons ?_
    refine ws_setE 5 (ee_con T.c_ZERO) ?_ sc.nd
    refine ws_norm (ρ' := [_, _, _, _, _, _, _]) rfl ?_
    refine ws_cons ?_
    refine ws_forL (fun k ρ => ∃ y : Rat, ρ = [.va (lsO S), .va (.lst ((shp S).map ptD)), .un, .va (rq (zOf S)), .va (rq (xOf S)), .va (rq y), .un] ∧ yAt S k y) (ee_var 1 rfl) ?start6 nox_own ?turn6 ?fin6
    case start6 =>
      exact up_intro ⟨0, rfl, .inl ⟨rfl, fun p hp => by cases hp⟩⟩ (by walk_at "tg le")
    case turn6 =>
      intro k d ρ hk hR
      obtain ⟨y, rfl, hy⟩ := hR
      obtain ⟨hk', rfl⟩ := map_getK (f := ptD) (l := shp S) default hk
      have hpm := getD_mem (x := default) hk'
      have hyn := fun hn => yAt_no hk' hy hn
      generalize (shp S).getD k default = p at *
      refine ⟨_, (at_name 6 sc.nd), ?_⟩
      refine ws_norm (ρ' := [_, _, _, _, _, _, _]) rfl ?_
      refine ws_one ?_
      refine ws_if (EW.et (ew_and (et_eq hr.units (ee_ix (ee_var 6 rfl) ee_int rfl (by rfl)) (ee_cal (C_rest) (hr.mono (by decide)) (ea_cons (ee_var 3 rfl) ea_nil) (by exact ⟨_, rfl, trivial, rfl⟩)) (by walk_at "tg cmp") (by walk_at "tg cmp")) (fun hv => (ew_and1 (et_ne hr.units (ee_var 3 rfl) (ee_con T.c_ONE) (by walk_at "tg cmp") (by walk_at "tg cmp")))))) (fun h7 => ?_) (fun h7 => ?_)
      · skip
        have h7' : p.y = rfr (zOf S) ∧ ¬ zOf S = 1 := by have h7b := h7; rw [rq_eqv, show D.eqv (rq (zOf S)) (.tup [.int 1, .int 1]) = decide (zOf S = 1) from rq_eqv _ 1] at h7b; simpa using h7b
        refine ws_one ?_
        refine ws_setE 5 (ee_ix (ee_var 6 rfl) ee_int rfl (by rfl)) ?_ sc.nd
        first | exact up_intro ⟨p.x, rfl, yAt_yes hG hpm h7'.1 h7'.2⟩ (by walk_at "tg le") | exact up_intro ⟨y, rfl, hyn h7'⟩ (by walk_at "tg le")
      · skip
        have h7' : ¬ (p.y = rfr (zOf S) ∧ ¬ zOf S = 1) := by have h7b := h7; rw [rq_eqv, show D.eqv (rq (zOf S)) (.tup [.int 1, .int 1]) = decide (zOf S = 1) from rq_eqv _ 1] at h7b; intro z; rw [decide_eq_true z.1, decide_eq_false z.2] at h7b; cases h7b
        refine ws_nil ?_
        first | exact up_intro ⟨p.x, rfl, yAt_yes hG hpm h7'.1 h7'.2⟩ (by walk_at "tg le") | exact up_intro ⟨y, rfl, hyn h7'⟩ (by walk_at "tg le")
    case fin6 =>
      intro ρ hR
      obtain ⟨y, rfl, hy⟩ := hR
      rw [List.length_map] at hy
      have hye := yAt_end hG hy
      have hyw := YW.of hG hd hye
      refine ws_cons ?_
      refine ws_while (fun m ρ => ∃ (u : Rat) (j : Nat), ρ = [.va (lsO S), .va (.lst ((shp S).map ptD)), .un, .va (rq (zOf S)), .va (rq (xOf S)), .va (rq u), .un] ∧ YW S N u ∧ u = y - ((j : Nat) : Rat) * xOf S ∧ m = 24 - j) (24) ?start9 nox_own ?turn9
      case start9 =>
        exact up_intro ⟨y, 0, rfl, hyw, by rw [show ((0 : Nat) : Rat) = 0 from rfl]; grind, rfl⟩ (by walk_at "tg le")
      case turn9 =>
        rintro m ρ ⟨u, j, rfl, hu, huj, rfl⟩
        have hur := hu.rz hD hD2
        refine ⟨_, (et_not (et_val (ee_cal (C_less) (hr.mono (by decide)) (ea_cons (ee_var 5 rfl) (ea_cons (ee_var 4 rfl) ea_nil)) (by exact ⟨u, xOf S, rfl, ⟨rx5 hur, rx5 sz.x.1⟩, rfl⟩)))), fun ht => ?_, fun hf => ?_⟩
        · skip
          have hn : ¬ u < xOf S := by simpa using ht
          have hu2 := hu.step hG hD dx hn
          refine ws_one ?_
          refine ws_setE 5 (ee_cal (C_minus) (hr.mono (by decide)) (ea_cons (ee_var 5 rfl) (ea_cons (ee_var 4 rfl) ea_nil)) (by exact ⟨u, xOf S, rfl, ⟨rx5 hur, rx5 sz.x.1⟩, rfl⟩)) ?_ sc.nd
          have hj : j + 1 < 24 := few (j := j + 1) sz.x.2 hyw.g.2 (by rw [show ((j + 1 : Nat) : Rat) = (j : Rat) + 1 from Rat.natCast_add j 1]; have := hu2.g.1; grind)
          exact ⟨24 - (j + 1), by omega, up_intro ⟨u - xOf S, j + 1, rfl, hu2, by rw [show ((j + 1 : Nat) : Rat) = (j : Rat) + 1 from Rat.natCast_add j 1]; grind, rfl⟩ (by walk_at "tg le")⟩
        · skip
          have hl : u < xOf S := by simpa using hf
          have hue := hu.stop hG hl
          subst hue
          refine ws_one ?_
          refine ws_retE (ee_tup (ea_cons (ee_var 4 rfl) (ea_cons (ee_var 5 rfl) (ea_cons (ee_var 3 rfl) ea_nil)))) ?_
          walk_at "tg return"
theorem cal_own_basis (T : Txt K mg) (C_least_part : Cal P w K mg base 2 "least_part" S_least_part []) (C_less : Cal P w K mg base 1 "less" S_less []) (C_minus : Cal P w K mg base 3 "minus" S_minus []) (C_rest : Cal P w K mg base 1 "rest" S_rest []) : Cal P w K mg base 4 "own_basis" S_own_basis [] :=
  cal_of (T.d_own_basis.fn (P := P) (w := w) (base := base) (S := S_own_basis) (k := 3) sc_own_basis (fun ds Q h => by obtain ⟨_, rfl, _⟩ := h; rfl) fun f cdv A outer s H hr ds Q hS => body_own_basis T C_least_part C_less C_minus C_rest hr ds Q hS) 0 (by decide) (fun G => .nil)
abbrev S_common_multiple : Spc := ⟨fun ds Q => ∃ fs : List Rat, ds = [.lst (fs.map rq)] ∧ (∃ L : Nat, 0 < L ∧ Sz 4000 (L : Int) ∧ ∀ f ∈ fs, Dv L f ∧ Rz 2000 f) ∧ Q (.va (.int ((cmN fs : Nat) : Int))), fun _ _ _ kk_ ⟨fs, e_, p_, q_⟩ => ⟨fs, e_, p_, kk_ _ q_⟩⟩

theorem sc_common_multiple : FnScope ["fractions", "result", "n", "d"] ["fractions"] (defScope s_common_multiple) := ⟨rfl, rfl, rfl, by decide +kernel, rfl, by decide +kernel, by decide +kernel⟩
theorem body_common_multiple (T : Txt K mg) (C_common_divisor : Cal P w K mg base 1 "common_divisor" S_common_divisor []) {f : Addr} {cdv : Value} {A : Around} {outer : List Env} {s : Shared} {H : Hp} (hr : Room (1) (A.deeper (envOfC "common_multiple" (defScope s_common_multiple) s.heap.objs.size f cdv))) (ds : List D) (Q : O → Prop) (hS : (S_common_multiple).S ds Q) :
    WSs (cxOf CX0 P w K mg base ["fractions", "result", "n", "d"] "common_multiple" (defScope s_common_multiple) f cdv A outer s H E0).nox noX (defBody s_common_multiple) (slots 4 ds) { nx := fun _ => Q (.va .non), rt := Q } := by
  have sc := sc_common_multiple
  obtain ⟨fs, rfl, ⟨L, hL0, hLs, hz⟩, hQ⟩ := hS
  refine ws_norm (ρ' := [_, _, _, _]) rfl ?_
  refine ws_cons ?_
  refine ws_setE 1 ee_int ?_ sc.nd
  refine ws_norm (ρ' := [_, _, _, _]) rfl ?_
  refine ws_cons ?_
  refine ws_forL (fun k ρ => ρ = [.va (.lst (fs.map rq)), .va (.int ((cmN (fs.take k) : Nat) : Int)), .un, .un]) (ee_var 0 rfl) ?start3 nox_own ?turn3 ?fin3
  case start3 =>
    exact up_intro rfl (by walk_at "tg le")
  case turn3 =>
    intro k d ρ hk hR
    subst hR
    obtain ⟨hk', rfl⟩ := map_getK (f := rq) (l := fs) 0 hk
    have hf := (hz _ (getD_mem (x := 0) hk')).2
    refine ⟨_, (at_tup (ats_cons (at_name 2 sc.nd) (ats_cons (at_name 3 sc.nd) ats_nil))), ?_⟩
    refine ws_norm (ρ' := [_, _, _, _]) rfl ?_
    refine ws_one ?_
    refine ws_setE 1 (ee_mul (ee_fdiv (ee_var 1 rfl) (ee_cal (C_common_divisor) (hr.mono (by decide)) (ea_cons (ee_var 1 rfl) (ea_cons (ee_var 3 rfl) ea_nil)) (by exact ⟨_, _, rfl, trivial, rfl⟩)) (by exact Sz.div (gcd_nz (rq_ne _)) (sz_gcd (rq_ne _) hf.den))) (ee_var 3 rfl) (by exact cm_step2 hL0 hLs hz hk')) ?_ sc.nd
    rw [cm_step _ _ (cmN_pos _), ← cm_next hk']
    exact up_intro rfl (by walk_at "tg le")
  case fin3 =>
    intro ρ hR
    subst hR
    rw [List.length_map, List.take_length]
    refine ws_one ?_
    refine ws_retE (ee_var 1 rfl) ?_
    walk_at "tg return"
theorem cal_common_multiple (T : Txt K mg) (C_common_divisor : Cal P w K mg base 1 "common_divisor" S_common_divisor []) : Cal P w K mg base 2 "common_multiple" S_common_multiple [] :=
  cal_of (T.d_common_multiple.fn (P := P) (w := w) (base := base) (S := S_common_multiple) (k := 1) sc_common_multiple (fun ds Q h => by obtain ⟨_, rfl, _⟩ := h; rfl) fun f cdv A outer s H hr ds Q hS => body_common_multiple T C_common_divisor hr ds Q hS) 0 (by decide) (fun G => .nil)
abbrev S_scaled : Spc := ⟨fun ds Q => ∃ f : Rat, ∃ L : Nat, ds = [rq f, .int (L : Int)] ∧ (Rz 2000 f ∧ Sz 4000 (L : Int)) ∧ Q (.va (.int (scl L f))), fun _ _ _ kk_ ⟨f, L, e_, p_, q_⟩ => ⟨f, L, e_, p_, kk_ _ q_⟩⟩

theorem sc_scaled : FnScope ["f", "multiple"] ["f", "multiple"] (defScope s_scaled) := ⟨rfl, rfl, rfl, by decide +kernel, rfl, by decide +kernel, by decide +kernel⟩
theorem body_scaled (T : Txt K mg)  {f : Addr} {cdv : Value} {A : Around} {outer : List Env} {s : Shared} {H : Hp} (hr : Room (0) (A.deeper (envOfC "scaled" (defScope s_scaled) s.heap.objs.size f cdv))) (ds : List D) (Q : O → Prop) (hS : (S_scaled).S ds Q) :
    WSs (cxOf CX0 P w K mg base ["f", "multiple"] "scaled" (defScope s_scaled) f cdv A outer s H E0).nox noX (defBody s_scaled) (slots 2 ds) { nx := fun _ => Q (.va .non), rt := Q } := by
  have sc := sc_scaled
  obtain ⟨f, L, rfl, ⟨hf, hL⟩, hQ⟩ := hS
  refine ws_norm (ρ' := [_, _]) rfl ?_
  refine ws_one ?_
  refine ws_retE (ee_mul (ee_ix (ee_var 0 rfl) ee_int rfl rfl) (ee_fdiv (ee_var 1 rfl) (ee_ix (ee_var 0 rfl) ee_int rfl rfl) (by exact Sz.div (rq_ne _) hf.den)) (by exact Sz.mulE hf.num (sz_quo (by omega) (rq_pos _) hL))) ?_
  walk_at "tg return"
theorem cal_scaled (T : Txt K mg)  : Cal P w K mg base 1 "scaled" S_scaled [] :=
  cal_of (T.d_scaled.fn (P := P) (w := w) (base := base) (S := S_scaled) (k := 0) sc_scaled (fun ds Q h => by obtain ⟨_, _, rfl, _⟩ := h; rfl) fun f cdv A outer s H hr ds Q hS => body_scaled T  hr ds Q hS) 0 (by decide) (fun G => .nil)
abbrev S_ascending : Spc := ⟨fun ds Q => ∃ S : List Mo, ds = [lsO S] ∧ (OkO 13000 2000 S ∧ S.length ≤ 1000) ∧ Q (.ml ((ascO S).map moD)), fun _ _ _ kk_ ⟨S, e_, p_, q_⟩ => ⟨S, e_, p_, kk_ _ q_⟩⟩

theorem sc_ascending : FnScope ["movements", "multiple", "m"] ["movements"] (defScope s_ascending) := ⟨rfl, rfl, rfl, by decide +kernel, rfl, by decide +kernel, by decide +kernel⟩
theorem body_ascending (T : Txt K mg) (C_common_multiple : Cal P w K mg base 2 "common_multiple" S_common_multiple []) (C_scaled : Cal P w K mg base 1 "scaled" S_scaled []) {f : Addr} {cdv : Value} {A : Around} {outer : List Env} {s : Shared} {H : Hp} (hcd : CodeT base mg cdv (("ascending" : Str) ++ ".<locals>.")) (hr : Room (7) (A.deeper (envOfC "ascending" (defScope s_ascending) s.heap.objs.size f cdv))) (ds : List D) (Q : O → Prop) (hS : (S_ascending).S ds Q) :
    WSs (cxOf CX0 P w K mg base ["movements", "multiple", "m"] "ascending" (defScope s_ascending) f cdv A outer s H E0).nox noX (defBody s_ascending) (slots 3 ds) { nx := fun _ => Q (.va .non), rt := Q } := by
  have sc := sc_ascending
  obtain ⟨S, rfl, ⟨hz, hl⟩, hQ⟩ := hS
  refine ws_norm (ρ' := [_, _, _]) rfl ?_
  refine ws_cons ?_
  refine ws_setE 1 (ee_cal (C_common_multiple) (hr.mono (by decide)) (ea_cons (ee_lst (eo_catL (ee_lst (eo_lc (f := fun _ d => some (rq (und moD d).x)) [("m", 2)] (ei_lst (ee_var 0 rfl)) sc.nd (blkOk_by (N := ["movements", "multiple", "m"]) (sc := defScope s_ascending) (by first | decide +kernel | kernel_rfl)) (by rw [List.length_map]; exact Nat.le_of_lt (small1000 (by omega))) (by intro k d hk; obtain ⟨hk', rfl⟩ := map_getK (f := moD) (l := S) default hk; exact ⟨_, _, fun _ _ _ _ _ => (ab_name 2 (by decide) sc.nd), fun _ _ _ _ _ => ets_nil, fun ht => ⟨_, (by show some (rq (und moD (moD _)).x) = _; rw [keyF_mo.und]), fun _ _ _ _ _ => (ee_ix (ee_var 2 rfl) ee_int rfl (by rfl))⟩, fun hf => absurd hf (by decide)⟩))) (ee_lst (eo_lc (f := fun _ d => some (rq (und moD d).y)) [("m", 2)] (ei_lst (ee_var 0 rfl)) sc.nd (blkOk_by (N := ["movements", "multiple", "m"]) (sc := defScope s_ascending) (by first | decide +kernel | kernel_rfl)) (by rw [List.length_map]; exact Nat.le_of_lt (small1000 (by omega))) (by intro k d hk; obtain ⟨hk', rfl⟩ := map_getK (f := moD) (l := S) default hk; exact ⟨_, _, fun _ _ _ _ _ => (ab_name 2 (by decide) sc.nd), fun _ _ _ _ _ => ets_nil, fun ht => ⟨_, (by show some (rq (und moD (moD _)).y) = _; rw [keyF_mo.und]), fun _ _ _ _ _ => (ee_ix (ee_var 2 rfl) ee_int rfl (by rfl))⟩, fun hf => absurd hf (by decide)⟩))) (by rw [keyF_mo.pick (fun m => rq m.x), keyF_mo.pick (fun m => rq m.y), List.length_map, List.length_map]; exact Nat.le_of_lt (small2000 hl)))) ea_nil) (by exact ⟨S.map (·.x) ++ S.map (·.y), by rw [keyF_mo.pick (fun m => rq m.x), keyF_mo.pick (fun m => rq m.y), List.map_append, List.map_map, List.map_map]; rfl, ⟨LL, by decide, sz_lit rfl, fun f hf => ⟨(ok_fr hz f hf).dv, (ok_fr hz f hf).rz (by decide)⟩⟩, rfl⟩)) ?_ sc.nd
  refine ws_norm (ρ' := [_, _, _]) rfl ?_
  refine ws_one ?_
  refine ws_ret (P := fun o => o = .ml _) (eo_sortedK (k := 2) (N' := ["m", "multiple"]) (ps := ["m"]) (fr := ["multiple"]) [1] [.int ((cmO S : Nat) : Int)] (S.map (kyO (cmO S))) (hr.mono (by decide)) rfl T.m_sorted hcd (ea_cons (ee_var 0 rfl) ea_nil) (nscope_by (by decide +kernel)) rfl rfl rfl (by show ndefB (defScope s_ascending) _ _ = true; decide +kernel) (fun _ _ _ _ _ _ => rfl) rfl (by rw [List.length_map, List.length_map]) (by exact plains_map (fun _ => rfl) S) (by exact kyO_rows _ _) (by refine Nat.le_trans (depths_map (n := 1) ?_) (Nat.le_of_ble_eq_true rfl); intro _; exact Nat.le_of_ble_eq_true rfl) (by intro i d κ hd hk cl c f A outer s H hr; obtain ⟨hi, rfl⟩ := map_getK (f := moD) (l := S) default hd; obtain ⟨_, rfl⟩ := map_getK (f := kyO (cmO S)) (l := S) default hk; have hm := hz _ (getD_mem (x := default) hi); have hL := (sz_dvd (cmO_ok hz)).mono (show 65 ≤ 4000 by decide); generalize S.getD i default = x at *; have hx := hm.x.rz (by decide); have hy := hm.y.rz (by decide); show EE _ _ _ _ (.tup (mxL x.m ++ [.int (scl _ x.x), .int (scl _ x.y)])); exact (ee_catT (ee_slT (ee_var 0 rfl) ep_none (ep_some ee_int) (by exact cutMo _)) (ee_tup (ea_cons (ee_cal (C_scaled) (hr.mono (by decide)) (ea_cons (ee_ix (ee_var 0 rfl) ee_int rfl (by rfl)) (ea_cons (ee_var 1 rfl) ea_nil)) (by first | exact ⟨x.x, _, rfl, ⟨hx.mono (by decide), hL⟩, rfl⟩ | exact ⟨x.y, _, rfl, ⟨hy.mono (by decide), hL⟩, rfl⟩)) (ea_cons (ee_cal (C_scaled) (hr.mono (by decide)) (ea_cons (ee_ix (ee_var 0 rfl) ee_int rfl (by rfl)) (ea_cons (ee_var 1 rfl) ea_nil)) (by first | exact ⟨x.x, _, rfl, ⟨hx.mono (by decide), hL⟩, rfl⟩ | exact ⟨x.y, _, rfl, ⟨hy.mono (by decide), hL⟩, rfl⟩)) ea_nil))) (by walk_at "tg cat")))) ?_
  rintro _ rfl
  rw [ascO_srt]; exact hQ
theorem cal_ascending (T : Txt K mg) (M_ascending : MakT K mg base "ascending") (C_common_multiple : Cal P w K mg base 2 "common_multiple" S_common_multiple []) (C_scaled : Cal P w K mg base 1 "scaled" S_scaled []) : Cal P w K mg base 8 "ascending" S_ascending [] :=
  cal_of (T.d_ascending.fnM M_ascending (P := P) (w := w) (base := base) (S := S_ascending) (k := 7) sc_ascending (fun ds Q h => by obtain ⟨_, rfl, _⟩ := h; rfl) fun f cdv A outer s H hcd hr ds Q hS => body_ascending T C_common_multiple C_scaled hcd hr ds Q hS) 0 (by decide) (fun G => .nil)
abbrev S_settled : Spc := ⟨fun ds Q => ∃ m : Mo, ds = [moD m] ∧ (True) ∧ Q (.va (moD (mstl m))), fun _ _ _ kk_ ⟨m, e_, p_, q_⟩ => ⟨m, e_, p_, kk_ _ q_⟩⟩

theorem sc_settled : FnScope ["m"] ["m"] (defScope s_settled) := ⟨rfl, rfl, rfl, by decide +kernel, rfl, by decide +kernel, by decide +kernel⟩
theorem body_settled (T : Txt K mg) (C_rest : Cal P w K mg base 1 "rest" S_rest []) {f : Addr} {cdv : Value} {A : Around} {outer : List Env} {s : Shared} {H : Hp} (hr : Room (1) (A.deeper (envOfC "settled" (defScope s_settled) s.heap.objs.size f cdv))) (ds : List D) (Q : O → Prop) (hS : (S_settled).S ds Q) :
    WSs (cxOf CX0 P w K mg base ["m"] "settled" (defScope s_settled) f cdv A outer s H E0).nox noX (defBody s_settled) (slots 1 ds) { nx := fun _ => Q (.va .non), rt := Q } := by
  have sc := sc_settled
  obtain ⟨m, rfl, hp, hQ⟩ := hS
  refine ws_norm (ρ' := [_]) rfl ?_
  refine ws_one ?_
  refine ws_retE (ee_catT (ee_slT (ee_var 0 rfl) ep_none (ep_some ee_int) (by exact cutMo _)) (ee_tup (ea_cons (ee_cal (C_rest) (hr.mono (by decide)) (ea_cons (ee_ix (ee_var 0 rfl) ee_int rfl (by rfl)) ea_nil) (by exact ⟨_, rfl, trivial, rfl⟩)) (ea_cons (ee_cal (C_rest) (hr.mono (by decide)) (ea_cons (ee_ix (ee_var 0 rfl) ee_int rfl (by rfl)) ea_nil) (by exact ⟨_, rfl, trivial, rfl⟩)) ea_nil))) (by walk_at "tg cat")) ?_
  walk_at "tg return"
theorem cal_settled (T : Txt K mg) (C_rest : Cal P w K mg base 1 "rest" S_rest []) : Cal P w K mg base 2 "settled" S_settled [] :=
  cal_of (T.d_settled.fn (P := P) (w := w) (base := base) (S := S_settled) (k := 1) sc_settled (fun ds Q h => by obtain ⟨_, rfl, _⟩ := h; rfl) fun f cdv A outer s H hr ds Q hS => body_settled T C_rest hr ds Q hS) 0 (by decide) (fun G => .nil)
abbrev S_led : Spc := ⟨fun ds Q => ∃ p : Mx, ∃ r : List D, ∃ x : Rat, ∃ y : Rat, ds = [.tup (mxL p ++ r), .tup [rq x, rq y]] ∧ (SzM 13000 p ∧ Zs 400 x ∧ Zs 400 y) ∧ Q (.va (.tup [rq (lx p x y), rq (ly p x y)])), fun _ _ _ kk_ ⟨p, r, x, y, e_, p_, q_⟩ => ⟨p, r, x, y, e_, p_, kk_ _ q_⟩⟩

theorem sc_led : FnScope ["matrix", "vector", "a", "b", "c", "d", "x", "y", "size"] ["matrix", "vector"] (defScope s_led) := ⟨rfl, rfl, rfl, by decide +kernel, rfl, by decide +kernel, by decide +kernel⟩
theorem body_led (T : Txt K mg) (C_fraction : Cal P w K mg base 2 "fraction" S_fraction []) {f : Addr} {cdv : Value} {A : Around} {outer : List Env} {s : Shared} {H : Hp} (hr : Room (2) (A.deeper (envOfC "led" (defScope s_led) s.heap.objs.size f cdv))) (ds : List D) (Q : O → Prop) (hS : (S_led).S ds Q) :
    WSs (cxOf CX0 P w K mg base ["matrix", "vector", "a", "b", "c", "d", "x", "y", "size"] "led" (defScope s_led) f cdv A outer s H E0).nox noX (defBody s_led) (slots 9 ds) { nx := fun _ => Q (.va .non), rt := Q } := by
  have sc := sc_led
  obtain ⟨p, r, x, y, rfl, ⟨⟨ha, hb, hc, hd⟩, hx, hy⟩, hQ⟩ := hS
  refine ws_norm (ρ' := [_, _, _, _, _, _, _, _, _]) rfl ?_
  have h1 := (hx.rz (by decide)).num
  have h2 := (hx.rz (by decide)).den
  have h3 := (hy.rz (by decide)).num
  have h4 := (hy.rz (by decide)).den
  have m1 := h1.mul h4
  have m2 := h3.mul h2
  refine ws_cons ?_
  refine ws_unpack (ee_slT (ee_var 0 rfl) ep_none (ep_some ee_int) (by exact cut4 p r)) (at_tup (ats_cons (at_name 2 sc.nd) (ats_cons (at_name 3 sc.nd) (ats_cons (at_name 4 sc.nd) (ats_cons (at_name 5 sc.nd) ats_nil))))) ?_
  refine ws_norm (ρ' := [_, _, _, _, _, _, _, _, _]) rfl ?_
  refine ws_cons ?_
  refine ws_setE 6 (ee_mul (ee_ix (ee_ix (ee_var 1 rfl) ee_int rfl rfl) ee_int rfl rfl) (ee_ix (ee_ix (ee_var 1 rfl) ee_int rfl rfl) ee_int rfl rfl) (by exact Sz.mulE (by assumption) (by assumption))) ?_ sc.nd
  refine ws_norm (ρ' := [_, _, _, _, _, _, _, _, _]) rfl ?_
  refine ws_cons ?_
  refine ws_setE 7 (ee_mul (ee_ix (ee_ix (ee_var 1 rfl) ee_int rfl rfl) ee_int rfl rfl) (ee_ix (ee_ix (ee_var 1 rfl) ee_int rfl rfl) ee_int rfl rfl) (by exact Sz.mulE (by assumption) (by assumption))) ?_ sc.nd
  refine ws_norm (ρ' := [_, _, _, _, _, _, _, _, _]) rfl ?_
  refine ws_cons ?_
  refine ws_setE 8 (ee_mul (ee_ix (ee_ix (ee_var 1 rfl) ee_int rfl rfl) ee_int rfl rfl) (ee_ix (ee_ix (ee_var 1 rfl) ee_int rfl rfl) ee_int rfl rfl) (by exact Sz.mulE (by assumption) (by assumption))) ?_ sc.nd
  refine ws_norm (ρ' := [_, _, _, _, _, _, _, _, _]) rfl ?_
  refine ws_one ?_
  refine ws_retE (ee_tup (ea_cons (ee_cal (C_fraction) (hr.mono (by decide)) (ea_cons (ee_add (ee_mul (ee_var 2 rfl) (ee_var 6 rfl) (by exact Sz.mulE (by assumption) (by assumption))) (ee_mul (ee_var 3 rfl) (ee_var 7 rfl) (by exact Sz.mulE (by assumption) (by assumption)))) (ea_cons (ee_var 8 rfl) ea_nil)) (by exact ⟨_, _, rfl, ⟨mul_ne (rq_ne x) (rq_ne y), (h2.mul h4).mono (by decide)⟩, rfl⟩)) (ea_cons (ee_cal (C_fraction) (hr.mono (by decide)) (ea_cons (ee_add (ee_mul (ee_var 4 rfl) (ee_var 6 rfl) (by exact Sz.mulE (by assumption) (by assumption))) (ee_mul (ee_var 5 rfl) (ee_var 7 rfl) (by exact Sz.mulE (by assumption) (by assumption)))) (ea_cons (ee_var 8 rfl) ea_nil)) (by exact ⟨_, _, rfl, ⟨mul_ne (rq_ne x) (rq_ne y), (h2.mul h4).mono (by decide)⟩, rfl⟩)) ea_nil))) ?_
  rw [rat_led, rat_led]; exact hQ
theorem cal_led (T : Txt K mg) (C_fraction : Cal P w K mg base 2 "fraction" S_fraction []) : Cal P w K mg base 3 "led" S_led [] :=
  cal_of (T.d_led.fn (P := P) (w := w) (base := base) (S := S_led) (k := 2) sc_led (fun ds Q h => by obtain ⟨_, _, _, _, rfl, _⟩ := h; rfl) fun f cdv A outer s H hr ds Q hS => body_led T C_fraction hr ds Q hS) 0 (by decide) (fun G => .nil)
abbrev S_plus : Spc := ⟨fun ds Q => ∃ p : Rat, ∃ q : Rat, ds = [rq p, rq q] ∧ (Rx 40000 2000 p ∧ Rx 40000 2000 q) ∧ Q (.va (rq (p + q))), fun _ _ _ kk_ ⟨p, q, e_, p_, q_⟩ => ⟨p, q, e_, p_, kk_ _ q_⟩⟩

theorem sc_plus : FnScope ["f", "g"] ["f", "g"] (defScope s_plus) := ⟨rfl, rfl, rfl, by decide +kernel, rfl, by decide +kernel, by decide +kernel⟩
theorem body_plus (T : Txt K mg) (C_fraction : Cal P w K mg base 2 "fraction" S_fraction []) {f : Addr} {cdv : Value} {A : Around} {outer : List Env} {s : Shared} {H : Hp} (hr : Room (2) (A.deeper (envOfC "plus" (defScope s_plus) s.heap.objs.size f cdv))) (ds : List D) (Q : O → Prop) (hS : (S_plus).S ds Q) :
    WSs (cxOf CX0 P w K mg base ["f", "g"] "plus" (defScope s_plus) f cdv A outer s H E0).nox noX (defBody s_plus) (slots 2 ds) { nx := fun _ => Q (.va .non), rt := Q } := by
  have sc := sc_plus
  obtain ⟨p, q, rfl, ⟨hp, hq⟩, hQ⟩ := hS
  refine ws_norm (ρ' := [_, _]) rfl ?_
  have h1 := hp.num
  have h2 := hp.den
  have h3 := hq.num
  have h4 := hq.den
  refine ws_one ?_
  refine ws_retE (ee_cal (C_fraction) (hr.mono (by decide)) (ea_cons (ee_add (ee_mul (ee_ix (ee_var 0 rfl) ee_int rfl rfl) (ee_ix (ee_var 1 rfl) ee_int rfl rfl) (by exact Sz.mulE (by assumption) (by assumption))) (ee_mul (ee_ix (ee_var 1 rfl) ee_int rfl rfl) (ee_ix (ee_var 0 rfl) ee_int rfl rfl) (by exact Sz.mulE (by assumption) (by assumption)))) (ea_cons (ee_mul (ee_ix (ee_var 0 rfl) ee_int rfl rfl) (ee_ix (ee_var 1 rfl) ee_int rfl rfl) (by exact Sz.mulE (by assumption) (by assumption))) ea_nil)) (by exact ⟨_, _, rfl, ⟨mul_ne (rq_ne p) (rq_ne q), (h2.mul h4).mono (by decide)⟩, rfl⟩)) ?_
  rw [rat_add]; exact hQ
theorem cal_plus (T : Txt K mg) (C_fraction : Cal P w K mg base 2 "fraction" S_fraction []) : Cal P w K mg base 3 "plus" S_plus [] :=
  cal_of (T.d_plus.fn (P := P) (w := w) (base := base) (S := S_plus) (k := 2) sc_plus (fun ds Q h => by obtain ⟨_, _, rfl, _⟩ := h; rfl) fun f cdv A outer s H hr ds Q hS => body_plus T C_fraction hr ds Q hS) 0 (by decide) (fun G => .nil)
abbrev S_moved : Spc := ⟨fun ds Q => ∃ n : Mo, ∃ x : Rat, ∃ y : Rat, ds = [moD n, .tup [rq x, rq y]] ∧ (So 13000 400 n ∧ Zs 400 x ∧ Zs 400 y) ∧ Q (.va (.tup [rq (lx n.m x y + n.x), rq (ly n.m x y + n.y)])), fun _ _ _ kk_ ⟨n, x, y, e_, p_, q_⟩ => ⟨n, x, y, e_, p_, kk_ _ q_⟩⟩

theorem sc_moved : FnScope ["m", "point", "x", "y"] ["m", "point"] (defScope s_moved) := ⟨rfl, rfl, rfl, by decide +kernel, rfl, by decide +kernel, by decide +kernel⟩
theorem body_moved (T : Txt K mg) (C_led : Cal P w K mg base 3 "led" S_led []) (C_plus : Cal P w K mg base 3 "plus" S_plus []) {f : Addr} {cdv : Value} {A : Around} {outer : List Env} {s : Shared} {H : Hp} (hr : Room (3) (A.deeper (envOfC "moved" (defScope s_moved) s.heap.objs.size f cdv))) (ds : List D) (Q : O → Prop) (hS : (S_moved).S ds Q) :
    WSs (cxOf CX0 P w K mg base ["m", "point", "x", "y"] "moved" (defScope s_moved) f cdv A outer s H E0).nox noX (defBody s_moved) (slots 4 ds) { nx := fun _ => Q (.va .non), rt := Q } := by
  have sc := sc_moved
  obtain ⟨n, x, y, rfl, ⟨hn, hx, hy⟩, hQ⟩ := hS
  refine ws_norm (ρ' := [_, _, _, _]) rfl ?_
  have k1 := ((zs_two hn.a hn.b hx hy).rx (by decide)).mono (show 13000 + 400 + 1 ≤ 40000 by decide) (show 65 ≤ 2000 by decide)
  have k2 := ((zs_two hn.c hn.d hx hy).rx (by decide)).mono (show 13000 + 400 + 1 ≤ 40000 by decide) (show 65 ≤ 2000 by decide)
  have k3 := (hn.x.rx (by decide)).mono (show 400 ≤ 40000 by decide) (show 65 ≤ 2000 by decide)
  have k4 := (hn.y.rx (by decide)).mono (show 400 ≤ 40000 by decide) (show 65 ≤ 2000 by decide)
  refine ws_cons ?_
  refine ws_unpack (ee_cal (C_led) (hr.mono (by decide)) (ea_cons (ee_var 0 rfl) (ea_cons (ee_var 1 rfl) ea_nil)) (by exact ⟨n.m, [rq n.x, rq n.y], x, y, rfl, ⟨hn.szm, hx, hy⟩, rfl⟩)) (at_tup (ats_cons (at_name 2 sc.nd) (ats_cons (at_name 3 sc.nd) ats_nil))) ?_
  refine ws_norm (ρ' := [_, _, _, _]) rfl ?_
  refine ws_one ?_
  refine ws_retE (ee_tup (ea_cons (ee_cal (C_plus) (hr.mono (by decide)) (ea_cons (ee_var 2 rfl) (ea_cons (ee_ix (ee_var 0 rfl) ee_int rfl (by rfl)) ea_nil)) (by first | exact ⟨_, _, rfl, ⟨k1, k3⟩, rfl⟩ | exact ⟨_, _, rfl, ⟨k2, k4⟩, rfl⟩)) (ea_cons (ee_cal (C_plus) (hr.mono (by decide)) (ea_cons (ee_var 3 rfl) (ea_cons (ee_ix (ee_var 0 rfl) ee_int rfl (by rfl)) ea_nil)) (by first | exact ⟨_, _, rfl, ⟨k1, k3⟩, rfl⟩ | exact ⟨_, _, rfl, ⟨k2, k4⟩, rfl⟩)) ea_nil))) ?_
  walk_at "tg return"
theorem cal_moved (T : Txt K mg) (C_led : Cal P w K mg base 3 "led" S_led []) (C_plus : Cal P w K mg base 3 "plus" S_plus []) : Cal P w K mg base 4 "moved" S_moved [] :=
  cal_of (T.d_moved.fn (P := P) (w := w) (base := base) (S := S_moved) (k := 3) sc_moved (fun ds Q h => by obtain ⟨_, _, _, rfl, _⟩ := h; rfl) fun f cdv A outer s H hr ds Q hS => body_moved T C_led C_plus hr ds Q hS) 0 (by decide) (fun G => .nil)
abbrev S_product : Spc := ⟨fun ds Q => ∃ p : Mx, ∃ r : List D, ∃ q : Mx, ∃ t : List D, ds = [.tup (mxL p ++ r), .tup (mxL q ++ t)] ∧ (SzM 13000 p ∧ SzM 13000 q) ∧ Q (.va (mxD (mmul p q))), fun _ _ _ kk_ ⟨p, r, q, t, e_, p_, q_⟩ => ⟨p, r, q, t, e_, p_, kk_ _ q_⟩⟩

theorem sc_product : FnScope ["first", "second", "a", "b", "c", "d", "e", "f", "g", "h"] ["first", "second"] (defScope s_product) := ⟨rfl, rfl, rfl, by decide +kernel, rfl, by decide +kernel, by decide +kernel⟩
theorem body_product (T : Txt K mg)  {f : Addr} {cdv : Value} {A : Around} {outer : List Env} {s : Shared} {H : Hp} (hr : Room (0) (A.deeper (envOfC "product" (defScope s_product) s.heap.objs.size f cdv))) (ds : List D) (Q : O → Prop) (hS : (S_product).S ds Q) :
    WSs (cxOf CX0 P w K mg base ["first", "second", "a", "b", "c", "d", "e", "f", "g", "h"] "product" (defScope s_product) f cdv A outer s H E0).nox noX (defBody s_product) (slots 10 ds) { nx := fun _ => Q (.va .non), rt := Q } := by
  have sc := sc_product
  obtain ⟨p, r, q, t, rfl, ⟨⟨ha, hb, hc, hd⟩, ⟨he, hf, hg, hh⟩⟩, hQ⟩ := hS
  refine ws_norm (ρ' := [_, _, _, _, _, _, _, _, _, _]) rfl ?_
  refine ws_cons ?_
  refine ws_unpack (ee_slT (ee_var 0 rfl) ep_none (ep_some ee_int) (by exact cut4 p r)) (at_tup (ats_cons (at_name 2 sc.nd) (ats_cons (at_name 3 sc.nd) (ats_cons (at_name 4 sc.nd) (ats_cons (at_name 5 sc.nd) ats_nil))))) ?_
  refine ws_norm (ρ' := [_, _, _, _, _, _, _, _, _, _]) rfl ?_
  refine ws_cons ?_
  refine ws_unpack (ee_slT (ee_var 1 rfl) ep_none (ep_some ee_int) (by exact cut4 q t)) (at_tup (ats_cons (at_name 6 sc.nd) (ats_cons (at_name 7 sc.nd) (ats_cons (at_name 8 sc.nd) (ats_cons (at_name 9 sc.nd) ats_nil))))) ?_
  refine ws_norm (ρ' := [_, _, _, _, _, _, _, _, _, _]) rfl ?_
  refine ws_one ?_
  refine ws_retE (ee_tup (ea_cons (ee_add (ee_mul (ee_var 6 rfl) (ee_var 2 rfl) (by exact Sz.mulE (by assumption) (by assumption))) (ee_mul (ee_var 7 rfl) (ee_var 4 rfl) (by exact Sz.mulE (by assumption) (by assumption)))) (ea_cons (ee_add (ee_mul (ee_var 6 rfl) (ee_var 3 rfl) (by exact Sz.mulE (by assumption) (by assumption))) (ee_mul (ee_var 7 rfl) (ee_var 5 rfl) (by exact Sz.mulE (by assumption) (by assumption)))) (ea_cons (ee_add (ee_mul (ee_var 8 rfl) (ee_var 2 rfl) (by exact Sz.mulE (by assumption) (by assumption))) (ee_mul (ee_var 9 rfl) (ee_var 4 rfl) (by exact Sz.mulE (by assumption) (by assumption)))) (ea_cons (ee_add (ee_mul (ee_var 8 rfl) (ee_var 3 rfl) (by exact Sz.mulE (by assumption) (by assumption))) (ee_mul (ee_var 9 rfl) (ee_var 5 rfl) (by exact Sz.mulE (by assumption) (by assumption)))) ea_nil))))) ?_
  walk_at "tg return"
theorem cal_product (T : Txt K mg)  : Cal P w K mg base 1 "product" S_product [] :=
  cal_of (T.d_product.fn (P := P) (w := w) (base := base) (S := S_product) (k := 0) sc_product (fun ds Q h => by obtain ⟨_, _, _, _, rfl, _⟩ := h; rfl) fun f cdv A outer s H hr ds Q hS => body_product T  hr ds Q hS) 0 (by decide) (fun G => .nil)
abbrev S_then : Spc := ⟨fun ds Q => ∃ m : Mo, ∃ n : Mo, ds = [moD m, moD n] ∧ (So 13000 400 m ∧ So 13000 400 n) ∧ Q (.va (moD (mthn m n))), fun _ _ _ kk_ ⟨m, n, e_, p_, q_⟩ => ⟨m, n, e_, p_, kk_ _ q_⟩⟩

theorem sc_then : FnScope ["m", "n"] ["m", "n"] (defScope s_then) := ⟨rfl, rfl, rfl, by decide +kernel, rfl, by decide +kernel, by decide +kernel⟩
theorem body_then (T : Txt K mg) (C_moved : Cal P w K mg base 4 "moved" S_moved []) (C_product : Cal P w K mg base 1 "product" S_product []) {f : Addr} {cdv : Value} {A : Around} {outer : List Env} {s : Shared} {H : Hp} (hr : Room (4) (A.deeper (envOfC "then" (defScope s_then) s.heap.objs.size f cdv))) (ds : List D) (Q : O → Prop) (hS : (S_then).S ds Q) :
    WSs (cxOf CX0 P w K mg base ["m", "n"] "then" (defScope s_then) f cdv A outer s H E0).nox noX (defBody s_then) (slots 2 ds) { nx := fun _ => Q (.va .non), rt := Q } := by
  have sc := sc_then
  obtain ⟨m, n, rfl, ⟨hm, hn⟩, hQ⟩ := hS
  refine ws_norm (ρ' := [_, _]) rfl ?_
  refine ws_one ?_
  refine ws_retE (ee_catT (ee_cal (C_product) (hr.mono (by decide)) (ea_cons (ee_var 0 rfl) (ea_cons (ee_var 1 rfl) ea_nil)) (by exact ⟨m.m, [rq m.x, rq m.y], n.m, [rq n.x, rq n.y], rfl, ⟨hm.szm, hn.szm⟩, rfl⟩)) (ee_cal (C_moved) (hr.mono (by decide)) (ea_cons (ee_var 1 rfl) (ea_cons (ee_tup (ea_cons (ee_ix (ee_var 0 rfl) ee_int rfl (by rfl)) (ea_cons (ee_ix (ee_var 0 rfl) ee_int rfl (by rfl)) ea_nil))) ea_nil)) (by exact ⟨n, m.x, m.y, rfl, ⟨hn, hm.x, hm.y⟩, rfl⟩)) (by walk_at "tg cat")) ?_
  walk_at "tg return"
theorem cal_then (T : Txt K mg) (C_moved : Cal P w K mg base 4 "moved" S_moved []) (C_product : Cal P w K mg base 1 "product" S_product []) : Cal P w K mg base 5 "then" S_then [] :=
  cal_of (T.d_then.fn (P := P) (w := w) (base := base) (S := S_then) (k := 4) sc_then (fun ds Q h => by obtain ⟨_, _, rfl, _⟩ := h; rfl) fun f cdv A outer s H hr ds Q hS => body_then T C_moved C_product hr ds Q hS) 0 (by decide) (fun G => .nil)
abbrev S_closure_within : Spc := ⟨fun ds Q => ∃ S : List Mo, ∃ Z : List Mo, ds = [.dct (S.map moD) (yes S), .lst (Z.map moD)] ∧ (OkO 13000 65 S ∧ IsCl S ∧ (∀ m ∈ Z, m ∈ S) ∧ S.length ≤ 1000) ∧ Q (.md ((cloW S Z).map moD) (yes (cloW S Z))), fun _ _ _ kk_ ⟨S, Z, e_, p_, q_⟩ => ⟨S, Z, e_, p_, kk_ _ q_⟩⟩

theorem sc_closure_within : FnScope ["held", "steps", "found", "waiting", "current", "m", "target"] ["held", "steps"] (defScope s_closure_within) := ⟨rfl, rfl, rfl, by decide +kernel, rfl, by decide +kernel, by decide +kernel⟩
theorem body_closure_within (T : Txt K mg) (C_settled : Cal P w K mg base 2 "settled" S_settled []) (C_then : Cal P w K mg base 5 "then" S_then []) {f : Addr} {cdv : Value} {A : Around} {outer : List Env} {s : Shared} {H : Hp} (hr : Room (5) (A.deeper (envOfC "closure_within" (defScope s_closure_within) s.heap.objs.size f cdv))) (ds : List D) (Q : O → Prop) (hS : (S_closure_within).S ds Q) :
    WSs (cxOf CX0 P w K mg base ["held", "steps", "found", "waiting", "current", "m", "target"] "closure_within" (defScope s_closure_within) f cdv A outer s H E0).nox noX (defBody s_closure_within) (slots 7 ds) { nx := fun _ => Q (.va .non), rt := Q } := by
  have sc := sc_closure_within
  obtain ⟨S, Z, rfl, ⟨hz, hcl, hT, hl⟩, hQ⟩ := hS
  refine ws_norm (ρ' := [_, _, _, _, _, _, _]) rfl ?_
  have hrun := run_held hcl hT
  refine ws_cons ?_
  refine ws_set 2 (eo_disp1 hr (ee_con T.c_IDENTITY) ee_bl (by walk_at "tg dkey")) ?_ sc.nd
  rintro _ rfl
  refine ws_norm (ρ' := [_, _, _, _, _, _, _]) rfl ?_
  refine ws_cons ?_
  refine ws_setM 3 (eo_lst (ea_cons (ee_con T.c_IDENTITY) ea_nil)) ?_ sc.nd
  refine ws_norm (ρ' := [_, _, _, _, _, _, _]) rfl ?_
  refine ws_cons ?_
  refine ws_while (fun m ρ => ∃ F W : List Mo, ρ = [.va (.dct (S.map moD) (yes S)), .va (.lst (Z.map moD)), .md (F.map moD) (yes F), .ml (W.map moD), .un, .un, .un] ∧ Run gM (heldBad S) Z F W (cloH S Z) ∧ InnH S F (2 * S.length) F W ∧ m = 2 * (S.length - F.length) + W.length) (2 * (S.length - 1) + 1) ?start4 nox_own ?turn4
  case start4 =>
    exact up_intro ⟨[MID], [MID], rfl, hrun, ⟨fun x hx => by rw [List.mem_singleton.mp hx]; exact hcl.id, List.nodup_cons.mpr ⟨List.not_mem_nil, .nil⟩, fun _ h => h, by have := List.length_pos_of_mem hcl.id; simp only [List.length_cons, List.length_nil]; omega⟩, rfl⟩ (by walk_at "tg le")
  case turn4 =>
    rintro m ρ ⟨F, W, rfl, hR, hI, rfl⟩
    refine ⟨_, (et_truM 3 rfl), fun ht => ?_, fun hf => ?_⟩
    · skip
      obtain ⟨V, c', rfl⟩ := snoc_of (l := W) (by intro z; rw [z] at ht; exact absurd ht (by decide))
      have hc := hI.sub c' (hI.wf c' (List.mem_append_right _ List.mem_cons_self))
      have hlen : (V ++ [c']).length = V.length + 1 := by rw [List.length_append, List.length_singleton]
      refine ws_cons ?_
      refine ws_pop 3 4 rfl (by exact pop_at) ?_ sc.nd
      refine ws_norm (ρ' := [_, _, _, _, _, _, _]) rfl ?_
      rw [pop_map]
      refine ws_one ?_
      refine ws_forL (fun k ρ => ∃ F' W' : List Mo, ρ = [.va (.dct (S.map moD) (yes S)), .va (.lst (Z.map moD)), .md (F'.map moD) (yes F'), .ml (W'.map moD), .va (moD c'), .un, .un] ∧ inn gM (heldBad S) c' (Z.drop k) (F', W') = inn gM (heldBad S) c' Z (F, V) ∧ InnH S F (2 * (S.length - F.length) + V.length) F' W') (ee_var 1 rfl) ?start6 nox_own ?turn6 ?fin6
      case start6 =>
        exact up_intro ⟨F, V, rfl, rfl, hI.sub, hI.nd, fun x hx => hI.wf x (List.mem_append_left _ hx), Nat.le_refl _⟩ (by walk_at "tg le")
      case turn6 =>
        intro k d ρ hk hR_
        obtain ⟨F', W', rfl, hi, hJ⟩ := hR_
        obtain ⟨hk', rfl⟩ := map_getK (f := moD) (l := Z) default hk
        have hmT := getD_mem (x := default) hk'
        rw [drop_getD default hk'] at hi
        generalize Z.getD k default = t at *
        have hcl2 := hcl.cl _ hc _ (hT t hmT)
        have hF' := hJ.len
        refine ⟨_, (at_name 5 sc.nd), ?_⟩
        refine ws_norm (ρ' := [_, _, _, _, _, _, _]) rfl ?_
        refine ws_cons ?_
        refine ws_setE 6 (ee_cal (C_settled) (hr.mono (by decide)) (ea_cons (ee_cal (C_then) (hr.mono (by decide)) (ea_cons (ee_var 4 rfl) (ea_cons (ee_var 5 rfl) ea_nil)) (by exact ⟨c', t, rfl, ⟨(hz _ hc).mono (by decide) (by decide), (hz _ (hT t hmT)).mono (by decide) (by decide)⟩, rfl⟩)) ea_nil) (by exact ⟨_, rfl, trivial, rfl⟩)) ?_ sc.nd
        refine ws_norm (ρ' := [_, _, _, _, _, _, _]) rfl ?_
        refine ws_cons ?_
        refine ws_if (et_ninX hr (ee_var 6 rfl) (ed_dat (ee_var 0 rfl)) (by walk_at "tg dkey")) (fun h8 => ?_) (fun h8 => ?_)
        · skip
          rw [keyF_mo.mem, decide_eq_true hcl2] at h8
          exact absurd h8 (by decide)
        · skip
          refine ws_nil ?_
          refine ws_one ?_
          refine ws_if (et_ninX hr (ee_var 6 rfl) (ed_own 2 rfl) (by walk_at "tg dkey")) (fun h10 => ?_) (fun h10 => ?_)
          · skip
            have hnin : gM c' t ∉ F' := by
              rw [keyF_mo.mem, Bool.not_eq_true'] at h10
              exact of_decide_eq_false h10
            refine ws_cons ?_
            refine ws_dput 2 rfl hr ee_bl (ee_var 6 rfl) (by walk_at "tg dkey") (by rw [List.length_map]; exact small1000 (by omega)) ?_
            refine ws_norm (ρ' := [_, _, _, _, _, _, _]) rfl ?_
            rw [keyF_mo.insK, keyF_mo.insV, ins_new hnin]
            refine ws_one ?_
            refine ws_append 3 rfl (ee_var 6 rfl) (by rw [List.length_map]; have := hJ.ms; have := hI.ms; exact line_of (by omega)) ?_
            first | (rw [List.map_append]; done) | exact up_intro ⟨F' ++ [gM c' t], W' ++ [gM c' t], by rw [List.map_append (l₁ := W')] <;> rfl, by rw [← hi, inn_cons_new hnin (by rw [heldBad, decide_eq_true hcl2]; rfl)], hJ.new hcl2 hnin⟩ (by walk_at "tg le") | exact up_intro ⟨F', W', rfl, by rw [← hi, inn_cons_in hin], hJ⟩ (by walk_at "tg le")
          · skip
            have hin : gM c' t ∈ F' := by
              rw [keyF_mo.mem, Bool.not_eq_false'] at h10
              exact of_decide_eq_true h10
            refine ws_nil ?_
            first | (rw [List.map_append]; done) | exact up_intro ⟨F' ++ [gM c' t], W' ++ [gM c' t], by rw [List.map_append (l₁ := W')] <;> rfl, by rw [← hi, inn_cons_new hnin (by rw [heldBad, decide_eq_true hcl2]; rfl)], hJ.new hcl2 hnin⟩ (by walk_at "tg le") | exact up_intro ⟨F', W', rfl, by rw [← hi, inn_cons_in hin], hJ⟩ (by walk_at "tg le")
      case fin6 =>
        intro ρ hR_
        obtain ⟨F', W', rfl, hi, hJ⟩ := hR_
        rw [List.length_map, List.drop_length] at hi
        rcases hR.inv with ⟨e, _⟩ | ⟨F2, W2, e, hR2⟩
        · rw [e] at hi; cases hi
        · rw [e] at hi; cases hi
          exact ⟨2 * (S.length - F'.length) + W'.length, by have := hJ.ms; rw [hlen]; omega, up_intro ⟨F', W', rfl, hR2, ⟨hJ.sub, hJ.nd, hJ.wf, by have := hJ.ms; have := hI.ms; omega⟩, rfl⟩ (by walk_at "tg le")⟩
    · skip
      have hw : W = [] := by
        cases W with
        | nil => rfl
        | cons a r => exact absurd hf (by simp)
      subst hw
      have hcw : cloW S Z = F := by unfold cloW; rw [hR.nil_inv]; rfl
      refine ws_one ?_
      refine ws_retMD 2 rfl ?_
      rw [hcw] at hQ; exact hQ
theorem cal_closure_within (T : Txt K mg) (C_settled : Cal P w K mg base 2 "settled" S_settled []) (C_then : Cal P w K mg base 5 "then" S_then []) : Cal P w K mg base 6 "closure_within" S_closure_within [] :=
  cal_of (T.d_closure_within.fn (P := P) (w := w) (base := base) (S := S_closure_within) (k := 5) sc_closure_within (fun ds Q h => by obtain ⟨_, _, rfl, _⟩ := h; rfl) fun f cdv A outer s H hr ds Q hS => body_closure_within T C_settled C_then hr ds Q hS) 0 (by decide) (fun G => .nil)
abbrev S_check_closed : Spc := ⟨fun ds Q => ∃ S : List Mo, ds = [.dct (S.map moD) (yes S)] ∧ (OkO 13000 65 S ∧ IsCl S ∧ S.length ≤ 1000) ∧ Q (.va .non), fun _ _ _ kk_ ⟨S, e_, p_, q_⟩ => ⟨S, e_, p_, kk_ _ q_⟩⟩

theorem sc_check_closed : FnScope ["held", "steps", "found", "m"] ["held"] (defScope s_check_closed) := ⟨rfl, rfl, rfl, by decide +kernel, rfl, by decide +kernel, by decide +kernel⟩
theorem body_check_closed (T : Txt K mg) (C_closure_within : Cal P w K mg base 6 "closure_within" S_closure_within []) {f : Addr} {cdv : Value} {A : Around} {outer : List Env} {s : Shared} {H : Hp} (hr : Room (6) (A.deeper (envOfC "check_closed" (defScope s_check_closed) s.heap.objs.size f cdv))) (ds : List D) (Q : O → Prop) (hS : (S_check_closed).S ds Q) :
    WSs (cxOf CX0 P w K mg base ["held", "steps", "found", "m"] "check_closed" (defScope s_check_closed) f cdv A outer s H E0).nox noX (defBody s_check_closed) (slots 4 ds) { nx := fun _ => Q (.va .non), rt := Q } := by
  have sc := sc_check_closed
  obtain ⟨S, rfl, ⟨hz, hcl, hl⟩, hQ⟩ := hS
  refine ws_norm (ρ' := [_, _, _, _]) rfl ?_
  refine ws_cons ?_
  refine ws_setM 1 (eo_lst ea_nil) ?_ sc.nd
  refine ws_norm (ρ' := [_, _, _, _]) rfl ?_
  refine ws_cons ?_
  refine ws_set 2 (eo_disp1 hr (ee_con T.c_IDENTITY) ee_bl (by walk_at "tg dkey")) ?_ sc.nd
  rintro _ rfl
  refine ws_norm (ρ' := [_, _, _, _]) rfl ?_
  refine ws_one ?_
  refine ws_forI (fun k ρ => ∃ F Z : List Mo, ρ = [.va (.dct (S.map moD) (yes S)), .ml (Z.map moD), .md (F.map moD) (yes F), .un] ∧ (∀ m ∈ Z, m ∈ S) ∧ Z.length ≤ k) (ei_dct (ee_var 0 rfl)) ?start4 nox_own ?turn4 ?fin4
  case start4 =>
    exact up_intro ⟨[MID], [], rfl, fun _ h => (by cases h), Nat.le_refl _⟩ (by walk_at "tg le")
  case turn4 =>
    intro k d ρ hk hR
    obtain ⟨F, Z, rfl, hT, hTl⟩ := hR
    obtain ⟨hk', rfl⟩ := map_getK (f := moD) (l := S) default hk
    have hmS := getD_mem (x := default) hk'
    generalize S.getD k default = t at *
    have hT2 : ∀ m ∈ Z ++ [t], m ∈ S := fun m hm => (List.mem_append.mp hm).elim (hT m) fun z => by rw [List.mem_singleton.mp z]; exact hmS
    refine ⟨_, (at_name 3 sc.nd), ?_⟩
    refine ws_norm (ρ' := [_, _, _, _]) rfl ?_
    refine ws_one ?_
    refine ws_if (et_ninX hr (ee_var 3 rfl) (ed_own 2 rfl) (by walk_at "tg dkey")) (fun h5 => ?_) (fun h5 => ?_)
    · skip
      refine ws_cons ?_
      refine ws_append 1 rfl (ee_var 3 rfl) (by rw [List.length_map]; exact small1000 (by omega)) ?_
      refine ws_norm (ρ' := [_, _, _, _]) rfl ?_
      rw [show Z.map moD ++ [moD t] = (Z ++ [t]).map moD by rw [List.map_append]; rfl]
      refine ws_one ?_
      refine ws_set 2 (eo_borG 1 rfl (eo_cal (C_closure_within) (hr.mono (by decide)) (ea_cons (ee_var 0 rfl) (ea_cons (ee_var 1 rfl) ea_nil)) (by exact ⟨S, Z ++ [t], rfl, ⟨hz, hcl, hT2, hl⟩, rfl⟩)) (by first | exact noLs_map (fun _ => rfl) _ | exact noLs_yes _ | rfl) (by first | exact noLs_yes _ | exact noLs_map (fun _ => rfl) _ | rfl)) ?_ sc.nd
      rintro _ rfl
      first | exact up_intro ⟨_, Z ++ [t], rfl, hT2, by rw [List.length_append, List.length_singleton]; omega⟩ (by walk_at "tg le") | exact up_intro ⟨F, Z, rfl, hT, by omega⟩ (by walk_at "tg le")
    · skip
      refine ws_nil ?_
      first | exact up_intro ⟨_, Z ++ [t], rfl, hT2, by rw [List.length_append, List.length_singleton]; omega⟩ (by walk_at "tg le") | exact up_intro ⟨F, Z, rfl, hT, by omega⟩ (by walk_at "tg le")
  case fin4 =>
    intro ρ hR
    obtain ⟨F, Z, rfl, hT, hTl⟩ := hR
    exact hQ
theorem cal_check_closed (T : Txt K mg) (C_closure_within : Cal P w K mg base 6 "closure_within" S_closure_within []) : Cal P w K mg base 7 "check_closed" S_check_closed [] :=
  cal_of (T.d_check_closed.fn (P := P) (w := w) (base := base) (S := S_check_closed) (k := 6) sc_check_closed (fun ds Q h => by obtain ⟨_, rfl, _⟩ := h; rfl) fun f cdv A outer s H hr ds Q hS => body_check_closed T C_closure_within hr ds Q hS) 0 (by decide) (fun G => .nil)
abbrev S_Group_init : SpcI := ⟨fun ds Q E => ∃ ms : List Mo, ds = [lsO ms] ∧ (OkO 13000 400 ms ∧ ms.length ≤ 1000 ∧ IsG (once (ms.map mstl))) ∧ ((True) → Q (groupD (once (ms.map mstl)))), fun _ _ _ _ _ kk_ kx_ ⟨ms, e_, p_, h0_⟩ => ⟨ms, e_, p_, fun c_ => kk_ _ (h0_ c_)⟩⟩

theorem sc_Group_init : FnScope ["self", "movements", "held", "m"] ["self", "movements"] (defScope s_Group_init) := ⟨rfl, rfl, rfl, by decide +kernel, rfl, by decide +kernel, by decide +kernel⟩
theorem body_Group_init (T : Txt K mg) (C_ascending : Cal P w K mg base 8 "ascending" S_ascending []) (C_check_closed : Cal P w K mg base 7 "check_closed" S_check_closed []) (C_settled : Cal P w K mg base 2 "settled" S_settled []) {f : Addr} {cdv : Value} {A : Around} {outer : List Env} {s : Shared} {H : Hp} {E : XK} (hr : Room (8) (A.deeper (envOfC (("Group" : Str) ++ "." ++ "__init__") (defScope s_Group_init) s.heap.objs.size f cdv))) (a_ : Addr) (ds : List D) (Q : D → Prop) (EN : Str → Prop) (hS : (S_Group_init).S ds Q EN) :
    WSs (cxOf (L2.CX P w) P w K mg base ["self", "movements", "held", "m"] (("Group" : Str) ++ "." ++ "__init__") (defScope s_Group_init) f cdv A outer s H E) (fun n _ => EN n) (defBody s_Group_init) (.mo a_ "Group" [] [] :: slots (4 - 1) ds) { nx := fun ρ => ∃ ns fs, ρ[0]? = some (.mo a_ "Group" ns fs) ∧ Q (.obj "Group" ns fs), rt := fun _ => False } := by
  have sc := sc_Group_init
  obtain ⟨ms, rfl, ⟨hz, hl, hG⟩, hX0⟩ := hS
  refine ws_norm (ρ' := [_, _, _, _]) rfl ?_
  have hd : dcs fHo 0 (ms.map moD) ([], []) = ((once (ms.map mstl)).map moD, yes (once (ms.map mstl))) := keyF_mo.dcs0 fHo_is ms
  have hS : OkO 13000 65 (once (ms.map mstl)) := fun m hm => by
    obtain ⟨a, ha, rfl⟩ := List.mem_map.mp (mem_once.mp hm)
    exact (hz a ha).stl
  have hSl : (once (ms.map mstl)).length ≤ 1000 := Nat.le_trans (len_once _) (by rw [List.length_map]; exact hl)
  refine ws_cons ?_
  refine ws_setDc 2 (f := fHo) [("m", 3)] hr (ei_lst (ee_var 1 rfl)) sc.nd (blkOk_by (N := ["self", "movements", "held", "m"]) (sc := defScope s_Group_init) (by first | decide +kernel | kernel_rfl)) (by rw [List.length_map]; exact Nat.le_of_lt (small1000 (by omega))) ?turn2 ?nx2
  case turn2 =>
    intro k d hk
    obtain ⟨hk', rfl⟩ := map_getK (f := moD) (l := ms) default hk
    exact ⟨_, _, fun _ _ _ _ _ => (ab_name 3 (by decide) sc.nd), fun _ _ _ _ _ => ets_nil, fun ht => ⟨_, _, (fHo_is _ _), rfl, fun _ _ _ _ _ => (ee_cal (C_settled) (hr.mono (by decide)) (ea_cons (ee_var 3 rfl) ea_nil) (by exact ⟨_, rfl, trivial, rfl⟩)), fun _ _ _ _ _ => ee_bl⟩, fun hf => absurd hf (by decide)⟩
  case nx2 =>
    refine ws_norm (ρ' := [_, _, _, _]) rfl ?_
    refine ws_freezeD 2 rfl ?_
    refine ws_norm (ρ' := [_, _, _, _]) rfl ?_
    rw [hd]
    generalize once (ms.map mstl) = S at *
    refine ws_cons ?_
    refine ws_if (et_ninX hr (ee_con T.c_IDENTITY) (ed_dat (ee_var 2 rfl)) (by walk_at "tg dkey")) (fun h3 => ?_) (fun h3 => ?_)
    · skip
      have h3' : (!D.mem (moD MID) (S.map moD)) = true := h3
      rw [keyF_mo.mem, decide_eq_true hG.id] at h3'
      exact absurd h3' (by decide)
    · skip
      refine ws_nil ?_
      refine ws_cons ?_
      refine ws_exprP (eo_cal (C_check_closed) (hr.mono (by decide)) (ea_cons (ee_var 2 rfl) ea_nil) (by exact ⟨S, rfl, ⟨hS, hG.isCl, hSl⟩, rfl⟩)) ?_
      rintro _ rfl
      refine ws_norm (ρ' := [_, _, _, _]) rfl ?_
      refine ws_cons ?_
      refine ws_if (et_val (ee_any (bs := S.map hasPure) rfl T.m_any (ea_cons (ee_lst (eo_lc (f := fun _ d => some (.bl (hasPure (und moD d)))) [("m", 3)] (ei_dct (ee_var 2 rfl)) sc.nd (blkOk_by (N := ["self", "movements", "held", "m"]) (sc := defScope s_Group_init) (by first | decide +kernel | kernel_rfl)) (by rw [List.length_map]; exact Nat.le_of_lt (small1000 (by omega))) (by intro k d hk; obtain ⟨hk', rfl⟩ := map_getK (f := moD) (l := S) default hk; exact ⟨_, _, fun _ _ _ _ _ => (ab_name 3 (by decide) sc.nd), fun _ _ _ _ _ => ets_nil, fun ht => ⟨_, (by show some (D.bl (hasPure (und moD (moD _)))) = _; rw [keyF_mo.und] <;> rfl), fun _ _ _ _ _ => (ee_and (ee_eq hr.units (ee_slT (ee_var 3 rfl) ep_none (ep_some ee_int) (by exact cutMo _)) (ee_slT (ee_con T.c_IDENTITY) ep_none (ep_some ee_int) (by exact cutMo MID)) (by walk_at "tg cmp") (by walk_at "tg cmp")) (fun hv => (ee_one (ee_ne hr.units (ee_var 3 rfl) (ee_con T.c_IDENTITY) (by walk_at "tg cmp") (by walk_at "tg cmp")))))⟩, fun hf => absurd hf (by decide)⟩))) ea_nil) (by rw [keyF_mo.pick (fun m => D.bl (hasPure m)), List.map_map]; rfl))) (fun h6 => ?_) (fun h6 => ?_)
      · skip
        exact (no_pure hG h6).elim
      · skip
        refine ws_nil ?_
        refine ws_cons ?_
        refine ws_fld 0 T.k_Group T.a_Group__movements rfl (ee_tuple rfl T.m_tuple (ea_cons (ee_lst (eo_cal (C_ascending) (hr.mono (by decide)) (ea_cons (ee_lst (eo_listX rfl T.m_list (ed_dat (ee_var 2 rfl)))) ea_nil) (by exact ⟨S, rfl, ⟨hS.mono (by decide) (by decide), hSl⟩, rfl⟩))) ea_nil) rfl) (by decide) (by decide) ?_
        refine ws_norm (ρ' := [_, _, _, _]) rfl ?_
        refine ws_one ?_
        refine ws_fld 0 T.k_Group T.a_Group__held rfl (ee_var 2 rfl) (by decide) (by decide) ?_
        exact ⟨_, _, rfl, hX0 trivial⟩
theorem cal_Group_init (T : Txt K mg) (C_ascending : Cal P w K mg base 8 "ascending" S_ascending []) (C_check_closed : Cal P w K mg base 7 "check_closed" S_check_closed []) (C_settled : Cal P w K mg base 2 "settled" S_settled []) : CalI P w K mg base 9 "Group" S_Group_init [] :=
  T.d_Group_init.fn (P := P) (w := w) (base := base) (S := S_Group_init) (k := 8) sc_Group_init (by decide) (fun ds Q E h => by obtain ⟨_, rfl, _⟩ := h; rfl) (fun f cdv A outer s H E hr a ds Q EN hS => body_Group_init T C_ascending C_check_closed C_settled hr a ds Q EN hS) 0 (by decide) (fun G => .nil)
abbrev S_divided : Spc := ⟨fun ds Q => ∃ p : Rat, ∃ q : Rat, ds = [rq p, rq q] ∧ (Rx 40000 2000 p ∧ Rx 2000 2000 q ∧ q ≠ 0) ∧ Q (.va (rq (p / q))), fun _ _ _ kk_ ⟨p, q, e_, p_, q_⟩ => ⟨p, q, e_, p_, kk_ _ q_⟩⟩

theorem sc_divided : FnScope ["f", "g"] ["f", "g"] (defScope s_divided) := ⟨rfl, rfl, rfl, by decide +kernel, rfl, by decide +kernel, by decide +kernel⟩
theorem body_divided (T : Txt K mg) (C_fraction : Cal P w K mg base 2 "fraction" S_fraction []) {f : Addr} {cdv : Value} {A : Around} {outer : List Env} {s : Shared} {H : Hp} (hr : Room (2) (A.deeper (envOfC "divided" (defScope s_divided) s.heap.objs.size f cdv))) (ds : List D) (Q : O → Prop) (hS : (S_divided).S ds Q) :
    WSs (cxOf CX0 P w K mg base ["f", "g"] "divided" (defScope s_divided) f cdv A outer s H E0).nox noX (defBody s_divided) (slots 2 ds) { nx := fun _ => Q (.va .non), rt := Q } := by
  have sc := sc_divided
  obtain ⟨p, q, rfl, ⟨hp, hq, hn⟩, hQ⟩ := hS
  refine ws_norm (ρ' := [_, _]) rfl ?_
  have h1 := hp.num
  have h2 := hp.den
  have h3 := hq.num
  have h4 := hq.den
  have hqn : q.num ≠ 0 := fun z => hn (Rat.num_eq_zero.mp z)
  refine ws_one ?_
  refine ws_retE (ee_cal (C_fraction) (hr.mono (by decide)) (ea_cons (ee_mul (ee_ix (ee_var 0 rfl) ee_int rfl rfl) (ee_ix (ee_var 1 rfl) ee_int rfl rfl) (by exact Sz.mulE (by assumption) (by assumption))) (ea_cons (ee_mul (ee_ix (ee_var 0 rfl) ee_int rfl rfl) (ee_ix (ee_var 1 rfl) ee_int rfl rfl) (by exact Sz.mulE (by assumption) (by assumption))) ea_nil)) (by exact ⟨_, _, rfl, ⟨mul_ne (rq_ne p) hqn, (h2.mul h3).mono (by decide)⟩, rfl⟩)) ?_
  rw [rat_dvd hn]; exact hQ
theorem cal_divided (T : Txt K mg) (C_fraction : Cal P w K mg base 2 "fraction" S_fraction []) : Cal P w K mg base 3 "divided" S_divided [] :=
  cal_of (T.d_divided.fn (P := P) (w := w) (base := base) (S := S_divided) (k := 2) sc_divided (fun ds Q h => by obtain ⟨_, _, rfl, _⟩ := h; rfl) fun f cdv A outer s H hr ds Q hS => body_divided T C_fraction hr ds Q hS) 0 (by decide) (fun G => .nil)
abbrev S_times : Spc := ⟨fun ds Q => ∃ p : Rat, ∃ q : Rat, ds = [rq p, rq q] ∧ (Rx 40000 2000 p ∧ Rx 40000 2000 q) ∧ Q (.va (rq (p * q))), fun _ _ _ kk_ ⟨p, q, e_, p_, q_⟩ => ⟨p, q, e_, p_, kk_ _ q_⟩⟩

theorem sc_times : FnScope ["f", "g"] ["f", "g"] (defScope s_times) := ⟨rfl, rfl, rfl, by decide +kernel, rfl, by decide +kernel, by decide +kernel⟩
theorem body_times (T : Txt K mg) (C_fraction : Cal P w K mg base 2 "fraction" S_fraction []) {f : Addr} {cdv : Value} {A : Around} {outer : List Env} {s : Shared} {H : Hp} (hr : Room (2) (A.deeper (envOfC "times" (defScope s_times) s.heap.objs.size f cdv))) (ds : List D) (Q : O → Prop) (hS : (S_times).S ds Q) :
    WSs (cxOf CX0 P w K mg base ["f", "g"] "times" (defScope s_times) f cdv A outer s H E0).nox noX (defBody s_times) (slots 2 ds) { nx := fun _ => Q (.va .non), rt := Q } := by
  have sc := sc_times
  obtain ⟨p, q, rfl, ⟨hp, hq⟩, hQ⟩ := hS
  refine ws_norm (ρ' := [_, _]) rfl ?_
  have h1 := hp.num
  have h2 := hp.den
  have h3 := hq.num
  have h4 := hq.den
  refine ws_one ?_
  refine ws_retE (ee_cal (C_fraction) (hr.mono (by decide)) (ea_cons (ee_mul (ee_ix (ee_var 0 rfl) ee_int rfl rfl) (ee_ix (ee_var 1 rfl) ee_int rfl rfl) (by exact Sz.mulE (by assumption) (by assumption))) (ea_cons (ee_mul (ee_ix (ee_var 0 rfl) ee_int rfl rfl) (ee_ix (ee_var 1 rfl) ee_int rfl rfl) (by exact Sz.mulE (by assumption) (by assumption))) ea_nil)) (by exact ⟨_, _, rfl, ⟨mul_ne (rq_ne p) (rq_ne q), (h2.mul h4).mono (by decide)⟩, rfl⟩)) ?_
  rw [rat_mul]; exact hQ
theorem cal_times (T : Txt K mg) (C_fraction : Cal P w K mg base 2 "fraction" S_fraction []) : Cal P w K mg base 3 "times" S_times [] :=
  cal_of (T.d_times.fn (P := P) (w := w) (base := base) (S := S_times) (k := 2) sc_times (fun ds Q h => by obtain ⟨_, _, rfl, _⟩ := h; rfl) fun f cdv A outer s H hr ds Q hS => body_times T C_fraction hr ds Q hS) 0 (by decide) (fun G => .nil)
abbrev S_in_basis : Spc := ⟨fun ds Q => ∃ v : Rat, ∃ w' : Rat, ∃ x : Rat, ∃ y : Rat, ∃ z : Rat, ds = [.tup [rq v, rq w'], .tup [rq x, rq y, rq z]] ∧ ((Rx 20000 200 v ∧ Rx 20000 200 w') ∧ (Rz 5 x ∧ Rz 5 y ∧ Rz 5 z) ∧ x ≠ 0 ∧ z ≠ 0) ∧ Q (.va (.tup [rq (tdx x y z v w'), rq (tdy z w')])), fun _ _ _ kk_ ⟨v, w', x, y, z, e_, p_, q_⟩ => ⟨v, w', x, y, z, e_, p_, kk_ _ q_⟩⟩

theorem sc_in_basis : FnScope ["vector", "basis", "x", "y", "z", "second"] ["vector", "basis"] (defScope s_in_basis) := ⟨rfl, rfl, rfl, by decide +kernel, rfl, by decide +kernel, by decide +kernel⟩
theorem body_in_basis (T : Txt K mg) (C_divided : Cal P w K mg base 3 "divided" S_divided []) (C_minus : Cal P w K mg base 3 "minus" S_minus []) (C_times : Cal P w K mg base 3 "times" S_times []) {f : Addr} {cdv : Value} {A : Around} {outer : List Env} {s : Shared} {H : Hp} (hr : Room (3) (A.deeper (envOfC "in_basis" (defScope s_in_basis) s.heap.objs.size f cdv))) (ds : List D) (Q : O → Prop) (hS : (S_in_basis).S ds Q) :
    WSs (cxOf CX0 P w K mg base ["vector", "basis", "x", "y", "z", "second"] "in_basis" (defScope s_in_basis) f cdv A outer s H E0).nox noX (defBody s_in_basis) (slots 6 ds) { nx := fun _ => Q (.va .non), rt := Q } := by
  have sc := sc_in_basis
  obtain ⟨v, w', x, y, z, rfl, ⟨⟨hv', hw⟩, ⟨hx, hy, hz⟩, nx, nz⟩, hQ⟩ := hS
  refine ws_norm (ρ' := [_, _, _, _, _, _]) rfl ?_
  have a := hw.div nz hz.rx
  have b := a.mul hy.rx
  have d := hv'.sub b
  refine ws_cons ?_
  refine ws_unpack (ee_var 1 rfl) (at_tup (ats_cons (at_name 2 sc.nd) (ats_cons (at_name 3 sc.nd) (ats_cons (at_name 4 sc.nd) ats_nil)))) ?_
  refine ws_norm (ρ' := [_, _, _, _, _, _]) rfl ?_
  refine ws_cons ?_
  refine ws_setE 5 (ee_cal (C_divided) (hr.mono (by decide)) (ea_cons (ee_ix (ee_var 0 rfl) ee_int rfl (by rfl)) (ea_cons (ee_var 4 rfl) ea_nil)) (by first | exact ⟨w', z, rfl, ⟨hw.mono (by decide) (by decide), hz.rx.mono (by decide) (by decide), nz⟩, rfl⟩ | exact ⟨v - w' / z * y, x, rfl, ⟨d.mono (by decide) (by decide), hx.rx.mono (by decide) (by decide), nx⟩, rfl⟩)) ?_ sc.nd
  refine ws_norm (ρ' := [_, _, _, _, _, _]) rfl ?_
  refine ws_one ?_
  refine ws_retE (ee_tup (ea_cons (ee_cal (C_divided) (hr.mono (by decide)) (ea_cons (ee_cal (C_minus) (hr.mono (by decide)) (ea_cons (ee_ix (ee_var 0 rfl) ee_int rfl (by rfl)) (ea_cons (ee_cal (C_times) (hr.mono (by decide)) (ea_cons (ee_var 5 rfl) (ea_cons (ee_var 3 rfl) ea_nil)) (by exact ⟨w' / z, y, rfl, ⟨a.mono (by decide) (by decide), hy.rx.mono (by decide) (by decide)⟩, rfl⟩)) ea_nil)) (by exact ⟨v, w' / z * y, rfl, ⟨hv'.mono (by decide) (by decide), b.mono (by decide) (by decide)⟩, rfl⟩)) (ea_cons (ee_var 2 rfl) ea_nil)) (by first | exact ⟨w', z, rfl, ⟨hw.mono (by decide) (by decide), hz.rx.mono (by decide) (by decide), nz⟩, rfl⟩ | exact ⟨v - w' / z * y, x, rfl, ⟨d.mono (by decide) (by decide), hx.rx.mono (by decide) (by decide), nx⟩, rfl⟩)) (ea_cons (ee_var 5 rfl) ea_nil))) ?_
  walk_at "tg return"
theorem cal_in_basis (T : Txt K mg) (C_divided : Cal P w K mg base 3 "divided" S_divided []) (C_minus : Cal P w K mg base 3 "minus" S_minus []) (C_times : Cal P w K mg base 3 "times" S_times []) : Cal P w K mg base 4 "in_basis" S_in_basis [] :=
  cal_of (T.d_in_basis.fn (P := P) (w := w) (base := base) (S := S_in_basis) (k := 3) sc_in_basis (fun ds Q h => by obtain ⟨_, _, _, _, _, rfl, _⟩ := h; rfl) fun f cdv A outer s H hr ds Q hS => body_in_basis T C_divided C_minus C_times hr ds Q hS) 0 (by decide) (fun G => .nil)
abbrev S_told_in : Spc := ⟨fun ds Q => ∃ S : List Mo, ds = [lsO S, basD S] ∧ (G5 S) ∧ Q (.va (groupD (once (S.map fun m => mstl (told (xOf S) (yOf S) (zOf S) m))))), fun _ _ _ kk_ ⟨S, e_, p_, q_⟩ => ⟨S, e_, p_, kk_ _ q_⟩⟩

theorem sc_told_in : FnScope ["movements", "basis", "x", "y", "z", "result", "a", "b", "c", "d", "s", "t", "one", "other", "two"] ["movements", "basis"] (defScope s_told_in) := ⟨rfl, rfl, rfl, by decide +kernel, rfl, by decide +kernel, by decide +kernel⟩
theorem body_told_in (T : Txt K mg) (C_Group_init : CalI P w K mg base 9 "Group" S_Group_init []) (C_fraction_1 : Cal P w K mg base 2 "fraction" S_fraction [.int 1]) (C_in_basis : Cal P w K mg base 4 "in_basis" S_in_basis []) (C_plus : Cal P w K mg base 3 "plus" S_plus []) (C_times : Cal P w K mg base 3 "times" S_times []) {f : Addr} {cdv : Value} {A : Around} {outer : List Env} {s : Shared} {H : Hp} (hr : Room (10) (A.deeper (envOfC "told_in" (defScope s_told_in) s.heap.objs.size f cdv))) (ds : List D) (Q : O → Prop) (hS : (S_told_in).S ds Q) :
    WSs (cxOf CX0 P w K mg base ["movements", "basis", "x", "y", "z", "result", "a", "b", "c", "d", "s", "t", "one", "other", "two"] "told_in" (defScope s_told_in) f cdv A outer s H E0).nox noX (defBody s_told_in) (slots 15 ds) { nx := fun _ => Q (.va .non), rt := Q } := by
  have sc := sc_told_in
  obtain ⟨S, rfl, hG, hQ⟩ := hS
  refine ws_norm (ρ' := [_, _, _, _, _, _, _, _, _, _, _, _, _, _, _]) rfl ?_
  have sz := hG.sizes
  obtain ⟨N, hD, hD2, hd⟩ := hG.d
  have dx := dv_x hd
  have hsl := shp_len S
  have hSl := hG.len
  have B := bas S hG.c
  have nx := Bas.nx hG.c B
  have nz := Bas.nz hG.c B
  have hst := sz_told hG
  refine ws_cons ?_
  refine ws_unpack (ee_var 1 rfl) (at_tup (ats_cons (at_name 2 sc.nd) (ats_cons (at_name 3 sc.nd) (ats_cons (at_name 4 sc.nd) ats_nil)))) ?_
  refine ws_norm (ρ' := [_, _, _, _, _, _, _, _, _, _, _, _, _, _, _]) rfl ?_
  refine ws_cons ?_
  refine ws_setM 5 (eo_lst ea_nil) ?_ sc.nd
  refine ws_norm (ρ' := [_, _, _, _, _, _, _, _, _, _, _, _, _, _, _]) rfl ?_
  refine ws_cons ?_
  refine ws_forL (fun k ρ => ρ = [.va (lsO S), .va (basD S), .va (rq (xOf S)), .va (rq (yOf S)), .va (rq (zOf S)), .ml (((S.take k).map (told (xOf S) (yOf S) (zOf S))).map moD), .un, .un, .un, .un, .un, .un, .un, .un, .un]) (ee_var 0 rfl) ?start4 nox_own ?turn4 ?fin4
  case start4 =>
    exact up_intro rfl (by walk_at "tg le")
  case turn4 =>
    intro k d ρ hk hR
    subst hR
    obtain ⟨hk', rfl⟩ := map_getK (f := moD) (l := S) default hk
    have ok := hG.ok _ (getD_mem (x := default) hk')
    have htk := take_getD (default : Mo) hk'
    generalize S.getD k default = m at *
    have ia := (rx_int ok.a).mono (show 12000 ≤ 40000 by decide) (show 1 ≤ 2000 by decide)
    have ib := (rx_int ok.b).mono (show 12000 ≤ 40000 by decide) (show 1 ≤ 2000 by decide)
    have ic := (rx_int ok.c).mono (show 12000 ≤ 40000 by decide) (show 1 ≤ 2000 by decide)
    have id := (rx_int ok.d).mono (show 12000 ≤ 40000 by decide) (show 1 ≤ 2000 by decide)
    have ax := (rx_int ok.a).mul sz.x.1.rx
    have cx := (rx_int ok.c).mul sz.x.1.rx
    have ay := (rx_int ok.a).mul sz.y.rx
    have bz := (rx_int ok.b).mul sz.z.1.rx
    have cy := (rx_int ok.c).mul sz.y.rx
    have dz := (rx_int ok.d).mul sz.z.1.rx
    refine ⟨_, (at_tup (ats_cons (at_name 6 sc.nd) (ats_cons (at_name 7 sc.nd) (ats_cons (at_name 8 sc.nd) (ats_cons (at_name 9 sc.nd) (ats_cons (at_name 10 sc.nd) (ats_cons (at_name 11 sc.nd) ats_nil))))))), ?_⟩
    refine ws_norm (ρ' := [_, _, _, _, _, _, _, _, _, _, _, _, _, _, _]) rfl ?_
    refine ws_cons ?_
    refine ws_setE 12 (ee_cal (C_in_basis) (hr.mono (by decide)) (ea_cons (ee_tup (ea_cons (ee_cal (C_times) (hr.mono (by decide)) (ea_cons (ee_cal (C_fraction_1) (hr.mono (by decide)) (ea_cons (ee_var 6 rfl) ea_nil) (by exact ⟨_, _, rfl, ⟨by decide, sz_lit rfl⟩, rfl⟩)) (ea_cons (ee_var 2 rfl) ea_nil)) (by first | exact ⟨(m.m.a : Rat), xOf S, by rw [rat_one]; rfl, ⟨ia, rx5 sz.x.1⟩, rfl⟩ | exact ⟨(m.m.c : Rat), xOf S, by rw [rat_one]; rfl, ⟨ic, rx5 sz.x.1⟩, rfl⟩ | exact ⟨(m.m.a : Rat), yOf S, by rw [rat_one]; rfl, ⟨ia, rx5 sz.y⟩, rfl⟩ | exact ⟨(m.m.b : Rat), zOf S, by rw [rat_one]; rfl, ⟨ib, rx5 sz.z.1⟩, rfl⟩ | exact ⟨(m.m.c : Rat), yOf S, by rw [rat_one]; rfl, ⟨ic, rx5 sz.y⟩, rfl⟩ | exact ⟨(m.m.d : Rat), zOf S, by rw [rat_one]; rfl, ⟨id, rx5 sz.z.1⟩, rfl⟩)) (ea_cons (ee_cal (C_times) (hr.mono (by decide)) (ea_cons (ee_cal (C_fraction_1) (hr.mono (by decide)) (ea_cons (ee_var 8 rfl) ea_nil) (by exact ⟨_, _, rfl, ⟨by decide, sz_lit rfl⟩, rfl⟩)) (ea_cons (ee_var 2 rfl) ea_nil)) (by first | exact ⟨(m.m.a : Rat), xOf S, by rw [rat_one]; rfl, ⟨ia, rx5 sz.x.1⟩, rfl⟩ | exact ⟨(m.m.c : Rat), xOf S, by rw [rat_one]; rfl, ⟨ic, rx5 sz.x.1⟩, rfl⟩ | exact ⟨(m.m.a : Rat), yOf S, by rw [rat_one]; rfl, ⟨ia, rx5 sz.y⟩, rfl⟩ | exact ⟨(m.m.b : Rat), zOf S, by rw [rat_one]; rfl, ⟨ib, rx5 sz.z.1⟩, rfl⟩ | exact ⟨(m.m.c : Rat), yOf S, by rw [rat_one]; rfl, ⟨ic, rx5 sz.y⟩, rfl⟩ | exact ⟨(m.m.d : Rat), zOf S, by rw [rat_one]; rfl, ⟨id, rx5 sz.z.1⟩, rfl⟩)) ea_nil))) (ea_cons (ee_var 1 rfl) ea_nil)) (by first | exact ⟨(m.m.a : Rat) * xOf S, (m.m.c : Rat) * xOf S, xOf S, yOf S, zOf S, rfl, ⟨⟨ax.mono (by decide) (by decide), cx.mono (by decide) (by decide)⟩, ⟨sz.x.1, sz.y, sz.z.1⟩, nx, nz⟩, rfl⟩ | exact ⟨(m.m.a : Rat) * yOf S + (m.m.b : Rat) * zOf S, (m.m.c : Rat) * yOf S + (m.m.d : Rat) * zOf S, xOf S, yOf S, zOf S, rfl, ⟨⟨(ay.add bz).mono (by decide) (by decide), (cy.add dz).mono (by decide) (by decide)⟩, ⟨sz.x.1, sz.y, sz.z.1⟩, nx, nz⟩, rfl⟩ | exact ⟨m.x, m.y, xOf S, yOf S, zOf S, rfl, ⟨⟨(ok.x.rx (by decide)).mono (by decide) (by decide), (ok.y.rx (by decide)).mono (by decide) (by decide)⟩, ⟨sz.x.1, sz.y, sz.z.1⟩, nx, nz⟩, rfl⟩)) ?_ sc.nd
    refine ws_norm (ρ' := [_, _, _, _, _, _, _, _, _, _, _, _, _, _, _]) rfl ?_
    refine ws_cons ?_
    refine ws_setE 13 (ee_tup (ea_cons (ee_cal (C_plus) (hr.mono (by decide)) (ea_cons (ee_cal (C_times) (hr.mono (by decide)) (ea_cons (ee_cal (C_fraction_1) (hr.mono (by decide)) (ea_cons (ee_var 6 rfl) ea_nil) (by exact ⟨_, _, rfl, ⟨by decide, sz_lit rfl⟩, rfl⟩)) (ea_cons (ee_var 3 rfl) ea_nil)) (by first | exact ⟨(m.m.a : Rat), xOf S, by rw [rat_one]; rfl, ⟨ia, rx5 sz.x.1⟩, rfl⟩ | exact ⟨(m.m.c : Rat), xOf S, by rw [rat_one]; rfl, ⟨ic, rx5 sz.x.1⟩, rfl⟩ | exact ⟨(m.m.a : Rat), yOf S, by rw [rat_one]; rfl, ⟨ia, rx5 sz.y⟩, rfl⟩ | exact ⟨(m.m.b : Rat), zOf S, by rw [rat_one]; rfl, ⟨ib, rx5 sz.z.1⟩, rfl⟩ | exact ⟨(m.m.c : Rat), yOf S, by rw [rat_one]; rfl, ⟨ic, rx5 sz.y⟩, rfl⟩ | exact ⟨(m.m.d : Rat), zOf S, by rw [rat_one]; rfl, ⟨id, rx5 sz.z.1⟩, rfl⟩)) (ea_cons (ee_cal (C_times) (hr.mono (by decide)) (ea_cons (ee_cal (C_fraction_1) (hr.mono (by decide)) (ea_cons (ee_var 7 rfl) ea_nil) (by exact ⟨_, _, rfl, ⟨by decide, sz_lit rfl⟩, rfl⟩)) (ea_cons (ee_var 4 rfl) ea_nil)) (by first | exact ⟨(m.m.a : Rat), xOf S, by rw [rat_one]; rfl, ⟨ia, rx5 sz.x.1⟩, rfl⟩ | exact ⟨(m.m.c : Rat), xOf S, by rw [rat_one]; rfl, ⟨ic, rx5 sz.x.1⟩, rfl⟩ | exact ⟨(m.m.a : Rat), yOf S, by rw [rat_one]; rfl, ⟨ia, rx5 sz.y⟩, rfl⟩ | exact ⟨(m.m.b : Rat), zOf S, by rw [rat_one]; rfl, ⟨ib, rx5 sz.z.1⟩, rfl⟩ | exact ⟨(m.m.c : Rat), yOf S, by rw [rat_one]; rfl, ⟨ic, rx5 sz.y⟩, rfl⟩ | exact ⟨(m.m.d : Rat), zOf S, by rw [rat_one]; rfl, ⟨id, rx5 sz.z.1⟩, rfl⟩)) ea_nil)) (by first | exact ⟨(m.m.a : Rat) * yOf S, (m.m.b : Rat) * zOf S, rfl, ⟨ay.mono (by decide) (by decide), bz.mono (by decide) (by decide)⟩, rfl⟩ | exact ⟨(m.m.c : Rat) * yOf S, (m.m.d : Rat) * zOf S, rfl, ⟨cy.mono (by decide) (by decide), dz.mono (by decide) (by decide)⟩, rfl⟩)) (ea_cons (ee_cal (C_plus) (hr.mono (by decide)) (ea_cons (ee_cal (C_times) (hr.mono (by decide)) (ea_cons (ee_cal (C_fraction_1) (hr.mono (by decide)) (ea_cons (ee_var 8 rfl) ea_nil) (by exact ⟨_, _, rfl, ⟨by decide, sz_lit rfl⟩, rfl⟩)) (ea_cons (ee_var 3 rfl) ea_nil)) (by first | exact ⟨(m.m.a : Rat), xOf S, by rw [rat_one]; rfl, ⟨ia, rx5 sz.x.1⟩, rfl⟩ | exact ⟨(m.m.c : Rat), xOf S, by rw [rat_one]; rfl, ⟨ic, rx5 sz.x.1⟩, rfl⟩ | exact ⟨(m.m.a : Rat), yOf S, by rw [rat_one]; rfl, ⟨ia, rx5 sz.y⟩, rfl⟩ | exact ⟨(m.m.b : Rat), zOf S, by rw [rat_one]; rfl, ⟨ib, rx5 sz.z.1⟩, rfl⟩ | exact ⟨(m.m.c : Rat), yOf S, by rw [rat_one]; rfl, ⟨ic, rx5 sz.y⟩, rfl⟩ | exact ⟨(m.m.d : Rat), zOf S, by rw [rat_one]; rfl, ⟨id, rx5 sz.z.1⟩, rfl⟩)) (ea_cons (ee_cal (C_times) (hr.mono (by decide)) (ea_cons (ee_cal (C_fraction_1) (hr.mono (by decide)) (ea_cons (ee_var 9 rfl) ea_nil) (by exact ⟨_, _, rfl, ⟨by decide, sz_lit rfl⟩, rfl⟩)) (ea_cons (ee_var 4 rfl) ea_nil)) (by first | exact ⟨(m.m.a : Rat), xOf S, by rw [rat_one]; rfl, ⟨ia, rx5 sz.x.1⟩, rfl⟩ | exact ⟨(m.m.c : Rat), xOf S, by rw [rat_one]; rfl, ⟨ic, rx5 sz.x.1⟩, rfl⟩ | exact ⟨(m.m.a : Rat), yOf S, by rw [rat_one]; rfl, ⟨ia, rx5 sz.y⟩, rfl⟩ | exact ⟨(m.m.b : Rat), zOf S, by rw [rat_one]; rfl, ⟨ib, rx5 sz.z.1⟩, rfl⟩ | exact ⟨(m.m.c : Rat), yOf S, by rw [rat_one]; rfl, ⟨ic, rx5 sz.y⟩, rfl⟩ | exact ⟨(m.m.d : Rat), zOf S, by rw [rat_one]; rfl, ⟨id, rx5 sz.z.1⟩, rfl⟩)) ea_nil)) (by first | exact ⟨(m.m.a : Rat) * yOf S, (m.m.b : Rat) * zOf S, rfl, ⟨ay.mono (by decide) (by decide), bz.mono (by decide) (by decide)⟩, rfl⟩ | exact ⟨(m.m.c : Rat) * yOf S, (m.m.d : Rat) * zOf S, rfl, ⟨cy.mono (by decide) (by decide), dz.mono (by decide) (by decide)⟩, rfl⟩)) ea_nil))) ?_ sc.nd
    refine ws_norm (ρ' := [_, _, _, _, _, _, _, _, _, _, _, _, _, _, _]) rfl ?_
    refine ws_cons ?_
    refine ws_setE 14 (ee_cal (C_in_basis) (hr.mono (by decide)) (ea_cons (ee_var 13 rfl) (ea_cons (ee_var 1 rfl) ea_nil)) (by first | exact ⟨(m.m.a : Rat) * xOf S, (m.m.c : Rat) * xOf S, xOf S, yOf S, zOf S, rfl, ⟨⟨ax.mono (by decide) (by decide), cx.mono (by decide) (by decide)⟩, ⟨sz.x.1, sz.y, sz.z.1⟩, nx, nz⟩, rfl⟩ | exact ⟨(m.m.a : Rat) * yOf S + (m.m.b : Rat) * zOf S, (m.m.c : Rat) * yOf S + (m.m.d : Rat) * zOf S, xOf S, yOf S, zOf S, rfl, ⟨⟨(ay.add bz).mono (by decide) (by decide), (cy.add dz).mono (by decide) (by decide)⟩, ⟨sz.x.1, sz.y, sz.z.1⟩, nx, nz⟩, rfl⟩ | exact ⟨m.x, m.y, xOf S, yOf S, zOf S, rfl, ⟨⟨(ok.x.rx (by decide)).mono (by decide) (by decide), (ok.y.rx (by decide)).mono (by decide) (by decide)⟩, ⟨sz.x.1, sz.y, sz.z.1⟩, nx, nz⟩, rfl⟩)) ?_ sc.nd
    refine ws_norm (ρ' := [_, _, _, _, _, _, _, _, _, _, _, _, _, _, _]) rfl ?_
    refine ws_one ?_
    refine ws_append 5 rfl (ee_catT (ee_tup (ea_cons (ee_ix (ee_ix (ee_var 12 rfl) ee_int rfl (by rfl)) ee_int rfl (by rfl)) (ea_cons (ee_ix (ee_ix (ee_var 14 rfl) ee_int rfl (by rfl)) ee_int rfl (by rfl)) (ea_cons (ee_ix (ee_ix (ee_var 12 rfl) ee_int rfl (by rfl)) ee_int rfl (by rfl)) (ea_cons (ee_ix (ee_ix (ee_var 14 rfl) ee_int rfl (by rfl)) ee_int rfl (by rfl)) ea_nil))))) (ee_cal (C_in_basis) (hr.mono (by decide)) (ea_cons (ee_tup (ea_cons (ee_var 10 rfl) (ea_cons (ee_var 11 rfl) ea_nil))) (ea_cons (ee_var 1 rfl) ea_nil)) (by first | exact ⟨(m.m.a : Rat) * xOf S, (m.m.c : Rat) * xOf S, xOf S, yOf S, zOf S, rfl, ⟨⟨ax.mono (by decide) (by decide), cx.mono (by decide) (by decide)⟩, ⟨sz.x.1, sz.y, sz.z.1⟩, nx, nz⟩, rfl⟩ | exact ⟨(m.m.a : Rat) * yOf S + (m.m.b : Rat) * zOf S, (m.m.c : Rat) * yOf S + (m.m.d : Rat) * zOf S, xOf S, yOf S, zOf S, rfl, ⟨⟨(ay.add bz).mono (by decide) (by decide), (cy.add dz).mono (by decide) (by decide)⟩, ⟨sz.x.1, sz.y, sz.z.1⟩, nx, nz⟩, rfl⟩ | exact ⟨m.x, m.y, xOf S, yOf S, zOf S, rfl, ⟨⟨(ok.x.rx (by decide)).mono (by decide) (by decide), (ok.y.rx (by decide)).mono (by decide) (by decide)⟩, ⟨sz.x.1, sz.y, sz.z.1⟩, nx, nz⟩, rfl⟩)) (by walk_at "tg cat")) (by rw [List.length_map, List.length_map, List.length_take]; exact small1000 (by omega)) ?_
    rw [show ((S.take k).map (told (xOf S) (yOf S) (zOf S))).map moD ++ [_] = ((S.take (k + 1)).map (told (xOf S) (yOf S) (zOf S))).map moD by rw [htk, List.map_append, List.map_append]; rfl]
    exact up_intro rfl (by walk_at "tg le")
  case fin4 =>
    intro ρ hR
    subst hR
    rw [List.length_map, List.take_length]
    refine ws_freeze 5 rfl ?_
    refine ws_norm (ρ' := [_, _, _, _, _, _, _, _, _, _, _, _, _, _, _]) rfl ?_
    refine ws_one ?_
    refine ws_ret (eo_make (Q := fun d => d = groupD (once (S.map fun m => mstl (told (xOf S) (yOf S) (zOf S) m)))) C_Group_init (hr.mono (by decide)) (ea_cons (ee_var 5 rfl) ea_nil) (by exact ⟨S.map (told (xOf S) (yOf S) (zOf S)), rfl, ⟨fun m hm => by obtain ⟨a, ha, rfl⟩ := List.mem_map.mp hm; exact (hst a ha).mono (by decide) (by decide), by rw [List.length_map]; omega, by rw [List.map_map]; exact told_isG hG.c B⟩, fun _ => by rw [List.map_map]; rfl⟩)) ?_
    rintro _ ⟨_, rfl, rfl⟩
    walk_at "tg return"
theorem cal_told_in (T : Txt K mg) (C_Group_init : CalI P w K mg base 9 "Group" S_Group_init []) (C_fraction_1 : Cal P w K mg base 2 "fraction" S_fraction [.int 1]) (C_in_basis : Cal P w K mg base 4 "in_basis" S_in_basis []) (C_plus : Cal P w K mg base 3 "plus" S_plus []) (C_times : Cal P w K mg base 3 "times" S_times []) : Cal P w K mg base 11 "told_in" S_told_in [] :=
  cal_of (T.d_told_in.fn (P := P) (w := w) (base := base) (S := S_told_in) (k := 10) sc_told_in (fun ds Q h => by obtain ⟨_, rfl, _⟩ := h; rfl) fun f cdv A outer s H hr ds Q hS => body_told_in T C_Group_init C_fraction_1 C_in_basis C_plus C_times hr ds Q hS) 0 (by decide) (fun G => .nil)
theorem sc_law : FnScope ["script", "numbers", "movements", "basis", "handed", "due", "m", "f", "g", "group"] ["script"] (defScope s_law) := ⟨rfl, rfl, rfl, by decide +kernel, rfl, by decide +kernel, by decide +kernel⟩
theorem body_law (T : Txt K mg) (C_Group_movements : CalP P w K mg base 1 "Group" "movements" S_Group_movements) (C__law_basis : Cal P w K mg base 4 "_law_basis" S__law_basis []) (C__law_cell : Cal P w K mg base 1 "_law_cell" S__law_cell []) (C__law_closed : Cal P w K mg base 7 "_law_closed" S__law_closed []) (C__law_fine : Cal P w K mg base 7 "_law_fine" S__law_fine []) (C__law_group : Cal P w K mg base 10 "_law_group" S__law_group []) (C__law_led : Cal P w K mg base 4 "_law_led" S__law_led []) (C__law_numbers : Cal P w K mg base 1 "_law_numbers" S__law_numbers []) (C__law_parts : Cal P w K mg base 4 "_law_parts" S__law_parts []) (C__law_same : Cal P w K mg base 9 "_law_same" S8 []) (C__law_settled : Cal P w K mg base 2 "_law_settled" S__law_settled []) (C__law_sorted : Cal P w K mg base 8 "_law_sorted" S__law_sorted []) (C_own_basis : Cal P w K mg base 4 "own_basis" S_own_basis []) (C_told_in : Cal P w K mg base 11 "told_in" S_told_in []) {f : Addr} {cdv : Value} {A : Around} {outer : List Env} {s : Shared} {H : Hp} (hr : Room (11) (A.deeper (envOfC "law" (defScope s_law) s.heap.objs.size f cdv))) (ds : List D) (Q : O → Prop) (hS : (lawS).S ds Q) :
    WSs (cxOf CX0 P w K mg base ["script", "numbers", "movements", "basis", "handed", "due", "m", "f", "g", "group"] "law" (defScope s_law) f cdv A outer s H E0).nox noX (defBody s_law) (slots 10 ds) { nx := fun _ => Q (.va .non), rt := Q } := by
  have sc := sc_law
  obtain ⟨C_Group_, hC_Group, nf_Group_Group, kt_Group_Group⟩ := T.o_Group
  obtain ⟨ns, rfl, hns, hQ⟩ := hS
  refine ws_norm (ρ' := [_, _, _, _, _, _, _, _, _, _]) rfl ?_
  refine ws_cons ?_
  refine ws_setM 1 (eo_cal (C__law_numbers) (hr.mono (by decide)) (ea_cons (ee_cal (C__law_cell) (hr.mono (by decide)) (ea_cons (ee_var 0 rfl) (ea_cons ee_int ea_nil)) (by exact ⟨ns, 0, rfl, trivial, rfl⟩)) (ea_cons ee_int ea_nil)) (by exact ⟨_, 20, rfl, by decide, rfl⟩)) ?_ sc.nd
  refine ws_norm (ρ' := [_, _, _, _, _, _, _, _, _, _]) rfl ?_
  refine ws_freeze 1 rfl ?_
  refine ws_norm (ρ' := [_, _, _, _, _, _, _, _, _, _]) rfl ?_
  refine ws_abs 1 (fun d => ∃ xs : List Int, d = .lst (xs.map .int) ∧ xs.length = 20 ∧ Rng xs) rfl (⟨_, rfl, nums_len _ _, nums_range _ _⟩) ?_
  rintro _ ⟨xs, rfl, hxl, hxs⟩
  obtain ⟨N1, hz1⟩ : ∃ N1, SzOk (if xs.getD 16 0 % 2 = 0 then SZ8 else [1 + xs.getD 17 0 % 24]) N1 := by
    split
    · exact ⟨24, sz8_ok⟩
    · exact ⟨_, sz1_ok (n := 1 + xs.getD 17 0 % 24) (by omega) (by omega)⟩
  refine ws_norm (ρ' := [_, _, _, _, _, _, _, _, _, _]) rfl ?_
  refine ws_cons ?_
  refine ws_set 2 (eo_cal (C__law_closed) (hr.mono (by decide)) (ea_cons (ee_lst (eo_cal (C__law_fine) (hr.mono (by decide)) (ea_cons (ee_var 1 rfl) (ea_cons (ee_ix (ee_lst (eo_lst (ea_cons (ee_lst (eo_lst (ea_cons ee_int (ea_cons ee_int (ea_cons ee_int (ea_cons ee_int (ea_cons ee_int (ea_cons ee_int (ea_cons ee_int (ea_cons ee_int ea_nil)))))))))) (ea_cons (ee_lst (eo_lst (ea_cons (ee_add ee_int (ee_mod (ee_ix (ee_var 1 rfl) ee_int rfl (by exact atI_lit 17 rfl (by omega))) ee_int (by walk_at "tg mod"))) ea_nil))) ea_nil)))) (ee_mod (ee_ix (ee_var 1 rfl) ee_int rfl (by exact atI_lit 16 rfl (by omega))) ee_int (by walk_at "tg mod")) rfl (by exact szs_at (by omega) (by omega))) ea_nil)) (by exact ⟨xs, _, N1, rfl, ⟨by omega, hxs, hz1⟩, rfl⟩))) (ea_cons ee_int ea_nil)) (by exact ⟨finM (if xs.getD 16 0 % 2 = 0 then SZ8 else [1 + xs.getD 17 0 % 24]) xs, 600, rfl, ⟨fun m hm => ((finM_ok hz1 xs).1 m hm).so, by decide, by decide⟩, rfl⟩)) ?_ sc.nd
  rintro _ rfl
  refine ws_norm (ρ' := [_, _, _, _, _, _, _, _, _, _]) rfl ?_
  refine ws_freezeN 2 rfl ?_
  refine ws_norm (ρ' := [_, _, _, _, _, _, _, _, _, _]) rfl ?_
  refine ws_abs 2 (fun d => ∃ r : Option (List Mo), d = rN r ∧ ∀ S, r = some S → G5 S) rfl (⟨_, rfl, fun S e => g5_run hz1 (by decide) (by decide) e⟩) ?_
  rintro _ ⟨r, rfl, hrr⟩
  refine ws_norm (ρ' := [_, _, _, _, _, _, _, _, _, _]) rfl ?_
  refine ws_cutU (fun ρ => ∃ r : Option (List Mo), ρ = [.va (.cst (ns.map .int)), .va (.lst (xs.map .int)), .va (rN r), .un, .un, .un, .un, .un, .un, .un] ∧ ∀ S, r = some S → G5 S) ?_ ?_
  · skip
    refine ws_if (et_isN (ee_var 2 rfl)) (fun h4 => ?_) (fun h4 => ?_)
    · skip
      refine ws_cons ?_
      refine ws_set 2 (eo_cal (C__law_closed) (hr.mono (by decide)) (ea_cons (ee_lst (eo_cal (C__law_fine) (hr.mono (by decide)) (ea_cons (ee_var 1 rfl) (ea_cons (ee_lst (eo_lst (ea_cons ee_int (ea_cons ee_int (ea_cons ee_int (ea_cons ee_int ea_nil)))))) ea_nil)) (by exact ⟨xs, SZ4, 12, rfl, ⟨by omega, hxs, sz4_ok⟩, rfl⟩))) (ea_cons ee_int ea_nil)) (by exact ⟨finM SZ4 xs, 200, rfl, ⟨fun m hm => ((finM_ok sz4_ok xs).1 m hm).so, by decide, by decide⟩, rfl⟩)) ?_ sc.nd
      rintro _ rfl
      refine ws_norm (ρ' := [_, _, _, _, _, _, _, _, _, _]) rfl ?_
      refine ws_freezeN 2 rfl ?_
      refine ws_norm (ρ' := [_, _, _, _, _, _, _, _, _, _]) rfl ?_
      refine ws_abs 2 (fun d => ∃ r : Option (List Mo), d = rN r ∧ ∀ S, r = some S → G5 S) rfl (⟨_, rfl, fun S e => g5_run sz4_ok (by decide) (by decide) e⟩) ?_
      rintro _ ⟨r2, rfl, hr2⟩
      refine ws_norm (ρ' := [_, _, _, _, _, _, _, _, _, _]) rfl ?_
      refine ws_nil ?_
      first | exact Up.of ⟨r2, rfl, hr2⟩ | exact Up.of ⟨r, rfl, hrr⟩
    · skip
      refine ws_nil ?_
      first | exact Up.of ⟨r2, rfl, hr2⟩ | exact Up.of ⟨r, rfl, hrr⟩
  · intro ρ hM
    obtain ⟨r, rfl, hrr⟩ := hM
    refine ws_norm (ρ' := [_, _, _, _, _, _, _, _, _, _]) rfl ?_
    refine ws_cutU (fun ρ => ∃ S : List Mo, ρ = [.va (.cst (ns.map .int)), .va (.lst (xs.map .int)), .va (lsO S), .un, .un, .un, .un, .un, .un, .un] ∧ G5 S) ?_ ?_
    · skip
      refine ws_if (et_isN (ee_var 2 rfl)) (fun h6 => ?_) (fun h6 => ?_)
      · skip
        refine ws_cons ?_
        refine ws_setM 2 (eo_cal (C__law_group) (hr.mono (by decide)) (ea_cons (ee_var 1 rfl) ea_nil) (by exact ⟨xs, rfl, ⟨by omega, hxs⟩, rfl⟩)) ?_ sc.nd
        refine ws_norm (ρ' := [_, _, _, _, _, _, _, _, _, _]) rfl ?_
        refine ws_freeze 2 rfl ?_
        refine ws_norm (ρ' := [_, _, _, _, _, _, _, _, _, _]) rfl ?_
        refine ws_nil ?_
        first | exact Up.of ⟨_, rfl, g5_group xs⟩ | (cases r with | none => exact absurd h6 (show ¬ (true = false) by decide) | some S => exact Up.of ⟨S, rfl, hrr S rfl⟩)
      · skip
        refine ws_nil ?_
        first | exact Up.of ⟨_, rfl, g5_group xs⟩ | (cases r with | none => exact absurd h6 (show ¬ (true = false) by decide) | some S => exact Up.of ⟨S, rfl, hrr S rfl⟩)
    · intro ρ hM
      obtain ⟨S0, rfl, hG0⟩ := hM
      refine ws_norm (ρ' := [_, _, _, _, _, _, _, _, _, _]) rfl ?_
      refine ws_cons ?_
      refine ws_setM 2 (eo_cal (C__law_sorted) (hr.mono (by decide)) (ea_cons (ee_var 2 rfl) ea_nil) (by exact ⟨S0, rfl, ⟨hG0.ok.mono (by decide) (by decide), by have := hG0.len; omega⟩, rfl⟩)) ?_ sc.nd
      refine ws_norm (ρ' := [_, _, _, _, _, _, _, _, _, _]) rfl ?_
      refine ws_freeze 2 rfl ?_
      refine ws_norm (ρ' := [_, _, _, _, _, _, _, _, _, _]) rfl ?_
      refine ws_abs 2 (fun d => ∃ S, d = lsO S ∧ G5 S) rfl (⟨_, rfl, hG0.asc⟩) ?_
      rintro _ ⟨S, rfl, hG⟩
      have sz := hG.sizes
      obtain ⟨N, hD, hD2, hd⟩ := hG.d
      have dx := dv_x hd
      have hsl := shp_len S
      have hSl := hG.len
      have B := bas S hG.c
      have nx := Bas.nx hG.c B
      have nz := Bas.nz hG.c B
      obtain ⟨⟨zx, zy⟩, zz⟩ := zs_bas hG
      have hst := sz_told hG
      refine ws_norm (ρ' := [_, _, _, _, _, _, _, _, _, _]) rfl ?_
      refine ws_cons ?_
      refine ws_setE 3 (ee_cal (C__law_basis) (hr.mono (by decide)) (ea_cons (ee_var 2 rfl) ea_nil) (by exact ⟨S, rfl, hG, rfl⟩)) ?_ sc.nd
      refine ws_norm (ρ' := [_, _, _, _, _, _, _, _, _, _]) rfl ?_
      refine ws_cons ?_
      refine ws_setM 4 (eo_list rfl T.m_list (ea_cons (ee_var 2 rfl) ea_nil) rfl) ?_ sc.nd
      refine ws_norm (ρ' := [_, _, _, _, _, _, _, _, _, _]) rfl ?_
      refine ws_freeze 4 rfl ?_
      refine ws_norm (ρ' := [_, _, _, _, _, _, _, _, _, _]) rfl ?_
      refine ws_cons ?_
      refine ws_if (et_not (et_val (ee_cal (C__law_same) (hr.mono (by decide)) (ea_cons (ee_cal (C_own_basis) (hr.mono (by decide)) (ea_cons (ee_var 4 rfl) ea_nil) (by exact ⟨S, rfl, hG, rfl⟩)) (ea_cons (ee_var 3 rfl) ea_nil)) (by exact ⟨basD S, rfl, ⟨rfl, Nat.le_of_ble_eq_true rfl⟩, rfl⟩)))) (fun h11 => ?_) (fun h11 => ?_)
      · skip
        exact absurd h11 (by decide)
      · skip
        refine ws_nil ?_
        refine ws_cons ?_
        refine ws_set 5 eo_dnew ?_ sc.nd
        rintro _ rfl
        refine ws_norm (ρ' := [_, _, _, _, _, _, _, _, _, _]) rfl ?_
        refine ws_cons ?_
        refine ws_forL (fun k ρ => ρ = [.va (.cst (ns.map .int)), .va (.lst (xs.map .int)), .va (lsO S), .va (basD S), .va (lsO S), .md ((once ((S.take k).map (tS S))).map moD) (yes (once ((S.take k).map (tS S)))), .un, .un, .un, .un]) (ee_var 2 rfl) ?start14 nox_own ?turn14 ?fin14
        case start14 =>
          exact up_intro rfl (by walk_at "tg le")
        case turn14 =>
          intro k d ρ hk hR
          subst hR
          obtain ⟨hk', rfl⟩ := map_getK (f := moD) (l := S) default hk
          have ok := hG.ok _ (getD_mem (x := default) hk')
          have hot := once_take (T' := S) hk'
          have hol := len_once ((S.take k).map (tS S))
          rw [List.length_map, List.length_take] at hol
          generalize S.getD k default = m at *
          have ax := (rx_int ok.a).mul sz.x.1.rx
          have cx := (rx_int ok.c).mul sz.x.1.rx
          have ay := (rx_int ok.a).mul sz.y.rx
          have bz := (rx_int ok.b).mul sz.z.1.rx
          have cy := (rx_int ok.c).mul sz.y.rx
          have dz := (rx_int ok.d).mul sz.z.1.rx
          obtain ⟨l1, l2⟩ := lx0 m (xOf S)
          refine ⟨_, (at_name 6 sc.nd), ?_⟩
          refine ws_norm (ρ' := [_, _, _, _, _, _, _, _, _, _]) rfl ?_
          refine ws_cons ?_
          refine ws_setE 7 (ee_cal (C__law_parts) (hr.mono (by decide)) (ea_cons (ee_cal (C__law_led) (hr.mono (by decide)) (ea_cons (ee_var 6 rfl) (ea_cons (ee_tup (ea_cons (ee_ix (ee_var 3 rfl) ee_int rfl (by rfl)) (ea_cons (ee_tup (ea_cons ee_int (ea_cons ee_int ea_nil))) ea_nil))) ea_nil)) (by exact ⟨m.m, [rq m.x, rq m.y], xOf S, 0, rfl, ⟨(ok.mono (show 12000 ≤ 13000 by decide) (Nat.le_refl _)).szm, zx.mono (by decide), zs_zero.mono (by decide)⟩, by rw [l1, l2]⟩)) (ea_cons (ee_var 3 rfl) ea_nil)) (by exact ⟨(m.m.a : Rat) * xOf S, (m.m.c : Rat) * xOf S, xOf S, yOf S, zOf S, rfl, ⟨⟨ax.mono (by decide) (by decide), cx.mono (by decide) (by decide)⟩, ⟨sz.x.1, sz.y, sz.z.1⟩, nx, nz⟩, rfl⟩)) ?_ sc.nd
          refine ws_norm (ρ' := [_, _, _, _, _, _, _, _, _, _]) rfl ?_
          refine ws_cons ?_
          refine ws_setE 8 (ee_cal (C__law_parts) (hr.mono (by decide)) (ea_cons (ee_cal (C__law_led) (hr.mono (by decide)) (ea_cons (ee_var 6 rfl) (ea_cons (ee_tup (ea_cons (ee_ix (ee_var 3 rfl) ee_int rfl (by rfl)) (ea_cons (ee_ix (ee_var 3 rfl) ee_int rfl (by rfl)) ea_nil))) ea_nil)) (by exact ⟨m.m, [rq m.x, rq m.y], yOf S, zOf S, rfl, ⟨(ok.mono (show 12000 ≤ 13000 by decide) (Nat.le_refl _)).szm, zy.mono (by decide), zz.mono (by decide)⟩, rfl⟩)) (ea_cons (ee_var 3 rfl) ea_nil)) (by exact ⟨(m.m.a : Rat) * yOf S + (m.m.b : Rat) * zOf S, (m.m.c : Rat) * yOf S + (m.m.d : Rat) * zOf S, xOf S, yOf S, zOf S, rfl, ⟨⟨(ay.add bz).mono (by decide) (by decide), (cy.add dz).mono (by decide) (by decide)⟩, ⟨sz.x.1, sz.y, sz.z.1⟩, nx, nz⟩, rfl⟩)) ?_ sc.nd
          refine ws_norm (ρ' := [_, _, _, _, _, _, _, _, _, _]) rfl ?_
          refine ws_one ?_
          refine ws_dput 5 rfl hr ee_bl (ee_cal (C__law_settled) (hr.mono (by decide)) (ea_cons (ee_catT (ee_tup (ea_cons (ee_ix (ee_ix (ee_var 7 rfl) ee_int rfl (by rfl)) ee_int rfl (by rfl)) (ea_cons (ee_ix (ee_ix (ee_var 8 rfl) ee_int rfl (by rfl)) ee_int rfl (by rfl)) (ea_cons (ee_ix (ee_ix (ee_var 7 rfl) ee_int rfl (by rfl)) ee_int rfl (by rfl)) (ea_cons (ee_ix (ee_ix (ee_var 8 rfl) ee_int rfl (by rfl)) ee_int rfl (by rfl)) ea_nil))))) (ee_cal (C__law_parts) (hr.mono (by decide)) (ea_cons (ee_tup (ea_cons (ee_ix (ee_var 6 rfl) ee_int rfl (by rfl)) (ea_cons (ee_ix (ee_var 6 rfl) ee_int rfl (by rfl)) ea_nil))) (ea_cons (ee_var 3 rfl) ea_nil)) (by exact ⟨m.x, m.y, xOf S, yOf S, zOf S, rfl, ⟨⟨(ok.x.rx (by decide)).mono (by decide) (by decide), (ok.y.rx (by decide)).mono (by decide) (by decide)⟩, ⟨sz.x.1, sz.y, sz.z.1⟩, nx, nz⟩, rfl⟩)) (by walk_at "tg cat")) ea_nil) (by exact ⟨told (xOf S) (yOf S) (zOf S) m, rfl, trivial, rfl⟩)) (by walk_at "tg dkey") (by rw [List.length_map]; exact line_of (by omega)) ?_
          rw [keyF_mo.insK, keyF_mo.insV]
          rw [hot]
          exact up_intro rfl (by walk_at "tg le")
        case fin14 =>
          intro ρ hR
          subst hR
          rw [List.length_map, List.take_length]
          refine ws_freezeD 5 rfl ?_
          refine ws_norm (ρ' := [_, _, _, _, _, _, _, _, _, _]) rfl ?_
          refine ws_cons ?_
          refine ws_setE 9 (ee_cal (C_told_in) (hr.mono (by decide)) (ea_cons (ee_var 4 rfl) (ea_cons (ee_var 3 rfl) ea_nil)) (by exact ⟨S, rfl, hG, rfl⟩)) ?_ sc.nd
          refine ws_norm (ρ' := [_, _, _, _, _, _, _, _, _, _]) rfl ?_
          refine ws_one ?_
          refine ws_retE (ee_and (ee_isO T.k_Group kt_Group_Group (tyo_obj T.k_Group hC_Group) rfl T.m_isinstance (ee_var 9 rfl)) (fun hv => (ee_and (ee_cal (C__law_same) (hr.mono (by decide)) (ea_cons (ee_va (eo_prop C_Group_movements (hr.mono (by decide)) (ee_var 9 rfl) (by exact ⟨once (S.map (tS S)), rfl, trivial, rfl⟩))) (ea_cons (ee_tuple rfl T.m_tuple (ea_cons (ee_lst (eo_cal (C__law_sorted) (hr.mono (by decide)) (ea_cons (ee_lst (eo_listX rfl T.m_list (ed_dat (ee_var 5 rfl)))) ea_nil) (by exact ⟨once (S.map (tS S)), rfl, ⟨fun w hw => by obtain ⟨a, ha, rfl⟩ := List.mem_map.mp (mem_once.mp hw); exact ((hst a ha).stl).mono (by decide) (by decide), by have := len_once (S.map (tS S)); rw [List.length_map] at this; omega⟩, rfl⟩))) ea_nil) rfl) ea_nil)) (by exact same_mos rfl rfl)) (fun hv => (ee_one (ee_eq hr.units (ee_var 4 rfl) (ee_var 2 rfl) (by exact keyF_mo.cmpL _) (by exact keyF_mo.cmpL _))))))) ?_
          show Q _
          rw [keyF_mo.eqvL, decide_eq_true rfl]; exact hQ
end
end
theorem all_mk {l : PySem.W.OpenLaw} {w : World} {K : PySem.W.Frag} {h : Heap} {mg : Str → Option Value} {fa : Addr} (X : K.In h) (G : h.Ns mainGlobals mg) (hfa : mg "law" = some (.ref fa))
    {k_ZERO_0 : Tok}
    {k_ZERO_1 : Tok}
    {k_ZERO : Addr} {k_ZEROo : Option Addr} {k_ZEROn : Nat} {k_ZEROs : Array (Option Value)}
    (lk_ZERO : K.lookup k_ZERO = some ⟨.type "tuple", k_ZEROo, .seq (List.toArray [.int 0 k_ZERO_0, .int 1 k_ZERO_1]) k_ZEROn, k_ZEROs⟩)
    (aK_ZERO : PySem.W.nsIn K mainGlobals "ZERO" = some (some (.ref k_ZERO)))
    {k_ONE_0 : Tok}
    {k_ONE_1 : Tok}
    {k_ONE : Addr} {k_ONEo : Option Addr} {k_ONEn : Nat} {k_ONEs : Array (Option Value)}
    (lk_ONE : K.lookup k_ONE = some ⟨.type "tuple", k_ONEo, .seq (List.toArray [.int 1 k_ONE_0, .int 1 k_ONE_1]) k_ONEn, k_ONEs⟩)
    (aK_ONE : PySem.W.nsIn K mainGlobals "ONE" = some (some (.ref k_ONE)))
    {k_IDENTITY_0 : Tok}
    {k_IDENTITY_1 : Tok}
    {k_IDENTITY_2 : Tok}
    {k_IDENTITY_3 : Tok}
    {k_IDENTITY_4_0 : Tok}
    {k_IDENTITY_4_1 : Tok}
    {k_IDENTITY_4 : Addr} {k_IDENTITY_4o : Option Addr} {k_IDENTITY_4n : Nat} {k_IDENTITY_4s : Array (Option Value)}
    (lk_IDENTITY_4 : K.lookup k_IDENTITY_4 = some ⟨.type "tuple", k_IDENTITY_4o, .seq (List.toArray [.int 0 k_IDENTITY_4_0, .int 1 k_IDENTITY_4_1]) k_IDENTITY_4n, k_IDENTITY_4s⟩)
    {k_IDENTITY_5_0 : Tok}
    {k_IDENTITY_5_1 : Tok}
    {k_IDENTITY_5 : Addr} {k_IDENTITY_5o : Option Addr} {k_IDENTITY_5n : Nat} {k_IDENTITY_5s : Array (Option Value)}
    (lk_IDENTITY_5 : K.lookup k_IDENTITY_5 = some ⟨.type "tuple", k_IDENTITY_5o, .seq (List.toArray [.int 0 k_IDENTITY_5_0, .int 1 k_IDENTITY_5_1]) k_IDENTITY_5n, k_IDENTITY_5s⟩)
    {k_IDENTITY : Addr} {k_IDENTITYo : Option Addr} {k_IDENTITYn : Nat} {k_IDENTITYs : Array (Option Value)}
    (lk_IDENTITY : K.lookup k_IDENTITY = some ⟨.type "tuple", k_IDENTITYo, .seq (List.toArray [.int 1 k_IDENTITY_0, .int 0 k_IDENTITY_1, .int 0 k_IDENTITY_2, .int 1 k_IDENTITY_3, .ref k_IDENTITY_4, .ref k_IDENTITY_5]) k_IDENTITYn, k_IDENTITYs⟩)
    (aK_IDENTITY : PySem.W.nsIn K mainGlobals "IDENTITY" = some (some (.ref k_IDENTITY)))
    {CGroup : Addr} (aC_Group : PySem.W.nsIn K mainGlobals "Group" = some (some (.ref CGroup)))
    {CNotGroup : Addr} (aC_NotGroup : PySem.W.nsIn K mainGlobals "NotGroup" = some (some (.ref CNotGroup)))
    (xb_NotGroup : PySem.W.subIn K (.ref CNotGroup) (.type "BaseException") = some true) (xd_NotGroup : PySem.W.hasDictIn K CNotGroup = true) (xt_NotGroup : PySem.W.typeIn K (.ref CNotGroup) = some (.type "type"))
    (xx_NotGroup : PySem.W.excIn K CNotGroup [.type "ValueError", .type "Exception", .type "BaseException", .type "object"] "ValueError.__new__" = true) (xk_NotGroup : PySem.W.keepIn K (.ref CNotGroup) = true)
    (xg_NotGroup : PySem.W.findIn K (.ref CNotGroup) "__getattribute__" = some (some (.builtin "BaseException.__getattribute__"))) (xh_NotGroup : PySem.W.findIn K (.ref CNotGroup) "__getattr__" = some none) (xa_NotGroup : PySem.W.findIn K (.ref CNotGroup) "__class__" = some (some (.builtin "object.__class__")))
    (xn_NotGroup : PySem.W.specialIn K (.builtin "object.__class__") "__get__" = some (some (.builtin "getset_descriptor.__get__"))) (xT_NotGroup : PySem.W.takesIn K (.builtin "object.__class__") = some true) (xm_NotGroup : PySem.W.mroIn K CNotGroup (.type "object") = some true)
    {CHasShifts : Addr} (aC_HasShifts : PySem.W.nsIn K mainGlobals "HasShifts" = some (some (.ref CHasShifts)))
    (xb_HasShifts : PySem.W.subIn K (.ref CHasShifts) (.type "BaseException") = some true) (xd_HasShifts : PySem.W.hasDictIn K CHasShifts = true) (xt_HasShifts : PySem.W.typeIn K (.ref CHasShifts) = some (.type "type"))
    (xx_HasShifts : PySem.W.excIn K CHasShifts [.type "ValueError", .type "Exception", .type "BaseException", .type "object"] "ValueError.__new__" = true) (xk_HasShifts : PySem.W.keepIn K (.ref CHasShifts) = true)
    (xg_HasShifts : PySem.W.findIn K (.ref CHasShifts) "__getattribute__" = some (some (.builtin "BaseException.__getattribute__"))) (xh_HasShifts : PySem.W.findIn K (.ref CHasShifts) "__getattr__" = some none) (xa_HasShifts : PySem.W.findIn K (.ref CHasShifts) "__class__" = some (some (.builtin "object.__class__")))
    (xn_HasShifts : PySem.W.specialIn K (.builtin "object.__class__") "__get__" = some (some (.builtin "getset_descriptor.__get__"))) (xT_HasShifts : PySem.W.takesIn K (.builtin "object.__class__") = some true) (xm_HasShifts : PySem.W.mroIn K CHasShifts (.type "object") = some true)
    {f0 : Addr} {od0 an0 : Option Addr} {sl0 : Array (Option Value)} {oc0 kV0 dc0 pm0 cd0 ct0 : Value}
    (a0 : PySem.W.nsIn K mainGlobals "common_divisor" = some (some (.ref f0)))
    (l0 : K.lookup f0 = some ⟨oc0, od0, .func (PySem.W.fnOf "common_divisor" "common_divisor" (defArgs s_common_divisor) (defBody s_common_divisor) (defScope s_common_divisor) .none kV0 dc0 pm0 an0 cd0 ct0), sl0⟩)
    (c0 : PySem.W.codeIn K cd0 "common_divisor" = true) (k0 : PySem.W.keepIn K (.ref f0) = true)
    {f1 : Addr} {od1 an1 : Option Addr} {sl1 : Array (Option Value)} {oc1 kV1 dc1 pm1 cd1 ct1 : Value}
    (a1 : PySem.W.nsIn K mainGlobals "fraction" = some (some (.ref f1)))
    {dV1 : Addr} {tc1 : Value} {td1 : Option Addr} {tn1 : Nat} {ts1 : Array (Option Value)} {tk1 : Nat}
    (l1 : K.lookup f1 = some ⟨oc1, od1, .func (PySem.W.fnOf "fraction" "fraction" (defArgs s_fraction) (defBody s_fraction) (defScope s_fraction) (.ref dV1) kV1 dc1 pm1 an1 cd1 ct1), sl1⟩)
    (t1 : K.lookup dV1 = some ⟨tc1, td1, .seq (List.toArray [.int 1 tk1]) tn1, ts1⟩)
    (c1 : PySem.W.codeIn K cd1 "fraction" = true) (k1 : PySem.W.keepIn K (.ref f1) = true)
    {f2 : Addr} {od2 an2 : Option Addr} {sl2 : Array (Option Value)} {oc2 kV2 dc2 pm2 cd2 ct2 : Value}
    (a2 : PySem.W.nsIn K mainGlobals "plus" = some (some (.ref f2)))
    (l2 : K.lookup f2 = some ⟨oc2, od2, .func (PySem.W.fnOf "plus" "plus" (defArgs s_plus) (defBody s_plus) (defScope s_plus) .none kV2 dc2 pm2 an2 cd2 ct2), sl2⟩)
    (c2 : PySem.W.codeIn K cd2 "plus" = true) (k2 : PySem.W.keepIn K (.ref f2) = true)
    {f3 : Addr} {od3 an3 : Option Addr} {sl3 : Array (Option Value)} {oc3 kV3 dc3 pm3 cd3 ct3 : Value}
    (a3 : PySem.W.nsIn K mainGlobals "minus" = some (some (.ref f3)))
    (l3 : K.lookup f3 = some ⟨oc3, od3, .func (PySem.W.fnOf "minus" "minus" (defArgs s_minus) (defBody s_minus) (defScope s_minus) .none kV3 dc3 pm3 an3 cd3 ct3), sl3⟩)
    (c3 : PySem.W.codeIn K cd3 "minus" = true) (k3 : PySem.W.keepIn K (.ref f3) = true)
    {f4 : Addr} {od4 an4 : Option Addr} {sl4 : Array (Option Value)} {oc4 kV4 dc4 pm4 cd4 ct4 : Value}
    (a4 : PySem.W.nsIn K mainGlobals "times" = some (some (.ref f4)))
    (l4 : K.lookup f4 = some ⟨oc4, od4, .func (PySem.W.fnOf "times" "times" (defArgs s_times) (defBody s_times) (defScope s_times) .none kV4 dc4 pm4 an4 cd4 ct4), sl4⟩)
    (c4 : PySem.W.codeIn K cd4 "times" = true) (k4 : PySem.W.keepIn K (.ref f4) = true)
    {f5 : Addr} {od5 an5 : Option Addr} {sl5 : Array (Option Value)} {oc5 kV5 dc5 pm5 cd5 ct5 : Value}
    (a5 : PySem.W.nsIn K mainGlobals "divided" = some (some (.ref f5)))
    (l5 : K.lookup f5 = some ⟨oc5, od5, .func (PySem.W.fnOf "divided" "divided" (defArgs s_divided) (defBody s_divided) (defScope s_divided) .none kV5 dc5 pm5 an5 cd5 ct5), sl5⟩)
    (c5 : PySem.W.codeIn K cd5 "divided" = true) (k5 : PySem.W.keepIn K (.ref f5) = true)
    {f6 : Addr} {od6 an6 : Option Addr} {sl6 : Array (Option Value)} {oc6 kV6 dc6 pm6 cd6 ct6 : Value}
    (a6 : PySem.W.nsIn K mainGlobals "less" = some (some (.ref f6)))
    (l6 : K.lookup f6 = some ⟨oc6, od6, .func (PySem.W.fnOf "less" "less" (defArgs s_less) (defBody s_less) (defScope s_less) .none kV6 dc6 pm6 an6 cd6 ct6), sl6⟩)
    (c6 : PySem.W.codeIn K cd6 "less" = true) (k6 : PySem.W.keepIn K (.ref f6) = true)
    {f7 : Addr} {od7 an7 : Option Addr} {sl7 : Array (Option Value)} {oc7 kV7 dc7 pm7 cd7 ct7 : Value}
    (a7 : PySem.W.nsIn K mainGlobals "rest" = some (some (.ref f7)))
    (l7 : K.lookup f7 = some ⟨oc7, od7, .func (PySem.W.fnOf "rest" "rest" (defArgs s_rest) (defBody s_rest) (defScope s_rest) .none kV7 dc7 pm7 an7 cd7 ct7), sl7⟩)
    (c7 : PySem.W.codeIn K cd7 "rest" = true) (k7 : PySem.W.keepIn K (.ref f7) = true)
    {f8 : Addr} {od8 an8 : Option Addr} {sl8 : Array (Option Value)} {oc8 kV8 dc8 pm8 cd8 ct8 : Value}
    (a8 : PySem.W.nsIn K mainGlobals "common_multiple" = some (some (.ref f8)))
    (l8 : K.lookup f8 = some ⟨oc8, od8, .func (PySem.W.fnOf "common_multiple" "common_multiple" (defArgs s_common_multiple) (defBody s_common_multiple) (defScope s_common_multiple) .none kV8 dc8 pm8 an8 cd8 ct8), sl8⟩)
    (c8 : PySem.W.codeIn K cd8 "common_multiple" = true) (k8 : PySem.W.keepIn K (.ref f8) = true)
    {f9 : Addr} {od9 an9 : Option Addr} {sl9 : Array (Option Value)} {oc9 kV9 dc9 pm9 cd9 ct9 : Value}
    (a9 : PySem.W.nsIn K mainGlobals "scaled" = some (some (.ref f9)))
    (l9 : K.lookup f9 = some ⟨oc9, od9, .func (PySem.W.fnOf "scaled" "scaled" (defArgs s_scaled) (defBody s_scaled) (defScope s_scaled) .none kV9 dc9 pm9 an9 cd9 ct9), sl9⟩)
    (c9 : PySem.W.codeIn K cd9 "scaled" = true) (k9 : PySem.W.keepIn K (.ref f9) = true)
    {f10 : Addr} {od10 an10 : Option Addr} {sl10 : Array (Option Value)} {oc10 kV10 dc10 pm10 cd10 ct10 : Value}
    (a10 : PySem.W.nsIn K mainGlobals "product" = some (some (.ref f10)))
    (l10 : K.lookup f10 = some ⟨oc10, od10, .func (PySem.W.fnOf "product" "product" (defArgs s_product) (defBody s_product) (defScope s_product) .none kV10 dc10 pm10 an10 cd10 ct10), sl10⟩)
    (c10 : PySem.W.codeIn K cd10 "product" = true) (k10 : PySem.W.keepIn K (.ref f10) = true)
    {f11 : Addr} {od11 an11 : Option Addr} {sl11 : Array (Option Value)} {oc11 kV11 dc11 pm11 cd11 ct11 : Value}
    (a11 : PySem.W.nsIn K mainGlobals "led" = some (some (.ref f11)))
    (l11 : K.lookup f11 = some ⟨oc11, od11, .func (PySem.W.fnOf "led" "led" (defArgs s_led) (defBody s_led) (defScope s_led) .none kV11 dc11 pm11 an11 cd11 ct11), sl11⟩)
    (c11 : PySem.W.codeIn K cd11 "led" = true) (k11 : PySem.W.keepIn K (.ref f11) = true)
    {f12 : Addr} {od12 an12 : Option Addr} {sl12 : Array (Option Value)} {oc12 kV12 dc12 pm12 cd12 ct12 : Value}
    (a12 : PySem.W.nsIn K mainGlobals "moved" = some (some (.ref f12)))
    (l12 : K.lookup f12 = some ⟨oc12, od12, .func (PySem.W.fnOf "moved" "moved" (defArgs s_moved) (defBody s_moved) (defScope s_moved) .none kV12 dc12 pm12 an12 cd12 ct12), sl12⟩)
    (c12 : PySem.W.codeIn K cd12 "moved" = true) (k12 : PySem.W.keepIn K (.ref f12) = true)
    {f13 : Addr} {od13 an13 : Option Addr} {sl13 : Array (Option Value)} {oc13 kV13 dc13 pm13 cd13 ct13 : Value}
    (a13 : PySem.W.nsIn K mainGlobals "then" = some (some (.ref f13)))
    (l13 : K.lookup f13 = some ⟨oc13, od13, .func (PySem.W.fnOf "then" "then" (defArgs s_then) (defBody s_then) (defScope s_then) .none kV13 dc13 pm13 an13 cd13 ct13), sl13⟩)
    (c13 : PySem.W.codeIn K cd13 "then" = true) (k13 : PySem.W.keepIn K (.ref f13) = true)
    {f14 : Addr} {od14 an14 : Option Addr} {sl14 : Array (Option Value)} {oc14 kV14 dc14 pm14 cd14 ct14 : Value}
    (a14 : PySem.W.nsIn K mainGlobals "settled" = some (some (.ref f14)))
    (l14 : K.lookup f14 = some ⟨oc14, od14, .func (PySem.W.fnOf "settled" "settled" (defArgs s_settled) (defBody s_settled) (defScope s_settled) .none kV14 dc14 pm14 an14 cd14 ct14), sl14⟩)
    (c14 : PySem.W.codeIn K cd14 "settled" = true) (k14 : PySem.W.keepIn K (.ref f14) = true)
    {f15 cr15 pr15 : Addr} {od15 an15 : Option Addr} {sl15 : Array (Option Value)} {oc15 kV15 dc15 pm15 ct15 : Value}
    (a15 : PySem.W.nsIn K mainGlobals "ascending" = some (some (.ref f15)))
    (l15 : K.lookup f15 = some ⟨oc15, od15, .func (PySem.W.fnOf "ascending" "ascending" (defArgs s_ascending) (defBody s_ascending) (defScope s_ascending) .none kV15 dc15 pm15 an15 (.ref cr15) ct15), sl15⟩)
    (c15 : PySem.W.codeIn K (.ref cr15) "ascending" = true) (k15 : PySem.W.keepIn K (.ref f15) = true)
    {mc15 : Value} {md15 : Option Addr} {mv15 : Array Value} {ms15 : Array (Option Value)} (lm15 : K.lookup cr15 = some ⟨mc15, md15, .fields mv15, ms15⟩) (lp15 : (mv15[11]? : Option Value) = some (.ref pr15)) (mh15 : PySem.W.codeHdIn K cr15 pr15 = true) (mn15 : K.lookup pr15 = none) (mt15 : h.get? pr15 = some { cls := .none, data := .fields #[] })
    {f16 : Addr} {od16 an16 : Option Addr} {sl16 : Array (Option Value)} {oc16 kV16 dc16 pm16 cd16 ct16 : Value}
    (a16 : PySem.W.nsIn K mainGlobals "closure_within" = some (some (.ref f16)))
    (l16 : K.lookup f16 = some ⟨oc16, od16, .func (PySem.W.fnOf "closure_within" "closure_within" (defArgs s_closure_within) (defBody s_closure_within) (defScope s_closure_within) .none kV16 dc16 pm16 an16 cd16 ct16), sl16⟩)
    (c16 : PySem.W.codeIn K cd16 "closure_within" = true) (k16 : PySem.W.keepIn K (.ref f16) = true)
    {f17 : Addr} {od17 an17 : Option Addr} {sl17 : Array (Option Value)} {oc17 kV17 dc17 pm17 cd17 ct17 : Value}
    (a17 : PySem.W.nsIn K mainGlobals "check_closed" = some (some (.ref f17)))
    (l17 : K.lookup f17 = some ⟨oc17, od17, .func (PySem.W.fnOf "check_closed" "check_closed" (defArgs s_check_closed) (defBody s_check_closed) (defScope s_check_closed) .none kV17 dc17 pm17 an17 cd17 ct17), sl17⟩)
    (c17 : PySem.W.codeIn K cd17 "check_closed" = true) (k17 : PySem.W.keepIn K (.ref f17) = true)
    {f18 : Addr} {od18 an18 : Option Addr} {sl18 : Array (Option Value)} {oc18 kV18 dc18 pm18 cd18 ct18 : Value}
    (a18 : PySem.W.findIn K (.ref CGroup) "__init__" = some (some (.ref f18))) (pi18 : PySem.W.isFn K (.ref f18) = true)
    (l18 : K.lookup f18 = some ⟨oc18, od18, .func (PySem.W.fnOf "__init__" "Group.__init__" (defArgs s_Group_init) (defBody s_Group_init) (defScope s_Group_init) .none kV18 dc18 pm18 an18 cd18 ct18), sl18⟩)
    (c18 : PySem.W.codeIn K cd18 "Group.__init__" = true) (k18 : PySem.W.keepIn K (.ref f18) = true)
    {f19 : Addr} {od19 an19 : Option Addr} {sl19 : Array (Option Value)} {oc19 kV19 dc19 pm19 cd19 ct19 : Value}
    {p19 : Addr} {r19 : List Value} (a19 : PySem.W.findIn K (.ref CGroup) "movements" = some (some (.ref p19))) (pg19 : PySem.W.specialIn K (.ref p19) "__get__" = some (some (.builtin "property.__get__"))) (pt19 : PySem.W.takesIn K (.ref p19) = some true) (ar19 : PySem.W.recIn K p19 "property" = some (.ref f19 :: r19))
    (l19 : K.lookup f19 = some ⟨oc19, od19, .func (PySem.W.fnOf "movements" "Group.movements" (defArgs s_Group_movements) (defBody s_Group_movements) (defScope s_Group_movements) .none kV19 dc19 pm19 an19 cd19 ct19), sl19⟩)
    (c19 : PySem.W.codeIn K cd19 "Group.movements" = true) (k19 : PySem.W.keepIn K (.ref f19) = true)
    {f20 : Addr} {od20 an20 : Option Addr} {sl20 : Array (Option Value)} {oc20 kV20 dc20 pm20 cd20 ct20 : Value}
    (a20 : PySem.W.nsIn K mainGlobals "least_part" = some (some (.ref f20)))
    (l20 : K.lookup f20 = some ⟨oc20, od20, .func (PySem.W.fnOf "least_part" "least_part" (defArgs s_least_part) (defBody s_least_part) (defScope s_least_part) .none kV20 dc20 pm20 an20 cd20 ct20), sl20⟩)
    (c20 : PySem.W.codeIn K cd20 "least_part" = true) (k20 : PySem.W.keepIn K (.ref f20) = true)
    {f21 : Addr} {od21 an21 : Option Addr} {sl21 : Array (Option Value)} {oc21 kV21 dc21 pm21 cd21 ct21 : Value}
    (a21 : PySem.W.nsIn K mainGlobals "own_basis" = some (some (.ref f21)))
    (l21 : K.lookup f21 = some ⟨oc21, od21, .func (PySem.W.fnOf "own_basis" "own_basis" (defArgs s_own_basis) (defBody s_own_basis) (defScope s_own_basis) .none kV21 dc21 pm21 an21 cd21 ct21), sl21⟩)
    (c21 : PySem.W.codeIn K cd21 "own_basis" = true) (k21 : PySem.W.keepIn K (.ref f21) = true)
    {f22 : Addr} {od22 an22 : Option Addr} {sl22 : Array (Option Value)} {oc22 kV22 dc22 pm22 cd22 ct22 : Value}
    (a22 : PySem.W.nsIn K mainGlobals "in_basis" = some (some (.ref f22)))
    (l22 : K.lookup f22 = some ⟨oc22, od22, .func (PySem.W.fnOf "in_basis" "in_basis" (defArgs s_in_basis) (defBody s_in_basis) (defScope s_in_basis) .none kV22 dc22 pm22 an22 cd22 ct22), sl22⟩)
    (c22 : PySem.W.codeIn K cd22 "in_basis" = true) (k22 : PySem.W.keepIn K (.ref f22) = true)
    {f23 : Addr} {od23 an23 : Option Addr} {sl23 : Array (Option Value)} {oc23 kV23 dc23 pm23 cd23 ct23 : Value}
    (a23 : PySem.W.nsIn K mainGlobals "told_in" = some (some (.ref f23)))
    (l23 : K.lookup f23 = some ⟨oc23, od23, .func (PySem.W.fnOf "told_in" "told_in" (defArgs s_told_in) (defBody s_told_in) (defScope s_told_in) .none kV23 dc23 pm23 an23 cd23 ct23), sl23⟩)
    (c23 : PySem.W.codeIn K cd23 "told_in" = true) (k23 : PySem.W.keepIn K (.ref f23) = true)
    {f24 : Addr} {od24 an24 : Option Addr} {sl24 : Array (Option Value)} {oc24 kV24 dc24 pm24 cd24 ct24 : Value}
    (a24 : PySem.W.nsIn K mainGlobals "_law_cell" = some (some (.ref f24)))
    (l24 : K.lookup f24 = some ⟨oc24, od24, .func (PySem.W.fnOf "_law_cell" "_law_cell" (defArgs s__law_cell) (defBody s__law_cell) (defScope s__law_cell) .none kV24 dc24 pm24 an24 cd24 ct24), sl24⟩)
    (c24 : PySem.W.codeIn K cd24 "_law_cell" = true) (k24 : PySem.W.keepIn K (.ref f24) = true)
    {f25 : Addr} {od25 an25 : Option Addr} {sl25 : Array (Option Value)} {oc25 kV25 dc25 pm25 cd25 ct25 : Value}
    (a25 : PySem.W.nsIn K mainGlobals "_law_numbers" = some (some (.ref f25)))
    (l25 : K.lookup f25 = some ⟨oc25, od25, .func (PySem.W.fnOf "_law_numbers" "_law_numbers" (defArgs s__law_numbers) (defBody s__law_numbers) (defScope s__law_numbers) .none kV25 dc25 pm25 an25 cd25 ct25), sl25⟩)
    (c25 : PySem.W.codeIn K cd25 "_law_numbers" = true) (k25 : PySem.W.keepIn K (.ref f25) = true)
    {f26 : Addr} {od26 an26 : Option Addr} {sl26 : Array (Option Value)} {oc26 kV26 dc26 pm26 cd26 ct26 : Value}
    (a26 : PySem.W.nsIn K mainGlobals "_law_same" = some (some (.ref f26)))
    (l26 : K.lookup f26 = some ⟨oc26, od26, .func (PySem.W.fnOf "_law_same" "_law_same" (defArgs s__law_same) (defBody s__law_same) (defScope s__law_same) .none kV26 dc26 pm26 an26 cd26 ct26), sl26⟩)
    (c26 : PySem.W.codeIn K cd26 "_law_same" = true) (k26 : PySem.W.keepIn K (.ref f26) = true)
    {f27 : Addr} {od27 an27 : Option Addr} {sl27 : Array (Option Value)} {oc27 kV27 dc27 pm27 cd27 ct27 : Value}
    (a27 : PySem.W.nsIn K mainGlobals "_law_gcd" = some (some (.ref f27)))
    (l27 : K.lookup f27 = some ⟨oc27, od27, .func (PySem.W.fnOf "_law_gcd" "_law_gcd" (defArgs s__law_gcd) (defBody s__law_gcd) (defScope s__law_gcd) .none kV27 dc27 pm27 an27 cd27 ct27), sl27⟩)
    (c27 : PySem.W.codeIn K cd27 "_law_gcd" = true) (k27 : PySem.W.keepIn K (.ref f27) = true)
    {f28 : Addr} {od28 an28 : Option Addr} {sl28 : Array (Option Value)} {oc28 kV28 dc28 pm28 cd28 ct28 : Value}
    (a28 : PySem.W.nsIn K mainGlobals "_law_frac" = some (some (.ref f28)))
    (l28 : K.lookup f28 = some ⟨oc28, od28, .func (PySem.W.fnOf "_law_frac" "_law_frac" (defArgs s__law_frac) (defBody s__law_frac) (defScope s__law_frac) .none kV28 dc28 pm28 an28 cd28 ct28), sl28⟩)
    (c28 : PySem.W.codeIn K cd28 "_law_frac" = true) (k28 : PySem.W.keepIn K (.ref f28) = true)
    {f29 : Addr} {od29 an29 : Option Addr} {sl29 : Array (Option Value)} {oc29 kV29 dc29 pm29 cd29 ct29 : Value}
    (a29 : PySem.W.nsIn K mainGlobals "_law_add" = some (some (.ref f29)))
    (l29 : K.lookup f29 = some ⟨oc29, od29, .func (PySem.W.fnOf "_law_add" "_law_add" (defArgs s__law_add) (defBody s__law_add) (defScope s__law_add) .none kV29 dc29 pm29 an29 cd29 ct29), sl29⟩)
    (c29 : PySem.W.codeIn K cd29 "_law_add" = true) (k29 : PySem.W.keepIn K (.ref f29) = true)
    {f30 : Addr} {od30 an30 : Option Addr} {sl30 : Array (Option Value)} {oc30 kV30 dc30 pm30 cd30 ct30 : Value}
    (a30 : PySem.W.nsIn K mainGlobals "_law_sub" = some (some (.ref f30)))
    (l30 : K.lookup f30 = some ⟨oc30, od30, .func (PySem.W.fnOf "_law_sub" "_law_sub" (defArgs s__law_sub) (defBody s__law_sub) (defScope s__law_sub) .none kV30 dc30 pm30 an30 cd30 ct30), sl30⟩)
    (c30 : PySem.W.codeIn K cd30 "_law_sub" = true) (k30 : PySem.W.keepIn K (.ref f30) = true)
    {f31 : Addr} {od31 an31 : Option Addr} {sl31 : Array (Option Value)} {oc31 kV31 dc31 pm31 cd31 ct31 : Value}
    (a31 : PySem.W.nsIn K mainGlobals "_law_mul" = some (some (.ref f31)))
    (l31 : K.lookup f31 = some ⟨oc31, od31, .func (PySem.W.fnOf "_law_mul" "_law_mul" (defArgs s__law_mul) (defBody s__law_mul) (defScope s__law_mul) .none kV31 dc31 pm31 an31 cd31 ct31), sl31⟩)
    (c31 : PySem.W.codeIn K cd31 "_law_mul" = true) (k31 : PySem.W.keepIn K (.ref f31) = true)
    {f32 : Addr} {od32 an32 : Option Addr} {sl32 : Array (Option Value)} {oc32 kV32 dc32 pm32 cd32 ct32 : Value}
    (a32 : PySem.W.nsIn K mainGlobals "_law_less" = some (some (.ref f32)))
    (l32 : K.lookup f32 = some ⟨oc32, od32, .func (PySem.W.fnOf "_law_less" "_law_less" (defArgs s__law_less) (defBody s__law_less) (defScope s__law_less) .none kV32 dc32 pm32 an32 cd32 ct32), sl32⟩)
    (c32 : PySem.W.codeIn K cd32 "_law_less" = true) (k32 : PySem.W.keepIn K (.ref f32) = true)
    {f33 : Addr} {od33 an33 : Option Addr} {sl33 : Array (Option Value)} {oc33 kV33 dc33 pm33 cd33 ct33 : Value}
    (a33 : PySem.W.nsIn K mainGlobals "_law_rest" = some (some (.ref f33)))
    (l33 : K.lookup f33 = some ⟨oc33, od33, .func (PySem.W.fnOf "_law_rest" "_law_rest" (defArgs s__law_rest) (defBody s__law_rest) (defScope s__law_rest) .none kV33 dc33 pm33 an33 cd33 ct33), sl33⟩)
    (c33 : PySem.W.codeIn K cd33 "_law_rest" = true) (k33 : PySem.W.keepIn K (.ref f33) = true)
    {f34 : Addr} {od34 an34 : Option Addr} {sl34 : Array (Option Value)} {oc34 kV34 dc34 pm34 cd34 ct34 : Value}
    (a34 : PySem.W.nsIn K mainGlobals "_law_identity" = some (some (.ref f34)))
    (l34 : K.lookup f34 = some ⟨oc34, od34, .func (PySem.W.fnOf "_law_identity" "_law_identity" (defArgs s__law_identity) (defBody s__law_identity) (defScope s__law_identity) .none kV34 dc34 pm34 an34 cd34 ct34), sl34⟩)
    (c34 : PySem.W.codeIn K cd34 "_law_identity" = true) (k34 : PySem.W.keepIn K (.ref f34) = true)
    {f35 : Addr} {od35 an35 : Option Addr} {sl35 : Array (Option Value)} {oc35 kV35 dc35 pm35 cd35 ct35 : Value}
    (a35 : PySem.W.nsIn K mainGlobals "_law_det" = some (some (.ref f35)))
    (l35 : K.lookup f35 = some ⟨oc35, od35, .func (PySem.W.fnOf "_law_det" "_law_det" (defArgs s__law_det) (defBody s__law_det) (defScope s__law_det) .none kV35 dc35 pm35 an35 cd35 ct35), sl35⟩)
    (c35 : PySem.W.codeIn K cd35 "_law_det" = true) (k35 : PySem.W.keepIn K (.ref f35) = true)
    {f36 : Addr} {od36 an36 : Option Addr} {sl36 : Array (Option Value)} {oc36 kV36 dc36 pm36 cd36 ct36 : Value}
    (a36 : PySem.W.nsIn K mainGlobals "_law_led" = some (some (.ref f36)))
    (l36 : K.lookup f36 = some ⟨oc36, od36, .func (PySem.W.fnOf "_law_led" "_law_led" (defArgs s__law_led) (defBody s__law_led) (defScope s__law_led) .none kV36 dc36 pm36 an36 cd36 ct36), sl36⟩)
    (c36 : PySem.W.codeIn K cd36 "_law_led" = true) (k36 : PySem.W.keepIn K (.ref f36) = true)
    {f37 : Addr} {od37 an37 : Option Addr} {sl37 : Array (Option Value)} {oc37 kV37 dc37 pm37 cd37 ct37 : Value}
    (a37 : PySem.W.nsIn K mainGlobals "_law_moved" = some (some (.ref f37)))
    (l37 : K.lookup f37 = some ⟨oc37, od37, .func (PySem.W.fnOf "_law_moved" "_law_moved" (defArgs s__law_moved) (defBody s__law_moved) (defScope s__law_moved) .none kV37 dc37 pm37 an37 cd37 ct37), sl37⟩)
    (c37 : PySem.W.codeIn K cd37 "_law_moved" = true) (k37 : PySem.W.keepIn K (.ref f37) = true)
    {f38 : Addr} {od38 an38 : Option Addr} {sl38 : Array (Option Value)} {oc38 kV38 dc38 pm38 cd38 ct38 : Value}
    (a38 : PySem.W.nsIn K mainGlobals "_law_product" = some (some (.ref f38)))
    (l38 : K.lookup f38 = some ⟨oc38, od38, .func (PySem.W.fnOf "_law_product" "_law_product" (defArgs s__law_product) (defBody s__law_product) (defScope s__law_product) .none kV38 dc38 pm38 an38 cd38 ct38), sl38⟩)
    (c38 : PySem.W.codeIn K cd38 "_law_product" = true) (k38 : PySem.W.keepIn K (.ref f38) = true)
    {f39 : Addr} {od39 an39 : Option Addr} {sl39 : Array (Option Value)} {oc39 kV39 dc39 pm39 cd39 ct39 : Value}
    (a39 : PySem.W.nsIn K mainGlobals "_law_then" = some (some (.ref f39)))
    (l39 : K.lookup f39 = some ⟨oc39, od39, .func (PySem.W.fnOf "_law_then" "_law_then" (defArgs s__law_then) (defBody s__law_then) (defScope s__law_then) .none kV39 dc39 pm39 an39 cd39 ct39), sl39⟩)
    (c39 : PySem.W.codeIn K cd39 "_law_then" = true) (k39 : PySem.W.keepIn K (.ref f39) = true)
    {f40 : Addr} {od40 an40 : Option Addr} {sl40 : Array (Option Value)} {oc40 kV40 dc40 pm40 cd40 ct40 : Value}
    (a40 : PySem.W.nsIn K mainGlobals "_law_back" = some (some (.ref f40)))
    (l40 : K.lookup f40 = some ⟨oc40, od40, .func (PySem.W.fnOf "_law_back" "_law_back" (defArgs s__law_back) (defBody s__law_back) (defScope s__law_back) .none kV40 dc40 pm40 an40 cd40 ct40), sl40⟩)
    (c40 : PySem.W.codeIn K cd40 "_law_back" = true) (k40 : PySem.W.keepIn K (.ref f40) = true)
    {f41 : Addr} {od41 an41 : Option Addr} {sl41 : Array (Option Value)} {oc41 kV41 dc41 pm41 cd41 ct41 : Value}
    (a41 : PySem.W.nsIn K mainGlobals "_law_settled" = some (some (.ref f41)))
    (l41 : K.lookup f41 = some ⟨oc41, od41, .func (PySem.W.fnOf "_law_settled" "_law_settled" (defArgs s__law_settled) (defBody s__law_settled) (defScope s__law_settled) .none kV41 dc41 pm41 an41 cd41 ct41), sl41⟩)
    (c41 : PySem.W.codeIn K cd41 "_law_settled" = true) (k41 : PySem.W.keepIn K (.ref f41) = true)
    {f42 : Addr} {od42 an42 : Option Addr} {sl42 : Array (Option Value)} {oc42 kV42 dc42 pm42 cd42 ct42 : Value}
    (a42 : PySem.W.nsIn K mainGlobals "_law_closed" = some (some (.ref f42)))
    (l42 : K.lookup f42 = some ⟨oc42, od42, .func (PySem.W.fnOf "_law_closed" "_law_closed" (defArgs s__law_closed) (defBody s__law_closed) (defScope s__law_closed) .none kV42 dc42 pm42 an42 cd42 ct42), sl42⟩)
    (c42 : PySem.W.codeIn K cd42 "_law_closed" = true) (k42 : PySem.W.keepIn K (.ref f42) = true)
    {f43 : Addr} {od43 an43 : Option Addr} {sl43 : Array (Option Value)} {oc43 kV43 dc43 pm43 cd43 ct43 : Value}
    (a43 : PySem.W.nsIn K mainGlobals "_law_multiple" = some (some (.ref f43)))
    (l43 : K.lookup f43 = some ⟨oc43, od43, .func (PySem.W.fnOf "_law_multiple" "_law_multiple" (defArgs s__law_multiple) (defBody s__law_multiple) (defScope s__law_multiple) .none kV43 dc43 pm43 an43 cd43 ct43), sl43⟩)
    (c43 : PySem.W.codeIn K cd43 "_law_multiple" = true) (k43 : PySem.W.keepIn K (.ref f43) = true)
    {f44 cr44 pr44 : Addr} {od44 an44 : Option Addr} {sl44 : Array (Option Value)} {oc44 kV44 dc44 pm44 ct44 : Value}
    (a44 : PySem.W.nsIn K mainGlobals "_law_sorted" = some (some (.ref f44)))
    (l44 : K.lookup f44 = some ⟨oc44, od44, .func (PySem.W.fnOf "_law_sorted" "_law_sorted" (defArgs s__law_sorted) (defBody s__law_sorted) (defScope s__law_sorted) .none kV44 dc44 pm44 an44 (.ref cr44) ct44), sl44⟩)
    (c44 : PySem.W.codeIn K (.ref cr44) "_law_sorted" = true) (k44 : PySem.W.keepIn K (.ref f44) = true)
    {mc44 : Value} {md44 : Option Addr} {mv44 : Array Value} {ms44 : Array (Option Value)} (lm44 : K.lookup cr44 = some ⟨mc44, md44, .fields mv44, ms44⟩) (lp44 : (mv44[11]? : Option Value) = some (.ref pr44)) (mh44 : PySem.W.codeHdIn K cr44 pr44 = true) (mn44 : K.lookup pr44 = none) (mt44 : h.get? pr44 = some { cls := .none, data := .fields #[] })
    {f45 : Addr} {od45 an45 : Option Addr} {sl45 : Array (Option Value)} {oc45 kV45 dc45 pm45 cd45 ct45 : Value}
    (a45 : PySem.W.nsIn K mainGlobals "_law_axes" = some (some (.ref f45)))
    (l45 : K.lookup f45 = some ⟨oc45, od45, .func (PySem.W.fnOf "_law_axes" "_law_axes" (defArgs s__law_axes) (defBody s__law_axes) (defScope s__law_axes) .none kV45 dc45 pm45 an45 cd45 ct45), sl45⟩)
    (c45 : PySem.W.codeIn K cd45 "_law_axes" = true) (k45 : PySem.W.keepIn K (.ref f45) = true)
    {f46 : Addr} {od46 an46 : Option Addr} {sl46 : Array (Option Value)} {oc46 kV46 dc46 pm46 cd46 ct46 : Value}
    (a46 : PySem.W.nsIn K mainGlobals "_law_shift" = some (some (.ref f46)))
    (l46 : K.lookup f46 = some ⟨oc46, od46, .func (PySem.W.fnOf "_law_shift" "_law_shift" (defArgs s__law_shift) (defBody s__law_shift) (defScope s__law_shift) .none kV46 dc46 pm46 an46 cd46 ct46), sl46⟩)
    (c46 : PySem.W.codeIn K cd46 "_law_shift" = true) (k46 : PySem.W.keepIn K (.ref f46) = true)
    {f47 : Addr} {od47 an47 : Option Addr} {sl47 : Array (Option Value)} {oc47 kV47 dc47 pm47 cd47 ct47 : Value}
    (a47 : PySem.W.nsIn K mainGlobals "_law_change" = some (some (.ref f47)))
    (l47 : K.lookup f47 = some ⟨oc47, od47, .func (PySem.W.fnOf "_law_change" "_law_change" (defArgs s__law_change) (defBody s__law_change) (defScope s__law_change) .none kV47 dc47 pm47 an47 cd47 ct47), sl47⟩)
    (c47 : PySem.W.codeIn K cd47 "_law_change" = true) (k47 : PySem.W.keepIn K (.ref f47) = true)
    {f48 : Addr} {od48 an48 : Option Addr} {sl48 : Array (Option Value)} {oc48 kV48 dc48 pm48 cd48 ct48 : Value}
    (a48 : PySem.W.nsIn K mainGlobals "_law_steps" = some (some (.ref f48)))
    (l48 : K.lookup f48 = some ⟨oc48, od48, .func (PySem.W.fnOf "_law_steps" "_law_steps" (defArgs s__law_steps) (defBody s__law_steps) (defScope s__law_steps) .none kV48 dc48 pm48 an48 cd48 ct48), sl48⟩)
    (c48 : PySem.W.codeIn K cd48 "_law_steps" = true) (k48 : PySem.W.keepIn K (.ref f48) = true)
    {f49 : Addr} {od49 an49 : Option Addr} {sl49 : Array (Option Value)} {oc49 kV49 dc49 pm49 cd49 ct49 : Value}
    (a49 : PySem.W.nsIn K mainGlobals "_law_plain_group" = some (some (.ref f49)))
    (l49 : K.lookup f49 = some ⟨oc49, od49, .func (PySem.W.fnOf "_law_plain_group" "_law_plain_group" (defArgs s__law_plain_group) (defBody s__law_plain_group) (defScope s__law_plain_group) .none kV49 dc49 pm49 an49 cd49 ct49), sl49⟩)
    (c49 : PySem.W.codeIn K cd49 "_law_plain_group" = true) (k49 : PySem.W.keepIn K (.ref f49) = true)
    {f50 : Addr} {od50 an50 : Option Addr} {sl50 : Array (Option Value)} {oc50 kV50 dc50 pm50 cd50 ct50 : Value}
    (a50 : PySem.W.nsIn K mainGlobals "_law_changed" = some (some (.ref f50)))
    (l50 : K.lookup f50 = some ⟨oc50, od50, .func (PySem.W.fnOf "_law_changed" "_law_changed" (defArgs s__law_changed) (defBody s__law_changed) (defScope s__law_changed) .none kV50 dc50 pm50 an50 cd50 ct50), sl50⟩)
    (c50 : PySem.W.codeIn K cd50 "_law_changed" = true) (k50 : PySem.W.keepIn K (.ref f50) = true)
    {f51 : Addr} {od51 an51 : Option Addr} {sl51 : Array (Option Value)} {oc51 kV51 dc51 pm51 cd51 ct51 : Value}
    (a51 : PySem.W.nsIn K mainGlobals "_law_group" = some (some (.ref f51)))
    (l51 : K.lookup f51 = some ⟨oc51, od51, .func (PySem.W.fnOf "_law_group" "_law_group" (defArgs s__law_group) (defBody s__law_group) (defScope s__law_group) .none kV51 dc51 pm51 an51 cd51 ct51), sl51⟩)
    (c51 : PySem.W.codeIn K cd51 "_law_group" = true) (k51 : PySem.W.keepIn K (.ref f51) = true)
    {f52 : Addr} {od52 an52 : Option Addr} {sl52 : Array (Option Value)} {oc52 kV52 dc52 pm52 cd52 ct52 : Value}
    (a52 : PySem.W.nsIn K mainGlobals "_law_shifted" = some (some (.ref f52)))
    (l52 : K.lookup f52 = some ⟨oc52, od52, .func (PySem.W.fnOf "_law_shifted" "_law_shifted" (defArgs s__law_shifted) (defBody s__law_shifted) (defScope s__law_shifted) .none kV52 dc52 pm52 an52 cd52 ct52), sl52⟩)
    (c52 : PySem.W.codeIn K cd52 "_law_shifted" = true) (k52 : PySem.W.keepIn K (.ref f52) = true)
    {f53 : Addr} {od53 an53 : Option Addr} {sl53 : Array (Option Value)} {oc53 kV53 dc53 pm53 cd53 ct53 : Value}
    (a53 : PySem.W.nsIn K mainGlobals "_law_fine" = some (some (.ref f53)))
    (l53 : K.lookup f53 = some ⟨oc53, od53, .func (PySem.W.fnOf "_law_fine" "_law_fine" (defArgs s__law_fine) (defBody s__law_fine) (defScope s__law_fine) .none kV53 dc53 pm53 an53 cd53 ct53), sl53⟩)
    (c53 : PySem.W.codeIn K cd53 "_law_fine" = true) (k53 : PySem.W.keepIn K (.ref f53) = true)
    {f54 : Addr} {od54 an54 : Option Addr} {sl54 : Array (Option Value)} {oc54 kV54 dc54 pm54 cd54 ct54 : Value}
    (a54 : PySem.W.nsIn K mainGlobals "_law_basis" = some (some (.ref f54)))
    (l54 : K.lookup f54 = some ⟨oc54, od54, .func (PySem.W.fnOf "_law_basis" "_law_basis" (defArgs s__law_basis) (defBody s__law_basis) (defScope s__law_basis) .none kV54 dc54 pm54 an54 cd54 ct54), sl54⟩)
    (c54 : PySem.W.codeIn K cd54 "_law_basis" = true) (k54 : PySem.W.keepIn K (.ref f54) = true)
    {f55 : Addr} {od55 an55 : Option Addr} {sl55 : Array (Option Value)} {oc55 kV55 dc55 pm55 cd55 ct55 : Value}
    (a55 : PySem.W.nsIn K mainGlobals "_law_parts" = some (some (.ref f55)))
    (l55 : K.lookup f55 = some ⟨oc55, od55, .func (PySem.W.fnOf "_law_parts" "_law_parts" (defArgs s__law_parts) (defBody s__law_parts) (defScope s__law_parts) .none kV55 dc55 pm55 an55 cd55 ct55), sl55⟩)
    (c55 : PySem.W.codeIn K cd55 "_law_parts" = true) (k55 : PySem.W.keepIn K (.ref f55) = true)
    {f56 : Addr} {od56 an56 : Option Addr} {sl56 : Array (Option Value)} {oc56 kV56 dc56 pm56 cd56 ct56 : Value}
    (a56 : PySem.W.nsIn K mainGlobals "law" = some (some (.ref f56)))
    (l56 : K.lookup f56 = some ⟨oc56, od56, .func (PySem.W.fnOf "law" "law" (defArgs s_law) (defBody s_law) (defScope s_law) .none kV56 dc56 pm56 an56 cd56 ct56), sl56⟩)
    (c56 : PySem.W.codeIn K cd56 "law" = true) (k56 : PySem.W.keepIn K (.ref f56) = true)
    (z0 : PySem.W.nsIn K mainGlobals "abs" = some none)
    (z1 : PySem.W.nsIn K mainGlobals "any" = some none)
    (z2 : PySem.W.nsIn K mainGlobals "bool" = some none)
    (z3 : PySem.W.nsIn K mainGlobals "int" = some none)
    (z4 : PySem.W.nsIn K mainGlobals "isinstance" = some none)
    (z5 : PySem.W.nsIn K mainGlobals "len" = some none)
    (z6 : PySem.W.nsIn K mainGlobals "list" = some none)
    (z7 : PySem.W.nsIn K mainGlobals "range" = some none)
    (z8 : PySem.W.nsIn K mainGlobals "sorted" = some none)
    (z9 : PySem.W.nsIn K mainGlobals "str" = some none)
    (z10 : PySem.W.nsIn K mainGlobals "tuple" = some none)
    (og_Group : PySem.W.plainGet K CGroup Str.empty = true) (od_Group : PySem.W.hasDictIn K CGroup = true) (oo_Group : PySem.W.plainOver K CGroup = true) (os_Group : PySem.W.findIn K (.ref CGroup) "__setattr__" = some (some (.builtin "object.__setattr__"))) (ok_Group : PySem.W.keepIn K (.ref CGroup) = true)
    (ob_Group : PySem.W.findIn K (.ref CGroup) "__class__" = some (some (.builtin "object.__class__"))) (on_Group : PySem.W.specialIn K (.builtin "object.__class__") "__get__" = some (some (.builtin "getset_descriptor.__get__"))) (ot_Group : PySem.W.takesIn K (.builtin "object.__class__") = some true) (om_Group : PySem.W.mroIn K CGroup (.type "object") = some true)
    (oz_Group : PySem.W.makesIn K CGroup = true) (of_Group : PySem.W.notFirst K CGroup (.ref CGroup) = true) (oq_Group : PySem.W.kitOne K (.ref CGroup) (.ref CGroup) = some true)
    (oa_Group__movements : PySem.W.findIn K (.ref CGroup) "_movements" = some none)
    (oa_Group__held : PySem.W.findIn K (.ref CGroup) "_held" = some none)
    (nf_Group_list : PySem.W.notFirst K CGroup (.type "list") = true)
    (sk_list_Group : PySem.W.kitOne K (.type "list") (.ref CGroup) = some false)
    (mnd : [pr15, pr44].Nodup)
    : LawAtS l w K CX0 12 63 "script" mg fa h := by
  letI : TbT := ⟨[(pr15, ((("ascending" : Str) ++ ".<locals>.") ++ "<lambda>")), (pr44, ((("_law_sorted" : Str) ++ ".<locals>.") ++ "<lambda>"))]⟩
  have cl_Group : Cls K CGroup := ⟨og_Group, od_Group, oo_Group, os_Group⟩
  have T : Txt K mg := {
    d_common_divisor := defT_mk (PySem.W.mg_of X G a0) l0 c0 k0 (fun _ _ _ _ _ _ us hl => match us, hl with | [_, _], _ => rfl)
    d_fraction := defT_mkD (PySem.W.mg_of X G a1) l1 c1 k1 (by simp) ⟨_, _, _, _, rfl, t1, rfl, (.cons ⟨_, rfl⟩ .nil)⟩ (by decide) (fun j hj T kV dc pm an cd ct us its hu hi => by
      match j, us, its, hj, hu, hi with
      | 0, [_], [_], _, _, _ => exact ⟨_, rfl, rfl⟩
      | 1, [_, _], [_], _, _, _ => exact ⟨_, rfl, rfl⟩)
    d_plus := defT_mk (PySem.W.mg_of X G a2) l2 c2 k2 (fun _ _ _ _ _ _ us hl => match us, hl with | [_, _], _ => rfl)
    d_minus := defT_mk (PySem.W.mg_of X G a3) l3 c3 k3 (fun _ _ _ _ _ _ us hl => match us, hl with | [_, _], _ => rfl)
    d_times := defT_mk (PySem.W.mg_of X G a4) l4 c4 k4 (fun _ _ _ _ _ _ us hl => match us, hl with | [_, _], _ => rfl)
    d_divided := defT_mk (PySem.W.mg_of X G a5) l5 c5 k5 (fun _ _ _ _ _ _ us hl => match us, hl with | [_, _], _ => rfl)
    d_less := defT_mk (PySem.W.mg_of X G a6) l6 c6 k6 (fun _ _ _ _ _ _ us hl => match us, hl with | [_, _], _ => rfl)
    d_rest := defT_mk (PySem.W.mg_of X G a7) l7 c7 k7 (fun _ _ _ _ _ _ us hl => match us, hl with | [_], _ => rfl)
    d_common_multiple := defT_mk (PySem.W.mg_of X G a8) l8 c8 k8 (fun _ _ _ _ _ _ us hl => match us, hl with | [_], _ => rfl)
    d_scaled := defT_mk (PySem.W.mg_of X G a9) l9 c9 k9 (fun _ _ _ _ _ _ us hl => match us, hl with | [_, _], _ => rfl)
    d_product := defT_mk (PySem.W.mg_of X G a10) l10 c10 k10 (fun _ _ _ _ _ _ us hl => match us, hl with | [_, _], _ => rfl)
    d_led := defT_mk (PySem.W.mg_of X G a11) l11 c11 k11 (fun _ _ _ _ _ _ us hl => match us, hl with | [_, _], _ => rfl)
    d_moved := defT_mk (PySem.W.mg_of X G a12) l12 c12 k12 (fun _ _ _ _ _ _ us hl => match us, hl with | [_, _], _ => rfl)
    d_then := defT_mk (PySem.W.mg_of X G a13) l13 c13 k13 (fun _ _ _ _ _ _ us hl => match us, hl with | [_, _], _ => rfl)
    d_settled := defT_mk (PySem.W.mg_of X G a14) l14 c14 k14 (fun _ _ _ _ _ _ us hl => match us, hl with | [_], _ => rfl)
    d_ascending := defT_mk (PySem.W.mg_of X G a15) l15 c15 k15 (fun _ _ _ _ _ _ us hl => match us, hl with | [_], _ => rfl)
    d_closure_within := defT_mk (PySem.W.mg_of X G a16) l16 c16 k16 (fun _ _ _ _ _ _ us hl => match us, hl with | [_, _], _ => rfl)
    d_check_closed := defT_mk (PySem.W.mg_of X G a17) l17 c17 k17 (fun _ _ _ _ _ _ us hl => match us, hl with | [_], _ => rfl)
    d_Group_init := init_mk (by decide +kernel) (PySem.W.mg_of X G aC_Group) aC_Group cl_Group oz_Group ok_Group a18 pi18 l18 c18 k18 (fun _ _ _ _ _ _ us hl => match us, hl with | [_, _], _ => rfl)
    d_Group_movements := prop_mk (by decide +kernel) aC_Group cl_Group a19 pg19 pt19 ar19 l19 c19 k19 (fun _ _ _ _ _ _ us hl => match us, hl with | [_], _ => rfl)
    d_least_part := defT_mk (PySem.W.mg_of X G a20) l20 c20 k20 (fun _ _ _ _ _ _ us hl => match us, hl with | [_], _ => rfl)
    d_own_basis := defT_mk (PySem.W.mg_of X G a21) l21 c21 k21 (fun _ _ _ _ _ _ us hl => match us, hl with | [_], _ => rfl)
    d_in_basis := defT_mk (PySem.W.mg_of X G a22) l22 c22 k22 (fun _ _ _ _ _ _ us hl => match us, hl with | [_, _], _ => rfl)
    d_told_in := defT_mk (PySem.W.mg_of X G a23) l23 c23 k23 (fun _ _ _ _ _ _ us hl => match us, hl with | [_, _], _ => rfl)
    d__law_cell := defT_mk (PySem.W.mg_of X G a24) l24 c24 k24 (fun _ _ _ _ _ _ us hl => match us, hl with | [_, _], _ => rfl)
    d__law_numbers := defT_mk (PySem.W.mg_of X G a25) l25 c25 k25 (fun _ _ _ _ _ _ us hl => match us, hl with | [_, _], _ => rfl)
    d__law_same := defT_mk (PySem.W.mg_of X G a26) l26 c26 k26 (fun _ _ _ _ _ _ us hl => match us, hl with | [_, _], _ => rfl)
    d__law_gcd := defT_mk (PySem.W.mg_of X G a27) l27 c27 k27 (fun _ _ _ _ _ _ us hl => match us, hl with | [_, _], _ => rfl)
    d__law_frac := defT_mk (PySem.W.mg_of X G a28) l28 c28 k28 (fun _ _ _ _ _ _ us hl => match us, hl with | [_, _], _ => rfl)
    d__law_add := defT_mk (PySem.W.mg_of X G a29) l29 c29 k29 (fun _ _ _ _ _ _ us hl => match us, hl with | [_, _], _ => rfl)
    d__law_sub := defT_mk (PySem.W.mg_of X G a30) l30 c30 k30 (fun _ _ _ _ _ _ us hl => match us, hl with | [_, _], _ => rfl)
    d__law_mul := defT_mk (PySem.W.mg_of X G a31) l31 c31 k31 (fun _ _ _ _ _ _ us hl => match us, hl with | [_, _], _ => rfl)
    d__law_less := defT_mk (PySem.W.mg_of X G a32) l32 c32 k32 (fun _ _ _ _ _ _ us hl => match us, hl with | [_, _], _ => rfl)
    d__law_rest := defT_mk (PySem.W.mg_of X G a33) l33 c33 k33 (fun _ _ _ _ _ _ us hl => match us, hl with | [_], _ => rfl)
    d__law_identity := defT_mk (PySem.W.mg_of X G a34) l34 c34 k34 (fun _ _ _ _ _ _ us hl => match us, hl with | [], _ => rfl)
    d__law_det := defT_mk (PySem.W.mg_of X G a35) l35 c35 k35 (fun _ _ _ _ _ _ us hl => match us, hl with | [_], _ => rfl)
    d__law_led := defT_mk (PySem.W.mg_of X G a36) l36 c36 k36 (fun _ _ _ _ _ _ us hl => match us, hl with | [_, _], _ => rfl)
    d__law_moved := defT_mk (PySem.W.mg_of X G a37) l37 c37 k37 (fun _ _ _ _ _ _ us hl => match us, hl with | [_, _], _ => rfl)
    d__law_product := defT_mk (PySem.W.mg_of X G a38) l38 c38 k38 (fun _ _ _ _ _ _ us hl => match us, hl with | [_, _], _ => rfl)
    d__law_then := defT_mk (PySem.W.mg_of X G a39) l39 c39 k39 (fun _ _ _ _ _ _ us hl => match us, hl with | [_, _], _ => rfl)
    d__law_back := defT_mk (PySem.W.mg_of X G a40) l40 c40 k40 (fun _ _ _ _ _ _ us hl => match us, hl with | [_], _ => rfl)
    d__law_settled := defT_mk (PySem.W.mg_of X G a41) l41 c41 k41 (fun _ _ _ _ _ _ us hl => match us, hl with | [_], _ => rfl)
    d__law_closed := defT_mk (PySem.W.mg_of X G a42) l42 c42 k42 (fun _ _ _ _ _ _ us hl => match us, hl with | [_, _], _ => rfl)
    d__law_multiple := defT_mk (PySem.W.mg_of X G a43) l43 c43 k43 (fun _ _ _ _ _ _ us hl => match us, hl with | [_], _ => rfl)
    d__law_sorted := defT_mk (PySem.W.mg_of X G a44) l44 c44 k44 (fun _ _ _ _ _ _ us hl => match us, hl with | [_], _ => rfl)
    d__law_axes := defT_mk (PySem.W.mg_of X G a45) l45 c45 k45 (fun _ _ _ _ _ _ us hl => match us, hl with | [_], _ => rfl)
    d__law_shift := defT_mk (PySem.W.mg_of X G a46) l46 c46 k46 (fun _ _ _ _ _ _ us hl => match us, hl with | [_, _], _ => rfl)
    d__law_change := defT_mk (PySem.W.mg_of X G a47) l47 c47 k47 (fun _ _ _ _ _ _ us hl => match us, hl with | [_], _ => rfl)
    d__law_steps := defT_mk (PySem.W.mg_of X G a48) l48 c48 k48 (fun _ _ _ _ _ _ us hl => match us, hl with | [_], _ => rfl)
    d__law_plain_group := defT_mk (PySem.W.mg_of X G a49) l49 c49 k49 (fun _ _ _ _ _ _ us hl => match us, hl with | [_], _ => rfl)
    d__law_changed := defT_mk (PySem.W.mg_of X G a50) l50 c50 k50 (fun _ _ _ _ _ _ us hl => match us, hl with | [_, _], _ => rfl)
    d__law_group := defT_mk (PySem.W.mg_of X G a51) l51 c51 k51 (fun _ _ _ _ _ _ us hl => match us, hl with | [_], _ => rfl)
    d__law_shifted := defT_mk (PySem.W.mg_of X G a52) l52 c52 k52 (fun _ _ _ _ _ _ us hl => match us, hl with | [_, _, _], _ => rfl)
    d__law_fine := defT_mk (PySem.W.mg_of X G a53) l53 c53 k53 (fun _ _ _ _ _ _ us hl => match us, hl with | [_, _], _ => rfl)
    d__law_basis := defT_mk (PySem.W.mg_of X G a54) l54 c54 k54 (fun _ _ _ _ _ _ us hl => match us, hl with | [_], _ => rfl)
    d__law_parts := defT_mk (PySem.W.mg_of X G a55) l55 c55 k55 (fun _ _ _ _ _ _ us hl => match us, hl with | [_, _], _ => rfl)
    d_law := defT_mk (PySem.W.mg_of X G a56) l56 c56 k56 (fun _ _ _ _ _ _ us hl => match us, hl with | [_], _ => rfl)
    m_abs := PySem.W.mg_none_of X G z0
    m_any := PySem.W.mg_none_of X G z1
    m_bool := PySem.W.mg_none_of X G z2
    m_int := PySem.W.mg_none_of X G z3
    m_isinstance := PySem.W.mg_none_of X G z4
    m_len := PySem.W.mg_none_of X G z5
    m_list := PySem.W.mg_none_of X G z6
    m_range := PySem.W.mg_none_of X G z7
    m_sorted := PySem.W.mg_none_of X G z8
    m_str := PySem.W.mg_none_of X G z9
    m_tuple := PySem.W.mg_none_of X G z10
    k_Group := cls_mk (PySem.W.mg_of X G aC_Group) aC_Group cl_Group ok_Group ob_Group on_Group ot_Group om_Group
    o_Group := ⟨CGroup, PySem.W.mg_of X G aC_Group, nf_mk aC_Group of_Group, kt_mk (PySem.W.mg_of X G aC_Group) oq_Group⟩
    a_Group__movements := at_mk aC_Group oa_Group__movements
    a_Group__held := at_mk aC_Group oa_Group__held
    nf_Group_list := nf_mk aC_Group nf_Group_list
    kt_list_Group := kt_mk (PySem.W.mg_of X G aC_Group) sk_list_Group
    c_ZERO := ⟨(.ref k_ZERO), _, PySem.W.mg_of X G aK_ZERO, rfl, ((rep_ktup (xs := [.int 0, .int 1]) lk_ZERO (small_ok rfl) (.cons ⟨_, rfl⟩ (.cons ⟨_, rfl⟩ .nil)) (fun G => (.cons ((fun _ => Rep.int _) G) (.cons ((fun _ => Rep.int _) G) .nil)))))⟩
    c_ONE := ⟨(.ref k_ONE), _, PySem.W.mg_of X G aK_ONE, rfl, ((rep_ktup (xs := [.int 1, .int 1]) lk_ONE (small_ok rfl) (.cons ⟨_, rfl⟩ (.cons ⟨_, rfl⟩ .nil)) (fun G => (.cons ((fun _ => Rep.int _) G) (.cons ((fun _ => Rep.int _) G) .nil)))))⟩
    c_IDENTITY := ⟨(.ref k_IDENTITY), _, PySem.W.mg_of X G aK_IDENTITY, rfl, ((rep_ktup (xs := [.int 1, .int 0, .int 0, .int 1, .ref k_IDENTITY_4, .ref k_IDENTITY_5]) lk_IDENTITY (small_ok rfl) (.cons ⟨_, rfl⟩ (.cons ⟨_, rfl⟩ (.cons ⟨_, rfl⟩ (.cons ⟨_, rfl⟩ (.cons rfl (.cons rfl .nil)))))) (fun G => (.cons ((fun _ => Rep.int _) G) (.cons ((fun _ => Rep.int _) G) (.cons ((fun _ => Rep.int _) G) (.cons ((fun _ => Rep.int _) G) (.cons ((rep_ktup (xs := [.int 0, .int 1]) lk_IDENTITY_4 (small_ok rfl) (.cons ⟨_, rfl⟩ (.cons ⟨_, rfl⟩ .nil)) (fun G => (.cons ((fun _ => Rep.int _) G) (.cons ((fun _ => Rep.int _) G) .nil)))) G) (.cons ((rep_ktup (xs := [.int 0, .int 1]) lk_IDENTITY_5 (small_ok rfl) (.cons ⟨_, rfl⟩ (.cons ⟨_, rfl⟩ .nil)) (fun G => (.cons ((fun _ => Rep.int _) G) (.cons ((fun _ => Rep.int _) G) .nil)))) G) .nil)))))))))⟩
    x_NotGroup := ⟨CNotGroup, PySem.W.mg_of X G aC_NotGroup, xx_NotGroup, xk_NotGroup, xb_NotGroup, xt_NotGroup, ⟨xg_NotGroup, xh_NotGroup, xb_NotGroup, xd_NotGroup, xa_NotGroup, xn_NotGroup, xT_NotGroup, xm_NotGroup⟩⟩
    x_HasShifts := ⟨CHasShifts, PySem.W.mg_of X G aC_HasShifts, xx_HasShifts, xk_HasShifts, xb_HasShifts, xt_HasShifts, ⟨xg_HasShifts, xh_HasShifts, xb_HasShifts, xd_HasShifts, xa_HasShifts, xn_HasShifts, xT_HasShifts, xm_HasShifts⟩⟩
  }
  have mnd' : (TbT.T.map (·.1)).Nodup := mnd
  refine law_finT [(cr15, pr15), (cr44, pr44)] (by intro p hp; have hp' : p ∈ ([(pr15, ((("ascending" : Str) ++ ".<locals>.") ++ "<lambda>")), (pr44, ((("_law_sorted" : Str) ++ ".<locals>.") ++ "<lambda>"))] : List (Addr × Str)) := hp; simp only [List.mem_cons, List.not_mem_nil, or_false] at hp'; rcases hp' with rfl | rfl <;> first | exact ⟨(cr15, pr15), by simp, rfl⟩ | exact ⟨(cr44, pr44), by simp, rfl⟩) (by intro p hp; simp only [List.mem_cons, List.not_mem_nil, or_false] at hp; rcases hp with rfl | rfl <;> first | exact mt15 | exact mt44) (by intro p hp; simp only [List.mem_cons, List.not_mem_nil, or_false] at hp; rcases hp with rfl | rfl <;> first | exact mn15 | exact mn44) (by intro p hp; simp only [List.mem_cons, List.not_mem_nil, or_false] at hp; rcases hp with rfl | rfl <;> first | exact PySem.W.codeHd_of_K X mh15 | exact PySem.W.codeHd_of_K X mh44) hfa T.d_law (fun f fd F s u => F.bindsA (ps := ["script"]) (fun _ _ _ _ _ _ us hl => match us, hl with | [_], _ => rfl) s [u] rfl) fun base hK hN hTab f fd F => ?_
  have M_ascending : MakT K mg base "ascending" := mak_mk (PySem.W.mg_of X G a15) l15 (code_mk (hTab (cr15, pr15) (by simp)) (by show _ ∈ [(pr15, ((("ascending" : Str) ++ ".<locals>.") ++ "<lambda>")), (pr44, ((("_law_sorted" : Str) ++ ".<locals>.") ++ "<lambda>"))]; simp) mnd')
  have M__law_sorted : MakT K mg base "_law_sorted" := mak_mk (PySem.W.mg_of X G a44) l44 (code_mk (hTab (cr44, pr44) (by simp)) (by show _ ∈ [(pr15, ((("ascending" : Str) ++ ".<locals>.") ++ "<lambda>")), (pr44, ((("_law_sorted" : Str) ++ ".<locals>.") ++ "<lambda>"))]; simp) mnd')
  have C_Group_movements := cal_Group_movements (P := l.prog) (w := w) (base := base) T 
  have C__law_less := cal__law_less (P := l.prog) (w := w) (base := base) T 
  have C__law_rest := cal__law_rest (P := l.prog) (w := w) (base := base) T 
  have C__law_gcd := cal__law_gcd (P := l.prog) (w := w) (base := base) T 
  have C__law_frac := cal__law_frac (P := l.prog) (w := w) (base := base) T C__law_gcd
  have C__law_sub := cal__law_sub (P := l.prog) (w := w) (base := base) T C__law_frac
  have C__law_basis := cal__law_basis (P := l.prog) (w := w) (base := base) T C__law_less C__law_rest C__law_sub
  have C__law_cell := cal__law_cell (P := l.prog) (w := w) (base := base) T 
  have C__law_identity := cal__law_identity (P := l.prog) (w := w) (base := base) T 
  have C__law_settled := cal__law_settled (P := l.prog) (w := w) (base := base) T C__law_rest
  have C__law_add := cal__law_add (P := l.prog) (w := w) (base := base) T C__law_frac
  have C__law_mul := cal__law_mul (P := l.prog) (w := w) (base := base) T C__law_frac
  have C__law_led := cal__law_led (P := l.prog) (w := w) (base := base) T C__law_add C__law_mul
  have C__law_moved := cal__law_moved (P := l.prog) (w := w) (base := base) T C__law_add C__law_led
  have C__law_product := cal__law_product (P := l.prog) (w := w) (base := base) T 
  have C__law_then := cal__law_then (P := l.prog) (w := w) (base := base) T C__law_moved C__law_product
  have C__law_closed := cal__law_closed (P := l.prog) (w := w) (base := base) T C__law_identity C__law_settled C__law_then
  have C__law_axes := cal__law_axes (P := l.prog) (w := w) (base := base) T 
  have C__law_det := cal__law_det (P := l.prog) (w := w) (base := base) T 
  have C__law_back := cal__law_back (P := l.prog) (w := w) (base := base) T C__law_det C__law_led
  have C__law_shifted := cal__law_shifted (P := l.prog) (w := w) (base := base) T C__law_add
  have C__law_steps := cal__law_steps (P := l.prog) (w := w) (base := base) T 
  have C__law_fine := cal__law_fine (P := l.prog) (w := w) (base := base) T C__law_axes C__law_back C__law_frac C__law_shifted C__law_steps C__law_then
  have C__law_shift := cal__law_shift (P := l.prog) (w := w) (base := base) T C__law_frac
  have C__law_change := cal__law_change (P := l.prog) (w := w) (base := base) T C__law_axes C__law_shift
  have C__law_multiple := cal__law_multiple (P := l.prog) (w := w) (base := base) T C__law_gcd
  have C__law_sorted := cal__law_sorted (P := l.prog) (w := w) (base := base) T M__law_sorted C__law_multiple
  have C__law_changed := cal__law_changed (P := l.prog) (w := w) (base := base) T C__law_back C__law_settled C__law_sorted C__law_then
  have C__law_plain_group := cal__law_plain_group (P := l.prog) (w := w) (base := base) T C__law_closed C__law_identity C__law_steps
  have C__law_group := cal__law_group (P := l.prog) (w := w) (base := base) T C__law_change C__law_changed C__law_plain_group
  have C__law_numbers := cal__law_numbers (P := l.prog) (w := w) (base := base) T 
  have C__law_parts := cal__law_parts (P := l.prog) (w := w) (base := base) T C__law_frac C__law_mul C__law_sub
  have C__law_same := cal__law_same (P := l.prog) (w := w) (base := base) T 
  have C_less := cal_less (P := l.prog) (w := w) (base := base) T 
  have C_least_part := cal_least_part (P := l.prog) (w := w) (base := base) T C_less
  have C_common_divisor := cal_common_divisor (P := l.prog) (w := w) (base := base) T 
  have C_fraction_1 := cal_fraction_1 (P := l.prog) (w := w) (base := base) T C_common_divisor
  have C_fraction := cal_fraction (P := l.prog) (w := w) (base := base) T C_common_divisor
  have C_minus := cal_minus (P := l.prog) (w := w) (base := base) T C_fraction
  have C_rest := cal_rest (P := l.prog) (w := w) (base := base) T 
  have C_own_basis := cal_own_basis (P := l.prog) (w := w) (base := base) T C_least_part C_less C_minus C_rest
  have C_common_multiple := cal_common_multiple (P := l.prog) (w := w) (base := base) T C_common_divisor
  have C_scaled := cal_scaled (P := l.prog) (w := w) (base := base) T 
  have C_ascending := cal_ascending (P := l.prog) (w := w) (base := base) T M_ascending C_common_multiple C_scaled
  have C_settled := cal_settled (P := l.prog) (w := w) (base := base) T C_rest
  have C_led := cal_led (P := l.prog) (w := w) (base := base) T C_fraction
  have C_plus := cal_plus (P := l.prog) (w := w) (base := base) T C_fraction
  have C_moved := cal_moved (P := l.prog) (w := w) (base := base) T C_led C_plus
  have C_product := cal_product (P := l.prog) (w := w) (base := base) T 
  have C_then := cal_then (P := l.prog) (w := w) (base := base) T C_moved C_product
  have C_closure_within := cal_closure_within (P := l.prog) (w := w) (base := base) T C_settled C_then
  have C_check_closed := cal_check_closed (P := l.prog) (w := w) (base := base) T C_closure_within
  have C_Group_init := cal_Group_init (P := l.prog) (w := w) (base := base) T C_ascending C_check_closed C_settled
  have C_divided := cal_divided (P := l.prog) (w := w) (base := base) T C_fraction
  have C_times := cal_times (P := l.prog) (w := w) (base := base) T C_fraction
  have C_in_basis := cal_in_basis (P := l.prog) (w := w) (base := base) T C_divided C_minus C_times
  have C_told_in := cal_told_in (P := l.prog) (w := w) (base := base) T C_Group_init C_fraction_1 C_in_basis C_plus C_times
  exact TG.FunD.okD F (k := 11) sc_law (fun ds Q h => by obtain ⟨x, rfl, _⟩ := h; rfl) fun f cdv A outer s H hr ds Q hS => body_law T C_Group_movements C__law_basis C__law_cell C__law_closed C__law_fine C__law_group C__law_led C__law_numbers C__law_parts C__law_same C__law_settled C__law_sorted C_own_basis C_told_in hr ds Q hS
end My
open PySem PySem.W PyProof.Rows
set_option maxHeartbeats 0 in
theorem PySem.Challenge.cw_tilesglued_k05_own_bases_holds : PySem.Challenge.rw_tilesglued_k05_own_bases.Holds := by
  w_on; o_law; k_head; (case hw => w_witness2)
  k_fill
  refine LamX.walk_ofTs (l := PySem.Challenge.rw_tilesglued_k05_own_bases) (n := 63) (k := 12) (x := "script") (CX := fun _ => L2.CX0) rfl (by decide) rfl ⟨rfl, by decide, by decide⟩ (fun w h Y => PySem.W.km_in_of Y) ?F (fun _ _ _ _ _ h => h)
  case F =>
    intro w mg fa h Y KX G hmg
    have hT8 := PySem.W.km_tabs_of Y
    refine' My.all_mk KX G hmg ?lk_ZERO ?aK_ZERO ?lk_ONE ?aK_ONE ?lk_IDENTITY_4 ?lk_IDENTITY_5 ?lk_IDENTITY ?aK_IDENTITY ?aC_Group ?aC_NotGroup ?xb_NotGroup ?xd_NotGroup ?xt_NotGroup ?xx_NotGroup ?xk_NotGroup ?xg_NotGroup ?xh_NotGroup ?xa_NotGroup ?xn_NotGroup ?xT_NotGroup ?xm_NotGroup ?aC_HasShifts ?xb_HasShifts ?xd_HasShifts ?xt_HasShifts ?xx_HasShifts ?xk_HasShifts ?xg_HasShifts ?xh_HasShifts ?xa_HasShifts ?xn_HasShifts ?xT_HasShifts ?xm_HasShifts ?a0 ?l0 ?c0 ?k0 ?a1 ?l1 ?t1 ?c1 ?k1 ?a2 ?l2 ?c2 ?k2 ?a3 ?l3 ?c3 ?k3 ?a4 ?l4 ?c4 ?k4 ?a5 ?l5 ?c5 ?k5 ?a6 ?l6 ?c6 ?k6 ?a7 ?l7 ?c7 ?k7 ?a8 ?l8 ?c8 ?k8 ?a9 ?l9 ?c9 ?k9 ?a10 ?l10 ?c10 ?k10 ?a11 ?l11 ?c11 ?k11 ?a12 ?l12 ?c12 ?k12 ?a13 ?l13 ?c13 ?k13 ?a14 ?l14 ?c14 ?k14 ?a15 ?l15 ?c15 ?k15 ?lm15 ?lp15 ?mh15 ?mn15 ?mt15 ?a16 ?l16 ?c16 ?k16 ?a17 ?l17 ?c17 ?k17 ?a18 ?pi18 ?l18 ?c18 ?k18 ?a19 ?pg19 ?pt19 ?ar19 ?l19 ?c19 ?k19 ?a20 ?l20 ?c20 ?k20 ?a21 ?l21 ?c21 ?k21 ?a22 ?l22 ?c22 ?k22 ?a23 ?l23 ?c23 ?k23 ?a24 ?l24 ?c24 ?k24 ?a25 ?l25 ?c25 ?k25 ?a26 ?l26 ?c26 ?k26 ?a27 ?l27 ?c27 ?k27 ?a28 ?l28 ?c28 ?k28 ?a29 ?l29 ?c29 ?k29 ?a30 ?l30 ?c30 ?k30 ?a31 ?l31 ?c31 ?k31 ?a32 ?l32 ?c32 ?k32 ?a33 ?l33 ?c33 ?k33 ?a34 ?l34 ?c34 ?k34 ?a35 ?l35 ?c35 ?k35 ?a36 ?l36 ?c36 ?k36 ?a37 ?l37 ?c37 ?k37 ?a38 ?l38 ?c38 ?k38 ?a39 ?l39 ?c39 ?k39 ?a40 ?l40 ?c40 ?k40 ?a41 ?l41 ?c41 ?k41 ?a42 ?l42 ?c42 ?k42 ?a43 ?l43 ?c43 ?k43 ?a44 ?l44 ?c44 ?k44 ?lm44 ?lp44 ?mh44 ?mn44 ?mt44 ?a45 ?l45 ?c45 ?k45 ?a46 ?l46 ?c46 ?k46 ?a47 ?l47 ?c47 ?k47 ?a48 ?l48 ?c48 ?k48 ?a49 ?l49 ?c49 ?k49 ?a50 ?l50 ?c50 ?k50 ?a51 ?l51 ?c51 ?k51 ?a52 ?l52 ?c52 ?k52 ?a53 ?l53 ?c53 ?k53 ?a54 ?l54 ?c54 ?k54 ?a55 ?l55 ?c55 ?k55 ?a56 ?l56 ?c56 ?k56 ?z0 ?z1 ?z2 ?z3 ?z4 ?z5 ?z6 ?z7 ?z8 ?z9 ?z10 ?og_Group ?od_Group ?oo_Group ?os_Group ?ok_Group ?ob_Group ?on_Group ?ot_Group ?om_Group ?oz_Group ?of_Group ?oq_Group ?oa_Group__movements ?oa_Group__held ?nf_Group_list ?sk_list_Group ?mnd
    (case aK_ZERO => k_is)
    (case aK_ONE => k_is)
    (case aK_IDENTITY => k_is)
    (case aC_Group => k_is)
    (case aC_NotGroup => k_is)
    (case aC_HasShifts => k_is)
    (case a0 => k_is)
    (case a1 => k_is)
    (case a2 => k_is)
    (case a3 => k_is)
    (case a4 => k_is)
    (case a5 => k_is)
    (case a6 => k_is)
    (case a7 => k_is)
    (case a8 => k_is)
    (case a9 => k_is)
    (case a10 => k_is)
    (case a11 => k_is)
    (case a12 => k_is)
    (case a13 => k_is)
    (case a14 => k_is)
    (case a15 => k_is)
    (case a16 => k_is)
    (case a17 => k_is)
    (case a18 => k_is)
    (case a19 => k_is)
    (case a20 => k_is)
    (case a21 => k_is)
    (case a22 => k_is)
    (case a23 => k_is)
    (case a24 => k_is)
    (case a25 => k_is)
    (case a26 => k_is)
    (case a27 => k_is)
    (case a28 => k_is)
    (case a29 => k_is)
    (case a30 => k_is)
    (case a31 => k_is)
    (case a32 => k_is)
    (case a33 => k_is)
    (case a34 => k_is)
    (case a35 => k_is)
    (case a36 => k_is)
    (case a37 => k_is)
    (case a38 => k_is)
    (case a39 => k_is)
    (case a40 => k_is)
    (case a41 => k_is)
    (case a42 => k_is)
    (case a43 => k_is)
    (case a44 => k_is)
    (case a45 => k_is)
    (case a46 => k_is)
    (case a47 => k_is)
    (case a48 => k_is)
    (case a49 => k_is)
    (case a50 => k_is)
    (case a51 => k_is)
    (case a52 => k_is)
    (case a53 => k_is)
    (case a54 => k_is)
    (case a55 => k_is)
    (case a56 => k_is)
    (case ar19 => k_is)
    (case l0 => k_is)
    (case l1 => k_is)
    (case l2 => k_is)
    (case l3 => k_is)
    (case l4 => k_is)
    (case l5 => k_is)
    (case l6 => k_is)
    (case l7 => k_is)
    (case l8 => k_is)
    (case l9 => k_is)
    (case l10 => k_is)
    (case l11 => k_is)
    (case l12 => k_is)
    (case l13 => k_is)
    (case l14 => k_is)
    (case l15 => k_is)
    (case l16 => k_is)
    (case l17 => k_is)
    (case l18 => k_is)
    (case l19 => k_is)
    (case l20 => k_is)
    (case l21 => k_is)
    (case l22 => k_is)
    (case l23 => k_is)
    (case l24 => k_is)
    (case l25 => k_is)
    (case l26 => k_is)
    (case l27 => k_is)
    (case l28 => k_is)
    (case l29 => k_is)
    (case l30 => k_is)
    (case l31 => k_is)
    (case l32 => k_is)
    (case l33 => k_is)
    (case l34 => k_is)
    (case l35 => k_is)
    (case l36 => k_is)
    (case l37 => k_is)
    (case l38 => k_is)
    (case l39 => k_is)
    (case l40 => k_is)
    (case l41 => k_is)
    (case l42 => k_is)
    (case l43 => k_is)
    (case l44 => k_is)
    (case l45 => k_is)
    (case l46 => k_is)
    (case l47 => k_is)
    (case l48 => k_is)
    (case l49 => k_is)
    (case l50 => k_is)
    (case l51 => k_is)
    (case l52 => k_is)
    (case l53 => k_is)
    (case l54 => k_is)
    (case l55 => k_is)
    (case l56 => k_is)
    (case lk_ZERO => k_is)
    (case lk_ONE => k_is)
    (case lk_IDENTITY => k_is)
    (case lk_IDENTITY_4 => k_is)
    (case lk_IDENTITY_5 => k_is)
    (case lm15 => k_is)
    (case lm44 => k_is)
    (case lp15 => rfl)
    (case lp44 => rfl)
    (case t1 => k_is)
    (case xb_NotGroup => k_is)
    (case xd_NotGroup => k_is)
    (case xt_NotGroup => k_is)
    (case xx_NotGroup => k_exc)
    (case xk_NotGroup => k_is)
    (case xg_NotGroup => k_is)
    (case xh_NotGroup => k_is)
    (case xa_NotGroup => k_is)
    (case xn_NotGroup => k_is)
    (case xT_NotGroup => k_is)
    (case xm_NotGroup => k_is)
    (case xb_HasShifts => k_is)
    (case xd_HasShifts => k_is)
    (case xt_HasShifts => k_is)
    (case xx_HasShifts => k_exc)
    (case xk_HasShifts => k_is)
    (case xg_HasShifts => k_is)
    (case xh_HasShifts => k_is)
    (case xa_HasShifts => k_is)
    (case xn_HasShifts => k_is)
    (case xT_HasShifts => k_is)
    (case xm_HasShifts => k_is)
    (case c0 => k_is)
    (case k0 => k_is)
    (case c1 => k_is)
    (case k1 => k_is)
    (case c2 => k_is)
    (case k2 => k_is)
    (case c3 => k_is)
    (case k3 => k_is)
    (case c4 => k_is)
    (case k4 => k_is)
    (case c5 => k_is)
    (case k5 => k_is)
    (case c6 => k_is)
    (case k6 => k_is)
    (case c7 => k_is)
    (case k7 => k_is)
    (case c8 => k_is)
    (case k8 => k_is)
    (case c9 => k_is)
    (case k9 => k_is)
    (case c10 => k_is)
    (case k10 => k_is)
    (case c11 => k_is)
    (case k11 => k_is)
    (case c12 => k_is)
    (case k12 => k_is)
    (case c13 => k_is)
    (case k13 => k_is)
    (case c14 => k_is)
    (case k14 => k_is)
    (case c15 => k_is)
    (case k15 => k_is)
    (case mh15 => first | k_is | kernel_rfl)
    (case mn15 => first | k_is | kernel_rfl)
    (case mt15 => exact hT8 _ (by k_mem))
    (case c16 => k_is)
    (case k16 => k_is)
    (case c17 => k_is)
    (case k17 => k_is)
    (case pi18 => k_is)
    (case c18 => k_is)
    (case k18 => k_is)
    (case pg19 => k_is)
    (case pt19 => k_is)
    (case c19 => k_is)
    (case k19 => k_is)
    (case c20 => k_is)
    (case k20 => k_is)
    (case c21 => k_is)
    (case k21 => k_is)
    (case c22 => k_is)
    (case k22 => k_is)
    (case c23 => k_is)
    (case k23 => k_is)
    (case c24 => k_is)
    (case k24 => k_is)
    (case c25 => k_is)
    (case k25 => k_is)
    (case c26 => k_is)
    (case k26 => k_is)
    (case c27 => k_is)
    (case k27 => k_is)
    (case c28 => k_is)
    (case k28 => k_is)
    (case c29 => k_is)
    (case k29 => k_is)
    (case c30 => k_is)
    (case k30 => k_is)
    (case c31 => k_is)
    (case k31 => k_is)
    (case c32 => k_is)
    (case k32 => k_is)
    (case c33 => k_is)
    (case k33 => k_is)
    (case c34 => k_is)
    (case k34 => k_is)
    (case c35 => k_is)
    (case k35 => k_is)
    (case c36 => k_is)
    (case k36 => k_is)
    (case c37 => k_is)
    (case k37 => k_is)
    (case c38 => k_is)
    (case k38 => k_is)
    (case c39 => k_is)
    (case k39 => k_is)
    (case c40 => k_is)
    (case k40 => k_is)
    (case c41 => k_is)
    (case k41 => k_is)
    (case c42 => k_is)
    (case k42 => k_is)
    (case c43 => k_is)
    (case k43 => k_is)
    (case c44 => k_is)
    (case k44 => k_is)
    (case mh44 => first | k_is | kernel_rfl)
    (case mn44 => first | k_is | kernel_rfl)
    (case mt44 => exact hT8 _ (by k_mem))
    (case c45 => k_is)
    (case k45 => k_is)
    (case c46 => k_is)
    (case k46 => k_is)
    (case c47 => k_is)
    (case k47 => k_is)
    (case c48 => k_is)
    (case k48 => k_is)
    (case c49 => k_is)
    (case k49 => k_is)
    (case c50 => k_is)
    (case k50 => k_is)
    (case c51 => k_is)
    (case k51 => k_is)
    (case c52 => k_is)
    (case k52 => k_is)
    (case c53 => k_is)
    (case k53 => k_is)
    (case c54 => k_is)
    (case k54 => k_is)
    (case c55 => k_is)
    (case k55 => k_is)
    (case c56 => k_is)
    (case k56 => k_is)
    (case z0 => k_is)
    (case z1 => k_is)
    (case z2 => k_is)
    (case z3 => k_is)
    (case z4 => k_is)
    (case z5 => k_is)
    (case z6 => k_is)
    (case z7 => k_is)
    (case z8 => k_is)
    (case z9 => k_is)
    (case z10 => k_is)
    (case og_Group => k_is)
    (case od_Group => k_is)
    (case oo_Group => k_is)
    (case os_Group => k_is)
    (case ok_Group => k_is)
    (case ob_Group => k_is)
    (case on_Group => k_is)
    (case ot_Group => k_is)
    (case om_Group => k_is)
    (case oz_Group => k_is)
    (case of_Group => k_is)
    (case oq_Group => first | k_is | rfl)
    (case oa_Group__movements => k_is)
    (case oa_Group__held => k_is)
    (case nf_Group_list => k_is)
    (case sk_list_Group => first | k_is | rfl)
    (case mnd => decide)
