import PyProof.Rows.All
import Wide.All
import OpenK.AllK
import Wide.FinOn
import HandS.ForMost
import HandS.HotCalls
import HandS.SortInts
import HandS.ExcIs
import HandS.Conv
import HandS.Walk
import HandS.Zip
import HandS.TupAny
import HandS.Deep
import HandS.Flow
import HandS.Rev
import HandS.RevRange
import HandS.DictComp
import HandS.Gcd
import HandS.SetFor
import HandS.Wide
import HandS.TupLe
import PyProof.ReprBulk
import PyProof.ReprRoads
import HandS.Style
import KE.KRevSl
import KE.DatumOrd
import PyProof.SumAny
import HandS.Star
import HandS.IsInst
import PyProof.CompUse
import KE.GoesEnum
import HandS.Iter
import HandS.TupMul
import KE.KDictPairs
import HandS.TupLen
import HandS.NamedTupSort
import KE.KDictSum
import HandS.Sort
import PySem.Challenge.RW_tiledtime_k33_rings_that_are_good
import HandS.SortKw
set_option Elab.async false
set_option linter.all false
set_option maxRecDepth 100000
set_option maxHeartbeats 4000000
/-! Pd: data by value over the hand layer: states whose slots hold data or lists owned by one name -/
namespace Pd
open PySem PySem.Spec PyProof.Rows L2
abbrev D := PyData
abbrev Frag := PySem.W.Frag
/-! ### what stands for a datum -/
mutual
inductive DR (K : Frag) (F : Hp) : V → D → Prop
  | non : DR K F .non .none
  | bl (b : Bool) : DR K F (.bl b) (.bool b)
  | int (i : Int) : DR K F (.int i) (.int i)
  | str (x : Str) : DR K F (.str x) (.str x)
  | lst {a : Addr} {xs : List V} {ds : List D} : F a = some (.lst xs) → xs.length ≤ sizeLine → DRs K F xs ds → DR K F (.ref a) (.list ds)
  | tup {a : Addr} {xs : List V} {ds : List D} : SqT K F a xs → xs.length ≤ sizeLine → DRs K F xs ds → DR K F (.ref a) (.tuple ds)
inductive DRs (K : Frag) (F : Hp) : List V → List D → Prop
  | nil : DRs K F [] []
  | cons {v : V} {vs : List V} {d : D} {ds : List D} : DR K F v d → DRs K F vs ds → DRs K F (v :: vs) (d :: ds)
end
/-- every object of F stands in F' as it is -/
def Le (F F' : Hp) : Prop := ∀ a o, F a = some o → F' a = some o
theorem Le.refl (F : Hp) : Le F F := fun _ _ h => h
theorem Le.trans {F G H : Hp} (a : Le F G) (b : Le G H) : Le F H := fun x o h => b x o (a x o h)
theorem Le.new {F : Hp} {p : Addr} {o : HO} (h : F p = none) : Le F (upd F p o) := fun a u e => by
  rw [upd_ne (ne_of_none e h)]
  exact e
theorem Le.fresh {F F' : Hp} (l : Le F F') {p : Addr} (h : F' p = none) : F p = none := by
  cases e : F p with
  | none => rfl
  | some o => rw [l p o e] at h; cases h
theorem le_rd {F F' : Hp} (l : Le F F') {a : Addr} {u : HO} (h : Rd F a u) : Rd F' a u := by
  rcases h with h | ⟨o, h⟩
  · exact .inl (l a _ h)
  · exact .inr ⟨o, l a _ h⟩
theorem le_t {K : Frag} {F F' : Hp} (l : Le F F') {a : Addr} {xs : List V} (h : SqT K F a xs) : SqT K F' a xs := h.imp (le_rd l) id
theorem le_l {K : Frag} {F F' : Hp} (l : Le F F') {a : Addr} {xs : List V} (h : SqL K F a xs) : SqL K F' a xs := h.imp (le_rd l) id
mutual
theorem DR.mono {K : Frag} {F F' : Hp} (l : Le F F') : ∀ {v : V} {d : D}, DR K F v d → DR K F' v d
  | _, _, .non => .non
  | _, _, .bl b => .bl b
  | _, _, .int i => .int i
  | _, _, .str x => .str x
  | _, _, .lst h z r => .lst (l _ _ h) z (DRs.mono l r)
  | _, _, .tup h z r => .tup (le_t l h) z (DRs.mono l r)
theorem DRs.mono {K : Frag} {F F' : Hp} (l : Le F F') : ∀ {vs : List V} {ds : List D}, DRs K F vs ds → DRs K F' vs ds
  | _, _, .nil => .nil
  | _, _, .cons r t => .cons (DR.mono l r) (DRs.mono l t)
end
mutual
theorem DR.dp {K : Frag} {F H : Hp} (l : Le F H) : ∀ {v : V} {d : D}, DR K F v d → Dp K H v d
  | _, _, .non => .non
  | _, _, .bl b => .bl b
  | _, _, .int i => .int i
  | _, _, .str x => .str x
  | _, _, .lst h z r => .lst (.of (l _ _ h)) (DRs.dp l r)
  | _, _, .tup h z r => .tup (le_t l h) (DRs.dp l r)
theorem DRs.dp {K : Frag} {F H : Hp} (l : Le F H) : ∀ {vs : List V} {ds : List D}, DRs K F vs ds → DpAll K H vs ds
  | _, _, .nil => .nil
  | _, _, .cons r t => .cons (DR.dp l r) (DRs.dp l t)
end
theorem DRs.length {K : Frag} {F : Hp} : ∀ {vs : List V} {ds : List D}, DRs K F vs ds → vs.length = ds.length
  | _, _, .nil => rfl
  | _, _, .cons _ t => congrArg (· + 1) (DRs.length t)
theorem DRs.append {K : Frag} {F : Hp} : ∀ {vs ws : List V} {ds es : List D}, DRs K F vs ds → DRs K F ws es → DRs K F (vs ++ ws) (ds ++ es)
  | _, _, _, _, .nil, s => s
  | _, _, _, _, .cons r t, s => .cons r (DRs.append t s)
theorem DRs.get {K : Frag} {F : Hp} : ∀ {vs : List V} {ds : List D} {i : Nat} {d : D}, DRs K F vs ds → ds[i]? = some d → ∃ v, vs[i]? = some v ∧ DR K F v d
  | _, _, _, _, .nil, e => by simp at e
  | _, _, 0, _, .cons r _, e => by simp at e; subst e; exact ⟨_, rfl, r⟩
  | _, _, i + 1, d, .cons _ t, e => by
    obtain ⟨v, h1, h2⟩ := DRs.get (i := i) (d := d) t (by simpa using e)
    exact ⟨v, by simpa using h1, h2⟩
theorem DRs.getV {K : Frag} {F : Hp} : ∀ {vs : List V} {ds : List D} {i : Nat} {v : V}, DRs K F vs ds → vs[i]? = some v → ∃ d, ds[i]? = some d ∧ DR K F v d
  | _, _, _, _, .nil, e => by simp at e
  | _, _, 0, _, .cons r _, e => by simp at e; subst e; exact ⟨_, rfl, r⟩
  | _, _, i + 1, d, .cons _ t, e => by
    obtain ⟨v, h1, h2⟩ := DRs.getV (i := i) t (by simpa using e)
    exact ⟨v, by simpa using h1, h2⟩
theorem DRs.take {K : Frag} {F : Hp} : ∀ {vs : List V} {ds : List D} (n : Nat), DRs K F vs ds → DRs K F (vs.take n) (ds.take n)
  | _, _, 0, _ => .nil
  | _, _, _ + 1, .nil => .nil
  | _, _, n + 1, .cons r t => .cons r (DRs.take n t)
theorem DRs.drop {K : Frag} {F : Hp} : ∀ {vs : List V} {ds : List D} (n : Nat), DRs K F vs ds → DRs K F (vs.drop n) (ds.drop n)
  | _, _, 0, r => r
  | _, _, _ + 1, .nil => .nil
  | _, _, n + 1, .cons _ t => DRs.drop n t
theorem DRs.dropLast {K : Frag} {F : Hp} {vs : List V} {ds : List D} (h : DRs K F vs ds) : DRs K F vs.dropLast ds.dropLast := by
  rw [List.dropLast_eq_take, List.dropLast_eq_take, h.length]
  exact h.take _
theorem DRs.set {K : Frag} {F : Hp} {v : V} {d : D} (r : DR K F v d) : ∀ {vs : List V} {ds : List D} (i : Nat), DRs K F vs ds → DRs K F (vs.set i v) (ds.set i d)
  | _, _, _, .nil => .nil
  | _, _, 0, .cons _ t => .cons r t
  | _, _, i + 1, .cons q t => .cons q (DRs.set r i t)
theorem DRs.eraseIdx {K : Frag} {F : Hp} : ∀ {vs : List V} {ds : List D} (i : Nat), DRs K F vs ds → DRs K F (vs.eraseIdx i) (ds.eraseIdx i)
  | _, _, _, .nil => .nil
  | _, _, 0, .cons _ t => t
  | _, _, i + 1, .cons q t => .cons q (DRs.eraseIdx i t)
theorem DRs.reverse {K : Frag} {F : Hp} : ∀ {vs : List V} {ds : List D}, DRs K F vs ds → DRs K F vs.reverse ds.reverse
  | _, _, .nil => .nil
  | _, _, .cons r t => by
    rw [List.reverse_cons, List.reverse_cons]
    exact (DRs.reverse t).append (.cons r .nil)
theorem DR.int_iff {K : Frag} {F : Hp} {v : V} {i : Int} (h : DR K F v (.int i)) : v = .int i := by cases h; rfl
theorem DR.bool_iff {K : Frag} {F : Hp} {v : V} {i : Bool} (h : DR K F v (.bool i)) : v = .bl i := by cases h; rfl
theorem DR.str_iff {K : Frag} {F : Hp} {v : V} {i : Str} (h : DR K F v (.str i)) : v = .str i := by cases h; rfl
theorem DR.none_iff {K : Frag} {F : Hp} {v : V} (h : DR K F v .none) : v = .non := by cases h; rfl
theorem DRs.ints {K : Frag} {F : Hp} : ∀ {ns : List Int} {vs : List V}, DRs K F vs (ns.map PyData.int) → vs = ns.map V.int
  | [], _, .nil => rfl
  | n :: ns, _, .cons r t => by rw [r.int_iff, DRs.ints t, List.map_cons]
theorem DRs.bools {K : Frag} {F : Hp} : ∀ {ns : List Bool} {vs : List V}, DRs K F vs (ns.map PyData.bool) → vs = ns.map V.bl
  | [], _, .nil => rfl
  | n :: ns, _, .cons r t => by rw [r.bool_iff, DRs.bools t, List.map_cons]
theorem DRs.of_ints {K : Frag} {F : Hp} : ∀ ns : List Int, DRs K F (ns.map V.int) (ns.map PyData.int)
  | [] => .nil
  | n :: ns => .cons (.int n) (DRs.of_ints ns)
theorem DRs.of_bools {K : Frag} {F : Hp} : ∀ ns : List Bool, DRs K F (ns.map V.bl) (ns.map PyData.bool)
  | [] => .nil
  | n :: ns => .cons (.bl n) (DRs.of_bools ns)
theorem DRs.strs {K : Frag} {F : Hp} : ∀ {ns : List Str} {vs : List V}, DRs K F vs (ns.map PyData.str) → vs = ns.map V.str
  | [], _, .nil => rfl
  | n :: ns, _, .cons r t => by rw [r.str_iff, DRs.strs t, List.map_cons]
theorem DRs.of_strs {K : Frag} {F : Hp} : ∀ ns : List Str, DRs K F (ns.map V.str) (ns.map PyData.str)
  | [] => .nil
  | n :: ns => .cons (.str n) (DRs.of_strs ns)
/-! ### slots -/
inductive Sl where
  /-- nothing is known of it -/
  | un
  /-- a datum -/
  | val (d : D)
  /-- a list that this name alone holds, at the address of a parameter or anywhere -/
  | lst (pin : Option Addr) (ds : List D)
  /-- the script -/
  | scr (ns : List Int)
  /-- a dict that this name alone holds: keys are ints and texts, or tuples of ints -/
  | dk (pin : Option Addr) (kvs : List (Key × D))
  | dt (pin : Option Addr) (kvs : List (List Int × D))
  /-- the object at a, whatever it is -/
  | obj (a : Addr)
abbrev Ev := List Sl
def Sl.own : Sl → Bool
  | .lst _ _ => true
  | .dk _ _ => true
  | .dt _ _ => true
  | _ => false
def KD {κ : Type} (K : Frag) (F : Hp) : List (κ × V) → List (κ × D) → Prop := Paired fun p q => p.1 = q.1 ∧ DR K F p.2 q.2
/-- a dict with keys that are tuples of ints: the key, its place, what stands there -/
def tkO (p : Addr) (xs : List (List Int × Addr × V)) : HO := .ext fun h => (p == sysModules) = false ∧ (xs.map (·.1)).Nodup ∧ ∃ (P : Program) (w : World) (its : List Value) (o : Obj) (es : Array DictEntry) (ep : Nat),
  Vals (xs.map (·.2.2)) its ∧ h.get? p = some o ∧ o.ExactDict ∧ o.data = .dict es ep ∧ es.toList = (xs.zip its).map fun q => entryOfKey (tupleKind (intKind P w)) (q.1.1, q.1.2.1, q.2)
def TD (K : Frag) (F : Hp) : List (List Int × Addr × V) → List (List Int × D) → Prop := Paired fun p q => p.1 = q.1 ∧ SqT K F p.2.1 (p.1.map V.int) ∧ DR K F p.2.2 q.2
/-- one slot holds; G what is to stay as it is, F what data may lean on, H the heap -/
def SlR (K : Frag) (G F H : Hp) (o : Option V) : Sl → Prop
  | .un => True
  | .obj a => o = some (.ref a)
  | .val d => ∃ v, o = some v ∧ DR K F v d
  | .lst pin ds => ∃ p vs, o = some (.ref p) ∧ (∀ q, pin = some q → p = q) ∧ H p = some (.lst vs) ∧ vs.length ≤ sizeLine ∧ DRs K F vs ds ∧ F p = none ∧ G p = none
  | .scr ns => ∃ a, o = some (.ref a) ∧ SqL K F a (ns.map V.int)
  | .dk pin kvs => ∃ p vs, o = some (.ref p) ∧ (∀ q, pin = some q → p = q) ∧ H p = some (.dK vs) ∧ vs.length ≤ sizeLine ∧ KD K F vs kvs ∧ F p = none ∧ G p = none
  | .dt pin kvs => ∃ p vs, o = some (.ref p) ∧ (∀ q, pin = some q → p = q) ∧ H p = some (tkO p vs) ∧ vs.length ≤ sizeLine ∧ TD K F vs kvs ∧ F p = none ∧ G p = none
abbrev gs (σ : L2.St) (i : Nat) : Option V := σ.getD i none
abbrev ge (e : Ev) (i : Nat) : Sl := e.getD i .un
/-- the state: the slots of σ hold what env says -/
structure St (K : Frag) (G F : Hp) (σ : L2.St) (H : Hp) (env : Ev) : Prop where
  kg : Le G H
  kf : Le F H
  ln : env.length ≤ σ.length
  sl : ∀ i, SlR K G F H (gs σ i) (ge env i)
  ap : ∀ i j a, i ≠ j → (ge env i).own = true → (ge env j).own = true → gs σ i = some (.ref a) → gs σ j ≠ some (.ref a)
/-- F has grown by objects that G does not know -/
structure Ext (G F F' : Hp) : Prop where
  le : Le F F'
  nw : ∀ a o, F' a = some o → F a = some o ∨ G a = none
theorem Ext.refl (G F : Hp) : Ext G F F := ⟨Le.refl F, fun _ _ h => .inl h⟩
theorem Ext.trans {G F F1 F2 : Hp} (a : Ext G F F1) (b : Ext G F1 F2) : Ext G F F2 := ⟨a.le.trans b.le, fun x o h => (b.nw x o h).elim (a.nw x o) .inr⟩
theorem KD.mono {κ : Type} {K : Frag} {F F' : Hp} (l : Le F F') {vs : List (κ × V)} {ds : List (κ × D)} (h : KD K F vs ds) : KD K F' vs ds := Paired.mapP h fun _ _ q => ⟨q.1, q.2.mono l⟩
theorem TD.mono {K : Frag} {F F' : Hp} (l : Le F F') {vs : List (List Int × Addr × V)} {ds : List (List Int × D)} (h : TD K F vs ds) : TD K F' vs ds := Paired.mapP h fun _ _ q => ⟨q.1, le_t l q.2.1, q.2.2.mono l⟩
end Pd
set_option Elab.async false
set_option linter.all false
set_option maxRecDepth 100000
set_option maxHeartbeats 4000000
namespace Pd
open PySem PySem.Spec PyProof.Rows L2
section
variable {K : Frag} {G F F' H H' : Hp} {σ : L2.St} {env env' : Ev} {v : V} {d : D} {i j : Nat}
theorem gs_some (h : gs σ i = some v) : σ[i]? = some (some v) := by
  unfold gs at h
  rw [List.getD_eq_getElem?_getD] at h
  cases e : σ[i]? with
  | none => rw [e] at h; cases h
  | some o => rw [e] at h; exact congrArg some h
theorem gs_lt (h : gs σ i = some v) : i < σ.length := (List.getElem?_eq_some_iff.mp (gs_some h)).1
theorem gs_set_same {o : Option V} (h : i < σ.length) : gs (σ.set i o) i = o := by
  unfold gs
  rw [List.getD_eq_getElem?_getD, List.getElem?_set_self h]; rfl
theorem gs_set_ne {o : Option V} (h : i ≠ j) : gs (σ.set i o) j = gs σ j := by
  unfold gs
  rw [List.getD_eq_getElem?_getD, List.getD_eq_getElem?_getD, List.getElem?_set_ne h]
theorem ge_set_same {s : Sl} (h : i < env.length) : ge (env.set i s) i = s := by
  unfold ge
  rw [List.getD_eq_getElem?_getD, List.getElem?_set_self h]; rfl
theorem ge_set_ne {s : Sl} (h : i ≠ j) : ge (env.set i s) j = ge env j := by
  unfold ge
  rw [List.getD_eq_getElem?_getD, List.getD_eq_getElem?_getD, List.getElem?_set_ne h]
theorem ge_out (h : env.length ≤ i) : ge env i = .un := by
  unfold ge
  rw [List.getD_eq_getElem?_getD, List.getElem?_eq_none h]; rfl
theorem ge_lt {s : Sl} (h : ge env i = s) (n : s ≠ .un) : i < env.length := by
  apply Nat.lt_of_not_le
  intro z
  rw [ge_out z] at h
  exact n h.symm
/-- what an owned slot knows -/
def ownAt (G F H : Hp) (o : Option V) : Prop := ∃ p u, o = some (.ref p) ∧ H p = some u ∧ F p = none ∧ G p = none
theorem SlR.own_at {o : Option V} {s : Sl} (h : SlR K G F H o s) (q : s.own = true) : ownAt G F H o := by
  cases s with
  | lst pin ds => obtain ⟨p, vs, e, _, hp, _, _, f, g⟩ := h; exact ⟨p, _, e, hp, f, g⟩
  | dk pin ds => obtain ⟨p, vs, e, _, hp, _, _, f, g⟩ := h; exact ⟨p, _, e, hp, f, g⟩
  | dt pin ds => obtain ⟨p, vs, e, _, hp, _, _, f, g⟩ := h; exact ⟨p, _, e, hp, f, g⟩
  | un => cases q
  | val d => cases q
  | scr ns => cases q
  | obj a => cases q
/-- a slot that is not owned: F alone counts -/
theorem SlR.mono {o : Option V} {s : Sl} (h : SlR K G F H o s) (l : Le F F') (g' : ∀ p, o = some (.ref p) → s.own = true → H' p = H p ∧ F' p = none) : SlR K G F' H' o s := by
  cases s with
  | un => trivial
  | obj a => exact h
  | val d => obtain ⟨v, e, r⟩ := h; exact ⟨v, e, r.mono l⟩
  | scr ns => obtain ⟨a, e, r⟩ := h; exact ⟨a, e, le_l l r⟩
  | lst pin ds => obtain ⟨p, vs, e, a, hp, z, r, f, g⟩ := h; obtain ⟨q1, q2⟩ := g' p e rfl; exact ⟨p, vs, e, a, q1.trans hp, z, r.mono l, q2, g⟩
  | dk pin ds => obtain ⟨p, vs, e, a, hp, z, r, f, g⟩ := h; obtain ⟨q1, q2⟩ := g' p e rfl; exact ⟨p, vs, e, a, q1.trans hp, z, KD.mono l r, q2, g⟩
  | dt pin ds => obtain ⟨p, vs, e, a, hp, z, r, f, g⟩ := h; obtain ⟨q1, q2⟩ := g' p e rfl; exact ⟨p, vs, e, a, q1.trans hp, z, TD.mono l r, q2, g⟩
theorem SlR.otherG {G' : Hp} {o : Option V} {s : Sl} (h : SlR K G F H o s) (g' : ∀ p, o = some (.ref p) → s.own = true → G' p = none) : SlR K G' F H o s := by
  cases s with
  | un => trivial
  | obj a => exact h
  | val d => exact h
  | scr ns => exact h
  | lst pin ds => obtain ⟨p, vs, e, a, hp, z, r, f, g⟩ := h; exact ⟨p, vs, e, a, hp, z, r, f, g' p e rfl⟩
  | dk pin ds => obtain ⟨p, vs, e, a, hp, z, r, f, g⟩ := h; exact ⟨p, vs, e, a, hp, z, r, f, g' p e rfl⟩
  | dt pin ds => obtain ⟨p, vs, e, a, hp, z, r, f, g⟩ := h; exact ⟨p, vs, e, a, hp, z, r, f, g' p e rfl⟩
theorem St.val (S : St K G F σ H env) (h : ge env i = .val d) : ∃ v, σ[i]? = some (some v) ∧ DR K F v d := by
  have q := S.sl i
  rw [h] at q
  obtain ⟨v, e, r⟩ := q
  exact ⟨v, gs_some e, r⟩
theorem St.lstS {pin : Option Addr} {ds : List D} (S : St K G F σ H env) (h : ge env i = .lst pin ds) :
    ∃ p vs, gs σ i = some (.ref p) ∧ (∀ q, pin = some q → p = q) ∧ H p = some (.lst vs) ∧ vs.length ≤ sizeLine ∧ DRs K F vs ds ∧ F p = none ∧ G p = none := by
  have q := S.sl i
  rw [h] at q
  exact q
/-- a heap with a new object: the state stays -/
theorem St.heapNew {p : Addr} {o : HO} (S : St K G F σ H env) (h : H p = none) : St K G F σ (upd H p o) env where
  kg := S.kg.trans (Le.new h)
  kf := S.kf.trans (Le.new h)
  ln := S.ln
  sl := fun i => (S.sl i).mono (Le.refl F) fun q e w => by
    obtain ⟨p', u, e', hp, f, _⟩ := (S.sl i).own_at w
    rw [e] at e'
    cases e'
    exact ⟨upd_ne (ne_of_none hp h), f⟩
  ap := S.ap
/-- what F says more: objects of H that no slot owns -/
theorem St.grow (S : St K G F σ H env) (l : Le F F') (l' : Le F' H) (n : ∀ i a, (ge env i).own = true → gs σ i = some (.ref a) → F' a = none) : St K G F' σ H env where
  kg := S.kg
  kf := l'
  ln := S.ln
  sl := fun i => (S.sl i).mono l fun q e w => ⟨rfl, n i q w e⟩
  ap := S.ap
theorem le_upd {p : Addr} {o : HO} (l : Le F H) (e : H p = some o) : Le (upd F p o) H := fun a u h => by
  by_cases q : a = p
  · subst q; rw [upd_same] at h; rw [e]; exact h
  · rw [upd_ne q] at h; exact l a u h
/-- a new object, known to the data -/
theorem St.new {p : Addr} {o : HO} (S : St K G F σ H env) (h : H p = none) : Ext G F (upd F p o) ∧ St K G (upd F p o) σ (upd H p o) env := by
  have fp : F p = none := S.kf.fresh h
  have gp : G p = none := S.kg.fresh h
  refine ⟨⟨Le.new fp, fun a u e => ?_⟩, (S.heapNew h).grow (Le.new fp) (le_upd (S.kf.trans (Le.new h)) upd_same) fun i a w e => ?_⟩
  · by_cases q : a = p
    · subst q; exact .inr gp
    · rw [upd_ne q] at e; exact .inl e
  · obtain ⟨p', u, e', hp, f, _⟩ := (S.sl i).own_at w
    rw [e] at e'
    cases e'
    rw [upd_ne (ne_of_none hp h)]
    exact f
theorem St.newTup {p : Addr} {vs : List V} {ds : List D} (S : St K G F σ H env) (h : H p = none) (z : vs.length ≤ sizeLine) (r : DRs K F vs ds) :
    Ext G F (upd F p (.tup vs)) ∧ DR K (upd F p (.tup vs)) (.ref p) (.tuple ds) ∧ St K G (upd F p (.tup vs)) σ (upd H p (.tup vs)) env :=
  have q := S.new (o := .tup vs) h
  ⟨q.1, .tup (.inl (.inl upd_same)) z (r.mono q.1.le), q.2⟩
theorem St.newLst {p : Addr} {vs : List V} {ds : List D} (S : St K G F σ H env) (h : H p = none) (z : vs.length ≤ sizeLine) (r : DRs K F vs ds) :
    Ext G F (upd F p (.lst vs)) ∧ DR K (upd F p (.lst vs)) (.ref p) (.list ds) ∧ St K G (upd F p (.lst vs)) σ (upd H p (.lst vs)) env :=
  have q := S.new (o := .lst vs) h
  ⟨q.1, .lst upd_same z (r.mono q.1.le), q.2⟩
/-! slots ahead: a value in hand -/
theorem gs_cons0 {o : Option V} : gs (o :: σ) 0 = o := rfl
theorem gs_consS {o : Option V} : gs (o :: σ) (i + 1) = gs σ i := rfl
theorem ge_cons0 {s : Sl} : ge (s :: env) 0 = s := rfl
theorem ge_consS {s : Sl} : ge (s :: env) (i + 1) = ge env i := rfl
theorem St.tail {o : Option V} {s : Sl} (S : St K G F (o :: σ) H (s :: env)) : St K G F σ H env :=
  ⟨S.kg, S.kf, Nat.le_of_succ_le_succ S.ln, fun i => S.sl (i + 1), fun i j a h => S.ap (i + 1) (j + 1) a (fun z => h (Nat.succ.inj z))⟩
theorem St.cons {o : Option V} {s : Sl} (S : St K G F σ H env) (h : SlR K G F H o s) (n : s.own = false) : St K G F (o :: σ) H (s :: env) where
  kg := S.kg
  kf := S.kf
  ln := Nat.succ_le_succ S.ln
  sl := fun i => by
    cases i with
    | zero => exact h
    | succ i => exact S.sl i
  ap := fun i j a q hi hj => by
    cases i with
    | zero => rw [ge_cons0, n] at hi; cases hi
    | succ i =>
      cases j with
      | zero => rw [ge_cons0, n] at hj; cases hj
      | succ j => exact S.ap i j a (fun z => q (congrArg _ z)) hi hj
theorem St.consVal (S : St K G F σ H env) (r : DR K F v d) : St K G F (some v :: σ) H (.val d :: env) := S.cons ⟨v, rfl, r⟩ rfl
/-- a new object in hand, owned -/
theorem St.consNew {p : Addr} {o : HO} {s : Sl} (S : St K G F σ H env) (h : H p = none) (r : F p = none → G p = none → SlR K G F (upd H p o) (some (.ref p)) s) : St K G F (some (.ref p) :: σ) (upd H p o) (s :: env) where
  kg := S.kg.trans (Le.new h)
  kf := S.kf.trans (Le.new h)
  ln := Nat.succ_le_succ S.ln
  sl := fun i => by
    cases i with
    | zero => exact r (S.kf.fresh h) (S.kg.fresh h)
    | succ i => exact (S.heapNew h).sl i
  ap := fun i j a q hi hj ei ej => by
    have old : ∀ k b, (ge env k).own = true → gs σ k = some (.ref b) → b ≠ p := fun k b w e => by
      obtain ⟨p', u, e', hp, f, _⟩ := (S.sl k).own_at w
      rw [e] at e'
      cases e'
      exact ne_of_none hp h
    cases i with
    | zero =>
      cases j with
      | zero => exact q rfl
      | succ j =>
        have e1 : p = a := V.ref.inj (Option.some.inj ei)
        exact old j a hj ej e1.symm
    | succ i =>
      cases j with
      | zero =>
        have e1 : p = a := V.ref.inj (Option.some.inj ej)
        exact old i a hi ei e1.symm
      | succ j => exact S.ap i j a (fun z => q (congrArg _ z)) hi hj ei ej
/-- the value in hand is stored -/
theorem St.store {s : Sl} (S : St K G F (some v :: σ) H (s :: env)) (h : j < env.length) : St K G F (σ.set j (some v)) H (env.set j s) where
  kg := S.kg
  kf := S.kf
  ln := by rw [List.length_set, List.length_set]; exact Nat.le_of_succ_le_succ S.ln
  sl := fun i => by
    have hσ : j < σ.length := Nat.lt_of_lt_of_le h (Nat.le_of_succ_le_succ S.ln)
    by_cases q : j = i
    · subst q
      rw [gs_set_same hσ, ge_set_same h]
      exact S.sl 0
    · rw [gs_set_ne q, ge_set_ne q]
      exact S.sl (i + 1)
  ap := fun i k a q hi hk => by
    have hσ : j < σ.length := Nat.lt_of_lt_of_le h (Nat.le_of_succ_le_succ S.ln)
    by_cases qi : j = i
    · subst qi
      rw [gs_set_same hσ]
      rw [ge_set_same h] at hi
      rw [gs_set_ne q]
      rw [ge_set_ne q] at hk
      exact S.ap 0 (k + 1) a (by simp) hi hk
    · rw [gs_set_ne qi]
      rw [ge_set_ne qi] at hi
      by_cases qk : j = k
      · subst qk
        rw [gs_set_same hσ]
        rw [ge_set_same h] at hk
        exact S.ap (i + 1) 0 a (by simp) hi hk
      · rw [gs_set_ne qk]
        rw [ge_set_ne qk] at hk
        exact S.ap (i + 1) (k + 1) a (fun z => q (Nat.succ.inj z)) hi hk
/-- a slot is forgotten, its value too -/
theorem St.forget {o : Option V} (S : St K G F σ H env) (j : Nat) : St K G F (σ.set j o) H (env.set j .un) where
  kg := S.kg
  kf := S.kf
  ln := by rw [List.length_set, List.length_set]; exact S.ln
  sl := fun i => by
    by_cases q : j = i
    · subst q
      by_cases h : j < env.length
      · rw [ge_set_same h]; trivial
      · rw [ge_out (by rw [List.length_set]; omega)]; trivial
    · rw [gs_set_ne q, ge_set_ne q]
      exact S.sl i
  ap := fun i k a q hi hk => by
    have ne : ∀ m, (ge (env.set j .un) m).own = true → j ≠ m := fun m w z => by
      subst z
      by_cases h : j < env.length
      · rw [ge_set_same h] at w; cases w
      · rw [ge_out (by rw [List.length_set]; omega)] at w; cases w
    rw [gs_set_ne (ne i hi), gs_set_ne (ne k hk)]
    rw [ge_set_ne (ne i hi)] at hi
    rw [ge_set_ne (ne k hk)] at hk
    exact S.ap i k a q hi hk
theorem set_gs (j : Nat) : σ.set j (gs σ j) = σ := by
  by_cases h : j < σ.length
  · have e : gs σ j = σ[j] := by
      unfold gs
      rw [List.getD_eq_getElem?_getD, List.getElem?_eq_getElem h]; rfl
    rw [e, List.set_getElem_self]
  · rw [List.set_eq_of_length_le (by omega)]
theorem St.un (S : St K G F σ H env) (j : Nat) : St K G F σ H (env.set j .un) := by
  have q := S.forget (o := gs σ j) j
  rwa [set_gs] at q
/-- an owned list becomes a datum -/
theorem St.freeze {pin : Option Addr} {ds : List D} (S : St K G F σ H env) (h : ge env j = .lst pin ds) : ∃ F', Ext G F F' ∧ St K G F' σ H (env.set j (.val (.list ds))) := by
  obtain ⟨p, vs, e, _, hp, z, r, f, g⟩ := S.lstS h
  have hj : j < env.length := ge_lt h (by simp)
  have l : Le F (upd F p (.lst vs)) := Le.new f
  refine ⟨upd F p (.lst vs), ⟨l, fun a u q => ?_⟩, ⟨S.kg, le_upd S.kf hp, by rw [List.length_set]; exact S.ln, fun i => ?_, fun i k a q hi hk => ?_⟩⟩
  · by_cases qa : a = p
    · subst qa; exact .inr g
    · rw [upd_ne qa] at q; exact .inl q
  · by_cases q : j = i
    · subst q
      rw [ge_set_same hj]
      exact ⟨.ref p, e, .lst upd_same z (r.mono l)⟩
    · rw [ge_set_ne q]
      refine (S.sl i).mono l fun b eb w => ⟨rfl, ?_⟩
      have nb : b ≠ p := fun y => S.ap j i p q (by rw [h]; rfl) w e (by rw [eb, y])
      rw [upd_ne nb]
      obtain ⟨p', u, e', _, f', _⟩ := (S.sl i).own_at w
      rw [eb] at e'
      cases e'
      exact f'
  · have ne : ∀ m, (ge (env.set j (.val (.list ds))) m).own = true → j ≠ m := fun m w y => by
      subst y
      rw [ge_set_same hj] at w
      cases w
    have ni := ne i hi
    have nk := ne k hk
    rw [ge_set_ne ni] at hi
    rw [ge_set_ne nk] at hk
    exact S.ap i k a q hi hk
/-- an owned list is written -/
theorem St.write {pin : Option Addr} {ds ds' : List D} {p : Addr} {vs' : List V} (S : St K G F σ H env) (h : ge env j = .lst pin ds) (e : gs σ j = some (.ref p)) (z : vs'.length ≤ sizeLine) (r : DRs K F vs' ds') :
    St K G F σ (upd H p (.lst vs')) (env.set j (.lst pin ds')) := by
  obtain ⟨p', vs0, e', hpin, hp, _, _, f, g⟩ := S.lstS h
  rw [e] at e'
  cases e'
  have hj : j < env.length := ge_lt h (by simp)
  have keep : ∀ {X : Hp}, Le X H → X p = none → Le X (upd H p (.lst vs')) := fun {X} l n a u q => by
    rw [upd_ne (ne_of_none q n)]
    exact l a u q
  refine ⟨keep S.kg g, keep S.kf f, by rw [List.length_set]; exact S.ln, fun i => ?_, fun i k a q hi hk => ?_⟩
  · by_cases q : j = i
    · subst q
      rw [ge_set_same hj]
      exact ⟨p, vs', e, hpin, upd_same, z, r, f, g⟩
    · rw [ge_set_ne q]
      refine (S.sl i).mono (Le.refl F) fun b eb w => ?_
      have nb : b ≠ p := fun y => S.ap j i p q (by rw [h]; rfl) w e (by rw [eb, y])
      obtain ⟨p', u, e', _, f', _⟩ := (S.sl i).own_at w
      rw [eb] at e'
      cases e'
      exact ⟨upd_ne nb, f'⟩
  · have ow : ∀ m, (ge (env.set j (.lst pin ds')) m).own = (ge env m).own := fun m => by
      by_cases y : j = m
      · subst y; rw [ge_set_same hj, h]; rfl
      · rw [ge_set_ne y]
    rw [ow] at hi hk
    exact S.ap i k a q hi hk
end
end Pd
set_option Elab.async false
set_option linter.all false
set_option maxRecDepth 100000
set_option maxHeartbeats 4000000
namespace Pd
open PySem PySem.Spec PyProof.Rows L2
/-! ### what an expression gives -/
inductive Rs where
  /-- a datum -/
  | val (d : D)
  /-- a new object, held by nobody yet -/
  | new (s : Sl)
  /-- the object that the slot i owns -/
  | ptr (i : Nat)
  /-- the object at a, whatever it is -/
  | obj (a : Addr)
def Rs.flat : Rs → Bool
  | .new _ => false
  | _ => true
def RR (K : Frag) (G F : Hp) (σ : L2.St) (H : Hp) (v : V) (R : Rs) (env : Ev) : Prop :=
  match R with
  | .val d => DR K F v d ∧ St K G F σ H env
  | .ptr i => gs σ i = some v ∧ St K G F σ H env
  | .obj a => v = .ref a ∧ St K G F σ H env
  | .new s => St K G F (some v :: σ) H (s :: env)
/-- as a datum: a new list may be one -/
def fz : Rs → Rs
  | .new (.lst _ ds) => .val (.list ds)
  | .new (.val d) => .val d
  | R => R
/-- read as a datum -/
def vw (R : Rs) (env : Ev) : Option D :=
  match R with
  | .val d => some d
  | .ptr i => match ge env i with
    | .lst _ ds => some (.list ds)
    | _ => none
  | .new _ => none
  | .obj _ => none
/-- v is to be read as d: a datum, or an owned list -/
def VA (K : Frag) (F H : Hp) (v : V) (d : D) : Prop :=
  DR K F v d ∨ ∃ ds a vs, d = .list ds ∧ v = .ref a ∧ H a = some (.lst vs) ∧ vs.length ≤ sizeLine ∧ DRs K F vs ds ∧ F a = none
section
variable {K : Frag} {G F F' H H' : Hp} {σ : L2.St} {env env' env1 env2 : Ev} {v : V} {d : D} {R R1 R2 : Rs} {i j : Nat}
theorem RR.st (h : RR K G F σ H v R env) : St K G F σ H env := by
  cases R with
  | val d => exact h.2
  | ptr i => exact h.2
  | obj a => exact h.2
  | new s => exact St.tail h
theorem RR.keep (h : RR K G F σ H v R env) (f : R.flat = true) (l : Le F F') (S : St K G F' σ H' env') : RR K G F' σ H' v R env' := by
  cases R with
  | val d => exact ⟨h.1.mono l, S⟩
  | ptr i => exact ⟨h.1, S⟩
  | obj a => exact ⟨h.1, S⟩
  | new s => cases f
theorem RR.va (h : RR K G F σ H v R env) (w : vw R env = some d) : VA K F H v d := by
  cases R with
  | val d' =>
    have e : d' = d := Option.some.inj w
    subst e
    exact .inl h.1
  | new s => cases w
  | obj s => cases w
  | ptr i =>
    unfold vw at w
    dsimp only at w
    split at w
    · rename_i pin ds e
      cases w
      obtain ⟨p, vs, eo, _, hp, z, r, f, _⟩ := h.2.lstS e
      have ev := h.1
      rw [eo] at ev
      cases ev
      exact .inr ⟨ds, p, vs, rfl, rfl, hp, z, r, f⟩
    · cases w
theorem fz_flat : ∀ {R : Rs}, (match R with | .new (.lst _ _) => true | .new (.val _) => true | .new _ => false | _ => true) = true → (fz R).flat = true
  | .val _, _ => rfl
  | .ptr _, _ => rfl
  | .obj _, _ => rfl
  | .new (.obj _), h => nomatch h
  | .new (.lst _ _), _ => rfl
  | .new (.val _), _ => rfl
  | .new .un, h => nomatch h
  | .new (.scr _), h => nomatch h
  | .new (.dk _ _), h => nomatch h
  | .new (.dt _ _), h => nomatch h
theorem RR.fz (h : RR K G F σ H v R env) : ∃ F', Ext G F F' ∧ RR K G F' σ H v (fz R) env := by
  cases R with
  | val d => exact ⟨F, Ext.refl G F, h⟩
  | ptr i => exact ⟨F, Ext.refl G F, h⟩
  | obj i => exact ⟨F, Ext.refl G F, h⟩
  | new s =>
    cases s with
    | lst pin ds =>
      obtain ⟨F', x, S⟩ := St.freeze (j := 0) (pin := pin) (ds := ds) h rfl
      obtain ⟨w, e, r⟩ := S.sl 0
      have e' : some v = some w := e
      cases e'
      exact ⟨F', x, r, S.tail⟩
    | val d =>
      obtain ⟨w, e, r⟩ := St.sl h 0
      have e' : some v = some w := e
      cases e'
      exact ⟨F, Ext.refl G F, r, St.tail h⟩
    | _ => exact ⟨F, Ext.refl G F, h⟩
theorem VA.mono (h : VA K F H v d) (l : Le F F') (w : ∀ a, v = .ref a → F a = none → H' a = H a ∧ F' a = none) : VA K F' H' v d := by
  rcases h with h | ⟨ds, a, vs, e1, e2, e3, e4, e5, e6⟩
  · exact .inl (h.mono l)
  · obtain ⟨q1, q2⟩ := w a e2 e6
    exact .inr ⟨ds, a, vs, e1, e2, q1.trans e3, e4, e5.mono l, q2⟩
theorem VA.dp (h : VA K F H v d) (l : Le F H) : Dp K H v d := by
  rcases h with h | ⟨ds, a, vs, e1, e2, e3, e4, e5, e6⟩
  · exact h.dp l
  · subst e1 e2
    exact .lst (.of e3) (e5.dp l)
theorem VA.lst {ds : List D} (h : VA K F H v (.list ds)) (l : Le F H) : ∃ a vs, v = .ref a ∧ H a = some (.lst vs) ∧ vs.length ≤ sizeLine ∧ DRs K F vs ds := by
  rcases h with h | ⟨ds, a, vs, e1, e2, e3, e4, e5, e6⟩
  · cases h with
    | lst a b c => exact ⟨_, _, rfl, l _ _ a, b, c⟩
  · cases e1
    exact ⟨a, vs, e2, e3, e4, e5⟩
theorem VA.tup {ds : List D} (h : VA K F H v (.tuple ds)) (l : Le F H) : ∃ a vs, v = .ref a ∧ SqT K H a vs ∧ vs.length ≤ sizeLine ∧ DRs K F vs ds := by
  rcases h with h | ⟨ds, a, vs, e1, e2, e3, e4, e5, e6⟩
  · cases h with
    | tup a b c => exact ⟨_, _, rfl, le_t l a, b, c⟩
  · cases e1
theorem VA.int {i : Int} (h : VA K F H v (.int i)) : v = .int i := by
  rcases h with h | ⟨ds, a, vs, e1, _⟩
  · exact h.int_iff
  · cases e1
theorem VA.bool {i : Bool} (h : VA K F H v (.bool i)) : v = .bl i := by
  rcases h with h | ⟨ds, a, vs, e1, _⟩
  · exact h.bool_iff
  · cases e1
theorem VA.str {i : Str} (h : VA K F H v (.str i)) : v = .str i := by
  rcases h with h | ⟨ds, a, vs, e1, _⟩
  · exact h.str_iff
  · cases e1
theorem VA.none (h : VA K F H v .none) : v = .non := by
  rcases h with h | ⟨ds, a, vs, e1, _⟩
  · exact h.none_iff
  · cases e1
/-- not None: by its kind -/
theorem VA.notNone (h : VA K F H v d) : (v = .non ↔ d = .none) := by
  constructor
  · intro e
    subst e
    rcases h with h | ⟨ds, a, vs, e1, e2, _⟩
    · cases h; rfl
    · cases e2
  · intro e
    subst e
    exact h.none
end
/-! ### the readings -/
def tV (K : Frag) (env : Ev) (R : Rs) (env' : Ev) : TE := fun σ H Q => ∃ G F, St K G F σ H env ∧ ∀ F' v H', Ext G F F' → RR K G F' σ H' v R env' → Q v H'
def tTt (K : Frag) (env : Ev) (b : Bool) (env' : Ev) : TT := fun σ H Q => ∃ G F, St K G F σ H env ∧ ∀ F' H', Ext G F F' → St K G F' σ H' env' → Q b H'
def ARs (K : Frag) (F : Hp) (σ : L2.St) : List V → List Rs → Prop
  | [], [] => True
  | v :: vs, .val d :: rs => DR K F v d ∧ ARs K F σ vs rs
  | v :: vs, .ptr i :: rs => gs σ i = some v ∧ ARs K F σ vs rs
  | v :: vs, .obj a :: rs => v = .ref a ∧ ARs K F σ vs rs
  | _, _ => False
theorem ARs.mono {K : Frag} {F F' : Hp} {σ : L2.St} (l : Le F F') : ∀ {vs : List V} {rs : List Rs}, ARs K F σ vs rs → ARs K F' σ vs rs
  | [], [], _ => trivial
  | _ :: _, .val _ :: _, h => ⟨h.1.mono l, ARs.mono l h.2⟩
  | _ :: _, .ptr _ :: _, h => ⟨h.1, ARs.mono l h.2⟩
  | _ :: _, .obj _ :: _, h => ⟨h.1, ARs.mono l h.2⟩
  | _ :: _, .new _ :: _, h => h.elim
  | [], _ :: _, h => by cases h
  | _ :: _, [], h => by cases h
def tAa (K : Frag) (env : Ev) (rs : List Rs) (env' : Ev) : TA := fun σ H Q => ∃ G F, St K G F σ H env ∧ ∀ F' vs H', Ext G F F' → ARs K F' σ vs rs → St K G F' σ H' env' → Q vs H'
abbrev EV (X : Cx) (e : Expr) (env : Ev) (R : Rs) (env' : Ev) : Prop := PE X e (tV X.K env R env')
abbrev ET (X : Cx) (e : Expr) (env : Ev) (b : Bool) (env' : Ev) : Prop := PT X e (tTt X.K env b env')
abbrev EW (X : Cx) (e : Expr) (env : Ev) (b : Bool) (env' : Ev) : Prop := PW X e (tTt X.K env b env')
abbrev EA (X : Cx) (es : List Expr) (env : Ev) (rs : List Rs) (env' : Ev) : Prop := PA X es (tAa X.K env rs env')
theorem PE.wk {X : Cx} {e : Expr} {t t' : TE} (h : PE X e t) (w : ∀ σ H Q, t' σ H Q → t σ H Q) : PE X e t' := ⟨fun pins s σ H Q I q => h.run pins s σ H Q I (w σ H Q q)⟩
theorem PT.wk {X : Cx} {e : Expr} {t t' : TT} (h : PT X e t) (w : ∀ σ H Q, t' σ H Q → t σ H Q) : PT X e t' := ⟨fun pins s σ H Q I q => h.run pins s σ H Q I (w σ H Q q)⟩
theorem PW.wk {X : Cx} {e : Expr} {t t' : TT} (h : PW X e t) (w : ∀ σ H Q, t' σ H Q → t σ H Q) : PW X e t' := ⟨fun wh pins s σ H Q I q => h.run wh pins s σ H Q I (w σ H Q q)⟩
theorem PA.wk {X : Cx} {e : List Expr} {t t' : TA} (h : PA X e t) (w : ∀ σ H Q, t' σ H Q → t σ H Q) : PA X e t' := ⟨fun p pins s σ H Q I q => h.run p pins s σ H Q I (w σ H Q q)⟩
theorem PS.wk {X : Cx} {e : Stmt} {t t' : TS} (h : PS X e t) (w : ∀ D σ H, t' D σ H → t D σ H) : PS X e t' := ⟨fun pins s σ H D I q => h.run pins s σ H D I (w D σ H q)⟩
theorem PSs.wk {X : Cx} {e : List Stmt} {t t' : TS} (h : PSs X e t) (w : ∀ D σ H, t' D σ H → t D σ H) : PSs X e t' := ⟨fun pins s σ H D I q => h.run pins s σ H D I (w D σ H q)⟩
section
variable {X : Cx} {env env1 env2 env3 : Ev} {a b c e : Expr} {es : List Expr} {R Ra Rb : Rs} {x y z d : D} {pos : Pos} {i : Nat} {rs : List Rs}
/-! ### constants, names -/
theorem ev_const {v : V} (h : PE X e (tC v)) (r : ∀ F, DR X.K F v d) : EV X e env (.val d) env := PE.wk h fun σ H Q ⟨G, F, S, q⟩ => q F v H (Ext.refl G F) ⟨r F, S⟩
theorem ev_int {k : Int} {j} : EV X (.Constant (.int k) j pos) env (.val (.int k)) env := ev_const pe_int fun _ => .int k
theorem ev_bool {k : Bool} {j} : EV X (.Constant (.bool k) j pos) env (.val (.bool k)) env := ev_const pe_bl fun _ => .bl k
theorem ev_none {j} : EV X (.Constant .none j pos) env (.val .none) env := ev_const pe_non fun _ => .non
theorem ev_str {k : Str} {j} : EV X (.Constant (.str k) j pos) env (.val (.str k)) env := ev_const pe_str fun _ => .str k
theorem ev_globI {x : Str} {k : Int} (hg : Gl X x) (hm : ∃ t, X.mg x = some (.int k t)) (hd : (x == ("__debug__" : Str)) = false := by decide) : EV X (.Name x pos) env (.val (.int k)) env := by
  obtain ⟨t, hm⟩ := hm
  exact ev_const (pe_glob (v := .int k) hg hm ⟨t, rfl⟩ hd) fun _ => .int k
theorem ev_globT {x : Str} {p : Addr} {vs : List V} {ds : List D} (hg : Gl X x) (hm : X.mg x = some (.ref p)) (ht : ∀ F, SqT X.K F p vs) (z : vs.length ≤ sizeLine) (r : ∀ F, DRs X.K F vs ds) (hd : (x == ("__debug__" : Str)) = false := by decide) : EV X (.Name x pos) env (.val (.tuple ds)) env :=
  ev_const (pe_glob (v := .ref p) hg hm rfl hd) fun F => .tup (ht F) z (r F)
theorem ev_var {x : Str} (i : Nat) (h : ge env i = .val d) (hN : X.N[i]? = some x := by rfl) (hv : Vis X.env.scope x := by first | exact Or.inl rfl | exact Or.inr (Or.inl rfl) | exact Or.inr (Or.inr rfl)) (hd : (x == ("__debug__" : Str)) = false := by decide)
    (hcd : (x == ("__classdict__" : Str)) = false := by decide) : EV X (.Name x pos) env (.val d) env :=
  PE.wk (pe_var hN hv hd hcd) fun σ H Q ⟨G, F, S, q⟩ => by
    obtain ⟨v, e, r⟩ := S.val h
    exact ⟨v, e, q F v H (Ext.refl G F) ⟨r, S⟩⟩
theorem ev_ptr {x : Str} (i : Nat) (h : (ge env i).own = true) (hN : X.N[i]? = some x := by rfl) (hv : Vis X.env.scope x := by first | exact Or.inl rfl | exact Or.inr (Or.inl rfl) | exact Or.inr (Or.inr rfl)) (hd : (x == ("__debug__" : Str)) = false := by decide)
    (hcd : (x == ("__classdict__" : Str)) = false := by decide) : EV X (.Name x pos) env (.ptr i) env :=
  PE.wk (pe_var hN hv hd hcd) fun σ H Q ⟨G, F, S, q⟩ => by
    obtain ⟨p, u, e, _⟩ := (S.sl i).own_at h
    exact ⟨.ref p, gs_some e, q F _ H (Ext.refl G F) ⟨e, S⟩⟩
/-- a new list as a datum -/
theorem EV.fz (h : EV X e env R env1) : EV X e env (fz R) env1 := PE.wk h fun σ H Q ⟨G, F, S, q⟩ => ⟨G, F, S, fun F' v H' x r => by
  obtain ⟨F2, x2, r2⟩ := r.fz
  exact q F2 v H' (x.trans x2) r2⟩
theorem EV.is (h : EV X e env R env1) (q : R = Ra) (q2 : env1 = env2) : EV X e env Ra env2 := by
  subst q q2
  exact h
/-! ### operators: what a rule of values says of data -/
def OpD (K : Frag) (r : R2) (x y : D) (R : Rs) : Prop := ∀ G F σ H env v u (Q : VK), St K G F σ H env → VA K F H v x → VA K F H u y → (∀ F' w H', Ext G F F' → RR K G F' σ H' w R env → Q w H') → r v u H Q
/-- a datum that needs nothing of the heap -/
theorem opd_flat {K : Frag} {r : R2} {x y d : D} {w : V} (rd : ∀ F, DR K F w d) (h : ∀ F H v u (Q : VK), Le F H → VA K F H v x → VA K F H u y → Q w H → r v u H Q) : OpD K r x y (.val d) :=
  fun G F σ H env v u Q S hv hu q => h F H v u Q S.kf hv hu (q F w H (Ext.refl G F) ⟨rd F, S⟩)
/-- two operands: the left one is held while the right one is reckoned -/
theorem two_ops {K : Frag} {ta tb : TE} {σ : L2.St} {H : Hp} {Q : V → V → Hp → Prop} {G F : Hp} (S : St K G F σ H env)
    (ha : ∀ H (Q : VK), (∃ G F, St K G F σ H env ∧ ∀ F' v H', Ext G F F' → RR K G F' σ H' v Ra env1 → Q v H') → ta σ H Q)
    (hb : ∀ H (Q : VK), (∃ G F, St K G F σ H env1 ∧ ∀ F' v H', Ext G F F' → RR K G F' σ H' v Rb env2 → Q v H') → tb σ H Q) (fl : (Pd.fz Ra).flat = true)
    (wx : vw (Pd.fz Ra) env2 = some x) (wy : vw (Pd.fz Rb) env2 = some y) (q : ∀ F' v u H', Ext G F F' → St K G F' σ H' env2 → VA K F' H' v x → VA K F' H' u y → Q v u H') : ta σ H fun v H1 => tb σ H1 fun u H2 => Q v u H2 :=
  ha H _ ⟨G, F, S, fun F1 v H1 x1 r1 => by
    obtain ⟨F1', x1', r1'⟩ := r1.fz
    refine hb H1 _ ⟨G, F1', r1'.st, fun F2 u H2 x2 r2 => ?_⟩
    obtain ⟨F2', x2', r2'⟩ := r2.fz
    have k := r1'.keep fl (x2.trans x2').le r2'.st
    exact q F2' v u H2 ((x1.trans x1').trans (x2.trans x2')) r2'.st (k.va wx) (r2'.va wy)⟩
theorem ev_bin {op : Operator} {r : R2} (ho : OpR X (binaryOp op) r) (ha : EV X a env Ra env1) (hb : EV X b env1 Rb env2) (hd : OpD X.K r x y R) (wx : vw (Pd.fz Ra) env2 = some x) (wy : vw (Pd.fz Rb) env2 = some y) (fl : (Pd.fz Ra).flat = true := by rfl) : EV X (.BinOp a op b pos) env R env2 :=
  PE.wk (pe_op ho ha hb) fun σ H Q ⟨G, F, S, q⟩ => two_ops S (fun _ _ h => h) (fun _ _ h => h) fl wx wy fun F' v u H' x1 S1 hv hu => hd G F' σ H' env2 v u Q S1 hv hu fun F2 w H2 x2 r2 => q F2 w H2 (x1.trans x2) r2
theorem ev_cmp {op : CmpOp} {r : R2} (ho : OpR X (compareOp op) r) (ha : EV X a env Ra env1) (hb : EV X b env1 Rb env2) (hd : OpD X.K r x y R) (wx : vw (Pd.fz Ra) env2 = some x) (wy : vw (Pd.fz Rb) env2 = some y) (hm : behindInMarks op b = false) (fl : (Pd.fz Ra).flat = true := by rfl) : EV X (.Compare a [op] [b] pos) env R env2 :=
  PE.wk (pe_cmpR ho ha hb hm) fun σ H Q ⟨G, F, S, q⟩ => two_ops S (fun _ _ h => h) (fun _ _ h => h) fl wx wy fun F' v u H' x1 S1 hv hu => hd G F' σ H' env2 v u Q S1 hv hu fun F2 w H2 x2 r2 => q F2 w H2 (x1.trans x2) r2
theorem et_cmp {op : CmpOp} {r : R2} {k : Bool} (ho : OpR X (compareOp op) r) (ha : EV X a env Ra env1) (hb : EV X b env1 Rb env2) (hd : OpD X.K r x y (.val (.bool k))) (wx : vw (Pd.fz Ra) env2 = some x) (wy : vw (Pd.fz Rb) env2 = some y) (hm : behindInMarks op b = false) (fl : (Pd.fz Ra).flat = true := by rfl) : ET X (.Compare a [op] [b] pos) env k env2 :=
  PT.wk (pt_cmpR ho ha hb hm) fun σ H Q ⟨G, F, S, q⟩ => two_ops S (fun _ _ h => h) (fun _ _ h => h) fl wx wy fun F' v u H' x1 S1 hv hu => hd G F' σ H' env2 v u _ S1 hv hu fun F2 w H2 x2 r2 => ⟨k, r2.1.bool_iff, q F2 H2 (x1.trans x2) r2.2⟩
/-- xs[i] -/
theorem ev_ix {r : R2} (hr : IxR X r) (ha : EV X a env Ra env1) (hb : EV X b env1 Rb env2) (hd : OpD X.K r x y R) (wx : vw (Pd.fz Ra) env2 = some x) (wy : vw (Pd.fz Rb) env2 = some y) (fl : (Pd.fz Ra).flat = true := by rfl) (hs : PlainIx b := by exact fun _ _ => rfl) : EV X (.Subscript a b pos) env R env2 :=
  PE.wk (pe_ix hr ha hb hs) fun σ H Q ⟨G, F, S, q⟩ => two_ops S (fun _ _ h => h) (fun _ _ h => h) fl wx wy fun F' v u H' x1 S1 hv hu => hd G F' σ H' env2 v u Q S1 hv hu fun F2 w H2 x2 r2 => q F2 w H2 (x1.trans x2) r2
/-- one operand -/
def UnD (K : Frag) (r : V → Hp → VK → Prop) (x : D) (R : Rs) : Prop := ∀ G F σ H env v (Q : VK), St K G F σ H env → VA K F H v x → (∀ F' w H', Ext G F F' → RR K G F' σ H' w R env → Q w H') → r v H Q
theorem one_op {K : Frag} {ta : TE} {σ : L2.St} {H : Hp} {Q : VK} {G F : Hp} (S : St K G F σ H env) (ha : ∀ H (Q : VK), (∃ G F, St K G F σ H env ∧ ∀ F' v H', Ext G F F' → RR K G F' σ H' v Ra env1 → Q v H') → ta σ H Q)
    (wx : vw (Pd.fz Ra) env1 = some x) (q : ∀ F' v H', Ext G F F' → St K G F' σ H' env1 → VA K F' H' v x → Q v H') : ta σ H Q :=
  ha H _ ⟨G, F, S, fun F1 v H1 x1 r1 => by
    obtain ⟨F1', x1', r1'⟩ := r1.fz
    exact q F1' v H1 (x1.trans x1') r1'.st (r1'.va wx)⟩
theorem ev_un {op : UnaryOp} {r : V → Hp → VK → Prop} (ho : UnR X (unaryOp op) r) (ha : EV X a env Ra env1) (hd : UnD X.K r x R) (wx : vw (Pd.fz Ra) env1 = some x) : EV X (.UnaryOp op a pos) env R env1 :=
  PE.wk (pe_un ho ha) fun σ H Q ⟨G, F, S, q⟩ => one_op (ta := tV X.K env Ra env1) (Q := fun v H' => r v H' Q) S (fun _ _ h => h) wx fun F' v H' x1 S1 hv => hd G F' σ H' env1 v Q S1 hv fun F2 w H2 x2 r2 => q F2 w H2 (x1.trans x2) r2
end
end Pd
set_option Elab.async false
set_option linter.all false
set_option maxRecDepth 100000
set_option maxHeartbeats 4000000
namespace Pd
open PySem PySem.Spec PyProof.Rows L2
theorem line_ge {n : Nat} (h : n ≤ 16000000) : n ≤ sizeLine := by rw [sizeLine_eq]; omega
theorem dr_len0 {K : Frag} {F : Hp} {vs : List V} (h : DRs K F vs []) : vs = [] := by cases h; rfl
theorem drs_ne {K : Frag} {F : Hp} {vs : List V} {d : D} {ds : List D} (h : DRs K F vs (d :: ds)) : vs ≠ [] := by cases h; simp
section
variable {K : Frag} {x y d : D} {X : Cx}
/-! ### + -/
def rAddU (K : Frag) : R2 := fun x y H Q => rI0 (fun i j => V.int (i + j)) x y H Q ∨ (∃ i j, x = .str i ∧ y = .str j ∧ i.length + j.length ≤ sizeLine ∧ Q (.str (i ++ j)) H) ∨ rCatA K x y H Q ∨ rCat x y H Q
theorem op_addU : OpR X (binaryOp .Add) (rAddU X.K) := OpR.or op_add (OpR.or op_add_str (OpR.or op_catA op_cat))
def addOk : D → D → Prop
  | .int _, .int _ => True
  | .str a, .str b => a.length + b.length ≤ sizeLine
  | .tuple a, .tuple b => a.length + b.length ≤ sizeLine
  | .list a, .list b => a.length + b.length ≤ sizeLine
  | _, _ => False
def addR : D → D → Rs
  | .int i, .int j => .val (.int (i + j))
  | .str a, .str b => .val (.str (a ++ b))
  | .tuple a, .tuple b => .val (.tuple (a ++ b))
  | .list a, .list b => .new (.lst none (a ++ b))
  | _, _ => .val .none
theorem opd_add (h : addOk x y) : OpD K (rAddU K) x y (addR x y) := by
  intro G F σ H env v u Q S hv hu q
  unfold addOk at h
  split at h
  · rw [hv.int, hu.int]
    exact .inl ⟨_, _, rfl, rfl, q F _ H (Ext.refl G F) ⟨.int _, S⟩⟩
  · rw [hv.str, hu.str]
    exact .inr (.inl ⟨_, _, rfl, rfl, h, q F _ H (Ext.refl G F) ⟨.str _, S⟩⟩)
  · rename_i xs ys
    obtain ⟨a, vs, rfl, ha, za, ra⟩ := hv.tup S.kf
    obtain ⟨b, us, rfl, hb, zb, rb⟩ := hu.tup S.kf
    have zz : (vs ++ us).length ≤ sizeLine := by rw [List.length_append, ra.length, rb.length]; exact h
    refine .inr (.inr (.inl ⟨a, b, vs, us, rfl, rfl, ha, hb, by rw [ra.length, rb.length]; exact h, fun e => ?_, fun _ e => ?_, fun _ _ p hp => ?_⟩))
    · subst e
      cases ra
      refine q F _ H (Ext.refl G F) ⟨?_, S⟩
      rcases hu with hu | ⟨_, _, _, e1, _⟩
      · exact hu
      · cases e1
    · subst e
      cases rb
      refine q F _ H (Ext.refl G F) ⟨?_, S⟩
      rw [List.append_nil]
      rcases hv with hv | ⟨_, _, _, e1, _⟩
      · exact hv
      · cases e1
    · obtain ⟨x1, r1, S1⟩ := S.newTup hp zz (ra.append rb)
      exact q _ _ _ x1 ⟨r1, S1⟩
  · rename_i xs ys
    obtain ⟨a, vs, rfl, ha, za, ra⟩ := hv.lst S.kf
    obtain ⟨b, us, rfl, hb, zb, rb⟩ := hu.lst S.kf
    have zz : (vs ++ us).length ≤ sizeLine := by rw [List.length_append, ra.length, rb.length]; exact h
    refine .inr (.inr (.inr ⟨a, b, vs, us, rfl, rfl, ha, hb, by rw [ra.length, rb.length]; exact h, fun p hp => ?_⟩))
    exact q F _ _ (Ext.refl G F) (S.consNew hp fun f g => ⟨p, vs ++ us, rfl, (fun _ z => nomatch z), upd_same, zz, ra.append rb, f, g⟩)
  · exact h.elim
/-! ### ints -/
theorem opd_int0 {g : Int → Int → V} {i j : Int} (r : ∀ F, DR K F (g i j) d) : OpD K (rI0 g) (.int i) (.int j) (.val d) :=
  opd_flat r fun F H v u Q l hv hu q => ⟨i, j, hv.int, hu.int, q⟩
theorem opd_intC {C : Int → Int → Prop} {g : Int → Int → V} {i j : Int} (hc : C i j) (r : ∀ F, DR K F (g i j) d) : OpD K (rI C g) (.int i) (.int j) (.val d) :=
  opd_flat r fun F H v u Q l hv hu q => ⟨i, j, hv.int, hu.int, hc, q⟩
def rMulU : R2 := fun x y H Q => rI CMul (fun i j => V.int (i * j)) x y H Q ∨ rI CMulW (fun i j => V.int (i * j)) x y H Q ∨ rRep x y H Q
theorem op_mulU : OpR X (binaryOp .Mult) rMulU := OpR.or op_mul (OpR.or op_mulW op_rep)
theorem opd_mul {i j : Int} (h : CMul i j) : OpD K rMulU (.int i) (.int j) (.val (.int (i * j))) :=
  opd_flat (fun _ => .int _) fun F H v u Q l hv hu q => .inl ⟨i, j, hv.int, hu.int, h, q⟩
theorem opd_mulW {i j : Int} (h : CMulW i j) : OpD K rMulU (.int i) (.int j) (.val (.int (i * j))) :=
  opd_flat (fun _ => .int _) fun F H v u Q l hv hu q => .inr (.inl ⟨i, j, hv.int, hu.int, h, q⟩)
theorem DRs.rep {F : Hp} {vs : List V} {ds : List D} (h : DRs K F vs ds) : ∀ k : Nat, DRs K F (List.replicate k vs).flatten (List.replicate k ds).flatten
  | 0 => .nil
  | k + 1 => by
    rw [List.replicate_succ, List.replicate_succ, List.flatten_cons, List.flatten_cons]
    exact h.append (DRs.rep h k)
theorem opd_rep {xs : List D} {k : Int} (h0 : -(2 ^ 63) ≤ k ∧ k < 2 ^ 63) (h : xs.length * k.toNat ≤ sizeLine) : OpD K rMulU (.list xs) (.int k) (.new (.lst none (List.replicate k.toNat xs).flatten)) := by
  intro G F σ H env v u Q S hv hu q
  obtain ⟨a, vs, rfl, ha, za, ra⟩ := hv.lst S.kf
  rw [hu.int]
  refine .inr (.inr ⟨a, k, vs, rfl, rfl, ha, h0.1, h0.2, by rw [ra.length]; exact h, fun p hp => ?_⟩)
  have r2 := ra.rep k.toNat
  refine q F _ _ (Ext.refl G F) (S.consNew hp fun f g => ⟨p, _, rfl, (fun _ z => nomatch z), upd_same, ?_, r2, f, g⟩)
  rw [r2.length, List.length_flatten]
  have e : (List.map List.length (List.replicate k.toNat xs)).sum = k.toNat * xs.length := by
    rw [List.map_replicate]
    induction k.toNat with
    | zero => simp
    | succ n ih => rw [List.replicate_succ, List.sum_cons, ih, Nat.succ_mul]; omega
  rw [e, Nat.mul_comm]
  exact h
def rDivU : R2 := fun x y H Q => rI CDiv (fun i j => V.int (i / j)) x y H Q ∨ rI CDivW (fun i j => V.int (i / j)) x y H Q
theorem op_divU : OpR X (binaryOp .FloorDiv) rDivU := OpR.or op_fdiv op_fdivW
theorem opd_div {i j : Int} (h : 0 < j ∧ j < 1073741824) : OpD K rDivU (.int i) (.int j) (.val (.int (i / j))) :=
  opd_flat (fun _ => .int _) fun F H v u Q l hv hu q => .inl ⟨i, j, hv.int, hu.int, h, q⟩
theorem opd_divW {i j : Int} (h : CDivW i j) : OpD K rDivU (.int i) (.int j) (.val (.int (i / j))) :=
  opd_flat (fun _ => .int _) fun F H v u Q l hv hu q => .inr ⟨i, j, hv.int, hu.int, h, q⟩
theorem opd_mod {i j : Int} (h : 0 < j) : OpD K (rI (fun _ j => 0 < j) fun i j => V.int (i % j)) (.int i) (.int j) (.val (.int (i % j))) := opd_intC h fun _ => .int _
/-! ### comparisons -/
theorem opd_eq (hx : SeqAt.shaped x = true) (hy : SeqAt.shaped y = true) : OpD K (rEqD K) x y (.val (.bool (PyData.eqv x y))) :=
  opd_flat (fun _ => .bl _) fun F H v u Q l hv hu q => ⟨x, y, hv.dp l, hu.dp l, hx, hy, q⟩
theorem opd_ne (hx : SeqAt.shaped x = true) (hy : SeqAt.shaped y = true) : OpD K (rNeD K) x y (.val (.bool (!PyData.eqv x y))) :=
  opd_flat (fun _ => .bl _) fun F H v u Q l hv hu q => ⟨x, y, hv.dp l, hu.dp l, hx, hy, q⟩
def isNone : D → Bool
  | .none => true
  | _ => false
theorem isNone_iff : isNone x = true ↔ x = .none := by cases x <;> simp [isNone]
theorem isNone_dec {F H : Hp} {v : V} (hv : VA K F H v x) : decide (v = V.non) = isNone x := by
  rw [Bool.eq_iff_iff, decide_eq_true_iff, isNone_iff]
  exact hv.notNone
theorem opd_isN : OpD K (fun x y H Q => y = V.non ∧ Q (.bl (decide (x = V.non))) H) x .none (.val (.bool (isNone x))) := by
  intro G F σ H env v u Q S hv hu q
  refine ⟨hu.none, ?_⟩
  rw [isNone_dec hv]
  exact q F _ H (Ext.refl G F) ⟨.bl _, S⟩
theorem opd_notN : OpD K (fun x y H Q => y = V.non ∧ Q (.bl (!decide (x = V.non))) H) x .none (.val (.bool (!isNone x))) := by
  intro G F σ H env v u Q S hv hu q
  refine ⟨hu.none, ?_⟩
  rw [isNone_dec hv]
  exact q F _ H (Ext.refl G F) ⟨.bl _, S⟩
theorem opd_isB {a b : Bool} : OpD K (fun x y H Q => ∃ a b, x = V.bl a ∧ y = V.bl b ∧ Q (.bl (decide (a = b))) H) (.bool a) (.bool b) (.val (.bool (decide (a = b)))) :=
  opd_flat (fun _ => .bl _) fun F H v u Q l hv hu q => ⟨a, b, hv.bool, hu.bool, q⟩
theorem opd_isNB {a b : Bool} : OpD K (fun x y H Q => ∃ a b, x = V.bl a ∧ y = V.bl b ∧ Q (.bl (!decide (a = b))) H) (.bool a) (.bool b) (.val (.bool (!decide (a = b)))) :=
  opd_flat (fun _ => .bl _) fun F H v u Q l hv hu q => ⟨a, b, hv.bool, hu.bool, q⟩
/-- tuples of ints in order -/
theorem opd_ltT {ns ms : List Int} : OpD K (rLtT K) (.tuple (ns.map .int)) (.tuple (ms.map .int)) (.val (.bool (HT.lexLt ns ms))) :=
  opd_flat (fun _ => .bl _) fun F H v u Q l hv hu q => by
    obtain ⟨a, vs, rfl, ha, za, ra⟩ := hv.tup l
    obtain ⟨b, us, rfl, hb, zb, rb⟩ := hu.tup l
    rw [ra.ints] at ha
    rw [rb.ints] at hb
    exact ⟨a, b, ns, ms, rfl, rfl, ha, hb, q⟩
/-! ### in -/
theorem inV_ints (i : Int) (ns : List Int) : inV (.int i) (ns.map V.int) = decide (i ∈ ns) := by
  unfold inV
  rw [List.any_map, Bool.eq_iff_iff, List.any_eq_true, decide_eq_true_iff]
  constructor
  · rintro ⟨n, hn, e⟩
    have e' : n = i := by simpa [eqV] using e
    exact e' ▸ hn
  · intro h
    exact ⟨i, h, by simp [eqV]⟩
theorem flat_ints (ns : List Int) : (ns.map V.int).all flatV = true := by
  rw [List.all_map, List.all_eq_true]
  intro n _
  rfl
theorem opd_inI {i : Int} {ns : List Int} (e : y = .tuple (ns.map .int) ∨ y = .list (ns.map .int)) : OpD K (rIn K false) (.int i) y (.val (.bool (decide (i ∈ ns)))) :=
  opd_flat (fun _ => .bl _) fun F H v u Q l hv hu q => by
    rw [hv.int]
    rcases e with e | e
    · subst e
      obtain ⟨b, us, rfl, hb, zb, rb⟩ := hu.tup l
      rw [rb.ints] at hb
      refine ⟨b, _, rfl, .inr hb, rfl, flat_ints ns, ?_⟩
      rw [inV_ints]
      exact q
    · subst e
      obtain ⟨b, us, rfl, hb, zb, rb⟩ := hu.lst l
      rw [rb.ints] at hb
      refine ⟨b, _, rfl, .inl (.of hb), rfl, flat_ints ns, ?_⟩
      rw [inV_ints]
      exact q
theorem opd_niI {i : Int} {ns : List Int} (e : y = .tuple (ns.map .int) ∨ y = .list (ns.map .int)) : OpD K (rIn K true) (.int i) y (.val (.bool (!decide (i ∈ ns)))) :=
  opd_flat (fun _ => .bl _) fun F H v u Q l hv hu q => by
    rw [hv.int]
    rcases e with e | e
    · subst e
      obtain ⟨b, us, rfl, hb, zb, rb⟩ := hu.tup l
      rw [rb.ints] at hb
      refine ⟨b, _, rfl, .inr hb, rfl, flat_ints ns, ?_⟩
      rw [inV_ints]
      exact q
    · subst e
      obtain ⟨b, us, rfl, hb, zb, rb⟩ := hu.lst l
      rw [rb.ints] at hb
      refine ⟨b, _, rfl, .inl (.of hb), rfl, flat_ints ns, ?_⟩
      rw [inV_ints]
      exact q
theorem opd_inD {ds : List D} (hx : SeqAt.shaped x = true) (hy : SeqAt.shaped (.list ds) = true) : OpD K (rInD K) x (.list ds) (.val (.bool (ds.any fun z => PyData.eqv z x))) :=
  opd_flat (fun _ => .bl _) fun F H v u Q l hv hu q => ⟨x, ds, hv.dp l, hu.dp l, hx, hy, q⟩
theorem opd_niD {ds : List D} (hx : SeqAt.shaped x = true) (hy : SeqAt.shaped (.list ds) = true) : OpD K (rNotInD K) x (.list ds) (.val (.bool (!ds.any fun z => PyData.eqv z x))) :=
  opd_flat (fun _ => .bl _) fun F H v u Q l hv hu q => ⟨x, ds, hv.dp l, hu.dp l, hx, hy, q⟩
/-! ### subscripts -/
theorem atI_map {α β : Type} {xs : List α} {ys : List β} (e : xs.length = ys.length) {i : Int} {b : β} (h : atI ys i = some b) : ∃ j, ixN xs.length i = some j ∧ ys[j]? = some b := by
  unfold atI at h
  cases q : ixN ys.length i with
  | none => rw [q] at h; cases h
  | some j => rw [q] at h; exact ⟨j, by rw [e]; exact q, h⟩
theorem opd_ix {i : Int} {ds : List D} (e : x = .list ds ∨ x = .tuple ds) (h : atI ds i = some d) : OpD K (rIx K) x (.int i) (.val d) := by
  intro G F σ H env v u Q S hv hu q
  rw [hu.int]
  rcases e with e | e
  · subst e
    obtain ⟨a, vs, rfl, ha, za, ra⟩ := hv.lst S.kf
    obtain ⟨j, h1, h2⟩ := atI_map ra.length h
    obtain ⟨w, h3, h4⟩ := ra.get h2
    refine .inl ⟨a, vs, i, w, rfl, rfl, .of ha, ?_, q F _ H (Ext.refl G F) ⟨h4, S⟩⟩
    unfold atI
    rw [h1]
    exact h3
  · subst e
    obtain ⟨a, vs, rfl, ha, za, ra⟩ := hv.tup S.kf
    obtain ⟨j, h1, h2⟩ := atI_map ra.length h
    obtain ⟨w, h3, h4⟩ := ra.get h2
    refine .inr (.inl ⟨a, vs, i, w, rfl, rfl, ha, ?_, q F _ H (Ext.refl G F) ⟨h4, S⟩⟩)
    unfold atI
    rw [h1]
    exact h3
theorem opd_ixS {i : Int} {z : Str} {c : Nat} (hz : z.length ≤ sizeLine) (h : atI z.cps.toList i = some c) : OpD K (rIx K) (.str z) (.int i) (.val (.str ⟨#[c]⟩)) :=
  opd_flat (fun _ => .str _) fun F H v u Q l hv hu q => by
    rw [hu.int, hv.str]
    exact .inr (.inr ⟨z, i, c, rfl, rfl, hz, h, q⟩)
theorem atI_mod {α : Type} {ds : List α} {k : Int} {n : Int} (h : 0 < ds.length) (e : n = ds.length) (d : α) : atI ds (k % n) = some (ds.getD (k % n).toNat d) := by
  subst e
  have h1 : 0 ≤ k % (ds.length : Int) := Int.emod_nonneg _ (by omega)
  have h2 : k % (ds.length : Int) < ds.length := Int.emod_lt_of_pos _ (by omega)
  obtain ⟨j, hj⟩ := Int.eq_ofNat_of_zero_le h1
  rw [hj] at h2 ⊢
  have hl : j < ds.length := by omega
  have e2 : ((j : Int)).toNat = j := rfl
  rw [e2, List.getD_eq_getElem?_getD, List.getElem?_eq_getElem hl]
  exact atI_nat (by rw [List.getElem?_eq_getElem hl]; rfl)
/-! ### one operand -/
theorem und_flat {r : V → Hp → VK → Prop} {w : V} (rd : ∀ F, DR K F w d) (h : ∀ F H v (Q : VK), Le F H → VA K F H v x → Q w H → r v H Q) : UnD K r x (.val d) :=
  fun G F σ H env v Q S hv q => h F H v Q S.kf hv (q F w H (Ext.refl G F) ⟨rd F, S⟩)
theorem und_neg {i : Int} : UnD K (rU fun i => .int (-i)) (.int i) (.val (.int (-i))) := und_flat (fun _ => .int _) fun F H v Q l hv q => ⟨i, hv.int, q⟩
end
/-! ### built-ins of one argument -/
section
variable {X : Cx} {env env1 : Ev} {e : Expr} {Ra R : Rs} {x d : D} {pos p : Pos} {fn : Str}
abbrev C1 (K : Frag) (r : List V → Hp → VK → Prop) (x : D) (R : Rs) : Prop := UnD K (fun v H Q => r [v] H Q) x R
theorem ev_b1 {id : String} {r : List V → Hp → VK → Prop} (hc : CallR X (.builtin id) r) (hm : X.mg fn = none) (hv : bootBuiltins fn = some (.builtin id)) (ha : EV X e env Ra env1) (hd : C1 X.K r x R) (wx : vw (Pd.fz Ra) env1 = some x) (hg : Gl X fn := by rfl)
    (hn : fn ≠ "__name__" := by decide) (hdb : (fn == ("__debug__" : Str)) = false := by decide) (he : starEach (e :: []) X.env = (false, eval e X.env) :: starEach [] X.env := by rfl) (hpl : (backTo pos (starEach [] X.env)).any (·.1) = false := by rfl) :
    EV X (.Call (.Name fn p) [e] [] pos) env R env1 :=
  PE.wk (pe_callB hc hg hm hv (pa_cons ha pa_nil he) hn hdb he hpl) fun σ H Q ⟨G, F, S, q⟩ => one_op (ta := tV X.K env Ra env1) (Q := fun v H' => r [v] H' Q) S (fun _ _ h => h) wx fun F' v H' x1 S1 hv => hd G F' σ H' env1 v Q S1 hv fun F2 w H2 x2 r2 => q F2 w H2 (x1.trans x2) r2
theorem ev_t1 {id : String} {r : List V → Hp → VK → Prop} (hc : CallR X (.type id) r) (hm : X.mg fn = none) (hv : bootBuiltins fn = some (.type id)) (ha : EV X e env Ra env1) (hd : C1 X.K r x R) (wx : vw (Pd.fz Ra) env1 = some x) (hg : Gl X fn := by rfl)
    (hn : fn ≠ "__name__" := by decide) (hdb : (fn == ("__debug__" : Str)) = false := by decide) (he : starEach (e :: []) X.env = (false, eval e X.env) :: starEach [] X.env := by rfl) (hpl : (backTo pos (starEach [] X.env)).any (·.1) = false := by rfl) :
    EV X (.Call (.Name fn p) [e] [] pos) env R env1 :=
  PE.wk (pe_callTy hc hg hm hv (pa_cons ha pa_nil he) hn hdb he hpl) fun σ H Q ⟨G, F, S, q⟩ => one_op (ta := tV X.K env Ra env1) (Q := fun v H' => r [v] H' Q) S (fun _ _ h => h) wx fun F' v H' x1 S1 hv => hd G F' σ H' env1 v Q S1 hv fun F2 w H2 x2 r2 => q F2 w H2 (x1.trans x2) r2
end
section
variable {K : Frag} {x d : D}
theorem c1_len {ds : List D} (e : x = .list ds ∨ x = .tuple ds) : C1 K (fun xs H Q => ∃ p ys, xs = [.ref p] ∧ (SqL K H p ys ∨ SqT K H p ys) ∧ Q (.int ys.length) H) x (.val (.int ds.length)) := by
  intro G F σ H env v Q S hv q
  rcases e with e | e
  · subst e
    obtain ⟨a, vs, rfl, ha, za, ra⟩ := hv.lst S.kf
    refine ⟨a, vs, rfl, .inl (.of ha), ?_⟩
    rw [ra.length]
    exact q F _ H (Ext.refl G F) ⟨.int _, S⟩
  · subst e
    obtain ⟨a, vs, rfl, ha, za, ra⟩ := hv.tup S.kf
    refine ⟨a, vs, rfl, .inr ha, ?_⟩
    rw [ra.length]
    exact q F _ H (Ext.refl G F) ⟨.int _, S⟩
theorem c1_lenS {z : Str} (hz : z.length ≤ sizeLine) : C1 K (fun xs H Q => ∃ z, xs = [.str z] ∧ z.length ≤ sizeLine ∧ Q (.int z.length) H) (.str z) (.val (.int z.length)) :=
  und_flat (fun _ => .int _) fun F H v Q l hv q => ⟨z, by rw [hv.str], hz, q⟩
theorem c1_int {i : Int} : C1 K (fun xs H Q => (∃ i, xs = [.int i] ∧ Q (.int i) H) ∨ ∃ k, xs = [.bl k] ∧ Q (.int (if k then 1 else 0)) H) (.int i) (.val (.int i)) :=
  und_flat (fun _ => .int _) fun F H v Q l hv q => .inl ⟨i, by rw [hv.int], q⟩
theorem c1_intB {k : Bool} : C1 K (fun xs H Q => (∃ i, xs = [.int i] ∧ Q (.int i) H) ∨ ∃ k, xs = [.bl k] ∧ Q (.int (if k then 1 else 0)) H) (.bool k) (.val (.int (if k then 1 else 0))) :=
  und_flat (fun _ => .int _) fun F H v Q l hv q => .inr ⟨k, by rw [hv.bool], q⟩
theorem c1_abs {i : Int} : C1 K (fun xs H Q => ∃ i, xs = [.int i] ∧ Q (.int (if i < 0 then -i else i)) H) (.int i) (.val (.int (if i < 0 then -i else i))) :=
  und_flat (fun _ => .int _) fun F H v Q l hv q => ⟨i, by rw [hv.int], q⟩
theorem c1_tuple {ds : List D} (e : x = .list ds ∨ x = .tuple ds) : C1 K (fun xs H Q => ∃ p ys, xs = [.ref p] ∧ ((SqL K H p ys ∧ ∀ l, H l = none → Q (.ref l) (upd H l (.tup ys))) ∨ (SqT K H p ys ∧ Q (.ref p) H))) x (.val (.tuple ds)) := by
  intro G F σ H env v Q S hv q
  rcases e with e | e
  · subst e
    obtain ⟨a, vs, rfl, ha, za, ra⟩ := hv.lst S.kf
    refine ⟨a, vs, rfl, .inl ⟨.of ha, fun l hl => ?_⟩⟩
    obtain ⟨x1, r1, S1⟩ := S.newTup hl za ra
    exact q _ _ _ x1 ⟨r1, S1⟩
  · subst e
    obtain ⟨a, vs, rfl, ha, za, ra⟩ := hv.tup S.kf
    refine ⟨a, vs, rfl, .inr ⟨ha, q F _ H (Ext.refl G F) ⟨?_, S⟩⟩⟩
    rcases hv with hv | ⟨_, _, _, e1, _⟩
    · exact hv
    · cases e1
theorem c1_list {ds : List D} (e : x = .list ds ∨ x = .tuple ds) : C1 K (fun xs H Q => ∃ p ys, xs = [.ref p] ∧ (SqL K H p ys ∨ SqT K H p ys) ∧ ∀ l, H l = none → Q (.ref l) (upd H l (.lst ys))) x (.new (.lst none ds)) := by
  intro G F σ H env v Q S hv q
  rcases e with e | e
  · subst e
    obtain ⟨a, vs, rfl, ha, za, ra⟩ := hv.lst S.kf
    exact ⟨a, vs, rfl, .inl (.of ha), fun p hp => q F _ _ (Ext.refl G F) (S.consNew hp fun f g => ⟨p, vs, rfl, (fun _ z => nomatch z), upd_same, za, ra, f, g⟩)⟩
  · subst e
    obtain ⟨a, vs, rfl, ha, za, ra⟩ := hv.tup S.kf
    exact ⟨a, vs, rfl, .inr ha, fun p hp => q F _ _ (Ext.refl G F) (S.consNew hp fun f g => ⟨p, vs, rfl, (fun _ z => nomatch z), upd_same, za, ra, f, g⟩)⟩
/-- sorted of ints -/
def isort (ns : List Int) : List Int := ns.mergeSort (fun a b => decide (a ≤ b))
theorem isort_perm (ns : List Int) : (isort ns).Perm ns := List.mergeSort_perm _ _
theorem isort_sorted (ns : List Int) : (isort ns).Pairwise (· ≤ ·) := by
  have h := List.pairwise_mergeSort (le := fun a b : Int => decide (a ≤ b)) (fun a b c h1 h2 => by simp at *; omega) (fun a b => by simp; omega) ns
  exact h.imp fun q => of_decide_eq_true q
theorem sorted_unique : ∀ {l l' : List Int}, l.Pairwise (· ≤ ·) → l'.Pairwise (· ≤ ·) → l.Perm l' → l = l'
  | [], l', _, _, p => (List.nil_perm.mp p).symm
  | a :: l, [], _, _, p => absurd p.length_eq (by simp)
  | a :: l, b :: l', h, h', p => by
    have ha := List.pairwise_cons.mp h
    have hb := List.pairwise_cons.mp h'
    have e : a = b := by
      have m1 : a ∈ b :: l' := p.mem_iff.mp List.mem_cons_self
      have m2 : b ∈ a :: l := p.mem_iff.mpr List.mem_cons_self
      rcases List.mem_cons.mp m1 with q | q
      · exact q
      · rcases List.mem_cons.mp m2 with q2 | q2
        · exact q2.symm
        · exact Int.le_antisymm (ha.1 b q2) (hb.1 a q)
    subst e
    rw [sorted_unique ha.2 hb.2 (List.Perm.cons_inv p)]
theorem isort_of {l ns : List Int} (p : l.Perm ns) (h : l.Pairwise (· ≤ ·)) : l = isort ns := sorted_unique h (isort_sorted ns) (p.trans (isort_perm ns).symm)
theorem c1_sorted {ns : List Int} : C1 K (rSortedI K) (.list (ns.map .int)) (.new (.lst none ((isort ns).map .int))) := by
  intro G F σ H env v Q S hv q
  obtain ⟨a, vs, rfl, ha, za, ra⟩ := hv.lst S.kf
  have e := ra.ints
  rw [e] at ha za
  refine ⟨a, ns, rfl, .of ha, fun ns' p hp hs hn => ?_⟩
  rw [isort_of hp hs]
  refine q F _ _ (Ext.refl G F) (S.consNew hn fun f g => ⟨p, _, rfl, (fun _ z => nomatch z), upd_same, ?_, DRs.of_ints _, f, g⟩)
  rw [List.length_map, (isort_perm ns).length_eq]
  rw [List.length_map] at za
  exact za
theorem c1_sum {ns : List Int} : C1 K (rSum K) (.list (ns.map .int)) (.val (.int ns.sum)) :=
  und_flat (fun _ => .int _) fun F H v Q l hv q => by
    obtain ⟨a, vs, rfl, ha, za, ra⟩ := hv.lst l
    rw [ra.ints] at ha
    exact ⟨a, ns, rfl, .of ha, q⟩
theorem c1_all {bs : List Bool} : C1 K (rAll K) (.list (bs.map .bool)) (.val (.bool (bs.all id))) :=
  und_flat (fun _ => .bl _) fun F H v Q l hv q => by
    obtain ⟨a, vs, rfl, ha, za, ra⟩ := hv.lst l
    rw [ra.bools] at ha
    exact ⟨a, bs, rfl, .of ha, q⟩
theorem c1_any {bs : List Bool} : C1 K (rAny K) (.list (bs.map .bool)) (.val (.bool (bs.any id))) :=
  und_flat (fun _ => .bl _) fun F H v Q l hv q => by
    obtain ⟨a, vs, rfl, ha, za, ra⟩ := hv.lst l
    rw [ra.bools] at ha
    exact ⟨a, bs, rfl, .of ha, q⟩
def imax (ns : List Int) : Int := ns.foldl max (ns.headD 0)
def imin (ns : List Int) : Int := ns.foldl min (ns.headD 0)
end
end Pd
set_option Elab.async false
set_option linter.all false
set_option maxRecDepth 100000
set_option maxHeartbeats 4000000
namespace Pd
open PySem PySem.Spec PyProof.Rows L2
/-! ### arguments and calls -/
def unpin : Sl → Sl
  | .lst _ ds => .lst none ds
  | .dk _ ds => .dk none ds
  | .dt _ ds => .dt none ds
  | s => s
def toS (env : Ev) : Rs → Sl
  | .val d => .val d
  | .ptr i => unpin (ge env i)
  | .obj a => .obj a
  | .new _ => .un
/-- an owned slot behind a call that was handed it -/
def repin : Sl → Sl → Sl
  | .lst p _, .lst _ ds => .lst p ds
  | .dk p _, .dk _ ds => .dk p ds
  | .dt p _, .dt _ ds => .dt p ds
  | .lst _ _, _ => .un
  | .dk _ _, _ => .un
  | .dt _ _, _ => .un
  | s, _ => s
def isPtr (i : Nat) : Rs → Bool
  | .ptr j => i == j
  | _ => false
/-- the slots behind a call -/
def wb (env : Ev) (rs : List Rs) (ss : List Sl) : Ev := (List.range env.length).map fun i => match rs.findIdx? (isPtr i) with
  | some k => repin (ge env i) (ge ss k)
  | none => ge env i
def ptrs (rs : List Rs) : List Nat := rs.filterMap fun r => match r with
  | .ptr i => some i
  | _ => none
def ndL : List Nat → Bool
  | [] => true
  | i :: r => !(r.any fun j => Nat.beq i j) && ndL r
theorem ndL_ok : ∀ {l : List Nat}, ndL l = true → l.Nodup
  | [], _ => List.nodup_nil
  | i :: r, h => by
    unfold ndL at h
    rw [Bool.and_eq_true] at h
    refine List.nodup_cons.mpr ⟨fun m => ?_, ndL_ok h.2⟩
    have q : (r.any fun j => Nat.beq i j) = true := List.any_eq_true.mpr ⟨i, m, by simp⟩
    rw [q] at h
    cases h.1
inductive FOut where
  | rt (r : Sl) (ss : List Sl)
  | ex (c : Str) (ss : List Sl)
abbrev FS := List Sl → FOut → Prop
/-- a def's promise: from what its arguments hold -/
def spD (K : Frag) (ea : Str → Addr) (S : FS) : Sp := fun vs H Q E => ∃ G F ss o, S ss o ∧ ss.length = vs.length ∧ St K G F (vs.map some) H ss ∧ match o with
  | .rt r ss' => ∀ F' v H', Ext G F F' → St K G F' (some v :: vs.map some) H' (r :: ss') → Q v H'
  | .ex c ss' => ∀ F' H', Ext G F F' → St K G F' (vs.map some) H' ss' → E (.ref (ea c)) none H'
def resR : Sl → Rs
  | .val d => .val d
  | .obj a => .obj a
  | s => .new s
section
variable {K : Frag} {G F F' H H' : Hp} {σ : L2.St} {env : Ev} {vs : List V} {rs : List Rs} {v : V} {i k : Nat}
theorem ARs.length : ∀ {vs : List V} {rs : List Rs}, ARs K F σ vs rs → vs.length = rs.length
  | [], [], _ => rfl
  | _ :: _, .val _ :: _, h => congrArg (· + 1) (ARs.length h.2)
  | _ :: _, .ptr _ :: _, h => congrArg (· + 1) (ARs.length h.2)
  | _ :: _, .obj _ :: _, h => congrArg (· + 1) (ARs.length h.2)
  | _ :: _, .new _ :: _, h => h.elim
  | [], _ :: _, h => by cases h
  | _ :: _, [], h => by cases h
theorem ARs.at : ∀ {vs : List V} {rs : List Rs} {k : Nat} {v : V}, ARs K F σ vs rs → vs[k]? = some v → (∃ d, rs[k]? = some (.val d) ∧ DR K F v d) ∨ (∃ i, rs[k]? = some (.ptr i) ∧ gs σ i = some v) ∨ ∃ a, rs[k]? = some (.obj a) ∧ v = .ref a
  | [], [], _, _, _, e => by simp at e
  | _ :: _, .val d :: _, 0, v, h, e => by simp at e; subst e; exact .inl ⟨d, rfl, h.1⟩
  | _ :: _, .ptr i :: _, 0, v, h, e => by simp at e; subst e; exact .inr (.inl ⟨i, rfl, h.1⟩)
  | _ :: _, .obj i :: _, 0, v, h, e => by simp at e; subst e; exact .inr (.inr ⟨i, rfl, h.1⟩)
  | _ :: _, .obj a :: _, k + 1, v, h, e => by simpa using ARs.at h.2 (by simpa using e)
  | _ :: _, .val d :: _, k + 1, v, h, e => by simpa using ARs.at h.2 (by simpa using e)
  | _ :: _, .ptr i :: _, k + 1, v, h, e => by simpa using ARs.at h.2 (by simpa using e)
  | _ :: _, .new _ :: _, _, _, h, _ => h.elim
  | [], _ :: _, _, _, h, _ => by cases h
  | _ :: _, [], _, _, h, _ => by cases h
theorem unpin_own (s : Sl) : (unpin s).own = s.own := by cases s <;> rfl
theorem SlR.unpin {o : Option V} {s : Sl} (h : SlR K G F H o s) : SlR K G F H o (Pd.unpin s) := by
  cases s with
  | lst pin ds => obtain ⟨p, vs, e, a, r⟩ := h; exact ⟨p, vs, e, (fun _ z => nomatch z), r⟩
  | dk pin ds => obtain ⟨p, vs, e, a, r⟩ := h; exact ⟨p, vs, e, (fun _ z => nomatch z), r⟩
  | dt pin ds => obtain ⟨p, vs, e, a, r⟩ := h; exact ⟨p, vs, e, (fun _ z => nomatch z), r⟩
  | _ => exact h
theorem mem_ptrs {k : Nat} (h : rs[k]? = some (Rs.ptr i)) : i ∈ ptrs rs := by
  unfold ptrs
  rw [List.mem_filterMap]
  exact ⟨Rs.ptr i, List.mem_of_getElem? h, rfl⟩
theorem ptr_once {k l : Nat} : ∀ {rs : List Rs} {k l : Nat}, (ptrs rs).Nodup → rs[k]? = some (.ptr i) → rs[l]? = some (.ptr i) → k = l
  | [], k, l, _, h, _ => by simp at h
  | r :: rs, 0, 0, _, _, _ => rfl
  | r :: rs, 0, l + 1, n, h, h' => by
    have e : r = .ptr i := by simpa using h
    subst e
    have n' : i ∉ ptrs rs ∧ (ptrs rs).Nodup := List.nodup_cons.mp n
    exact absurd (mem_ptrs (k := l) (by simpa using h')) n'.1
  | r :: rs, k + 1, 0, n, h, h' => by
    have e : r = .ptr i := by simpa using h'
    subst e
    have n' : i ∉ ptrs rs ∧ (ptrs rs).Nodup := List.nodup_cons.mp n
    exact absurd (mem_ptrs (k := k) (by simpa using h)) n'.1
  | r :: rs, k + 1, l + 1, n, h, h' => by
    have n' : (ptrs rs).Nodup := by
      unfold ptrs at n ⊢
      rw [List.filterMap_cons] at n
      split at n
      · exact n
      · exact (List.nodup_cons.mp n).2
    exact congrArg (· + 1) (ptr_once (k := k) (l := l) (rs := rs) n' (by simpa using h) (by simpa using h'))
theorem find_ptr (h : rs.findIdx? (isPtr i) = some k) : rs[k]? = some (.ptr i) := by
  obtain ⟨h1, h2, _⟩ := List.findIdx?_eq_some_iff_getElem.mp h
  rw [List.getElem?_eq_getElem h1]
  cases e : rs[k] with
  | val d => rw [e] at h2; cases h2
  | new d => rw [e] at h2; cases h2
  | obj d => rw [e] at h2; cases h2
  | ptr j =>
    rw [e] at h2
    have q : i = j := by simpa [isPtr] using h2
    rw [q]
theorem find_none (h : rs.findIdx? (isPtr i) = none) : ∀ k : Nat, rs[k]? ≠ some (Rs.ptr i) := fun k e => by
  have q := List.findIdx?_eq_none_iff.mp h (Rs.ptr i) (List.mem_of_getElem? e)
  simp [isPtr] at q
theorem repin_own {s t : Sl} (h : (repin s t).own = true) : s.own = true ∧ t.own = true := by
  cases s <;> cases t <;> first | exact ⟨rfl, rfl⟩ | cases h | exact absurd h (by simp [repin, Sl.own])
theorem ge_map {α : Type} {f : α → Sl} {l : List α} {k : Nat} : ge (l.map f) k = match l[k]? with
    | some a => f a
    | none => .un := by
  unfold ge
  rw [List.getD_eq_getElem?_getD, List.getElem?_map]
  cases l[k]? <;> rfl
theorem gs_map {k : Nat} : gs (vs.map some) k = vs[k]? := by
  unfold gs
  rw [List.getD_eq_getElem?_getD, List.getElem?_map]
  cases vs[k]? <;> rfl
theorem ge_wb {ss : List Sl} (h : i < env.length) : ge (wb env rs ss) i = match rs.findIdx? (isPtr i) with
    | some k => repin (ge env i) (ge ss k)
    | none => ge env i := by
  unfold wb
  rw [ge_map, List.getElem?_range h]
theorem ge_wb_out {ss : List Sl} (h : env.length ≤ i) : ge (wb env rs ss) i = .un := by
  refine ge_out ?_
  unfold wb
  rw [List.length_map, List.length_range]
  exact h
/-- the addresses that a call is handed -/
def Handed (σ : L2.St) (env : Ev) (rs : List Rs) (a : Addr) : Prop := ∃ (i k : Nat), rs[k]? = some (Rs.ptr i) ∧ (ge env i).own = true ∧ gs σ i = some (.ref a)
open Classical in
noncomputable def gOf (σ : L2.St) (env : Ev) (rs : List Rs) (H : Hp) : Hp := fun a => if Handed σ env rs a then none else H a
theorem gOf_yes {a : Addr} (h : Handed σ env rs a) : gOf σ env rs H a = none := if_pos h
theorem gOf_no {a : Addr} (h : ¬ Handed σ env rs a) : gOf σ env rs H a = H a := if_neg h
theorem gOf_le : Le (gOf σ env rs H) H := fun a o e => by
  by_cases h : Handed σ env rs a
  · rw [gOf_yes h] at e; cases e
  · rw [gOf_no h] at e; exact e
theorem St.callee (S : St K G F σ H env) (A : ARs K F σ vs rs) (n : (ptrs rs).Nodup) : St K (gOf σ env rs H) F (vs.map some) H (rs.map (toS env)) where
  kg := gOf_le
  kf := S.kf
  ln := by rw [List.length_map, List.length_map, A.length]; exact Nat.le_refl _
  sl := fun k => by
    rw [gs_map, ge_map]
    cases e : vs[k]? with
    | none =>
      have : rs[k]? = none := by
        rw [List.getElem?_eq_none_iff] at e ⊢
        rw [← A.length]; exact e
      rw [this]
      trivial
    | some v =>
      rcases A.at e with ⟨d, h1, h2⟩ | ⟨i, h1, h2⟩ | ⟨i, h1, h2⟩
      rotate_left 2
      · rw [h1]
        exact congrArg some h2
      · rw [h1]
        exact ⟨v, rfl, h2⟩
      · rw [h1]
        have q := (S.sl i).otherG (G' := gOf σ env rs H) fun p ep w => gOf_yes ⟨i, k, h1, w, ep⟩
        rw [h2] at q
        exact q.unpin
  ap := fun k l a q hk hl ek el => by
    rw [gs_map] at ek el
    rw [ge_map] at hk hl
    rcases A.at ek with ⟨d, h1, h2⟩ | ⟨i, h1, h2⟩ | ⟨i, h1, h2⟩
    rotate_left 2
    · rw [h1] at hk; cases hk
    · rw [h1] at hk; cases hk
    rcases A.at el with ⟨d, h3, h4⟩ | ⟨j, h3, h4⟩ | ⟨j, h3, h4⟩
    rotate_left 2
    · rw [h3] at hl; cases hl
    · rw [h3] at hl; cases hl
    rw [h1] at hk
    rw [h3] at hl
    have hi : (ge env i).own = true := by rw [← unpin_own]; exact hk
    have hj : (ge env j).own = true := by rw [← unpin_own]; exact hl
    refine S.ap i j a (fun z => ?_) hi hj h2 h4
    subst z
    exact q (ptr_once (k := k) (l := l) n h1 h3)
theorem Ext.back (S : St K G F σ H env) (x : Ext (gOf σ env rs H) F F') : Ext G F F' := ⟨x.le, fun a o e => by
  rcases x.nw a o e with h | h
  · exact .inl h
  · by_cases q : Handed σ env rs a
    · obtain ⟨i, k, _, w, ei⟩ := q
      obtain ⟨p, u, e', _, _, g⟩ := (S.sl i).own_at w
      rw [ei] at e'
      cases e'
      exact .inr g
    · rw [gOf_no q] at h
      exact .inr (S.kg.fresh h)⟩
/-- behind the call -/
theorem St.back {ss : List Sl} {hd : L2.St} {he : Ev} (S : St K G F σ H env) (A : ARs K F σ vs rs) (n : (ptrs rs).Nodup) (x : Ext (gOf σ env rs H) F F') (S' : St K (gOf σ env rs H) F' (vs.map some) H' ss) : St K G F' σ H' (wb env rs ss) where
  kg := fun a o e => by
    have nh : ¬ Handed σ env rs a := fun ⟨i, k, _, w, ei⟩ => by
      obtain ⟨p, u, e', _, _, g⟩ := (S.sl i).own_at w
      rw [ei] at e'
      cases e'
      rw [g] at e
      cases e
    exact S'.kg a o (by rw [gOf_no nh]; exact S.kg a o e)
  kf := S'.kf
  ln := by
    unfold wb
    rw [List.length_map, List.length_range]
    exact S.ln
  sl := fun i => by
    by_cases hi : i < env.length
    case neg => rw [ge_wb_out (by omega)]; trivial
    rw [ge_wb hi]
    cases fk : rs.findIdx? (isPtr i) with
    | none =>
      refine (S.sl i).mono x.le fun p ep w => ?_
      have nh : ¬ Handed σ env rs p := fun ⟨j, k, hk, wj, ej⟩ => by
        by_cases z : i = j
        · subst z; exact find_none fk k hk
        · exact S.ap i j p z w wj ep ej
      obtain ⟨p', u, e', hp, f, g⟩ := (S.sl i).own_at w
      rw [ep] at e'
      cases e'
      have gp : gOf σ env rs H p = some u := by rw [gOf_no nh]; exact hp
      refine ⟨by rw [hp]; exact S'.kg p u gp, ?_⟩
      cases q : F' p with
      | none => rfl
      | some o =>
        rcases x.nw p o q with z | z
        · rw [f] at z; cases z
        · rw [gp] at z; cases z
    | some k =>
      have hk := find_ptr fk
      have old := S.sl i
      have hv : ∃ v, vs[k]? = some v := by
        have hl : k < rs.length := (List.getElem?_eq_some_iff.mp hk).1
        exact ⟨vs[k]'(by rw [A.length]; exact hl), by simp [A.length, hl]⟩
      obtain ⟨v, hv⟩ := hv
      have gi : gs σ i = some v := by
        rcases A.at hv with ⟨d, h1, _⟩ | ⟨j, h1, h2⟩ | ⟨j, h1, h2⟩
        · rw [hk] at h1; cases h1
        · rw [hk] at h1; cases h1; exact h2
        · rw [hk] at h1; cases h1
      have new := S'.sl k
      rw [gs_map, hv] at new
      dsimp only
      cases hs : ge env i with
      | un => trivial
      | val d =>
        rw [hs] at old
        cases ge ss k <;> exact old.mono x.le fun _ _ w => nomatch w
      | scr d =>
        rw [hs] at old
        cases ge ss k <;> exact old.mono x.le fun _ _ w => nomatch w
      | obj d =>
        rw [hs] at old
        cases ge ss k <;> exact old.mono x.le fun _ _ w => nomatch w
      | lst pin ds =>
        rw [hs, gi] at old
        rw [gi]
        obtain ⟨p, us, e, hp, h1, _, _, _, g⟩ := old
        cases ht : ge ss k <;> try trivial
        rw [ht] at new
        obtain ⟨p', us', e', _, h1', z', r', f', _⟩ := new
        rw [e] at e'
        cases e'
        exact ⟨p, us', e, hp, h1', z', r', f', g⟩
      | dk pin ds =>
        rw [hs, gi] at old
        rw [gi]
        obtain ⟨p, us, e, hp, h1, _, _, _, g⟩ := old
        cases ht : ge ss k <;> try trivial
        rw [ht] at new
        obtain ⟨p', us', e', _, h1', z', r', f', _⟩ := new
        rw [e] at e'
        cases e'
        exact ⟨p, us', e, hp, h1', z', r', f', g⟩
      | dt pin ds =>
        rw [hs, gi] at old
        rw [gi]
        obtain ⟨p, us, e, hp, h1, _, _, _, g⟩ := old
        cases ht : ge ss k <;> try trivial
        rw [ht] at new
        obtain ⟨p', us', e', _, h1', z', r', f', _⟩ := new
        rw [e] at e'
        cases e'
        exact ⟨p, us', e, hp, h1', z', r', f', g⟩
  ap := fun i j a q hi hj => by
    have ow : ∀ m, (ge (wb env rs ss) m).own = true → (ge env m).own = true := fun m w => by
      by_cases hm : m < env.length
      · rw [ge_wb hm] at w
        cases fk : rs.findIdx? (isPtr m) with
        | none => rw [fk] at w; exact w
        | some k => rw [fk] at w; exact (repin_own w).1
      · rw [ge_wb_out (by omega)] at w; cases w
    exact S.ap i j a q (ow i hi) (ow j hj)
theorem RR.back {ss : List Sl} {r : Sl} (S : St K G F σ H env) (A : ARs K F σ vs rs) (n : (ptrs rs).Nodup) (x : Ext (gOf σ env rs H) F F') (S' : St K (gOf σ env rs H) F' (some v :: vs.map some) H' (r :: ss)) : RR K G F' σ H' v (resR r) (wb env rs ss) := by
  have B := St.back (hd := []) (he := []) S A n x S'.tail
  have h0 := S'.sl 0
  have key : St K G F' (some v :: σ) H' (r :: wb env rs ss) := by
    have gn : ∀ p, v = .ref p → r.own = true → gOf σ env rs H p = none := fun p ep w => by
      obtain ⟨p', u, e', _, _, g⟩ := h0.own_at w
      have e2 : some v = some (V.ref p') := e'
      cases e2
      cases ep
      exact g
    refine ⟨B.kg, B.kf, Nat.succ_le_succ B.ln, fun i => ?_, fun i j a q hi hj ei ej => ?_⟩
    · cases i with
      | succ i => exact B.sl i
      | zero =>
        refine SlR.otherG h0 fun p ep w => ?_
        have ep' : some v = some (V.ref p) := ep
        cases ep'
        have g := gn p rfl w
        by_cases h : Handed σ env rs p
        · obtain ⟨i, k, _, wi, ei⟩ := h
          obtain ⟨p', u, e', _, _, g'⟩ := (S.sl i).own_at wi
          rw [ei] at e'
          cases e'
          exact g'
        · rw [gOf_no h] at g
          exact S.kg.fresh g
    · have main : ∀ m b, r.own = true → v = .ref b → (ge (wb env rs ss) m).own = true → gs σ m ≠ some (.ref b) := fun m b w ev wm em => by
        subst ev
        have hm : m < env.length := by
          apply Nat.lt_of_not_le
          intro z
          rw [ge_wb_out z] at wm
          cases wm
        rw [ge_wb hm] at wm
        cases fk : rs.findIdx? (isPtr m) with
        | some k =>
          rw [fk] at wm
          obtain ⟨w1, w2⟩ := repin_own wm
          have hk := find_ptr fk
          have hl : k < rs.length := (List.getElem?_eq_some_iff.mp hk).1
          have hv : vs[k]? = some (vs[k]'(by rw [A.length]; exact hl)) := by simp [A.length, hl]
          have gm : gs σ m = vs[k]? := by
            rcases A.at hv with ⟨d, h1, _⟩ | ⟨j, h1, h2⟩ | ⟨j, h1, h2⟩
            · rw [hk] at h1; cases h1
            · rw [hk] at h1; cases h1; rw [h2, hv]
            · rw [hk] at h1; cases h1
          refine S'.ap 0 (k + 1) b (by simp) w w2 rfl ?_
          rw [gs_consS, gs_map, ← gm]
          exact em
        | none =>
          rw [fk] at wm
          have wm' : (ge env m).own = true := wm
          obtain ⟨p', u, e', hp, _, _⟩ := (S.sl m).own_at wm'
          rw [em] at e'
          cases e'
          have g := gn b rfl w
          have nh : ¬ Handed σ env rs b := fun ⟨j, k, hk, wj, ej⟩ => by
            by_cases z : m = j
            · subst z; exact find_none fk k hk
            · exact S.ap m j b z wm' wj em ej
          rw [gOf_no nh, hp] at g
          cases g
      cases i with
      | zero =>
        cases j with
        | zero => exact q rfl
        | succ j =>
          have e1 : v = .ref a := Option.some.inj ei
          exact main j a hi e1 hj ej
      | succ i =>
        cases j with
        | zero =>
          have e1 : v = .ref a := Option.some.inj ej
          exact main i a hj e1 hi ei
        | succ j => exact B.ap i j a (fun z => q (congrArg _ z)) hi hj ei ej
  cases r with
  | obj d =>
    have e := key.sl 0
    have e' : some v = some (V.ref d) := e
    cases e'
    exact ⟨rfl, B⟩
  | val d =>
    obtain ⟨w, e, r⟩ := key.sl 0
    have e' : some v = some w := e
    cases e'
    exact ⟨r, B⟩
  | _ => exact key
end
end Pd
set_option Elab.async false
set_option linter.all false
set_option maxRecDepth 100000
set_option maxHeartbeats 4000000
namespace Pd
open PySem PySem.Spec PyProof.Rows L2
theorem passN {X : Cx} : Passes (L2N.CX X.prog X.w) X E0 := fun _ _ _ _ _ _ _ h => by
  obtain ⟨_, _, _, _, _, _, _, _, _, _, _, _, z⟩ := h
  exact z.elim
/-- a def that stands at a name of the module and keeps its promise -/
def FnI (P : Program) (w : World) (K : Frag) (mg : Str → Option Value) (base : Heap) (ea : Str → Addr) (k : Nat) (x : Str) (ps : List Str) (S : FS) : Prop :=
  ∃ f fd, FnOk P w K mg base (L2N.CX P w) k f fd ps (spD K ea S) ∧ mg x = some (.ref f) ∧ PySem.W.keepIn K (.ref f) = true ∧ Binds K fd ps []
section
variable {X : Cx} {env env1 env2 env3 : Ev} {a b c e : Expr} {es : List Expr} {Ra Rb R : Rs} {x y z d : D} {pos p : Pos} {i : Nat} {rs : List Rs} {k k1 k2 : Bool} {rest : List Expr}
/-! ### arguments -/
theorem ea_nil : EA X [] env [] env := PA.wk pa_nil fun σ H Q ⟨G, F, S, q⟩ => q F [] H (Ext.refl G F) trivial S
theorem ARs.cons {K : Frag} {G F H : Hp} {σ : L2.St} {v : V} {vs : List V} {R : Rs} {env env' : Ev} (h : RR K G F σ H v R env) (f : R.flat = true) (l : ARs K F σ vs rs) : ARs K F σ (v :: vs) (R :: rs) := by
  cases R with
  | val d => exact ⟨h.1, l⟩
  | ptr i => exact ⟨h.1, l⟩
  | obj i => exact ⟨h.1, l⟩
  | new s => cases f
theorem RR.one {K : Frag} {G F H : Hp} {σ : L2.St} {v : V} {R : Rs} {env : Ev} (h : RR K G F σ H v R env) (f : R.flat = true) : ARs K F σ [v] [R] := by
  cases R with
  | val d => exact ⟨h.1, trivial⟩
  | ptr i => exact ⟨h.1, trivial⟩
  | obj i => exact ⟨h.1, trivial⟩
  | new s => cases f
theorem ARs.snoc1 {K : Frag} {F : Hp} {σ : L2.St} {v : V} {R : Rs} {vs : List V} (h : ARs K F σ [v] [R]) (l : ARs K F σ vs rs) : ARs K F σ (v :: vs) (R :: rs) := by
  cases R with
  | val d => exact ⟨h.1, l⟩
  | ptr i => exact ⟨h.1, l⟩
  | obj i => exact ⟨h.1, l⟩
  | new s => exact h.elim
theorem ea_cons (h : EV X e env R env1) (t : EA X es env1 rs env2) (f : (Pd.fz R).flat = true := by rfl) (hs : starEach (e :: es) X.env = (false, eval e X.env) :: starEach es X.env := by rfl) : EA X (e :: es) env (Pd.fz R :: rs) env2 :=
  PA.wk (pa_cons h t hs) fun σ H Q ⟨G, F, S, q⟩ => ⟨G, F, S, fun F1 v H1 x1 r1 => by
    obtain ⟨F1', x1', r1'⟩ := r1.fz
    refine ⟨G, F1', r1'.st, fun F2 vs H2 x2 r2 S2 => ?_⟩
    exact q F2 (v :: vs) H2 ((x1.trans x1').trans x2) (ARs.snoc1 ((r1'.one f).mono x2.le) r2) S2⟩
/-! ### displays -/
theorem drs_vals {K : Frag} {F : Hp} {σ : L2.St} : ∀ {vs : List V} {ds : List D}, ARs K F σ vs (ds.map Rs.val) → DRs K F vs ds
  | [], [], _ => .nil
  | _ :: _, _ :: _, h => .cons h.1 (drs_vals h.2)
  | [], _ :: _, h => by cases h
  | _ :: _, [], h => by cases h
theorem ev_tup {ds : List D} {x1} (h : EA X es env rs env1) (e : rs = ds.map Rs.val) (z : Nat.ble ds.length 100000 = true := by rfl) : EV X (.Tuple es x1 pos) env (.val (.tuple ds)) env1 :=
  PE.wk (pe_tup h) fun σ H Q ⟨G, F, S, q⟩ => ⟨G, F, S, fun F1 vs H1 x1 r1 S1 => by
    subst e
    have r := drs_vals r1
    have zz : vs.length ≤ sizeLine := by have z' := Nat.le_of_ble_eq_true z; rw [r.length]; exact line_ge (by omega)
    refine ⟨zz, fun p hp => ?_⟩
    obtain ⟨x2, r2, S2⟩ := S1.newTup hp zz r
    exact q _ _ _ (x1.trans x2) ⟨r2, S2⟩⟩
theorem ev_lst {ds : List D} (h : EA X es env rs env1) (e : rs = ds.map Rs.val) (z : Nat.ble ds.length 100000 = true := by rfl) : EV X (.List es pos) env (.new (.lst none ds)) env1 :=
  PE.wk (pe_lst h) fun σ H Q ⟨G, F, S, q⟩ => ⟨G, F, S, fun F1 vs H1 x1 r1 S1 => by
    subst e
    have r := drs_vals r1
    have zz : vs.length ≤ sizeLine := by have z' := Nat.le_of_ble_eq_true z; rw [r.length]; exact line_ge (by omega)
    refine ⟨zz, fun p hp => ?_⟩
    exact q F1 _ _ x1 (S1.consNew hp fun f g => ⟨p, vs, rfl, (fun _ z => nomatch z), upd_same, zz, r, f, g⟩)⟩
/-! ### calls of defs -/
theorem ev_call {ea : Str → Addr} {n : Nat} {fn : Str} {ps : List Str} {S : FS} {r : Sl} {ss : List Sl} (F : FnI X.prog X.w X.K X.mg X.base ea n fn ps S) (hr : Room n X.A) (ha : EA X (e :: es) env rs env1) (hS : S (rs.map (toS env1)) (.rt r ss)) (nd : ndL (ptrs rs) = true := by rfl) (hg : Gl X fn := by rfl)
    (hdb : (fn == ("__debug__" : Str)) = false := by decide) (he : starEach (e :: es) X.env = (false, eval e X.env) :: starEach es X.env := by rfl) (hpl : (backTo pos (starEach es X.env)).any (·.1) = false := by rfl) :
    EV X (.Call (.Name fn p) (e :: es) [] pos) env (resR r) (wb env1 rs ss) := by
  obtain ⟨f, fd, F, hm, hk, hb⟩ := F
  refine PE.wk (pe_call F hr hg hm hk hb .nil passN ha hdb he hpl) fun σ H Q ⟨G, F, S, q⟩ => ⟨G, F, S, fun F1 vs H1 x1 r1 S1 => ?_⟩
  show spD X.K ea _ (vs ++ []) H1 Q E0
  rw [List.append_nil]
  refine ⟨gOf σ env1 rs H1, F1, rs.map (toS env1), .rt r ss, hS, by rw [List.length_map, r1.length], S1.callee r1 (ndL_ok nd), fun F' v H' x' S' => ?_⟩
  exact q F' v H' (x1.trans (Ext.back S1 x')) (RR.back S1 r1 (ndL_ok nd) x' S')
/-! ### tests -/
theorem et_val (h : EV X e env (.val (.bool k)) env1) (he : ∀ whole, isTrue e X.env whole = (do let v ← whole; standAt e.pos; holding [v] (truthy v)) := by intro _; rfl) : ET X e env k env1 :=
  PT.wk (pt_val h he) fun σ H Q ⟨G, F, S, q⟩ => ⟨G, F, S, fun F1 v H1 x1 r1 => ⟨k, r1.1.bool_iff, q F1 H1 x1 r1.2⟩⟩
def truD : D → Option Bool
  | .none => some false
  | .bool b => some b
  | .int i => some (i != 0)
  | .list ds => some (!ds.isEmpty)
  | .tuple ds => some (!ds.isEmpty)
  | _ => none
theorem et_tru (h : EV X e env R env1) (w : vw (Pd.fz R) env1 = some d) (t : truD d = some k) (he : ∀ whole, isTrue e X.env whole = (do let v ← whole; standAt e.pos; holding [v] (truthy v)) := by intro _; rfl) : ET X e env k env1 :=
  PT.wk (pt_truth h he) fun σ H Q ⟨G, F, S, q⟩ => one_op (ta := tV X.K env R env1) (Q := fun v H' => ∃ k, TruV X.K v H' k ∧ Q k H') S (fun _ _ h => h) w fun F' v H' x1 S1 hv => ⟨k, by
    cases d with
    | none => rw [hv.none]; exact (Option.some.inj t).symm
    | bool b => rw [hv.bool]; exact (Option.some.inj t).symm
    | int i => rw [hv.int]; exact (Option.some.inj t).symm
    | str s => cases t
    | dict s => cases t
    | list ds =>
      obtain ⟨a, vs, rfl, ha, za, ra⟩ := hv.lst S1.kf
      refine .inl ⟨vs, .of ha, ?_⟩
      have t' : (!ds.isEmpty) = k := Option.some.inj t
      rw [← t']
      cases ra <;> rfl
    | tuple ds =>
      obtain ⟨a, vs, rfl, ha, za, ra⟩ := hv.tup S1.kf
      refine .inr (.inl ⟨vs, ha, ?_⟩)
      have t' : (!ds.isEmpty) = k := Option.some.inj t
      rw [← t']
      cases ra <;> rfl, q F' H' x1 S1⟩
theorem et_truS {s : Str} (h : EV X e env R env1) (w : vw (Pd.fz R) env1 = some (.str s)) (z : s.length ≤ sizeLine) (t : ((s.length : Int) != 0) = k) (he : ∀ whole, isTrue e X.env whole = (do let v ← whole; standAt e.pos; holding [v] (truthy v)) := by intro _; rfl) : ET X e env k env1 :=
  PT.wk (pt_truth h he) fun σ H Q ⟨G, F, S, q⟩ => one_op (ta := tV X.K env R env1) (Q := fun v H' => ∃ k, TruV X.K v H' k ∧ Q k H') S (fun _ _ h => h) w fun F' v H' x1 S1 hv => ⟨k, by
    rw [hv.str]
    exact ⟨z, t.symm⟩, q F' H' x1 S1⟩
theorem et_not (h : ET X a env k env1) : ET X (.UnaryOp .Not a pos) env (!k) env1 := PT.wk (pt_not h) fun σ H Q ⟨G, F, S, q⟩ => ⟨G, F, S, q⟩
theorem ew_and1 (h : ET X a env k env1) : EW X (.BoolOp .And [a] pos) env k env1 := PW.wk (pw_and1 h) fun σ H Q q => q
theorem ew_or1 (h : ET X a env k env1) : EW X (.BoolOp .Or [a] pos) env k env1 := PW.wk (pw_or1 h) fun σ H Q q => q
/-- the second part changes nothing that is told, where it is asked -/
theorem ew_and (h : ET X a env k1 env1) (h2 : k1 = true → EW X (.BoolOp .And (b :: rest) pos) env1 k2 env1) : EW X (.BoolOp .And (a :: b :: rest) pos) env (k1 && k2) env1 := by
  cases k1 with
  | true => exact PW.wk (pw_and h (h2 rfl)) fun σ H Q ⟨G, F, S, q⟩ => ⟨G, F, S, fun F1 H1 x1 S1 => iteT (⟨G, F1, S1, fun F2 H2 x2 S2 => q F2 H2 (x1.trans x2) S2⟩)⟩
  | false => exact PW.wk (pw_and (tB' := fun _ _ _ => False) h ⟨fun _ _ _ _ _ _ _ z => z.elim⟩) fun σ H Q ⟨G, F, S, q⟩ => ⟨G, F, S, fun F1 H1 x1 S1 => iteF (q F1 H1 x1 S1)⟩
theorem ew_or (h : ET X a env k1 env1) (h2 : k1 = false → EW X (.BoolOp .Or (b :: rest) pos) env1 k2 env1) : EW X (.BoolOp .Or (a :: b :: rest) pos) env (k1 || k2) env1 := by
  cases k1 with
  | false => exact PW.wk (pw_or h (h2 rfl)) fun σ H Q ⟨G, F, S, q⟩ => ⟨G, F, S, fun F1 H1 x1 S1 => iteF (⟨G, F1, S1, fun F2 H2 x2 S2 => q F2 H2 (x1.trans x2) S2⟩)⟩
  | true => exact PW.wk (pw_or (tB' := fun _ _ _ => False) h ⟨fun _ _ _ _ _ _ _ z => z.elim⟩) fun σ H Q ⟨G, F, S, q⟩ => ⟨G, F, S, fun F1 H1 x1 S1 => iteT (q F1 H1 x1 S1)⟩
theorem et_w (h : EW X e env k env1) : ET X e env k env1 := h.pt
/-- and, or of truth values, as values -/
theorem ev_one {op} (h : EV X a env R env1) : EV X (.BoolOp op [a] pos) env R env1 := pe_one h
theorem ev_and (h : EV X a env (.val (.bool k1)) env1) (h2 : k1 = true → EV X (.BoolOp .And (b :: rest) pos) env1 (.val (.bool k2)) env1) : EV X (.BoolOp .And (a :: b :: rest) pos) env (.val (.bool (k1 && k2))) env1 := by
  cases k1 with
  | true => exact PE.wk (pe_and h (h2 rfl)) fun σ H Q ⟨G, F, S, q⟩ => ⟨G, F, S, fun F1 v H1 x1 r1 => ⟨true, r1.1.bool_iff, iteT (⟨G, F1, r1.2, fun F2 v2 H2 x2 r2 => q F2 v2 H2 (x1.trans x2) r2⟩)⟩⟩
  | false => exact PE.wk (pe_and (tb := fun _ _ _ => False) h ⟨fun _ _ _ _ _ _ z => z.elim⟩) fun σ H Q ⟨G, F, S, q⟩ => ⟨G, F, S, fun F1 v H1 x1 r1 => ⟨false, r1.1.bool_iff, iteF (q F1 _ H1 x1 ⟨.bl _, r1.2⟩)⟩⟩
theorem ev_or (h : EV X a env (.val (.bool k1)) env1) (h2 : k1 = false → EV X (.BoolOp .Or (b :: rest) pos) env1 (.val (.bool k2)) env1) : EV X (.BoolOp .Or (a :: b :: rest) pos) env (.val (.bool (k1 || k2))) env1 := by
  cases k1 with
  | false => exact PE.wk (pe_or h (h2 rfl)) fun σ H Q ⟨G, F, S, q⟩ => ⟨G, F, S, fun F1 v H1 x1 r1 => ⟨false, r1.1.bool_iff, iteF (⟨G, F1, r1.2, fun F2 v2 H2 x2 r2 => q F2 v2 H2 (x1.trans x2) r2⟩)⟩⟩
  | true => exact PE.wk (pe_or (tb := fun _ _ _ => False) h ⟨fun _ _ _ _ _ _ z => z.elim⟩) fun σ H Q ⟨G, F, S, q⟩ => ⟨G, F, S, fun F1 v H1 x1 r1 => ⟨true, r1.1.bool_iff, iteT (q F1 _ H1 x1 ⟨.bl _, r1.2⟩)⟩⟩
theorem ev_not (h : EV X a env (.val (.bool k)) env1) : EV X (.UnaryOp .Not a pos) env (.val (.bool (!k))) env1 :=
  PE.wk (pe_not h) fun σ H Q ⟨G, F, S, q⟩ => ⟨G, F, S, fun F1 v H1 x1 r1 => ⟨k, r1.1.bool_iff, q F1 _ H1 x1 ⟨.bl _, r1.2⟩⟩⟩
/-- not of any value by its truth: HandS.Flow has it -/
theorem ev_if (h : ET X c env k env1) (h1 : k = true → EV X a env1 R env2) (h2 : k = false → EV X b env1 R env2) : EV X (.IfExp c a b pos) env R env2 := by
  cases k with
  | true => exact PE.wk (pe_ifExp (tb := fun _ _ _ => False) h (h1 rfl) ⟨fun _ _ _ _ _ _ z => z.elim⟩) fun σ H Q ⟨G, F, S, q⟩ => ⟨G, F, S, fun F1 H1 x1 S1 => iteT (⟨G, F1, S1, fun F2 v2 H2 x2 r2 => q F2 v2 H2 (x1.trans x2) r2⟩)⟩
  | false => exact PE.wk (pe_ifExp (ta := fun _ _ _ => False) h ⟨fun _ _ _ _ _ _ z => z.elim⟩ (h2 rfl)) fun σ H Q ⟨G, F, S, q⟩ => ⟨G, F, S, fun F1 H1 x1 S1 => iteF (⟨G, F1, S1, fun F2 v2 H2 x2 r2 => q F2 v2 H2 (x1.trans x2) r2⟩)⟩
/-- a < b < c: ints, no change of what is told -/
theorem chain_core {K : Frag} {r r' : R2} {ta tb tc : TE} {σ : L2.St} {H G F : Hp} {Q : VK} (S : St K G F σ H env)
    (ha : ∀ H (Q : VK), (∃ G F, St K G F σ H env ∧ ∀ F' v H', Ext G F F' → RR K G F' σ H' v Ra env1 → Q v H') → ta σ H Q)
    (hb : ∀ H (Q : VK), (∃ G F, St K G F σ H env1 ∧ ∀ F' v H', Ext G F F' → RR K G F' σ H' v Rb env2 → Q v H') → tb σ H Q)
    (hc : ∀ H (Q : VK), (∃ G F, St K G F σ H env2 ∧ ∀ F' v H', Ext G F F' → RR K G F' σ H' v R env2 → Q v H') → k1 = true → tc σ H Q) (fl : (Pd.fz Ra).flat = true) (fl2 : (Pd.fz Rb).flat = true)
    (wx : vw (Pd.fz Ra) env2 = some x) (wy : vw (Pd.fz Rb) env2 = some y) (wz : vw (Pd.fz R) env2 = some z) (h1 : OpD K r x y (.val (.bool k1))) (h2 : k1 = true → OpD K r' y z (.val (.bool k2)))
    (q : ∀ F' H', Ext G F F' → St K G F' σ H' env2 → Q (.bl (k1 && k2)) H') :
    tChain r r' ta tb tc σ H Q :=
  ha H _ ⟨G, F, S, fun F1 v H1 x1 r1 => by
    obtain ⟨F1', x1', r1'⟩ := r1.fz
    refine hb H1 _ ⟨G, F1', r1'.st, fun F2 u H2 x2 r2 => ?_⟩
    obtain ⟨F2', x2', r2'⟩ := r2.fz
    have kk := r1'.keep fl (x2.trans x2').le r2'.st
    have xx := (x1.trans x1').trans (x2.trans x2')
    refine h1 G F2' σ H2 env2 v u _ r2'.st (kk.va wx) (r2'.va wy) fun F3 w H3 x3 r3 => ⟨k1, r3.1.bool_iff, ?_⟩
    cases k1 with
    | false =>
      rw [if_neg Bool.false_ne_true]
      exact q F3 H3 (xx.trans x3) r3.2
    | true =>
      rw [if_pos rfl]
      refine hc H3 _ ⟨G, F3, r3.2, fun F4 s H4 x4 r4 => ?_⟩ rfl
      obtain ⟨F4', x4', r4'⟩ := r4.fz
      have k4 := r2'.keep fl2 (x3.trans (x4.trans x4')).le r4'.st
      refine h2 rfl G F4' σ H4 env2 u s Q r4'.st (k4.va wy) (r4'.va wz) fun F5 w5 H5 x5 r5 => ?_
      rw [r5.1.bool_iff]
      exact q F5 H5 (xx.trans ((x3.trans (x4.trans x4')).trans x5)) r5.2⟩
theorem ev_chain {op op' : CmpOp} {r r' : R2} (ho : OpR X (compareOp op) r) (ho' : OpR X (compareOp op') r') (ha : EV X a env Ra env1) (hb : EV X b env1 Rb env2) (hc : EV X c env2 R env2) (h1 : OpD X.K r x y (.val (.bool k1))) (h2 : k1 = true → OpD X.K r' y z (.val (.bool k2)))
    (wx : vw (Pd.fz Ra) env2 = some x) (wy : vw (Pd.fz Rb) env2 = some y) (wz : vw (Pd.fz R) env2 = some z) (hmk : lastMarks [op, op'] [b, c] = false := by with_unfolding_all rfl) (fl : (Pd.fz Ra).flat = true := by rfl) (fl2 : (Pd.fz Rb).flat = true := by rfl) :
    EV X (.Compare a [op, op'] [b, c] pos) env (.val (.bool (k1 && k2))) env2 :=
  PE.wk (pe_chain ho ho' ha hb hc hmk) fun σ H Q ⟨G, F, S, q⟩ => chain_core S (fun _ _ h => h) (fun _ _ h => h) (fun _ _ h _ => h) fl fl2 wx wy wz h1 h2 fun F' H' x1 S1 => q F' _ H' x1 ⟨.bl _, S1⟩
end
end Pd
set_option Elab.async false
set_option linter.all false
set_option maxRecDepth 100000
set_option maxHeartbeats 4000000
namespace Pd
open PySem PySem.Spec PyProof.Rows L2
inductive Out where
  | nx (e : Ev)
  | rt (r : Sl) (e : Ev)
  | bk (e : Ev)
  | ct (e : Ev)
  | ex (c : Str) (e : Ev)
def OutK (K : Frag) (ea : Str → Addr) (W : WX) (D : Ends) (G F' : Hp) : Out → Prop
  | .nx e => ∀ σ' H', St K G F' σ' H' e → D.nx σ' H'
  | .bk e => ∀ σ' H', St K G F' σ' H' e → D.bk σ' H'
  | .ct e => ∀ σ' H', St K G F' σ' H' e → D.ct σ' H'
  | .rt r e => ∀ v σ' H', St K G F' (some v :: σ') H' (r :: e) → D.rt v H'
  | .ex c e => ∀ σ' H', St K G F' σ' H' e → W (.ref (ea c)) none σ' H'
/-- a block's reading: from the state env, every outcome of Post is provided for -/
def tX (K : Frag) (ea : Str → Addr) (W : WX) (env : Ev) (Post : Out → Prop) : TS := fun D σ H => ∃ G F, St K G F σ H env ∧ ∀ o, Post o → ∀ F', Ext G F F' → OutK K ea W D G F' o
abbrev ES (X : Cx) (ea : Str → Addr) (W : WX) (sts : List Stmt) (env : Ev) (Post : Out → Prop) : Prop := PSs X sts (tX X.K ea W env Post)
/-- what follows a block that may run through -/
def thenP (X : Cx) (ea : Str → Addr) (W : WX) (rest : List Stmt) (Post : Out → Prop) : Out → Prop
  | .nx e => ES X ea W rest e Post
  | o => Post o
section
variable {X : Cx} {ea : Str → Addr} {W : WX} {sts rest A B : List Stmt} {env env1 env2 : Ev} {Post Post' : Out → Prop} {R : Rs} {e c : Expr} {pos pos' : Pos} {i : Nat} {k : Bool} {d : D}
theorem ES.mono (h : ES X ea W sts env Post) (m : ∀ o, Post o → Post' o) : ES X ea W sts env Post' := PSs.wk h fun D σ H ⟨G, F, S, q⟩ => ⟨G, F, S, fun o p => q o (m o p)⟩
theorem es_nil (h : Post (.nx env)) : ES X ea W [] env Post := PSs.wk pss_nil fun D σ H ⟨G, F, S, q⟩ => q _ h F (Ext.refl G F) σ H S
/-- states that say less -/
structure Weak (env env' : Ev) : Prop where
  len : env'.length ≤ env.length
  sl : ∀ i, ge env' i = ge env i ∨ ge env' i = .un
theorem Weak.refl (e : Ev) : Weak e e := ⟨Nat.le_refl _, fun _ => .inl rfl⟩
theorem St.weak {K : Frag} {G F H : Hp} {σ : L2.St} (S : St K G F σ H env) (w : Weak env env1) : St K G F σ H env1 where
  kg := S.kg
  kf := S.kf
  ln := Nat.le_trans w.len S.ln
  sl := fun i => by
    rcases w.sl i with h | h
    · rw [h]; exact S.sl i
    · rw [h]; trivial
  ap := fun i j a q hi hj => by
    have ow : ∀ m, (ge env1 m).own = true → (ge env m).own = true := fun m z => by
      rcases w.sl m with h | h
      · rw [h] at z; exact z
      · rw [h] at z; cases z
    exact S.ap i j a q (ow i hi) (ow j hj)
theorem es_weak (w : Weak env env1) (h : ES X ea W sts env1 Post) : ES X ea W sts env Post := PSs.wk h fun D σ H ⟨G, F, S, q⟩ => ⟨G, F, S.weak w, q⟩
/-- an owned list becomes a datum -/
theorem es_frz (j : Nat) {pin : Option Addr} {ds : List D} (g : ge env j = .lst pin ds) (h : ES X ea W sts (env.set j (.val (.list ds))) Post) : ES X ea W sts env Post := PSs.wk h fun D σ H ⟨G, F, S, q⟩ => by
  obtain ⟨F', x, S'⟩ := S.freeze g
  exact ⟨G, F', S', fun o p F2 x2 => q o p F2 (x.trans x2)⟩
/-- storing -/
def asgE (env : Ev) (R : Rs) (i : Nat) : Ev := match R with
  | .val d => env.set i (.val d)
  | .new s => env.set i s
  | .obj a => env.set i (.obj a)
  | .ptr j => (env.set j .un).set i (ge env j)
theorem St.take {K : Frag} {G F H : Hp} {σ : L2.St} {v : V} {j : Nat} (S : St K G F σ H env) (h : gs σ j = some v) : St K G F (some v :: σ) H (ge env j :: env.set j .un) where
  kg := S.kg
  kf := S.kf
  ln := Nat.succ_le_succ (by rw [List.length_set]; exact S.ln)
  sl := fun i => by
    cases i with
    | zero =>
      have q := S.sl j
      rw [h] at q
      exact q
    | succ i => exact (S.un j).sl i
  ap := fun a b x q ha hb ea' eb => by
    have ne : ∀ m, (ge (env.set j .un) m).own = true → j ≠ m ∧ (ge env m).own = true := fun m w => by
      by_cases z : j = m
      · subst z
        by_cases hj : j < env.length
        · rw [ge_set_same hj] at w; cases w
        · rw [ge_out (by rw [List.length_set]; omega)] at w; cases w
      · rw [ge_set_ne z] at w; exact ⟨z, w⟩
    cases a with
    | zero =>
      cases b with
      | zero => exact q rfl
      | succ b =>
        obtain ⟨n1, n2⟩ := ne b hb
        refine S.ap j b x n1 ha n2 ?_ eb
        rw [h]
        exact ea'
    | succ a =>
      obtain ⟨n1, n2⟩ := ne a ha
      cases b with
      | zero =>
        refine S.ap a j x (Ne.symm n1) n2 hb ea' ?_
        rw [h]
        exact eb
      | succ b =>
        obtain ⟨n3, n4⟩ := ne b hb
        exact S.ap a b x (fun z => q (congrArg _ z)) n2 n4 ea' eb
theorem RR.store {K : Frag} {G F H : Hp} {σ : L2.St} {v : V} (h : RR K G F σ H v R env) (hi : i < env.length) : St K G F (σ.set i (some v)) H (asgE env R i) := by
  cases R with
  | val d => exact (h.2.consVal h.1).store hi
  | new s => exact St.store h hi
  | obj a =>
    obtain ⟨e, S⟩ := h
    subst e
    exact (S.cons (s := .obj a) rfl rfl).store hi
  | ptr j => exact (h.2.take h.1).store (by rw [List.length_set]; exact hi)
theorem pss_seq {st : Stmt} {t : TS} (h1 : PS X st t) (h2 : ES X ea W rest env2 Post) : PSs X (st :: rest) (tSeq t (tX X.K ea W env2 Post)) := pss_cons h1 h2
theorem blt_lt {i n : Nat} (h : Nat.blt i n = true) : i < n := Nat.le_of_ble_eq_true h
/-- x = e -/
theorem es_set {x : Str} (i : Nat) (h : EV X e env R env1) (k : ES X ea W rest (asgE env1 R i) Post) (hN : X.N.Nodup) (hi : X.N[i]? = some x := by rfl) (hx : Loc X.env.scope x := by first | exact Or.inl rfl | exact Or.inr rfl) (hl : Nat.blt i env1.length = true := by rfl)
    (hs : swapsWith e (some (.Name x pos')) pos.line X.env = pure false := by rfl) (hf : X.fn x = true ∨ X.env.scope.names.lookup x = some .local := by first | exact .inl rfl | exact .inr rfl) : ES X ea W (.Assign [.Name x pos'] e pos :: rest) env Post :=
  PSs.wk (pss_seq (ps_set hN hi hx h hs hf) k) fun D σ H ⟨G, F, S, q⟩ => ⟨G, F, S, fun F1 v H1 x1 r1 => ⟨G, F1, r1.store (blt_lt hl), fun o p F2 x2 => q o p F2 (x1.trans x2)⟩⟩
/-- return e -/
def retS (env : Ev) : Rs → Sl
  | .val d => .val d
  | .new s => s
  | .obj a => .obj a
  | .ptr j => unpin (ge env j)
def retE (env : Ev) : Rs → Ev
  | .ptr j => env.set j .un
  | _ => env
theorem RR.ret {K : Frag} {G F H : Hp} {σ : L2.St} {v : V} (h : RR K G F σ H v R env) : St K G F (some v :: σ) H (retS env R :: retE env R) := by
  cases R with
  | val d => exact h.2.consVal h.1
  | new s => exact h
  | obj a =>
    obtain ⟨e, S⟩ := h
    subst e
    exact S.cons (s := .obj a) rfl rfl
  | ptr j =>
    have T := h.2.take h.1
    refine ⟨T.kg, T.kf, T.ln, fun i => ?_, fun a b x q ha hb => ?_⟩
    · cases i with
      | zero => exact (T.sl 0).unpin
      | succ i => exact T.sl (i + 1)
    · have ow : ∀ m, (ge (unpin (ge env j) :: env.set j .un) m).own = (ge (ge env j :: env.set j .un) m).own := fun m => by
        cases m with
        | zero => exact unpin_own _
        | succ m => rfl
      exact T.ap a b x q ((ow a).symm.trans ha) ((ow b).symm.trans hb)
theorem es_ret (h : EV X e env R env1) (k : Post (.rt (retS env1 R) (retE env1 R))) : ES X ea W (.Return (some e) pos :: rest) env Post :=
  PSs.wk (pss_cons (u := fun _ _ _ => False) (ps_ret h) ⟨fun _ _ _ _ _ _ z => z.elim⟩) fun D σ H ⟨G, F, S, q⟩ => ⟨G, F, S, fun F1 v H1 x1 r1 => q _ k F1 x1 v σ H1 r1.ret⟩
theorem es_retN (k : Post (.rt (.val .none) env)) : ES X ea W (.Return none pos :: rest) env Post :=
  PSs.wk (pss_cons (u := fun _ _ _ => False) ps_retN ⟨fun _ _ _ _ _ _ z => z.elim⟩) fun D σ H ⟨G, F, S, q⟩ => q _ k F (Ext.refl G F) .non σ H (S.consVal .non)
/-- e as a statement -/
theorem es_expr (h : EV X e env R env1) (k : ES X ea W rest env1 Post) (hs : swapsWith e none pos.line X.env = pure false := by rfl) : ES X ea W (.Expr e pos :: rest) env Post :=
  PSs.wk (pss_seq (ps_expr h hs) k) fun D σ H ⟨G, F, S, q⟩ => ⟨G, F, S, fun F1 v H1 x1 r1 => ⟨G, F1, r1.st, fun o p F2 x2 => q o p F2 (x1.trans x2)⟩⟩
theorem es_doc {x : Str} {j : Nat} {p p' : Pos} (k : ES X ea W rest env Post) : ES X ea W (.Expr (.Constant (.str x) j p) p' :: rest) env Post := PSs.wk (pss_seq ps_doc k) fun D σ H q => q
theorem es_pass (k : ES X ea W rest env Post) : ES X ea W (.Pass pos :: rest) env Post := PSs.wk (pss_seq ps_pass k) fun D σ H q => q
theorem es_break (k : Post (.bk env)) : ES X ea W (.Break pos :: rest) env Post :=
  PSs.wk (pss_cons (u := fun _ _ _ => False) ps_break ⟨fun _ _ _ _ _ _ z => z.elim⟩) fun D σ H ⟨G, F, S, q⟩ => q _ k F (Ext.refl G F) σ H S
theorem es_cont (k : Post (.ct env)) : ES X ea W (.Continue pos :: rest) env Post :=
  PSs.wk (pss_cons (u := fun _ _ _ => False) ps_continue ⟨fun _ _ _ _ _ _ z => z.elim⟩) fun D σ H ⟨G, F, S, q⟩ => q _ k F (Ext.refl G F) σ H S
/-- what follows, told where it is come to -/
def tRest (X : Cx) (ea : Str → Addr) (W : WX) (rest : List Stmt) (Post : Out → Prop) : TS := fun D σ H => ∃ e, ES X ea W rest e Post ∧ tX X.K ea W e Post D σ H
theorem pss_rest : PSs X rest (tRest X ea W rest Post) := ⟨fun pins s σ H D I ⟨e, h, q⟩ => h.run pins s σ H D I q⟩
theorem OutK.thenP {K : Frag} {D : Ends} {G F F1 F' : Hp} (hK : K = X.K) (q : ∀ o, Post o → ∀ F', Ext G F F' → OutK K ea W D G F' o) (x1 : Ext G F F1) (o : Out) (p : thenP X ea W rest Post o) (x : Ext G F1 F') :
    OutK K ea W { D with nx := fun σ H => tRest X ea W rest Post D σ H } G F' o := by
  subst hK
  cases o with
  | nx e => exact fun σ' H' S' => ⟨e, p, G, F', S', fun o p' F2 x2 => q o p' F2 ((x1.trans x).trans x2)⟩
  | rt r e => exact q _ p F' (x1.trans x)
  | bk e => exact q _ p F' (x1.trans x)
  | ct e => exact q _ p F' (x1.trans x)
  | ex c' e => exact q _ p F' (x1.trans x)
theorem es_if (h : ET X c env k env1) (h1 : k = true → ES X ea W A env1 (thenP X ea W rest Post)) (h2 : k = false → ES X ea W B env1 (thenP X ea W rest Post)) : ES X ea W (.If c A B pos :: rest) env Post := by
  cases k with
  | true => exact PSs.wk (pss_cons (ps_if (u := fun _ _ _ => False) h (h1 rfl) ⟨fun _ _ _ _ _ _ z => z.elim⟩) pss_rest) fun D σ H ⟨G, F, S, q⟩ => ⟨G, F, S, fun F1 H1 x1 S1 => iteT ⟨G, F1, S1, fun o p F2 x2 => OutK.thenP rfl q x1 o p x2⟩⟩
  | false => exact PSs.wk (pss_cons (ps_if (t := fun _ _ _ => False) h ⟨fun _ _ _ _ _ _ z => z.elim⟩ (h2 rfl)) pss_rest) fun D σ H ⟨G, F, S, q⟩ => ⟨G, F, S, fun F1 H1 x1 S1 => iteF ⟨G, F1, S1, fun o p F2 x2 => OutK.thenP rfl q x1 o p x2⟩⟩
/-- a call that raises, as a statement's whole expression; what is raised leaves the block -/
theorem es_callX {st : Stmt} {te : TE → TS} {fn : Str} {n : Nat} {ps : List Str} {S : FS} {es : List Expr} {rs : List Rs} {ss : List Sl} {p cp : Pos} {x : Str} (F : FnI X.prog X.w X.K X.mg X.base ea n fn ps S) (hr : Room n X.A) (tk : L2N.Takes X W) (ha : EA X (e :: es) env rs env1) (hS : S (rs.map (toS env1)) (.ex x ss))
    (hst : ∀ t, PE X (.Call (.Name fn p) (e :: es) [] cp) t → PS X st (te t)) (hte : ∀ t D σ H, (∀ Q, t σ H Q) → te t D σ H) (k : Post (.ex x (wb env1 rs ss))) (nd : ndL (ptrs rs) = true := by rfl) (hg : Gl X fn := by rfl)
    (hdb : (fn == ("__debug__" : Str)) = false := by decide) (he : starEach (e :: es) X.env = (false, eval e X.env) :: starEach es X.env := by rfl) (hpl : (backTo cp (starEach es X.env)).any (·.1) = false := by rfl) :
    ES X ea W (st :: rest) env Post := by
  obtain ⟨f, fd, F, hm, hk, hb⟩ := F
  have c := pe_callS (pos := cp) (p := p) (E := L2.WE W) F hr hg hm hk hb (fun σ => L2N.passAt tk σ) ha hdb he hpl
  refine PSs.wk (pss_cons (u := fun _ _ _ => False) (hst _ c) ⟨fun _ _ _ _ _ _ z => z.elim⟩) fun D σ H ⟨G, F, S, q⟩ => hte _ _ _ _ fun Q => ⟨G, F, S, fun F1 vs H1 x1 r1 S1 => ?_⟩
  refine ⟨gOf σ env1 rs H1, F1, rs.map (toS env1), .ex x ss, hS, by rw [List.length_map, r1.length], S1.callee r1 (ndL_ok nd), fun F' H' x' S' => ?_⟩
  exact q _ k F' (x1.trans (Ext.back S1 x')) σ H' (St.back (hd := []) (he := []) S1 r1 (ndL_ok nd) x' S')
theorem es_raise {x : Str} {p : Pos} {m : Str} {j : Nat} {p2 cp : Pos} {B newId initId : String} {bmB : List Value} (tk : L2N.Takes X W) (hc : X.calm = true) (Fb : ExcBaseFacts B newId initId bmB) (q : PySem.W.excIn X.K (ea x) bmB newId = true) (gC : X.mg x = some (.ref (ea x))) (kC : PySem.W.keepIn X.K (.ref (ea x)) = true) (r : Raises X (.ref (ea x)))
    (k : Post (.ex x env)) (hg : Gl X x := by rfl) (hdb : (x == ("__debug__" : Str)) = false := by decide) : ES X ea W (.Raise (some (.Call (.Name x p) [.Constant (.str m) j p2] [] cp)) none pos :: rest) env Post :=
  PSs.wk (pss_cons (u := fun _ _ _ => False) (L2N.ps_raise hc tk (L2N.pmk_own Fb q gC kC r hg hdb)) ⟨fun _ _ _ _ _ _ z => z.elim⟩) fun D σ H ⟨G, F, S, h⟩ => h _ k F (Ext.refl G F) σ H S
end
end Pd
set_option Elab.async false
set_option linter.all false
set_option maxRecDepth 100000
set_option maxHeartbeats 4000000
namespace Pd
open PySem PySem.Spec PyProof.Rows L2
/-! ### what is walked -/
def ItOk (K : Frag) (F : Hp) (J : It) (items : List D) : Prop := ∀ i H, Le F H → (∀ d, items[i]? = some d → J.go i H ∧ ∀ x H', J.yld i H x H' → (H' = H ∧ DR K F x d) ∨
  ∃ T xs ds, H T = none ∧ H' = upd H T (.tup xs) ∧ x = .ref T ∧ d = .tuple ds ∧ xs.length ≤ sizeLine ∧ DRs K F xs ds) ∧ (items.length ≤ i → J.stop i H)
theorem ItOk.mono {K : Frag} {F F' : Hp} {J : It} {items : List D} (h : ItOk K F J items) (l : Le F F') : ItOk K F' J items := fun i H l' => by
  obtain ⟨h1, h2⟩ := h i H (l.trans l')
  refine ⟨fun d e => ?_, h2⟩
  obtain ⟨g, y⟩ := h1 d e
  refine ⟨g, fun x H' yy => ?_⟩
  rcases y x H' yy with ⟨a, b⟩ | ⟨T, xs, ds, a1, a2, a3, a4, a5, a6⟩
  · exact .inl ⟨a, b.mono l⟩
  · exact .inr ⟨T, xs, ds, a1, a2, a3, a4, a5, a6.mono l⟩
def tI (K : Frag) (env : Ev) (items : List D) (env' : Ev) : TI := fun σ H R => ∃ G F, St K G F σ H env ∧ ∀ F' J H', Ext G F F' → ItOk K F' J items → St K G F' σ H' env' → R J H'
abbrev EI (X : Cx) (tg e : Expr) (env : Ev) (items : List D) (env' : Ev) : Prop := PI X tg e (tI X.K env items env')
theorem PI.wk {X : Cx} {tg e : Expr} {t t' : TI} (h : PI X tg e t) (w : ∀ σ H R, t' σ H R → t σ H R) : PI X tg e t' := ⟨fun pins s σ H R I q => h.run pins s σ H R I (w σ H R q)⟩
theorem getElem?_of_le {α : Type} {l : List α} {i : Nat} (h : l.length ≤ i) : l[i]? = none := List.getElem?_eq_none_iff.mpr h
section
variable {X : Cx} {tg e e2 : Expr} {env env1 env2 : Ev} {R : Rs} {ds es : List D} {pos p : Pos}
theorem itOk_list {K : Frag} {F : Hp} {a : Addr} {vs : List V} (h : F a = some (.lst vs)) (r : DRs K F vs ds) : ItOk K F (Itl K a) ds := fun i H l =>
  ⟨fun d e => by
    obtain ⟨v, h1, h2⟩ := r.get e
    exact ⟨⟨vs, v, .of (l _ _ h), h1⟩, fun x H' ⟨y1, y2⟩ => .inl ⟨y1, by
      have q := y2 vs (.of (l _ _ h))
      rw [h1] at q
      cases q
      exact h2⟩⟩, fun z => ⟨vs, .of (l _ _ h), by rw [r.length]; exact z⟩⟩
theorem itOk_tup {K : Frag} {F : Hp} {a : Addr} {vs : List V} (h : SqT K F a vs) (r : DRs K F vs ds) : ItOk K F (Itt K a) ds := fun i H l =>
  ⟨fun d e => by
    obtain ⟨v, h1, h2⟩ := r.get e
    exact ⟨⟨vs, v, le_t l h, h1⟩, fun x H' ⟨y1, y2⟩ => .inl ⟨y1, by
      have q := y2 vs (le_t l h)
      rw [h1] at q
      cases q
      exact h2⟩⟩, fun z => ⟨vs, le_t l h, by rw [r.length]; exact z⟩⟩
theorem ei_list (h : EV X e env R env1) (w : Pd.fz R = .val (.list ds)) : EI X tg e env ds env1 := PI.wk (pi_list h) fun σ H Q ⟨G, F, S, q⟩ => ⟨G, F, S, fun F1 v H1 x1 r1 => by
  obtain ⟨F2, x2, r2⟩ := r1.fz
  rw [w] at r2
  obtain ⟨r2, S2⟩ := r2
  cases r2 with
  | lst a b c => exact ⟨_, rfl, ⟨_, .of (S2.kf _ _ a)⟩, q F2 _ H1 (x1.trans x2) (itOk_list a c) S2⟩⟩
theorem ei_tup (h : EV X e env R env1) (w : Pd.fz R = .val (.tuple ds)) : EI X tg e env ds env1 := PI.wk (pi_tup h) fun σ H Q ⟨G, F, S, q⟩ => ⟨G, F, S, fun F1 v H1 x1 r1 => by
  obtain ⟨F2, x2, r2⟩ := r1.fz
  rw [w] at r2
  obtain ⟨r2, S2⟩ := r2
  cases r2 with
  | tup a b c => exact ⟨_, rfl, ⟨_, le_t S2.kf a⟩, q F2 _ H1 (x1.trans x2) (itOk_tup a c) S2⟩⟩
/-- lo, lo + 1, .. below hi -/
def irange (lo hi : Int) : List Int := (List.range (hi - lo).toNat).map fun k : Nat => lo + (k : Int)
theorem irange_get {lo hi : Int} {i : Nat} (h : i < (hi - lo).toNat) : (irange lo hi)[i]? = some (lo + (i : Int)) := by
  unfold irange
  rw [List.getElem?_map, List.getElem?_range h]
  rfl
theorem irange_len {lo hi : Int} : (irange lo hi).length = (hi - lo).toNat := by
  unfold irange
  rw [List.length_map, List.length_range]
theorem mem_irange {lo hi x : Int} : x ∈ irange lo hi ↔ lo ≤ x ∧ x < hi := by
  unfold irange
  rw [List.mem_map]
  constructor
  · rintro ⟨k, hk, rfl⟩
    rw [List.mem_range] at hk
    omega
  · intro h
    exact ⟨(x - lo).toNat, by rw [List.mem_range]; omega, by omega⟩
theorem itOk_range {K : Frag} {F : Hp} {lo hi : Int} : ItOk K F (Itr lo (hi - lo).toNat) ((irange lo hi).map .int) := fun i H l =>
  ⟨fun d e => by
    rw [List.getElem?_map] at e
    have hi' : i < (hi - lo).toNat := by
      apply Nat.lt_of_not_le
      intro z
      rw [getElem?_of_le (by rw [irange_len]; exact z)] at e
      cases e
    rw [irange_get hi'] at e
    cases e
    exact ⟨hi', fun x H' ⟨y1, y2⟩ => .inl ⟨y1, by subst y2; exact .int _⟩⟩, fun z => by
    rw [List.length_map, irange_len] at z
    exact z⟩
theorem one_int {K : Frag} {F H : Hp} {v : V} {i : Int} (h : DR K F v (.int i)) : v = .int i := h.int_iff
theorem ei_rng1 {hi : Int} (hm : X.mg "range" = none) (h : EV X e env (.val (.int hi)) env1) (b : -(2 ^ 62) ≤ hi ∧ hi < 2 ^ 62) (hg : Gl X "range" := by rfl) (he : starEach (e :: []) X.env = (false, eval e X.env) :: starEach [] X.env := by rfl)
    (hs : starEach [e] X.env = [(false, eval e X.env)] := by rfl) : EI X tg (.Call (.Name "range" p) [e] [] pos) env ((irange 0 hi).map .int) env1 :=
  PI.wk (pi_range1 hg hm (pa_cons h pa_nil he) hs) fun σ H Q ⟨G, F, S, q⟩ => ⟨G, F, S, fun F1 v H1 x1 r1 => ⟨hi, by rw [r1.1.int_iff], b.1, b.2, by
    have w := itOk_range (K := X.K) (F := F1) (lo := 0) (hi := hi)
    rw [Int.sub_zero] at w
    exact q F1 _ H1 x1 w r1.2⟩⟩
theorem ei_rng2 {lo hi : Int} (hm : X.mg "range" = none) (h : EV X e env (.val (.int lo)) env1) (h2 : EV X e2 env1 (.val (.int hi)) env2) (b : (-(2 ^ 62) ≤ lo ∧ lo < 2 ^ 62) ∧ -(2 ^ 62) ≤ hi ∧ hi < 2 ^ 62) (hg : Gl X "range" := by rfl)
    (he1 : starEach (e :: [e2]) X.env = (false, eval e X.env) :: starEach [e2] X.env := by rfl) (he2 : starEach (e2 :: []) X.env = (false, eval e2 X.env) :: starEach [] X.env := by rfl)
    (hs : starEach [e, e2] X.env = [(false, eval e X.env), (false, eval e2 X.env)] := by rfl) (hs2 : starEach [e2] X.env = [(false, eval e2 X.env)] := by rfl) : EI X tg (.Call (.Name "range" p) [e, e2] [] pos) env ((irange lo hi).map .int) env2 :=
  PI.wk (pi_range2 hg hm (pa_cons h (pa_cons h2 pa_nil he2) he1) hs hs2) fun σ H Q ⟨G, F, S, q⟩ => ⟨G, F, S, fun F1 v H1 x1 r1 => ⟨G, F1, r1.2, fun F2 u H2 x2 r2 => ⟨lo, hi, by rw [r1.1.int_iff, r2.1.int_iff], ⟨b.1.1, b.1.2, b.2.1, b.2.2⟩, q F2 _ H2 (x1.trans x2) itOk_range r2.2⟩⟩⟩
/-- zip of two lists, of two tuples -/
def zipD (ds es : List D) : List D := (ds.zip es).map fun p => .tuple [p.1, p.2]
theorem zip_len {α β : Type} : ∀ {l : List α} {m : List β} {i : Nat}, (l.zip m).length ≤ i → l.length ≤ i ∨ m.length ≤ i := fun {l m i} h => by
  rw [List.length_zip] at h
  omega
theorem ei_zip {elts : List Expr} {kk : Nat} {tpos : Pos} {x y : D} (hm : X.mg "zip" = none) (h : EA X [e, e2] env [.val x, .val y] env1) (t : (x = .list ds ∧ y = .list es) ∨ (x = .tuple ds ∧ y = .tuple es)) (hg : Gl X "zip" := by rfl)
    (hs : starEach [e, e2] X.env = (false, eval e X.env) :: starEach [e2] X.env := by rfl) (hpl : (backTo pos (starEach [e2] X.env)).any (·.1) = false := by rfl) : EI X (.Tuple elts kk tpos) (.Call (.Name "zip" p) [e, e2] [] pos) env (zipD ds es) env1 := by
  refine PI.wk (RZ.pi_zipA hg hm h hs hpl) fun σ H Q ⟨G, F, S, q⟩ => ⟨G, F, S, fun F1 vs H1 x1 r1 S1 => ?_⟩
  match vs, r1 with
  | [u, v], ⟨a, b, _⟩ =>
    have fin : ∀ {us ws : List V} {J : It}, DRs X.K F1 us ds → DRs X.K F1 ws es → (∀ i H, Le F1 H → (∀ a b, us[i]? = some a → ws[i]? = some b → J.go i H ∧ ∀ x H', J.yld i H x H' → ∃ T, x = .ref T ∧ H T = none ∧ H' = upd H T (.tup [a, b])) ∧ (us.length ≤ i ∨ ws.length ≤ i → J.stop i H)) → ItOk X.K F1 J (zipD ds es) := fun {us ws J} ra rb w i H l => by
      obtain ⟨w1, w2⟩ := w i H l
      refine ⟨fun d ed => ?_, fun z => ?_⟩
      · unfold zipD at ed
        rw [List.getElem?_map] at ed
        cases ez : (ds.zip es)[i]? with
        | none => rw [ez] at ed; cases ed
        | some pq =>
          rw [ez] at ed
          cases ed
          obtain ⟨p1, p2⟩ := List.getElem?_zip_eq_some.mp ez
          obtain ⟨a', ha', hda⟩ := ra.get p1
          obtain ⟨b', hb', hdb⟩ := rb.get p2
          obtain ⟨g, y⟩ := w1 a' b' ha' hb'
          refine ⟨g, fun x H' yy => ?_⟩
          obtain ⟨T, e1, e2, e3⟩ := y x H' yy
          exact .inr ⟨T, [a', b'], [pq.1, pq.2], e2, e3, e1, rfl, by show 2 ≤ sizeLine; decide, .cons hda (.cons hdb .nil)⟩
      · unfold zipD at z
        rw [List.length_map] at z
        rw [ra.length, rb.length] at w2
        exact w2 (zip_len z)
    rcases t with ⟨e1, e2⟩ | ⟨e1, e2⟩
    · subst e1 e2
      cases a with
      | lst fa za ra =>
        cases b with
        | lst fb zb rb =>
          refine ⟨_, _, _, _, rfl, .inl ⟨.of (S1.kf _ _ fa), .of (S1.kf _ _ fb), q F1 _ H1 x1 (fin ra rb fun i H l => ⟨fun a b ha hb => ⟨⟨_, _, a, b, .of (l _ _ fa), .of (l _ _ fb), ha, hb⟩, fun x H' yy => ?_⟩, fun z => ⟨_, _, .of (l _ _ fa), .of (l _ _ fb), z⟩⟩) S1⟩⟩
          obtain ⟨T, x', y', e1, e2, e3, e4, e5⟩ := yy
          have q4 := e4 _ (.of (l _ _ fa))
          have q5 := e5 _ (.of (l _ _ fb))
          rw [ha] at q4
          rw [hb] at q5
          cases q4
          cases q5
          exact ⟨T, e1, e2, e3⟩
    · subst e1 e2
      cases a with
      | tup fa za ra =>
        cases b with
        | tup fb zb rb =>
          refine ⟨_, _, _, _, rfl, .inr ⟨le_t S1.kf fa, le_t S1.kf fb, q F1 _ H1 x1 (fin ra rb fun i H l => ⟨fun a b ha hb => ⟨⟨_, _, a, b, le_t l fa, le_t l fb, ha, hb⟩, fun x H' yy => ?_⟩, fun z => ⟨_, _, le_t l fa, le_t l fb, z⟩⟩) S1⟩⟩
          obtain ⟨T, x', y', e1, e2, e3, e4, e5⟩ := yy
          have q4 := e4 _ (le_t l fa)
          have q5 := e5 _ (le_t l fb)
          rw [ha] at q4
          rw [hb] at q5
          cases q4
          cases q5
          exact ⟨T, e1, e2, e3⟩
/-! ### targets -/
def gNames : List Nat → TGs
  | [] => gNil
  | i :: is => gCons (gName i) (gNames is)
/-- the state behind a target's store -/
inductive Tgt where
  | nm (i : Nat)
  | tp (is : List Nat)
def setAll : Ev → List Nat → List D → Ev
  | e, i :: is, d :: ds => setAll (e.set i (.val d)) is ds
  | e, _, _ => e
def Tgt.bind : Tgt → Ev → D → Ev
  | .nm i, e, d => e.set i (.val d)
  | .tp is, e, .tuple ds => setAll e is ds
  | .tp _, e, _ => e
def Tgt.ok : Tgt → Nat → D → Prop
  | .nm i, n, _ => i < n
  | .tp is, n, d => ∃ ds, d = .tuple ds ∧ ds.length = is.length ∧ ∀ i ∈ is, i < n
def Tgt.okB : Tgt → Nat → D → Bool
  | .nm i, n, _ => Nat.blt i n
  | .tp is, n, .tuple ds => Nat.beq ds.length is.length && is.all fun i => Nat.blt i n
  | .tp _, _, _ => false
theorem Tgt.ok_of {t : Tgt} {n : Nat} {d : D} (h : t.okB n d = true) : t.ok n d := by
  cases t with
  | nm i => exact blt_lt h
  | tp is =>
    cases d <;> first | cases h | skip
    rename_i ds
    have h' : (Nat.beq ds.length is.length && is.all fun i => Nat.blt i n) = true := h
    rw [Bool.and_eq_true] at h'
    exact ⟨ds, rfl, Nat.eq_of_beq_eq_true h'.1, fun i hi => blt_lt (List.all_eq_true.mp h'.2 i hi)⟩
def Tgt.g (K : Frag) : Tgt → TG
  | .nm i => gName i
  | .tp is => gTup K is.length (gNames is)
def Tgt.slots : Tgt → List Nat
  | .nm i => [i]
  | .tp is => is
theorem setAll_len : ∀ {is : List Nat} {ds : List D} {e : Ev}, (setAll e is ds).length = e.length
  | [], _, _ => rfl
  | _ :: _, [], _ => rfl
  | i :: is, d :: ds, e => by unfold setAll; rw [setAll_len, List.length_set]
theorem Tgt.bind_len {t : Tgt} {e : Ev} {d : D} : (t.bind e d).length = e.length := by
  cases t with
  | nm i => exact List.length_set
  | tp is => cases d <;> first | exact setAll_len | rfl
/-- only the target's slots change -/
theorem gNames_run {K : Frag} {G F H : Hp} {k : L2.St → Hp → Prop} : ∀ {is : List Nat} {vs : List V} {ds : List D} {σ : L2.St} {e : Ev}, DRs K F vs ds → ds.length = is.length → (∀ i ∈ is, i < e.length) → St K G F σ H e →
    (∀ σ', (∀ j, j ∉ is → gs σ' j = gs σ j) → σ'.length = σ.length → St K G F σ' H (setAll e is ds) → k σ' H) → gNames is vs σ H k
  | [], [], [], σ, e, _, _, _, S, q => ⟨rfl, q σ (fun _ _ => rfl) rfl S⟩
  | i :: is, v :: vs, d :: ds, σ, e, .cons r rs, hl, hi, S, q => ⟨v, vs, rfl, by
      have hlt : i < e.length := hi i List.mem_cons_self
      refine gNames_run (is := is) (e := e.set i (.val d)) rs (Nat.succ.inj hl) (fun j hj => by rw [List.length_set]; exact hi j (List.mem_cons_of_mem _ hj)) ((S.consVal r).store hlt) fun σ' a b S' => ?_
      refine q σ' (fun j hj => ?_) (by rw [b, List.length_set]) S'
      rw [List.mem_cons, not_or] at hj
      rw [a j hj.2, gs_set_ne (Ne.symm hj.1)]⟩
  | [], _ :: _, _, _, _, h, hl, _, _, _ => by cases h; cases hl
  | _ :: _, [], _, _, _, h, hl, _, _, _ => by cases h; cases hl
theorem Tgt.run {K : Frag} {G F H : Hp} {k : L2.St → Hp → Prop} {t : Tgt} {x : V} {d : D} {σ : L2.St} {e : Ev} (r : DR K F x d) (ok : t.ok e.length d) (S : St K G F σ H e)
    (q : ∀ σ', (∀ j, j ∉ t.slots → gs σ' j = gs σ j) → σ'.length = σ.length → St K G F σ' H (t.bind e d) → k σ' H) : t.g K x σ H k := by
  cases t with
  | nm i => exact q _ (fun j hj => gs_set_ne (fun z => hj (by rw [z]; exact List.mem_cons_self))) List.length_set ((S.consVal r).store ok)
  | tp is =>
    obtain ⟨ds, rfl, hl, hi⟩ := ok
    cases r with
    | tup a b c => exact ⟨_, _, rfl, le_t S.kf a, by rw [c.length]; exact hl, gNames_run c hl hi S q⟩
end
end Pd
set_option Elab.async false
set_option linter.all false
set_option maxRecDepth 100000
set_option maxHeartbeats 4000000
namespace Pd
open PySem PySem.Spec PyProof.Rows L2
/-! ### for -/
def tAny (X : Cx) (ea : Str → Addr) (W : WX) (sts : List Stmt) : TS := fun D σ H => ∃ e P, ES X ea W sts e P ∧ tX X.K ea W e P D σ H
theorem pss_any {X : Cx} {ea : Str → Addr} {W : WX} {sts : List Stmt} : PSs X sts (tAny X ea W sts) := ⟨fun pins s σ H D I ⟨e, P, h, q⟩ => h.run pins s σ H D I q⟩
/-- what a loop's turn may come to -/
def turnP (X : Cx) (ea : Str → Addr) (W : WX) (rest : List Stmt) (Post : Out → Prop) (J : Ev → Prop) : Out → Prop
  | .nx e => J e
  | .ct e => J e
  | .bk e => ES X ea W rest e Post
  | o => Post o
section
variable {X : Cx} {ea : Str → Addr} {W : WX} {rest body : List Stmt} {env env1 env2 : Ev} {Post : Out → Prop} {tg iter : Expr} {pos : Pos} {items : List D}
theorem yld_run {K : Frag} {G F H : Hp} {J : It} {i : Nat} {d : D} {t : Tgt} {x : V} {H' : Hp} {σ : L2.St} {e : Ev} {k : L2.St → Hp → Prop} (it : ItOk K F J items) (S : St K G F σ H e) (hd : items[i]? = some d) (y : J.yld i H x H') (ok : t.ok e.length d)
    (q : ∀ F' σ', Ext G F F' → (∀ j, j ∉ t.slots → gs σ' j = gs σ j) → σ'.length = σ.length → St K G F' σ' H' (t.bind e d) → k σ' H') : t.g K x σ H' k := by
  obtain ⟨h1, _⟩ := it i H S.kf
  obtain ⟨_, yy⟩ := h1 d hd
  rcases yy x H' y with ⟨e1, r⟩ | ⟨T, xs, ds, n, e1, e2, e3, z, r⟩
  · subst e1
    exact Tgt.run r ok S fun σ' a b S' => q F σ' (Ext.refl G F) a b S'
  · subst e1 e2 e3
    obtain ⟨x1, r1, S1⟩ := S.newTup n z r
    exact Tgt.run r1 ok S1 fun σ' a b S' => q _ σ' x1 a b S'
theorem es_for (t : Tgt) (J : Nat → Ev → Prop) (hi : EI X tg iter env items env1) (hg : PG X tg (t.g X.K)) (h0 : J 0 env1) (hok : ∀ i d e, items[i]? = some d → J i e → t.ok e.length d)
    (hs : ∀ i d e, items[i]? = some d → J i e → ES X ea W body (t.bind e d) (turnP X ea W rest Post (J (i + 1)))) (hd : ∀ e, J items.length e → ES X ea W rest e Post) (hp : PassesOwn (model X.prog X.w) X.A X.env X.xe) (hc : X.calm = true)
    (hf : ∀ x, foldedSetIterable iter X.env x = pure x := by intro _; rfl) : ES X ea W (.For tg iter body [] pos :: rest) env Post := by
  refine PSs.wk (pss_cons (ps_for hp hc hi hg (pss_any (ea := ea) (W := W)) hf) (pss_any (ea := ea) (W := W))) fun D σ H ⟨G, F, S, q⟩ => ⟨G, F, S, fun F1 Jt H1 x1 it S1 => ?_⟩
  refine ⟨fun i m σ H => m = items.length - i ∧ i ≤ items.length ∧ ∃ e F', J i e ∧ Ext G F1 F' ∧ St X.K G F' σ H e, ⟨items.length, by omega, by omega, env1, F1, h0, Ext.refl G F1, S1⟩, ?_⟩
  rintro i m σ' H' ⟨rfl, hle, e, F', j, x', S'⟩
  have it' := it.mono x'.le
  by_cases hlt : i < items.length
  · refine .inr ?_
    have hd' : items[i]? = some items[i] := List.getElem?_eq_getElem hlt
    obtain ⟨h1, _⟩ := it' i H' S'.kf
    refine ⟨(h1 _ hd').1, fun σ2 H2 => ∃ e F', J (i + 1) e ∧ Ext G F1 F' ∧ St X.K G F' σ2 H2 e, fun σ2 H2 n => ⟨items.length - (i + 1), by omega, rfl, by omega, n⟩, fun x H2 y => ?_⟩
    refine yld_run it' S' hd' y (hok i _ e hd' j) fun F2 σ2 x2 _ _ S2 => ⟨_, _, hs i _ e hd' j, G, F2, S2, fun o p F3 x3 => ?_⟩
    have xx := x'.trans (x2.trans x3)
    cases o with
    | nx e3 => exact fun σ3 H3 S3 => ⟨e3, F3, p, xx, S3⟩
    | ct e3 => exact fun σ3 H3 S3 => ⟨e3, F3, p, xx, S3⟩
    | bk e3 => exact fun σ3 H3 S3 => ⟨e3, Post, p, G, F3, S3, fun o po F4 x4 => q o po F4 ((x1.trans xx).trans x4)⟩
    | rt r e3 => exact q _ p F3 (x1.trans xx)
    | ex c e3 => exact q _ p F3 (x1.trans xx)
  · have hie : i = items.length := by omega
    subst hie
    obtain ⟨_, h2⟩ := it' items.length H' S'.kf
    exact .inl ⟨h2 (Nat.le_refl _), e, Post, hd e j, G, F', S', fun o po F4 x4 => q o po F4 ((x1.trans x').trans x4)⟩
/-- while: an invariant and a measure -/
theorem es_while {c : Expr} (J : Nat → Ev → Prop) (m0 : Nat) (h0 : J m0 env) (hs : ∀ m e, J m e → ∃ b e1, ET X c e b e1 ∧ (b = true → ES X ea W body e1 (turnP X ea W rest Post fun e' => ∃ m', m' < m ∧ J m' e')) ∧ (b = false → ES X ea W rest e1 Post)) (hp : PassesOwn (model X.prog X.w) X.A X.env X.xe)
    (hc : PT X c (fun σ H Q => ∃ e b e1, ET X c e b e1 ∧ tTt X.K e b e1 σ H Q) := by exact ⟨fun pins s σ H Q I ⟨e, b, e1, h, q⟩ => h.run pins s σ H Q I q⟩) : ES X ea W (.While c body [] pos :: rest) env Post := by
  refine PSs.wk (pss_cons (ps_while hp hc (pss_any (ea := ea) (W := W))) (pss_any (ea := ea) (W := W))) fun D σ H ⟨G, F, S, q⟩ => ?_
  refine ⟨fun m σ H => ∃ e F', J m e ∧ Ext G F F' ∧ St X.K G F' σ H e, ⟨m0, env, F, h0, Ext.refl G F, S⟩, ?_⟩
  rintro m σ' H' ⟨e, F', j, x', S'⟩
  obtain ⟨b, e1, ht, hb, hn⟩ := hs m e j
  refine ⟨e, b, e1, ht, G, F', S', fun F2 H2 x2 S2 => ?_⟩
  cases b with
  | true =>
    refine iteT ⟨fun σ2 H2 => ∃ m', m' < m ∧ ∃ e F', J m' e ∧ Ext G F F' ∧ St X.K G F' σ2 H2 e, fun σ2 H2 n => n, _, _, hb rfl, G, F2, S2, fun o p F3 x3 => ?_⟩
    have xx := x'.trans (x2.trans x3)
    cases o with
    | nx e3 =>
      obtain ⟨m', l, jj⟩ := p
      exact fun σ3 H3 S3 => ⟨m', l, e3, F3, jj, xx, S3⟩
    | ct e3 =>
      obtain ⟨m', l, jj⟩ := p
      exact fun σ3 H3 S3 => ⟨m', l, e3, F3, jj, xx, S3⟩
    | bk e3 => exact fun σ3 H3 S3 => ⟨e3, Post, p, G, F3, S3, fun o po F4 x4 => q o po F4 (xx.trans x4)⟩
    | rt r e3 => exact q _ p F3 xx
    | ex c e3 => exact q _ p F3 xx
  | false => exact iteF ⟨e1, Post, hn rfl, G, F2, S2, fun o po F4 x4 => q o po F4 ((x'.trans x2).trans x4)⟩
end
/-! ### comprehensions -/
def wipeE (vs : List Nat) : Nat → Ev → Ev
  | _, [] => []
  | k, s :: r => (bif vs.elem k then .un else s) :: wipeE vs (k + 1) r
theorem wipeE_len {vs : List Nat} : ∀ {k : Nat} {e : Ev}, (wipeE vs k e).length = e.length
  | _, [] => rfl
  | k, _ :: r => congrArg (· + 1) (wipeE_len (k := k + 1) (e := r))
theorem ge_wipeE {vs : List Nat} : ∀ {k i : Nat} {e : Ev}, ge (wipeE vs k e) i = if (k + i) ∈ vs then .un else ge e i
  | k, i, [] => by
    show Sl.un = _
    split <;> rfl
  | k, 0, s :: r => by
    show (bif vs.elem k then Sl.un else s) = _
    rw [Nat.add_zero]
    by_cases h : k ∈ vs
    · rw [if_pos h, List.elem_eq_true_of_mem h]; rfl
    · rw [if_neg h]
      have e : vs.elem k = false := by
        rw [Bool.eq_false_iff]
        exact fun z => h (List.mem_of_elem_eq_true z)
      rw [e]; rfl
  | k, i + 1, s :: r => by
    show ge (wipeE vs (k + 1) r) i = _
    rw [ge_wipeE, show k + 1 + i = k + (i + 1) by omega]
    rfl
theorem gs_wipe {σ : L2.St} {i : Nat} : ∀ {vs : List Nat}, gs (wipe σ vs) i = if i ∈ vs then none else gs σ i
  | [] => by
    rw [if_neg (by simp)]
    rfl
  | j :: vs => by
    have h : wipe σ (j :: vs) = (wipe σ vs).set j none := rfl
    rw [h]
    by_cases q : j = i
    · subst q
      rw [if_pos List.mem_cons_self]
      by_cases hl : j < (wipe σ vs).length
      · exact gs_set_same hl
      · unfold gs
        rw [List.getD_eq_getElem?_getD, getElem?_of_le (by rw [List.length_set]; omega)]
        rfl
    · rw [gs_set_ne q, gs_wipe]
      by_cases m : i ∈ vs
      · rw [if_pos m, if_pos (List.mem_cons_of_mem _ m)]
      · rw [if_neg m, if_neg (by rw [List.mem_cons, not_or]; exact ⟨Ne.symm q, m⟩)]
theorem St.wipe {K : Frag} {G F H : Hp} {σ : L2.St} {env : Ev} (S : St K G F σ H env) (vs : List Nat) : St K G F (L2.wipe σ vs) H (wipeE vs 0 env) where
  kg := S.kg
  kf := S.kf
  ln := by rw [wipeE_len, wipe_length]; exact S.ln
  sl := fun i => by
    rw [gs_wipe, ge_wipeE, Nat.zero_add]
    by_cases m : i ∈ vs
    · rw [if_pos m, if_pos m]; trivial
    · rw [if_neg m, if_neg m]; exact S.sl i
  ap := fun i j a q hi hj => by
    rw [ge_wipeE, Nat.zero_add] at hi hj
    rw [gs_wipe, gs_wipe]
    by_cases m : i ∈ vs
    · rw [if_pos m] at hi; cases hi
    by_cases n : j ∈ vs
    · rw [if_pos n] at hj; cases hj
    rw [if_neg m] at hi ⊢
    rw [if_neg n] at hj ⊢
    exact S.ap i j a q hi hj
/-- what a comprehension gives: each turn hands on a state, may give an item -/
def lcRun {S : Type} (step : D → S → Option D × S) : List D → S → List D × S
  | [], s => ([], s)
  | d :: r, s => match step d s with
    | (none, s1) => lcRun step r s1
    | (some y, s1) => (y :: (lcRun step r s1).1, (lcRun step r s1).2)
theorem lcRun_append {S : Type} (step : D → S → Option D × S) : ∀ (l m : List D) (s : S), lcRun step (l ++ m) s = ((lcRun step l s).1 ++ (lcRun step m (lcRun step l s).2).1, (lcRun step m (lcRun step l s).2).2)
  | [], m, s => rfl
  | d :: r, m, s => by
    show (match step d s with | (none, s1) => lcRun step (r ++ m) s1 | (some y, s1) => (y :: (lcRun step (r ++ m) s1).1, (lcRun step (r ++ m) s1).2)) = _
    have e : lcRun step (d :: r) s = (match step d s with | (none, s1) => lcRun step r s1 | (some y, s1) => (y :: (lcRun step r s1).1, (lcRun step r s1).2)) := rfl
    rw [e]
    cases step d s with
    | mk o s1 =>
      cases o with
      | none => exact lcRun_append step r m s1
      | some y =>
        have ih := lcRun_append step r m s1
        show (y :: (lcRun step (r ++ m) s1).1, (lcRun step (r ++ m) s1).2) = (y :: (lcRun step r s1).1 ++ (lcRun step m (lcRun step r s1).2).1, (lcRun step m (lcRun step r s1).2).2)
        rw [ih]
        rfl
theorem lcRun_len {S : Type} (step : D → S → Option D × S) : ∀ (l : List D) (s : S), (lcRun step l s).1.length ≤ l.length
  | [], _ => Nat.le_refl _
  | d :: r, s => by
    have e : lcRun step (d :: r) s = (match step d s with | (none, s1) => lcRun step r s1 | (some y, s1) => (y :: (lcRun step r s1).1, (lcRun step r s1).2)) := rfl
    rw [e]
    cases step d s with
    | mk o s1 =>
      cases o with
      | none => exact Nat.le_succ_of_le (lcRun_len step r s1)
      | some y => exact Nat.succ_le_succ (lcRun_len step r s1)
theorem take_succ_get {α : Type} {l : List α} {i : Nat} {a : α} (h : l[i]? = some a) : l.take (i + 1) = l.take i ++ [a] := by
  rw [List.take_add_one, h]
  rfl
abbrev blkC' (X : Cx) (scope : Scope) (s : Shared) (H : Hp) (C : Addr) (cl : List (Str × Addr)) (fp : List Addr) : Cx := X.blk s H scope (compEnvC scope cl C X.env) fp
section
variable {X : Cx} {env env1 env' : Ev} {tg iter elt : Expr} {ifs : List Expr} {pos : Pos} {items : List D} {scope : Scope} {own : List (Str × Nat)}
/-- the turn's judgements, whatever the block's own context is -/
structure Turns (X : Cx) (scope : Scope) (ifs : List Expr) (elt : Expr) (t : Tgt) {S : Type} (mk : S → Ev) (step : D → S → Option D × S) (d : D) (s : S) : Prop where
  ok : t.ok (mk s).length d
  go : ∃ (b : Bool) (s1 : S), (∀ sh H C cl fp, PTs (blkC' X scope sh H C cl fp) ifs (tTt X.K (t.bind (mk s) d) b (t.bind (mk s1) d))) ∧ (b = false → step d s = (none, s1)) ∧
    (b = true → ∃ R y s2, (∀ sh H C cl fp, EV (blkC' X scope sh H C cl fp) elt (t.bind (mk s1) d) R (t.bind (mk s2) d)) ∧ Pd.fz R = .val y ∧ step d s = (some y, s2))
theorem lc_go {S : Type} (t : Tgt) (mk : S → Ev) (step : D → S → Option D × S) (s0 : S) (J : Nat → S → Prop) (hc : X.calm = true) (hN : X.N.Nodup) (hi : EI X tg iter env items env1) (ok : BlkOk X.N X.env.scope scope own) (hg : ∀ sh H C cl fp, PG (blkC' X scope sh H C cl fp) tg (t.g X.K))
    (h0 : wipeE (own.map (·.2)) 0 env1 = mk s0) (j0 : J 0 s0) (hts : ∀ i ∈ t.slots, i ∈ own.map (·.2)) (hun : ∀ s, ∀ i ∈ own.map (·.2), ge (mk s) i = .un) (hz : items.length ≤ sizeLine)
    (hs : ∀ i d s, items[i]? = some d → J i s → Turns X scope ifs elt t mk step d s ∧ J (i + 1) (step d s).2) (hE : ∀ i, ge env' i = if i ∈ own.map (·.2) then ge env1 i else ge (mk (lcRun step items s0).2) i) (hno : ∀ i ∈ own.map (·.2), (ge env1 i).own = false) (hlen : env'.length ≤ env1.length) :
    ∃ (te : TE) (tt : TT), (∀ sh H C cl fp, PE (blkC' X scope sh H C cl fp) elt te) ∧ (∀ sh H C cl fp, PTs (blkC' X scope sh H C cl fp) ifs tt) ∧
      ∀ σ H Q, tV X.K env (.new (.lst none (lcRun step items s0).1)) env' σ H Q → tLc (tI X.K env items env1) (t.g X.K) tt te (own.map (·.2)) σ H Q := by
  refine ⟨fun σ H Q => ∃ e R e', (∀ sh H C cl fp, EV (blkC' X scope sh H C cl fp) elt e R e') ∧ tV X.K e R e' σ H Q, fun σ H Q => ∃ e b e', (∀ sh H C cl fp, PTs (blkC' X scope sh H C cl fp) ifs (tTt X.K e b e')) ∧ tTt X.K e b e' σ H Q,
    fun sh H C cl fp => ⟨fun pins s σ H' Q I ⟨e, R, e', h, q⟩ => (h sh H C cl fp).run pins s σ H' Q I q⟩, fun sh H C cl fp => ⟨fun pins s σ H' Q I ⟨e, R, e', h, q⟩ => (h sh H C cl fp).run pins s σ H' Q I q⟩, fun σ H Q ⟨G, F, S, q⟩ => ⟨G, F, S, fun F1 Jt H1 x1 it S1 Dl hD => ?_⟩⟩
  generalize hvs : own.map (·.2) = vs at *
  -- the new list stands beside: it is kept by every part
  have stat : ∀ {F' H' s}, St X.K G F' (wipe σ vs) H' (mk s) → St X.K G F' (wipe σ vs) H' (mk s) := fun h => h
  refine ⟨fun i m H' => m = items.length - i ∧ i ≤ items.length ∧ ∃ F' acc, Ext G F1 F' ∧ J i (lcRun step (items.take i) s0).2 ∧ H' Dl = some (.lst acc) ∧ F' Dl = none ∧ DRs X.K F' acc (lcRun step (items.take i) s0).1 ∧
    St X.K (upd G Dl (.lst acc)) F' (wipe σ vs) H' (mk (lcRun step (items.take i) s0).2), ⟨items.length, by omega, by omega, F1, [], Ext.refl G F1, ?_, upd_same, S1.kf.fresh hD, ?_, ?_⟩, ?_⟩
  · rw [List.take_zero]; exact j0
  · rw [List.take_zero]; exact .nil
  · rw [List.take_zero]
    have S2 := ((S1.wipe vs).heapNew (o := .lst []) hD)
    rw [h0] at S2
    refine ⟨fun a o e => ?_, S2.kf, S2.ln, fun i => (S2.sl i).otherG fun p ep w => ?_, S2.ap⟩
    · by_cases z : a = Dl
      · subst z; rw [upd_same] at e ⊢; exact e
      · rw [upd_ne z] at e; exact S2.kg a o e
    · obtain ⟨p', u, e', hp, f, g⟩ := (S2.sl i).own_at w
      rw [ep] at e'
      cases e'
      by_cases z : p = Dl
      · subst z
        -- p is a new address: nothing owned stands there
        exfalso
        obtain ⟨p2, u2, e2, hp2, _⟩ := ((S1.wipe vs).sl i |> (h0 ▸ ·) : SlR X.K G F1 H1 (gs (wipe σ vs) i) (ge (mk s0) i)).own_at w
        rw [ep] at e2
        cases e2
        rw [hD] at hp2
        cases hp2
      · rw [upd_ne z]; exact g
  rintro i m H' ⟨rfl, hle, F', acc, x', j, hDl, fD, ra, S'⟩
  have it' := it.mono x'.le
  by_cases hlt : i < items.length
  · refine .inr ?_
    have hd' : items[i]? = some items[i] := List.getElem?_eq_getElem hlt
    obtain ⟨h1, _⟩ := it' i H' S'.kf
    obtain ⟨⟨okT, b, s1, hb, hbn, hby⟩, j'⟩ := hs i _ _ hd' j
    refine ⟨(h1 _ hd').1, fun H2 => ∃ F' acc, Ext G F1 F' ∧ J (i + 1) (lcRun step (items.take (i + 1)) s0).2 ∧ H2 Dl = some (.lst acc) ∧ F' Dl = none ∧ DRs X.K F' acc (lcRun step (items.take (i + 1)) s0).1 ∧
      St X.K (upd G Dl (.lst acc)) F' (wipe σ vs) H2 (mk (lcRun step (items.take (i + 1)) s0).2), fun H2 n => ⟨items.length - (i + 1), by omega, rfl, by omega, n⟩, fun x H2 y => ?_⟩
    have hrec : lcRun step (items.take (i + 1)) s0 = ((lcRun step (items.take i) s0).1 ++ (lcRun step [items[i]] (lcRun step (items.take i) s0).2).1, (lcRun step [items[i]] (lcRun step (items.take i) s0).2).2) := by
      rw [take_succ_get hd', lcRun_append]
    generalize hsi : (lcRun step (items.take i) s0).2 = si at *
    generalize hyi : (lcRun step (items.take i) s0).1 = ys at *
    refine yld_run it' S' hd' y okT fun F2 σ2 x2 sm ln2 S2 => ?_
    have x2' : Ext G F' F2 := ⟨x2.le, fun a o e => by
      rcases x2.nw a o e with z | z
      · exact .inl z
      · by_cases q' : a = Dl
        · subst q'; rw [upd_same] at z; cases z
        · rw [upd_ne q'] at z; exact .inr z⟩
    have unG : ∀ {A B C : Hp} {o : HO}, Ext (upd G Dl o) A B → Ext G A B := fun {A B C o} xx => ⟨xx.le, fun a o e => by
      rcases xx.nw a o e with z | z
      · exact .inl z
      · by_cases q' : a = Dl
        · subst q'; rw [upd_same] at z; cases z
        · rw [upd_ne q'] at z; exact .inr z⟩
    have fDn : ∀ {A B : Hp} {o : HO}, Ext (upd G Dl o) A B → A Dl = none → B Dl = none := fun {A B o} xx n => by
      cases e : B Dl with
      | none => rfl
      | some w =>
        rcases xx.nw Dl w e with z | z
        · rw [n] at z; cases z
        · rw [upd_same] at z; cases z
    have back : wipe σ2 vs = wipe σ vs := by
      refine List.ext_getElem? fun j => ?_
      have hl : (wipe σ2 vs).length = (wipe σ vs).length := by rw [wipe_length, ln2]
      by_cases hj : j < (wipe σ vs).length
      · have g1 : gs (wipe σ2 vs) j = gs (wipe σ vs) j := by
          rw [gs_wipe]
          by_cases hm : j ∈ vs
          · rw [if_pos hm, gs_wipe, if_pos hm]
          · rw [if_neg hm]
            exact sm j fun z => hm (hts j z)
        unfold gs at g1
        rw [List.getD_eq_getElem?_getD, List.getD_eq_getElem?_getD] at g1
        rw [List.getElem?_eq_getElem (by omega), List.getElem?_eq_getElem hj] at g1 ⊢
        exact congrArg some g1
      · rw [getElem?_of_le (by omega), getElem?_of_le (by omega)]
    -- a state of the turn, wiped
    have wiped : ∀ {G' F3 H3 s'}, St X.K G' F3 σ2 H3 (t.bind (mk s') items[i]) → St X.K G' F3 (wipe σ vs) H3 (mk s') := fun {G' F3 H3 s'} S3 => by
      have S4 := S3.wipe vs
      rw [back] at S4
      refine S4.weak ⟨by rw [wipeE_len, Tgt.bind_len]; exact Nat.le_refl _, fun k => ?_⟩
      rw [ge_wipeE, Nat.zero_add]
      by_cases hm : k ∈ vs
      · exact .inr (hun s' k hm)
      · rw [if_neg hm]
        have hk : k ∉ t.slots := fun z => hm (hts k z)
        have : ge (t.bind (mk s') items[i]) k = ge (mk s') k := by
          cases t with
          | nm a => exact ge_set_ne fun z => hk (by rw [z]; exact List.mem_cons_self)
          | tp is =>
            have hk' : k ∉ is := hk
            have sa : ∀ (is : List Nat) (ds : List D) (e : Ev), k ∉ is → ge (setAll e is ds) k = ge e k := by
              intro is
              induction is with
              | nil => intro ds e _; rfl
              | cons a is ih =>
                intro ds e hn
                cases ds with
                | nil => rfl
                | cons d ds =>
                  rw [List.mem_cons, not_or] at hn
                  show ge (setAll (e.set a (.val d)) is ds) k = _
                  rw [ih _ _ hn.2, ge_set_ne (Ne.symm hn.1)]
            show ge (Tgt.bind (.tp is) (mk s') items[i]) k = _
            cases items[i] <;> first | exact sa _ _ _ hk' | rfl
        exact .inl this.symm
    refine ⟨back, ?_⟩
    refine ⟨_, b, _, hb, upd G Dl (.lst acc), F2, S2, fun F3 H3 x3 S3 => ?_⟩
    have one : lcRun step [items[i]] si = match step items[i] si with
      | (none, s1) => ([], s1)
      | (some y, s1) => ([y], s1) := by
      show (match step items[i] si with | (none, s1) => lcRun step [] s1 | (some y, s1) => (y :: (lcRun step [] s1).1, (lcRun step [] s1).2)) = _
      cases step items[i] si with
      | mk o s1 => cases o <;> rfl
    cases b with
    | false =>
      have es := hbn rfl
      rw [es] at one j'
      refine iteF ?_
      rw [hrec, one]
      refine ⟨F3, acc, (x'.trans x2').trans (unG (C := F3) x3), j', ?_, fDn x3 (fDn x2 fD), ?_, wiped S3⟩
      · exact S3.kg Dl _ upd_same
      · rw [List.append_nil]
        exact ra.mono (x2.le.trans x3.le)
    | true =>
      obtain ⟨R, yd, s2, he, hf, es⟩ := hby rfl
      rw [es] at one j'
      refine iteT ?_
      rw [hrec, one]
      refine ⟨_, R, _, he, upd G Dl (.lst acc), F3, S3, fun F4 y4 H4 x4 r4 => ?_⟩
      obtain ⟨F5, x5, r5⟩ := r4.fz
      rw [hf] at r5
      obtain ⟨r5, S5⟩ := r5
      have x45 := x4.trans x5
      have kDl : H4 Dl = some (.lst acc) := S5.kg Dl _ upd_same
      have fD5 : F5 Dl = none := fDn x45 (fDn x3 (fDn x2 fD))
      have ra5 := ra.mono (x2.le.trans (x3.le.trans x45.le))
      have hacc : acc.length < sizeLine := by
        rw [ra.length]
        have h1 := lcRun_len step (items.take i) s0
        rw [hyi, List.length_take] at h1
        omega
      refine ⟨acc, kDl, hacc, F5, acc ++ [y4], ((x'.trans x2').trans (unG (C := F3) x3)).trans (unG (C := F5) x45), j', upd_same, fD5, ra5.append (.cons r5 .nil), ?_⟩
      have S6 := wiped S5
      have ownD : ∀ k, (ge (mk s2) k).own = true → gs (wipe σ vs) k ≠ some (.ref Dl) := fun k w e => by
        obtain ⟨p', u, e', hp, f, g⟩ := (S6.sl k).own_at w
        rw [e] at e'
        cases e'
        rw [upd_same] at g
        cases g
      refine ⟨fun a o e => ?_, fun a o e => ?_, S6.ln, fun k => ?_, S6.ap⟩
      · by_cases z : a = Dl
        · subst z; rw [upd_same] at e ⊢; exact e
        · rw [upd_ne z] at e ⊢
          exact S6.kg a o (by rw [upd_ne z]; exact e)
      · by_cases z : a = Dl
        · subst z; rw [fD5] at e; cases e
        · rw [upd_ne z]; exact S6.kf a o e
      · refine ((S6.sl k).mono (Le.refl F5) fun p ep w => ?_).otherG fun p ep w => ?_
        · obtain ⟨p', u, e', hp, f, g⟩ := (S6.sl k).own_at w
          rw [ep] at e'
          cases e'
          exact ⟨upd_ne fun z => ownD k w (by rw [ep, z]), f⟩
        · have z : p ≠ Dl := fun z => ownD k w (by rw [ep, z])
          obtain ⟨p', u, e', hp, f, g⟩ := (S6.sl k).own_at w
          rw [ep] at e'
          cases e'
          rw [upd_ne z] at g ⊢
          exact g
  · have hie : i = items.length := by omega
    subst hie
    rw [List.take_length] at j ra S'
    obtain ⟨_, h2⟩ := it' items.length H' S'.kf
    refine .inl ⟨h2 (Nat.le_refl _), ?_⟩
    refine q F' _ H' (x1.trans x') ?_
    -- the def's slots again; the list in hand
    have gD : G Dl = none := S1.kg.fresh hD
    have ownD : ∀ k, (ge (mk (lcRun step items s0).2) k).own = true → gs (wipe σ vs) k ≠ some (.ref Dl) := fun k w e => by
      obtain ⟨p', u, e', hp, f, g⟩ := (S'.sl k).own_at w
      rw [e] at e'
      cases e'
      rw [upd_same] at g
      cases g
    have slk : ∀ k, k ∉ vs → gs (wipe σ vs) k = gs σ k := fun k h => by rw [gs_wipe, if_neg h]
    have B : St X.K G F' σ H' env' := by
      refine ⟨fun a o e => ?_, S'.kf, Nat.le_trans hlen S1.ln, fun k => ?_, fun a b c ne ha hb => ?_⟩
      · have z : a ≠ Dl := fun z => by rw [z, gD] at e; cases e
        exact S'.kg a o (by rw [upd_ne z]; exact e)
      · rw [hE k]
        by_cases hm : k ∈ vs
        · rw [if_pos hm]
          exact (S1.sl k).mono x'.le fun p ep w => by rw [hno k hm] at w; cases w
        · rw [if_neg hm, ← slk k hm]
          refine (S'.sl k).otherG fun p ep w => ?_
          have z : p ≠ Dl := fun z => ownD k w (by rw [ep, z])
          obtain ⟨p', u, e', hp, f, g⟩ := (S'.sl k).own_at w
          rw [ep] at e'
          cases e'
          rw [upd_ne z] at g
          exact g
      · have cs : ∀ k, (ge env' k).own = true → k ∉ vs ∧ (ge (mk (lcRun step items s0).2) k).own = true := fun k w => by
          rw [hE k] at w
          by_cases hm : k ∈ vs
          · rw [if_pos hm, hno k hm] at w; cases w
          · rw [if_neg hm] at w; exact ⟨hm, w⟩
        obtain ⟨n1, o1⟩ := cs a ha
        obtain ⟨n2, o2⟩ := cs b hb
        rw [← slk a n1, ← slk b n2]
        exact S'.ap a b c ne o1 o2
    refine ⟨B.kg, B.kf, Nat.succ_le_succ B.ln, fun k => ?_, fun a b c ne ha hb ea' eb => ?_⟩
    · cases k with
      | zero => exact ⟨Dl, acc, rfl, (fun _ z => nomatch z), hDl, by
          rw [ra.length]
          exact Nat.le_trans (lcRun_len step items s0) hz, ra, fD, gD⟩
      | succ k => exact B.sl k
    · have main : ∀ k b, (ge env' k).own = true → gs σ k = some (.ref b) → b ≠ Dl := fun k b w e z => by
        subst z
        rw [hE k] at w
        by_cases hm : k ∈ vs
        · rw [if_pos hm, hno k hm] at w; cases w
        · rw [if_neg hm] at w
          exact ownD k w (by rw [slk k hm]; exact e)
      cases a with
      | zero =>
        cases b with
        | zero => exact ne rfl
        | succ b =>
          have e1 : Dl = c := V.ref.inj (Option.some.inj ea')
          exact main b c hb eb e1.symm
      | succ a =>
        cases b with
        | zero =>
          have e1 : Dl = c := V.ref.inj (Option.some.inj eb)
          exact main a c ha ea' e1.symm
        | succ b => exact B.ap a b c (fun z => ne (congrArg _ z)) ha hb ea' eb
end
end Pd
set_option Elab.async false
set_option linter.all false
set_option maxRecDepth 100000
set_option maxHeartbeats 4000000
namespace Pd
open PySem PySem.Spec PyProof.Rows L2
section
variable {X : Cx} {env env1 env' : Ev} {tg iter elt : Expr} {ifs : List Expr} {pos : Pos} {scope : Scope} {own : List (Str × Nat)}
/-- turn by turn: a test, then an item, each hands on a state -/
def lcA {α S : Type} (pt : α → S → Bool × S) (ef : α → S → D × S) : List α → S → List D × S
  | [], s => ([], s)
  | a :: r, s => match pt a s with
    | (false, s1) => lcA pt ef r s1
    | (true, s1) => ((ef a s1).1 :: (lcA pt ef r (ef a s1).2).1, (lcA pt ef r (ef a s1).2).2)
def lcStep {α S : Type} (pt : α → S → Bool × S) (ef : α → S → D × S) : D → List α × S → Option D × (List α × S)
  | _, ([], s) => (none, ([], s))
  | _, (a :: r, s) => match pt a s with
    | (false, s1) => (none, (r, s1))
    | (true, s1) => (some (ef a s1).1, (r, (ef a s1).2))
theorem lcRun_cons {S : Type} (step : D → S → Option D × S) (d : D) (r : List D) (s : S) : lcRun step (d :: r) s = (match (step d s).1 with
    | none => lcRun step r (step d s).2
    | some y => (y :: (lcRun step r (step d s).2).1, (lcRun step r (step d s).2).2)) := by
  show (match step d s with | (none, s1) => lcRun step r s1 | (some y, s1) => (y :: (lcRun step r s1).1, (lcRun step r s1).2)) = _
  cases step d s with
  | mk o s1 => cases o <;> rfl
theorem lcA_cons {α S : Type} (pt : α → S → Bool × S) (ef : α → S → D × S) (a : α) (r : List α) (s : S) : lcA pt ef (a :: r) s = (match (pt a s).1 with
    | false => lcA pt ef r (pt a s).2
    | true => ((ef a (pt a s).2).1 :: (lcA pt ef r (ef a (pt a s).2).2).1, (lcA pt ef r (ef a (pt a s).2).2).2)) := by
  conv => lhs; unfold lcA
  cases pt a s with
  | mk o s1 => cases o <;> rfl
theorem lcStep_cons {α S : Type} (pt : α → S → Bool × S) (ef : α → S → D × S) (d : D) (a : α) (r : List α) (s : S) : lcStep pt ef d (a :: r, s) = (match (pt a s).1 with
    | false => (none, (r, (pt a s).2))
    | true => (some (ef a (pt a s).2).1, (r, (ef a (pt a s).2).2))) := by
  show (match pt a s with
    | (false, s1) => (none, (r, s1))
    | (true, s1) => (some (ef a s1).1, (r, (ef a s1).2))) = _
  cases pt a s with
  | mk o s1 => cases o <;> rfl
theorem lcRun_A {α S : Type} (pt : α → S → Bool × S) (ef : α → S → D × S) (g : α → D) : ∀ (xs : List α) (s : S), lcRun (lcStep pt ef) (xs.map g) (xs, s) = ((lcA pt ef xs s).1, ([], (lcA pt ef xs s).2))
  | [], s => rfl
  | a :: r, s => by
    rw [List.map_cons, lcRun_cons, lcStep_cons, lcA_cons]
    cases (pt a s).1 with
    | false => exact lcRun_A pt ef g r (pt a s).2
    | true =>
      have ih := lcRun_A pt ef g r (ef a (pt a s).2).2
      show ((ef a (pt a s).2).1 :: (lcRun (lcStep pt ef) (r.map g) (r, (ef a (pt a s).2).2)).1, (lcRun (lcStep pt ef) (r.map g) (r, (ef a (pt a s).2).2)).2) = _
      rw [ih]
/-- what a comprehension's rule wants, with a state -/
structure LcS (X : Cx) (env : Ev) (tg iter elt : Expr) (ifs : List Expr) (scope : Scope) (own : List (Str × Nat)) (t : Tgt) {α S : Type} (xs : List α) (g : α → D) (mk : S → Ev) (s0 : S) (J : Nat → S → Prop) (pt : α → S → Bool × S) (ef : α → S → D × S) (env1 env' : Ev) : Prop where
  hc : X.calm = true
  hN : X.N.Nodup
  hi : EI X tg iter env (xs.map g) env1
  ok : BlkOk X.N X.env.scope scope own
  hg : ∀ sh H C cl fp, PG (blkC' X scope sh H C cl fp) tg (t.g X.K)
  h0 : wipeE (own.map (·.2)) 0 env1 = mk s0
  j0 : J 0 s0
  hts : ∀ i ∈ t.slots, i ∈ own.map (·.2)
  hun : ∀ s, ∀ i ∈ own.map (·.2), ge (mk s) i = .un
  hz : xs.length ≤ sizeLine
  hok : ∀ s, ∀ a ∈ xs, t.ok (mk s).length (g a)
  ht : ∀ i a s, xs[i]? = some a → J i s → ∀ sh H C cl fp, PTs (blkC' X scope sh H C cl fp) ifs (tTt X.K (t.bind (mk s) (g a)) (pt a s).1 (t.bind (mk (pt a s).2) (g a)))
  he : ∀ i a s, xs[i]? = some a → J i s → (pt a s).1 = true → ∃ R, (∀ sh H C cl fp, EV (blkC' X scope sh H C cl fp) elt (t.bind (mk (pt a s).2) (g a)) R (t.bind (mk (ef a (pt a s).2).2) (g a))) ∧ Pd.fz R = .val (ef a (pt a s).2).1
  hj : ∀ i a s, xs[i]? = some a → J i s → J (i + 1) (if (pt a s).1 = true then (ef a (pt a s).2).2 else (pt a s).2)
  hE : ∀ i, ge env' i = if i ∈ own.map (·.2) then ge env1 i else ge (mk (lcA pt ef xs s0).2) i
  hno : ∀ i ∈ own.map (·.2), (ge env1 i).own = false
  hlen : env'.length ≤ env1.length
theorem LcS.go {t : Tgt} {α S : Type} {xs : List α} {g : α → D} {mk : S → Ev} {s0 : S} {J : Nat → S → Prop} {pt : α → S → Bool × S} {ef : α → S → D × S} (h : LcS X env tg iter elt ifs scope own t xs g mk s0 J pt ef env1 env') :
    ∃ (te : TE) (tt : TT), (∀ sh H C cl fp, PE (blkC' X scope sh H C cl fp) elt te) ∧ (∀ sh H C cl fp, PTs (blkC' X scope sh H C cl fp) ifs tt) ∧
      ∀ σ H Q, tV X.K env (.new (.lst none (lcA pt ef xs s0).1)) env' σ H Q → tLc (tI X.K env (xs.map g) env1) (t.g X.K) tt te (own.map (·.2)) σ H Q := by
  have e := lcRun_A pt ef g xs s0
  have q := lc_go (X := X) (env := env) (env1 := env1) (env' := env') (elt := elt) (ifs := ifs) t (fun s : List α × S => mk s.2) (lcStep pt ef) (xs, s0) (fun i s => s.1 = xs.drop i ∧ J i s.2) h.hc h.hN h.hi h.ok h.hg h.h0 ⟨rfl, h.j0⟩ h.hts (fun s => h.hun s.2) (by rw [List.length_map]; exact h.hz)
    (fun i d s hd ⟨js, j⟩ => by
      rw [List.getElem?_map] at hd
      cases ha : xs[i]? with
      | none => rw [ha] at hd; cases hd
      | some a =>
        rw [ha] at hd
        cases hd
        obtain ⟨l, s⟩ := s
        have hl : i < xs.length := (List.getElem?_eq_some_iff.mp ha).1
        have dr : xs.drop i = a :: xs.drop (i + 1) := by
          rw [List.drop_eq_getElem_cons hl]
          rw [List.getElem?_eq_getElem hl] at ha
          rw [Option.some.inj ha]
        have js' : l = a :: xs.drop (i + 1) := js.trans dr
        subst js'
        have e2 := lcStep_cons pt ef (g a) a (xs.drop (i + 1)) s
        have t1 := h.ht i a s ha j
        have t2 := h.he i a s ha j
        have t3 := h.hj i a s ha j
        refine ⟨⟨h.hok s a (List.mem_of_getElem? ha), ?_⟩, ?_⟩
        · refine ⟨(pt a s).1, (xs.drop (i + 1), (pt a s).2), t1, fun hb => ?_, fun hb => ?_⟩
          · rw [e2, hb]
          · obtain ⟨R, r1, r2⟩ := t2 hb
            refine ⟨R, (ef a (pt a s).2).1, (xs.drop (i + 1), (ef a (pt a s).2).2), r1, r2, ?_⟩
            rw [e2, hb]
        · rw [e2]
          cases hp : (pt a s).1 with
          | false =>
            rw [hp, if_neg Bool.false_ne_true] at t3
            exact ⟨rfl, t3⟩
          | true =>
            rw [hp, if_pos rfl] at t3
            exact ⟨rfl, t3⟩) (fun i => by rw [e]; exact h.hE i) h.hno h.hlen
  rw [e] at q
  exact q
theorem ev_lcS {t : Tgt} {α S : Type} {xs : List α} {g : α → D} {mk : S → Ev} {s0 : S} {J : Nat → S → Prop} {pt : α → S → Bool × S} {ef : α → S → D × S} (h : LcS X env tg iter elt ifs scope own t xs g mk s0 J pt ef env1 env')
    (hs : ∀ x, foldedSetIterable iter X.env x = pure x := by intro _; rfl) : EV X (.ListComp elt [⟨tg, iter, ifs, 0⟩] scope pos) env (.new (.lst none (lcA pt ef xs s0).1)) env' := by
  obtain ⟨te, tt, he, ht, q⟩ := h.go
  exact PE.wk (pe_lc h.hc h.hN h.hi h.ok h.hg ht he hs) q
/-- nothing is changed by the turns -/
theorem lcA_pure {α : Type} (p : α → Bool) (f : α → D) : ∀ xs : List α, lcA (fun a (_ : Unit) => (p a, ())) (fun a _ => (f a, ())) xs () = ((xs.filter p).map f, ())
  | [] => rfl
  | a :: r => by
    rw [lcA_cons, List.filter_cons]
    cases h : p a with
    | false =>
      rw [if_neg (by simp)]
      exact lcA_pure p f r
    | true =>
      rw [if_pos rfl, List.map_cons]
      have ih := lcA_pure p f r
      show (f a :: (lcA (fun a (_ : Unit) => (p a, ())) (fun a _ => (f a, ())) r ()).1, (lcA (fun a (_ : Unit) => (p a, ())) (fun a _ => (f a, ())) r ()).2) = _
      rw [ih]
theorem lcs_pure {t : Tgt} {α : Type} {xs : List α} {g : α → D} {p : α → Bool} {R : α → Rs} {f : α → D} (hc : X.calm = true) (hN : X.N.Nodup) (hi : EI X tg iter env (xs.map g) env1) (ok : BlkOk X.N X.env.scope scope own)
    (hg : ∀ sh H C cl fp, PG (blkC' X scope sh H C cl fp) tg (t.g X.K)) (hts : ∀ i ∈ t.slots, i ∈ own.map (·.2)) (hz : xs.length ≤ sizeLine) (hok : ∀ a ∈ xs, t.ok env1.length (g a))
    (ht : ∀ a ∈ xs, ∀ sh H C cl fp, PTs (blkC' X scope sh H C cl fp) ifs (tTt X.K (t.bind (wipeE (own.map (·.2)) 0 env1) (g a)) (p a) (t.bind (wipeE (own.map (·.2)) 0 env1) (g a))))
    (he : ∀ a ∈ xs, p a = true → ∀ sh H C cl fp, EV (blkC' X scope sh H C cl fp) elt (t.bind (wipeE (own.map (·.2)) 0 env1) (g a)) (R a) (t.bind (wipeE (own.map (·.2)) 0 env1) (g a))) (hf : ∀ a, Pd.fz (R a) = .val (f a)) (hno : ∀ i ∈ own.map (·.2), (ge env1 i).own = false) :
    LcS X env tg iter elt ifs scope own t xs g (fun _ : Unit => wipeE (own.map (·.2)) 0 env1) () (fun _ _ => True) (fun a _ => (p a, ())) (fun a _ => (f a, ())) env1 env1 where
  hc := hc
  hN := hN
  hi := hi
  ok := ok
  hg := hg
  h0 := rfl
  j0 := trivial
  hts := hts
  hun := fun s i hm => by rw [ge_wipeE, Nat.zero_add, if_pos hm]
  hz := hz
  hok := fun s a ha => by rw [wipeE_len]; exact hok a ha
  ht := fun i a s ha _ => ht a (List.mem_of_getElem? ha)
  he := fun i a s ha _ hp => ⟨R a, he a (List.mem_of_getElem? ha) hp, hf a⟩
  hj := fun _ _ _ _ _ => trivial
  hE := fun i => by
    by_cases hm : i ∈ own.map (·.2)
    · rw [if_pos hm]
    · rw [if_neg hm, ge_wipeE, Nat.zero_add, if_neg hm]
  hno := hno
  hlen := Nat.le_refl _
theorem ev_lc {α : Type} {xs : List α} {g : α → D} {p : α → Bool} {R : α → Rs} {f : α → D} (own : List (Str × Nat)) (t : Tgt) (hc : X.calm = true) (hN : X.N.Nodup) (hi : EI X tg iter env (xs.map g) env1) (ok : BlkOk X.N X.env.scope scope own)
    (hg : ∀ sh H C cl fp, PG (blkC' X scope sh H C cl fp) tg (t.g X.K)) (hts : ∀ i ∈ t.slots, i ∈ own.map (·.2)) (hz : xs.length ≤ sizeLine) (hok : ∀ a ∈ xs, t.ok env1.length (g a))
    (ht : ∀ a ∈ xs, ∀ sh H C cl fp, PTs (blkC' X scope sh H C cl fp) ifs (tTt X.K (t.bind (wipeE (own.map (·.2)) 0 env1) (g a)) (p a) (t.bind (wipeE (own.map (·.2)) 0 env1) (g a))))
    (he : ∀ a ∈ xs, p a = true → ∀ sh H C cl fp, EV (blkC' X scope sh H C cl fp) elt (t.bind (wipeE (own.map (·.2)) 0 env1) (g a)) (R a) (t.bind (wipeE (own.map (·.2)) 0 env1) (g a))) (hf : ∀ a, Pd.fz (R a) = .val (f a)) (hno : ∀ i ∈ own.map (·.2), (ge env1 i).own = false)
    (hs : ∀ x, foldedSetIterable iter X.env x = pure x := by intro _; rfl) : EV X (.ListComp elt [⟨tg, iter, ifs, 0⟩] scope pos) env (.new (.lst none ((xs.filter p).map f))) env1 := by
  have q := ev_lcS (pos := pos) (lcs_pure hc hN hi ok hg hts hz hok ht he hf hno) hs
  rw [lcA_pure] at q
  exact q
/-- x = [..], stored at the comprehension's end -/
theorem es_setLcS {ea : Str → Addr} {W : WX} {rest : List Stmt} {Post : Out → Prop} {y : Str} {py spos : Pos} {t : Tgt} {α S : Type} {xs : List α} {g : α → D} {mk : S → Ev} {s0 : S} {J : Nat → S → Prop} {pt : α → S → Bool × S} {ef : α → S → D × S} (i : Nat) (h : LcS X env tg iter elt ifs scope own t xs g mk s0 J pt ef env1 env')
    (k : ES X ea W rest (env'.set i (.lst none (lcA pt ef xs s0).1)) Post) (hi : X.N[i]? = some y := by rfl) (hyl : X.env.scope.names.lookup y = some .local := by rfl) (hl : Nat.blt i env'.length = true := by rfl)
    (hsw : swapsWith (.ListComp elt [⟨tg, iter, ifs, 0⟩] scope pos) (some (.Name y py)) spos.line X.env = pure true := by exact sw_true rfl rfl rfl (by decide +kernel)) (hs : ∀ x, foldedSetIterable iter X.env x = pure x := by intro _; rfl) :
    ES X ea W (.Assign [.Name y py] (.ListComp elt [⟨tg, iter, ifs, 0⟩] scope pos) spos :: rest) env Post := by
  obtain ⟨te, tt, he, ht, q⟩ := h.go
  refine PSs.wk (pss_seq (ps_setLc h.hc h.hN hi hyl hsw h.hi h.ok h.hg ht he hs) k) fun D σ H ⟨G, F, S, q'⟩ => q σ H (fun x H1 => tX X.K ea W _ Post D (σ.set i (some x)) H1) ⟨G, F, S, fun F1 v H1 x1 r1 => ⟨G, F1, St.store r1 (blt_lt hl), fun o p F2 x2 => q' o p F2 (x1.trans x2)⟩⟩
end
/-! ### defs -/
def pin1 (p : Addr) : Sl → Sl
  | .lst _ ds => .lst (some p) ds
  | .dk _ ds => .dk (some p) ds
  | .dt _ ds => .dt (some p) ds
  | s => s
def pinE : List Addr → List Sl → Ev
  | p :: ps, s :: ss => pin1 p s :: pinE ps ss
  | _, _ => []
/-- the parameters' lists stand where they stood; data are not told again (s0: what was handed in) -/
def PinOk : List Addr → List Sl → List Sl → Ev → Prop
  | p :: ps, s0 :: ss0, s :: ss, e :: es => (match s with
    | .un => True
    | .val _ => False
    | .scr _ => False
    | .obj _ => False
    | s => s0.own = true ∧ e = pin1 p s ∧ s = unpin s) ∧ PinOk ps ss0 ss es
  | [], [], [], _ => True
  | _, _, _, _ => False
def finP (pins : List Addr) (ss0 : List Sl) : FOut → Out → Prop
  | .rt r ss, .rt r' e => r' = r ∧ PinOk pins ss0 ss e
  | .rt r ss, .nx e => r = .val .none ∧ PinOk pins ss0 ss e
  | .ex c ss, .ex c' e => c' = c ∧ PinOk pins ss0 ss e
  | _, _ => False
section
variable {K : Frag} {G F H : Hp} {σ : L2.St} {vs : List V} {ss : List Sl} {pins : List Addr}
def addrOf : V → Addr
  | .ref a => a
  | _ => 0
theorem pin1_own (p : Addr) (s : Sl) : (pin1 p s).own = s.own := by cases s <;> rfl
theorem SlR.pinned {v : V} {s : Sl} (h : SlR K G F H (some v) s) : SlR K G F H (some v) (pin1 (addrOf v) s) := by
  cases s with
  | lst pin ds => obtain ⟨p, vs, e, a, r⟩ := h; cases e; exact ⟨p, vs, rfl, (fun q z => Option.some.inj z), r⟩
  | dk pin ds => obtain ⟨p, vs, e, a, r⟩ := h; cases e; exact ⟨p, vs, rfl, (fun q z => Option.some.inj z), r⟩
  | dt pin ds => obtain ⟨p, vs, e, a, r⟩ := h; cases e; exact ⟨p, vs, rfl, (fun q z => Option.some.inj z), r⟩
  | _ => exact h
theorem ge_pinE : ∀ {vs : List V} {ss : List Sl} {i : Nat}, vs.length = ss.length → ∀ v, vs[i]? = some v → ge (pinE (vs.map addrOf) ss) i = pin1 (addrOf v) (ge ss i)
  | [], [], i, _, v, e => by simp at e
  | w :: vs, s :: ss, 0, _, v, e => by
    have e' : w = v := by simpa using e
    subst e'
    rfl
  | w :: vs, s :: ss, i + 1, h, v, e => ge_pinE (vs := vs) (ss := ss) (i := i) (Nat.succ.inj h) v (by simpa using e)
  | [], _ :: _, _, h, _, _ => by cases h
  | _ :: _, [], _, h, _, _ => by cases h
theorem pinE_len : ∀ {vs : List V} {ss : List Sl}, vs.length = ss.length → (pinE (vs.map addrOf) ss).length = ss.length
  | [], [], _ => rfl
  | _ :: vs, _ :: ss, h => congrArg (· + 1) (pinE_len (vs := vs) (ss := ss) (Nat.succ.inj h))
  | [], _ :: _, h => by cases h
  | _ :: _, [], h => by cases h
theorem ge_append_un {e : Ev} {n i : Nat} : ge (e ++ List.replicate n .un) i = ge e i := by
  unfold ge
  rw [List.getD_eq_getElem?_getD, List.getD_eq_getElem?_getD]
  by_cases h : i < e.length
  · rw [List.getElem?_append_left h]
  · rw [List.getElem?_append_right (by omega), List.getElem?_eq_none (by omega : e.length ≤ i), List.getElem?_replicate]
    split <;> rfl
theorem gs_append_none {σ : L2.St} {n i : Nat} : gs (σ ++ List.replicate n none) i = gs σ i := by
  unfold gs
  rw [List.getD_eq_getElem?_getD, List.getD_eq_getElem?_getD]
  by_cases h : i < σ.length
  · rw [List.getElem?_append_left h]
  · rw [List.getElem?_append_right (by omega), List.getElem?_eq_none (by omega : σ.length ≤ i), List.getElem?_replicate]
    split <;> rfl
theorem St.entry {N : List Str} (S : St K G F (vs.map some) H ss) (h : vs.length = ss.length) (m : Nat) (hm : m = N.length - vs.length) : St K G F (L2.start N vs) H (pinE (vs.map addrOf) ss ++ List.replicate m .un) where
  kg := S.kg
  kf := S.kf
  ln := by
    subst hm
    unfold L2.start
    rw [List.length_append, List.length_append, List.length_replicate, List.length_replicate, List.length_map, pinE_len h, h]
    exact Nat.le_refl _
  sl := fun i => by
    unfold L2.start
    rw [gs_append_none, ge_append_un, gs_map]
    cases e : vs[i]? with
    | none =>
      rw [ge_out (by rw [pinE_len h, ← h]; exact List.getElem?_eq_none_iff.mp e)]
      trivial
    | some v =>
      rw [ge_pinE h v e]
      have q := S.sl i
      rw [gs_map, e] at q
      exact q.pinned
  ap := fun i j a q hi hj ei ej => by
    unfold L2.start at ei ej
    rw [gs_append_none] at ei ej
    rw [ge_append_un] at hi hj
    have hvi : ∃ v, vs[i]? = some v := ⟨.ref a, by rw [← gs_map]; exact ei⟩
    have hvj : ∃ v, vs[j]? = some v := ⟨.ref a, by rw [← gs_map]; exact ej⟩
    obtain ⟨v, hv⟩ := hvi
    obtain ⟨u, hu⟩ := hvj
    rw [ge_pinE h v hv, pin1_own] at hi
    rw [ge_pinE h u hu, pin1_own] at hj
    exact S.ap i j a q hi hj ei ej
theorem PinOk.at : ∀ {pins : List Addr} {ss0 ss : List Sl} {e : Ev} {i : Nat}, PinOk pins ss0 ss e → ge ss i ≠ .un → ∃ p, pins[i]? = some p ∧ (ge ss i).own = true ∧ (ge ss0 i).own = true ∧ ge e i = pin1 p (ge ss i) ∧ ge ss i = unpin (ge ss i)
  | [], [], [], _, _, _, h => absurd rfl h
  | p :: ps, s0 :: ss0, s :: ss, e :: es, 0, h, ho => by
    obtain ⟨h1, _⟩ := h
    have hs : ge (s :: ss) 0 = s := rfl
    rw [hs] at ho ⊢
    cases s with
    | un => exact absurd rfl ho
    | val d => exact h1.elim
    | scr d => exact h1.elim
    | obj d => exact h1.elim
    | lst pin ds => exact ⟨p, rfl, rfl, h1.1, h1.2.1, h1.2.2⟩
    | dk pin ds => exact ⟨p, rfl, rfl, h1.1, h1.2.1, h1.2.2⟩
    | dt pin ds => exact ⟨p, rfl, rfl, h1.1, h1.2.1, h1.2.2⟩
  | p :: ps, s0 :: ss0, s :: ss, e :: es, i + 1, h, ho => by
    obtain ⟨q, h1, h2, h3⟩ := PinOk.at (i := i) h.2 ho
    exact ⟨q, by simpa using h1, h2, h3⟩
  | [], _ :: _, _, _, _, h, _ => h.elim
  | [], [], _ :: _, _, _, h, _ => h.elim
  | _ :: _, [], _, _, _, h, _ => h.elim
  | _ :: _, _ :: _, [], _, _, h, _ => h.elim
  | _ :: _, _ :: _, _ :: _, [], _, h, _ => h.elim
theorem PinOk.len : ∀ {pins : List Addr} {ss0 ss : List Sl} {e : Ev}, PinOk pins ss0 ss e → ss.length = pins.length
  | [], [], [], _, _ => rfl
  | _ :: _, _ :: _, _ :: _, _ :: _, h => congrArg (· + 1) (PinOk.len h.2)
  | [], _ :: _, _, _, h => h.elim
  | [], [], _ :: _, _, h => h.elim
  | _ :: _, [], _, _, h => h.elim
  | _ :: _, _ :: _, [], _, h => h.elim
  | _ :: _, _ :: _, _ :: _, [], h => h.elim
theorem unpin_pin1 (p : Addr) (s : Sl) : unpin (pin1 p s) = unpin s := by cases s <;> rfl
theorem SlR.ref_of {o : Option V} {p : Addr} {s : Sl} (h : SlR K G F H o (pin1 p s)) (w : s.own = true) : o = some (.ref p) := by
  cases s with
  | un => cases w
  | val d => cases w
  | scr d => cases w
  | obj d => cases w
  | lst pin ds => obtain ⟨p', vs, e, a, _⟩ := h; rw [e, a p rfl]
  | dk pin ds => obtain ⟨p', vs, e, a, _⟩ := h; rw [e, a p rfl]
  | dt pin ds => obtain ⟨p', vs, e, a, _⟩ := h; rw [e, a p rfl]
/-- at the end the parameters hold what the promise says -/
theorem St.leave {G0 F0 H0 : Hp} {ss0 : List Sl} {σ' : L2.St} {e : Ev} {o : Option V} {r : Sl} (S0 : St K G0 F0 (vs.map some) H0 ss0) (S : St K G F (o :: σ') H (r :: e)) (P : PinOk (vs.map addrOf) ss0 ss e) : St K G F (o :: vs.map some) H (r :: ss) := by
  have key : ∀ i, ge ss i ≠ .un → (ge ss i).own = true ∧ (ge e i).own = true ∧ gs σ' i = gs (vs.map some) i ∧ SlR K G F H (gs σ' i) (ge ss i) := fun i w => by
    obtain ⟨p, h1, h2, h3, h4, h5⟩ := P.at w
    rw [List.getElem?_map] at h1
    cases hv : vs[i]? with
    | none => rw [hv] at h1; cases h1
    | some v =>
      rw [hv] at h1
      have hp : addrOf v = p := Option.some.inj h1
      obtain ⟨a, u, ea, _⟩ := (S0.sl i).own_at h3
      rw [gs_map, hv] at ea
      cases ea
      have hp' : a = p := hp
      subst hp'
      have q := S.sl (i + 1)
      rw [gs_consS, ge_consS, h4] at q
      have q1 := q.ref_of h2
      have q2 := q.unpin
      rw [unpin_pin1, ← h5] at q2
      exact ⟨h2, by rw [h4, pin1_own]; exact h2, by rw [q1, gs_map, hv], q2⟩
  refine ⟨S.kg, S.kf, ?_, fun i => ?_, fun i j a q hi hj ei ej => ?_⟩
  · rw [List.length_cons, List.length_cons, List.length_map, P.len, List.length_map]
    exact Nat.le_refl _
  · cases i with
    | zero => exact S.sl 0
    | succ i =>
      rw [gs_consS, ge_consS]
      by_cases w : ge ss i = .un
      · rw [w]; trivial
      · obtain ⟨_, _, h1, h2⟩ := key i w
        rw [← h1]
        exact h2
  · have un : ∀ {s : Sl}, s.own = true → s ≠ .un := fun {s} h z => by rw [z] at h; cases h
    cases i with
    | zero =>
      cases j with
      | zero => exact q rfl
      | succ j =>
        rw [ge_consS] at hj
        obtain ⟨_, k2, k3, _⟩ := key j (un hj)
        refine S.ap 0 (j + 1) a q hi k2 ei ?_
        rw [gs_consS, k3]
        exact ej
    | succ i =>
      rw [ge_consS] at hi
      obtain ⟨_, i2, i3, _⟩ := key i (un hi)
      cases j with
      | zero =>
        refine S.ap (i + 1) 0 a q i2 hj ?_ ej
        rw [gs_consS, i3]
        exact ei
      | succ j =>
        rw [ge_consS] at hj
        obtain ⟨_, k2, k3, _⟩ := key j (un hj)
        refine S.ap (i + 1) (j + 1) a q i2 k2 ?_ ?_
        · rw [gs_consS, i3]
          exact ei
        · rw [gs_consS, k3]
          exact ej
end
section
variable {P : Program} {w : World} {K : Frag} {mg : Str → Option Value} {base : Heap}
abbrev bodyX (P : Program) (w : World) (K : Frag) (mg : Str → Option Value) (base : Heap) (N : List Str) (qual : Str) (st : Stmt) (f : Addr) (cdv : Value) (A : Around) (outer : List Env) (s : Shared) (H : Hp) (E : XK) : Cx := cxOf (L2N.CX P w) P w K mg base N qual (defScope st) f cdv A outer s H E
/-- the body's judgement gives the reading that the promise wants -/
theorem body_go {ea : Str → Addr} {N : List Str} {X : Cx} {E : XK} {sts : List Stmt} {S : FS} {vs : List V} {H : Hp} {Q : VK} (hK : X.K = K) (hl : ∀ ss o, S ss o → ss.length = n) (hn : n ≤ N.length)
    (body : ∀ (pins : List Addr) (ss : List Sl) (o : FOut), S ss o → pins.length = ss.length → ES X ea (fun cls d _ H => E cls d H) sts (pinE pins ss ++ List.replicate (N.length - n) .un) (finP pins ss o)) (h : spD K ea S vs H Q E) :
    ∃ t, PSs X sts t ∧ t { nx := fun _ H' => Q .non H', rt := Q } (L2.start N vs) H := by
  obtain ⟨G, F, ss, o, hS, len, S0, k⟩ := h
  subst hK
  have hlen := hl ss o hS
  have b := body (vs.map addrOf) ss o hS (by rw [List.length_map, len])
  refine ⟨_, b, G, F, S0.entry len.symm _ (by omega), fun o' p F' x => ?_⟩
  cases o with
  | rt r ss' =>
    cases o' with
    | rt r' e =>
      obtain ⟨p1, p2⟩ := p
      subst p1
      exact fun v σ' H' S' => k F' v H' x (S0.leave S' p2)
    | nx e =>
      obtain ⟨p1, p2⟩ := p
      subst p1
      exact fun σ' H' S' => k F' .non H' x (S0.leave (S'.consVal .non) p2)
    | bk e => exact p.elim
    | ct e => exact p.elim
    | ex c e => exact p.elim
  | ex c ss' =>
    cases o' with
    | ex c' e =>
      obtain ⟨p1, p2⟩ := p
      subst p1
      exact fun σ' H' S' => k F' H' x (S0.leave (S'.consVal (v := .non) .non) p2).tail
    | rt r e => exact p.elim
    | nx e => exact p.elim
    | bk e => exact p.elim
    | ct e => exact p.elim
/-- THE RULE for a def -/
theorem fnD {ea : Str → Addr} {x qual : Str} {st : Stmt} {f : Addr} {fd : FuncData} {N ps : List Str} {k : Nat} {S : FS} (Fn : Fun K x qual st f fd) (Sc : FnScope N ps (defScope st)) (hl : ∀ ss o, S ss o → ss.length = ps.length)
    (body : ∀ (cdv : Value) (A : Around) (outer : List Env) (s : Shared) (H : Hp) (E : XK), Room k (bodyX P w K mg base N qual st f cdv A outer s H E).A → L2N.Takes (bodyX P w K mg base N qual st f cdv A outer s H E) (fun cls d _ H => E cls d H) → PassesOwn (model P w) (bodyX P w K mg base N qual st f cdv A outer s H E).A (bodyX P w K mg base N qual st f cdv A outer s H E).env (bodyX P w K mg base N qual st f cdv A outer s H E).xe →
      ∀ (pins : List Addr) (ss : List Sl) (o : FOut), S ss o → pins.length = ss.length → ES (bodyX P w K mg base N qual st f cdv A outer s H E) ea (fun cls d _ H => E cls d H) (defBody st) (pinE pins ss ++ List.replicate (N.length - ps.length) .un) (finP pins ss o)) :
    FnOk P w K mg base (L2N.CX P w) (k + 1) f fd ps (spD K ea S) := by
  obtain ⟨oc, od, kV, doc, pm, an, cdv, ct, osl, rfl, lk, hcd⟩ := Fn.ex
  have hn : ps.length ≤ N.length := by
    have := congrArg List.length Sc.pre
    rw [List.length_take] at this
    omega
  refine fn_of lk hcd Sc (fun vs H Q E ⟨G, F, ss, o, hS, len, _⟩ => len.symm.trans (hl ss o hS)) fun A outer s H vs Q E hr h => ?_
  exact body_go (N := N) rfl hl hn (body cdv A outer s H E hr (L2N.takes_of rfl rfl rfl rfl) (passes_of rfl)) h
theorem fnI {ea : Str → Addr} {x : Str} {f : Addr} {fd : FuncData} {ps : List Str} {k : Nat} {S : FS} (h : FnOk P w K mg base (L2N.CX P w) k f fd ps (spD K ea S)) (hm : mg x = some (.ref f)) (hk : PySem.W.keepIn K (.ref f) = true) (hb : Binds K fd ps []) : FnI P w K mg base ea k x ps S := ⟨f, fd, h, hm, hk, hb⟩
end
end Pd
set_option Elab.async false
set_option linter.all false
set_option maxRecDepth 100000
set_option maxHeartbeats 4000000
namespace Pd
open PySem PySem.Spec PyProof.Rows L2
/-! ### slices -/
def cut {α : Type} (xs : List α) (lo hi : Option Int) : List α := (xs.drop (HT.sIx xs.length 0 lo)).take (HT.sIx xs.length xs.length hi - HT.sIx xs.length 0 lo)
theorem cut_map {α β : Type} (f : α → β) (xs : List α) (lo hi : Option Int) : cut (xs.map f) lo hi = (cut xs lo hi).map f := by
  unfold cut
  rw [List.length_map, ← List.map_drop, ← List.map_take]
theorem cut_len {α : Type} (xs : List α) (lo hi : Option Int) : (cut xs lo hi).length ≤ xs.length := by
  unfold cut
  rw [List.length_take, List.length_drop]
  omega
theorem cut_mem {α : Type} {xs : List α} {lo hi : Option Int} {a : α} (h : a ∈ cut xs lo hi) : a ∈ xs := List.mem_of_mem_drop (List.mem_of_mem_take h)
theorem cut_whole {α : Type} {xs : List α} {lo hi : Option Int} (h : HT.sIx xs.length 0 lo = 0 ∧ HT.sIx xs.length xs.length hi = xs.length) : cut xs lo hi = xs := by
  unfold cut
  rw [h.1, h.2, List.drop_zero, Nat.sub_zero, List.take_length]
theorem drs_cut {K : Frag} {F : Hp} {vs : List V} {ds : List D} (h : DRs K F vs ds) (lo hi : Option Int) : DRs K F (cutV vs lo hi) (cut ds lo hi) := by
  unfold cutV cut
  rw [h.length]
  exact (h.drop _).take _
def tOo (K : Frag) (env : Ev) (o : Option Int) (env' : Ev) : TO := fun σ H Q => ∃ G F, St K G F σ H env ∧ ∀ F' H', Ext G F F' → St K G F' σ H' env' → Q o H'
abbrev EO (X : Cx) (e : Option Expr) (env : Ev) (o : Option Int) (env' : Ev) : Prop := PO X e (tOo X.K env o env')
theorem PO.wk {X : Cx} {e : Option Expr} {t t' : TO} (h : PO X e t) (w : ∀ σ H Q, t' σ H Q → t σ H Q) : PO X e t' := ⟨fun pins s σ H Q I q => h.run pins s σ H Q I (w σ H Q q)⟩
def rSlU (K : Frag) : V → Option Int → Option Int → Hp → VK → Prop := fun x lo hi H Q => rSlA K x lo hi H Q ∨ rSlL K x lo hi H Q ∨ rSlS x lo hi H Q
theorem sl_U {X : Cx} : L2.SlR X (rSlU X.K) := L2.SlR.or sl_tupA (L2.SlR.or sl_list sl_str)
def cutR : D → Option Int → Option Int → Rs
  | .tuple ds, lo, hi => .val (.tuple (cut ds lo hi))
  | .list ds, lo, hi => .new (.lst none (cut ds lo hi))
  | .str s, lo, hi => .val (.str (cutS s lo hi))
  | _, _, _ => .val .none
def cutOk : D → Prop
  | .tuple _ => True
  | .list _ => True
  | .str s => s.length ≤ sizeLine
  | _ => False
section
variable {X : Cx} {env env1 env2 env3 : Ev} {a e e2 o : Expr} {es : List Expr} {R Ra Rb : Rs} {d x y : D} {pos p p2 apos cpos : Pos} {i : Nat} {lo hi : Option Int} {l u : Option Expr}
theorem eo_none : EO X none env none env := PO.wk po_none fun σ H Q ⟨G, F, S, q⟩ => q F H (Ext.refl G F) S
theorem eo_some {k : Int} (h : EV X e env (.val (.int k)) env1) : EO X (some e) env (some k) env1 := PO.wk (po_some h) fun σ H Q ⟨G, F, S, q⟩ => ⟨G, F, S, fun F1 v H1 x1 r1 => ⟨k, r1.1.int_iff, q F1 H1 x1 r1.2⟩⟩
theorem slu_core {K : Frag} {G F H : Hp} {σ : L2.St} {v : V} {Q : VK} (S : St K G F σ H env) (hv : VA K F H v x) (ok : cutOk x) (q : ∀ F' w H', Ext G F F' → RR K G F' σ H' w (cutR x lo hi) env → Q w H') : rSlU K v lo hi H Q := by
  cases x with
  | none => exact ok.elim
  | bool b => exact ok.elim
  | int b => exact ok.elim
  | dict b => exact ok.elim
  | str s =>
    rw [hv.str]
    exact .inr (.inr ⟨s, rfl, ok, q F _ H (Ext.refl G F) ⟨.str _, S⟩⟩)
  | tuple ds =>
    obtain ⟨b, vs, rfl, ha, za, ra⟩ := hv.tup S.kf
    refine .inl ⟨b, vs, rfl, ha, fun wh => ?_, fun _ p hp => ?_⟩
    · refine q F _ H (Ext.refl G F) ⟨?_, S⟩
      rw [cut_whole (by rw [← ra.length]; exact wh)]
      rcases hv with hv | ⟨_, _, _, e1, _⟩
      · exact hv
      · cases e1
    · have r2 := drs_cut ra lo hi
      obtain ⟨x4, r4, S4⟩ := S.newTup hp (Nat.le_trans (cutV_length vs lo hi) za) r2
      exact q _ _ _ x4 ⟨r4, S4⟩
  | list ds =>
    obtain ⟨b, vs, rfl, ha, za, ra⟩ := hv.lst S.kf
    refine .inr (.inl ⟨b, vs, rfl, .of ha, fun p hp => ?_⟩)
    have r2 := drs_cut ra lo hi
    exact q F _ _ (Ext.refl G F) (S.consNew hp fun f g => ⟨p, _, rfl, (fun _ z => nomatch z), upd_same, Nat.le_trans (cutV_length vs lo hi) za, r2, f, g⟩)
theorem ev_slice (h : EV X a env Ra env1) (hl : EO X l env1 lo env2) (hu : EO X u env2 hi env3) (w : vw (Pd.fz Ra) env3 = some x) (ok : cutOk x) (fl : (Pd.fz Ra).flat = true := by rfl) : EV X (.Subscript a (.Slice l u none p2) pos) env (cutR x lo hi) env3 :=
  PE.wk (pe_slice sl_U h hl hu) fun σ H Q ⟨G, F, S, q⟩ => ⟨G, F, S, fun F1 v H1 x1 r1 => by
    obtain ⟨F1', x1', r1'⟩ := r1.fz
    refine ⟨G, F1', r1'.st, fun F2 H2 x2 S2 => ⟨G, F2, S2, fun F3 H3 x3 S3 => ?_⟩⟩
    have k := r1'.keep fl (x2.trans x3).le S3
    exact slu_core S3 (k.va w) ok fun F4 w4 H4 x4 r4 => q F4 w4 H4 (((x1.trans x1').trans (x2.trans x3)).trans x4) r4⟩
theorem EI.is {tg : Expr} {ds es : List D} (h : EI X tg e env ds env1) (q : ds = es) : EI X tg e env es env1 := by subst q; exact h
theorem zipD_map {α β : Type} (f : α → D) (g : β → D) (xs : List α) (ys : List β) : zipD (xs.map f) (ys.map g) = (xs.zip ys).map fun p => .tuple [f p.1, g p.2] := by
  unfold zipD
  rw [List.zip_map, List.map_map]
  rfl
/-! ### methods of the list that a name owns -/
theorem list_ty {K : Frag} {H : Hp} {p : Addr} {vs : List V} (h : H p = some (.lst vs)) : tyV K "list" (.ref p) H := .inl ⟨rfl, _, .of h⟩
theorem ev_pop {pin : Option Addr} {ds : List D} (ho : EV X o env (.ptr i) env) (g : ge env i = .lst pin ds) (h : ds.getLast? = some d) (hbase : attributeBase o "pop" X.env (eval o X.env) = eval o X.env := by rfl) (hline : (apos.endLine == cpos.line) = true := by rfl) :
    EV X (.Call (.Attribute o "pop" apos) [] [] cpos) env (.val d) (env.set i (.lst pin ds.dropLast)) :=
  PE.wk (pe_bm0 PySem.F.plainAttrs_list PySem.F.slot_list_pop PySem.F.type_list_pop mt_pop ho hbase hline) fun σ H Q ⟨G, F, S, q⟩ => ⟨G, F, S, fun F1 v H1 x1 r1 => by
    obtain ⟨e1, S1⟩ := r1
    obtain ⟨p, vs, e2, _, hp, z, r, f, g'⟩ := S1.lstS g
    rw [e1] at e2
    cases e2
    refine ⟨list_ty hp, p, vs, ?_⟩
    have hn : ds[ds.length - 1]? = some d := by rw [← List.getLast?_eq_getElem?]; exact h
    obtain ⟨y, hy, ry⟩ := r.get hn
    rw [← r.length] at hy
    refine ⟨y, rfl, rfl, hp, hy, q F1 _ _ x1 ⟨ry, S1.write g e1 (by rw [List.length_dropLast]; omega) r.dropLast⟩⟩⟩
theorem ptr_ty {K : Frag} {G F H : Hp} {σ : L2.St} {v : V} {pin : Option Addr} {ds : List D} (S : St K G F σ H env) (g : ge env i = .lst pin ds) (e : gs σ i = some v) : tyV K "list" v H := by
  obtain ⟨p, vs, e2, _, hp, _⟩ := S.lstS g
  rw [e] at e2
  cases e2
  exact list_ty hp
theorem ev_append {pin pin0 : Option Addr} {ds ds0 : List D} (ho : EV X o env (.ptr i) env) (g0 : ge env i = .lst pin0 ds0) (h : EV X e env R env1) (hf : Pd.fz R = .val d) (g : ge env1 i = .lst pin ds) (hz : ds.length < 16000000) (hbase : attributeBase o "append" X.env (eval o X.env) = eval o X.env := by rfl)
    (hfew : ((backTo cpos (starEach (e :: []) X.env)).all (fun x => !x.1) && (backToKw cpos (keywordEach [] X.env)).all (fun x => x.1.isSome) && decide ((e :: []).length + ([] : List Keyword).length + (if ([] : List Keyword).isEmpty then 0 else 1) < 30)) = true := by rfl)
    (hline : (apos.endLine == cpos.line) = true := by rfl) (hs : starEach (e :: []) X.env = (false, eval e X.env) :: starEach [] X.env := by rfl) (hplain : (backTo cpos (starEach [] X.env)).any (·.1) = false := by rfl) :
    EV X (.Call (.Attribute o "append" apos) [e] [] cpos) env (.val .none) (env1.set i (.lst pin (ds ++ [d]))) :=
  PE.wk (pe_bm PySem.F.plainAttrs_list PySem.F.slot_list_append PySem.F.type_list_append mt_append ho (pa_cons h pa_nil hs) hbase hfew hline hs hplain) fun σ H Q ⟨G, F, S, q⟩ => ⟨G, F, S, fun F1 v H1 x1 r1 => by
    obtain ⟨e1, S1⟩ := r1
    refine ⟨ptr_ty S1 g0 e1, G, F1, S1, fun F2 u H2 x2 r2 => ?_⟩
    obtain ⟨F3, x3, r3⟩ := r2.fz
    rw [hf] at r3
    obtain ⟨r3, S3⟩ := r3
    obtain ⟨p, vs, e2, _, hp, z, r, f, g'⟩ := S3.lstS g
    rw [e1] at e2
    cases e2
    have hlt : vs.length < sizeLine := by rw [r.length, sizeLine_eq]; omega
    exact ⟨p, vs, u, rfl, rfl, hp, hlt, q F3 _ _ (x1.trans (x2.trans x3)) ⟨.non, S3.write g e1 (by rw [List.length_append]; exact hlt) (r.append (.cons r3 .nil))⟩⟩⟩
theorem ev_extend {pin pin0 : Option Addr} {ds ds0 xs : List D} (ho : EV X o env (.ptr i) env) (g0 : ge env i = .lst pin0 ds0) (h : EV X e env R env1) (hf : Pd.fz R = .val (.list xs)) (g : ge env1 i = .lst pin ds) (hz : ds.length + xs.length < 16000000) (hbase : attributeBase o "extend" X.env (eval o X.env) = eval o X.env := by rfl)
    (hfew : ((backTo cpos (starEach (e :: []) X.env)).all (fun x => !x.1) && (backToKw cpos (keywordEach [] X.env)).all (fun x => x.1.isSome) && decide ((e :: []).length + ([] : List Keyword).length + (if ([] : List Keyword).isEmpty then 0 else 1) < 30)) = true := by rfl)
    (hline : (apos.endLine == cpos.line) = true := by rfl) (hs : starEach (e :: []) X.env = (false, eval e X.env) :: starEach [] X.env := by rfl) (hplain : (backTo cpos (starEach [] X.env)).any (·.1) = false := by rfl) :
    EV X (.Call (.Attribute o "extend" apos) [e] [] cpos) env (.val .none) (env1.set i (.lst pin (ds ++ xs))) :=
  PE.wk (pe_bm PySem.F.plainAttrs_list PySem.F.slot_list_extend PySem.F.type_list_extend mt_extend ho (pa_cons h pa_nil hs) hbase hfew hline hs hplain) fun σ H Q ⟨G, F, S, q⟩ => ⟨G, F, S, fun F1 v H1 x1 r1 => by
    obtain ⟨e1, S1⟩ := r1
    refine ⟨ptr_ty S1 g0 e1, G, F1, S1, fun F2 u H2 x2 r2 => ?_⟩
    obtain ⟨F3, x3, r3⟩ := r2.fz
    rw [hf] at r3
    obtain ⟨r3, S3⟩ := r3
    obtain ⟨p, vs, e2, _, hp, z, r, f, g'⟩ := S3.lstS g
    rw [e1] at e2
    cases e2
    cases r3 with
    | lst a b c =>
      have hle : vs.length + xs.length ≤ sizeLine := by rw [r.length, sizeLine_eq]; omega
      have hle' := hle
      rw [← c.length] at hle'
      exact ⟨p, _, vs, _, rfl, rfl, hp, S3.kf _ _ a, hle', q F3 _ _ (x1.trans (x2.trans x3)) ⟨.non, S3.write g e1 (by rw [List.length_append]; exact hle') (r.append c)⟩⟩⟩
theorem ev_reverse {pin : Option Addr} {ds : List D} (ho : EV X o env (.ptr i) env) (g : ge env i = .lst pin ds) (hbase : attributeBase o "reverse" X.env (eval o X.env) = eval o X.env := by rfl) (hline : (apos.endLine == cpos.line) = true := by rfl) :
    EV X (.Call (.Attribute o "reverse" apos) [] [] cpos) env (.val .none) (env.set i (.lst pin ds.reverse)) :=
  PE.wk (pe_bm0 PySem.F.plainAttrs_list PySem.F.slot_list_reverse PySem.F.type_list_reverse mt_reverse ho hbase hline) fun σ H Q ⟨G, F, S, q⟩ => ⟨G, F, S, fun F1 v H1 x1 r1 => by
    obtain ⟨e1, S1⟩ := r1
    obtain ⟨p, vs, e2, _, hp, z, r, f, g'⟩ := S1.lstS g
    rw [e1] at e2
    cases e2
    exact ⟨list_ty hp, p, vs, rfl, rfl, hp, q F1 _ _ x1 ⟨.non, S1.write g e1 (by rw [List.length_reverse]; exact z) r.reverse⟩⟩⟩
/-! ### gcd, ranges as tuples and lists -/
theorem ev_gcd {a b : Int} {fn : Str} (hm : X.mg fn = some (.builtin "math.gcd")) (h : EA X [e, e2] env [.val (.int a), .val (.int b)] env1) (hg : Gl X fn := by rfl) (hdb : (fn == ("__debug__" : Str)) = false := by decide)
    (he : starEach (e :: [e2]) X.env = (false, eval e X.env) :: starEach [e2] X.env := by rfl) (hpl : (backTo pos (starEach [e2] X.env)).any (·.1) = false := by rfl) :
    EV X (.Call (.Name fn p) [e, e2] [] pos) env (.val (.int ((Nat.gcd a.natAbs b.natAbs : Nat) : Int))) env1 :=
  PE.wk (pe_callBfun cr_gcd hg hm h hdb he hpl) fun σ H Q ⟨G, F, S, q⟩ => ⟨G, F, S, fun F1 vs H1 x1 r1 S1 => by
    match vs, r1 with
    | [u, w], ⟨ru, rw', _⟩ => exact ⟨a, b, by rw [ru.int_iff, rw'.int_iff], q F1 _ H1 x1 ⟨.int _, S1⟩⟩⟩
theorem drs_range {K : Frag} {F : Hp} (a b : Int) : DRs K F (rgV a b) ((irange a b).map .int) := by
  have e : rgV a b = (irange a b).map V.int := by
    unfold rgV irange
    rw [List.map_map]
    rfl
  rw [e]
  exact DRs.of_ints _
end
end Pd
set_option Elab.async false
set_option linter.all false
set_option maxRecDepth 100000
set_option maxHeartbeats 4000000
namespace Pd
open PySem PySem.Spec PyProof.Rows L2
/-- the built-ins stand at their names -/
structure Blt (mg : Str → Option Value) : Prop where
  int_ : mg "int" = none
  len_ : mg "len" = none
  range_ : mg "range" = none
  tuple_ : mg "tuple" = none
  sorted_ : mg "sorted" = none
  isinstance_ : mg "isinstance" = none
  all_ : mg "all" = none
  repr_ : mg "repr" = none
  enumerate_ : mg "enumerate" = none
  list_ : mg "list" = none
  any_ : mg "any" = none
  zip_ : mg "zip" = none
  dict_ : mg "dict" = none
  max_ : mg "max" = none
  min_ : mg "min" = none
  sum_ : mg "sum" = none
  abs_ : mg "abs" = none
  str_ : mg "str" = none
  set_ : mg "set" = none
theorem bt_int : bootBuiltins "int" = some (.type "int") := by decide +kernel
theorem bt_len : bootBuiltins "len" = some (.builtin "len") := by decide +kernel
theorem bt_tuple : bootBuiltins "tuple" = some (.type "tuple") := by decide +kernel
theorem bt_list : bootBuiltins "list" = some (.type "list") := by decide +kernel
theorem bt_dict : bootBuiltins "dict" = some (.type "dict") := by decide +kernel
theorem bt_sorted : bootBuiltins "sorted" = some (.builtin "sorted") := by decide +kernel
theorem bt_isinstance : bootBuiltins "isinstance" = some (.builtin "isinstance") := by decide +kernel
theorem bt_all : bootBuiltins "all" = some (.builtin "all") := by decide +kernel
theorem bt_any : bootBuiltins "any" = some (.builtin "any") := by decide +kernel
theorem bt_repr : bootBuiltins "repr" = some (.builtin "repr") := by decide +kernel
theorem bt_max : bootBuiltins "max" = some (.builtin "max") := by decide +kernel
theorem bt_min : bootBuiltins "min" = some (.builtin "min") := by decide +kernel
theorem bt_sum : bootBuiltins "sum" = some (.builtin "sum") := by decide +kernel
theorem bt_abs : bootBuiltins "abs" = some (.builtin "abs") := by decide +kernel
theorem bt_str : bootBuiltins "str" = some (.type "str") := by decide +kernel
section
variable {K : Frag} {x d : D}
theorem c1_allM {α : Type} {xs : List α} {q : α → Bool} : C1 K (rAll K) (.list (xs.map fun a => .bool (q a))) (.val (.bool (xs.all q))) := by
  have h := c1_all (K := K) (bs := xs.map q)
  rw [List.map_map, List.all_map] at h
  exact h
theorem c1_anyM {α : Type} {xs : List α} {q : α → Bool} : C1 K (rAny K) (.list (xs.map fun a => .bool (q a))) (.val (.bool (xs.any q))) := by
  have h := c1_any (K := K) (bs := xs.map q)
  rw [List.map_map, List.any_map] at h
  exact h
theorem c1_sortedM {α : Type} {xs : List α} {q : α → Int} : C1 K (rSortedI K) (.list (xs.map fun a => .int (q a))) (.new (.lst none ((isort (xs.map q)).map .int))) := by
  have h := c1_sorted (K := K) (ns := xs.map q)
  rw [List.map_map] at h
  exact h
theorem c1_sumM {α : Type} {xs : List α} {q : α → Int} : C1 K (rSum K) (.list (xs.map fun a => .int (q a))) (.val (.int (xs.map q).sum)) := by
  have h := c1_sum (K := K) (ns := xs.map q)
  rw [List.map_map] at h
  exact h
/-- a dict's length; its keys in order -/
def rLenU (K : Frag) : List V → Hp → VK → Prop := fun xs H Q => (∃ p ys, xs = [.ref p] ∧ (SqL K H p ys ∨ SqT K H p ys) ∧ Q (.int ys.length) H) ∨ ∃ z, xs = [.str z] ∧ z.length ≤ sizeLine ∧ Q (.int z.length) H
theorem call_lenU {X : Cx} : CallR X (.builtin "len") (rLenU X.K) := CallR.or call_len_seq call_len_str
def lenR : D → D
  | .list ds => .int ds.length
  | .tuple ds => .int ds.length
  | .str z => .int z.length
  | _ => .none
def lenOk : D → Prop
  | .list _ => True
  | .tuple _ => True
  | .str z => z.length ≤ sizeLine
  | _ => False
theorem c1_lenU (ok : lenOk x) : C1 K (rLenU K) x (.val (lenR x)) := by
  intro G F σ H env v Q S hv q
  cases x with
  | none => exact ok.elim
  | bool b => exact ok.elim
  | int b => exact ok.elim
  | dict b => exact ok.elim
  | str z => exact .inr ⟨z, by rw [hv.str], ok, q F _ H (Ext.refl G F) ⟨.int _, S⟩⟩
  | list ds => exact .inl (c1_len (.inl rfl) G F σ H env v Q S hv q)
  | tuple ds => exact .inl (c1_len (.inr rfl) G F σ H env v Q S hv q)
def seqD : D → Option (List D)
  | .list ds => some ds
  | .tuple ds => some ds
  | _ => none
theorem seqD_or {ds : List D} (h : seqD x = some ds) : x = .list ds ∨ x = .tuple ds := by
  cases x with
  | list xs => exact .inl (congrArg _ (Option.some.inj h))
  | tuple xs => exact .inr (congrArg _ (Option.some.inj h))
  | none => cases h
  | bool b => cases h
  | int b => cases h
  | str b => cases h
  | dict b => cases h
end
section
variable {X : Cx} {env env1 env2 : Ev} {e e2 a b c : Expr} {R Ra Rb Rc : Rs} {x y z d : D} {pos p : Pos} {i j k : Int} {ds : List D}
variable (B : Blt X.mg)
include B
theorem ev_len (h : EV X e env R env1) (w : vw (Pd.fz R) env1 = some x) (ok : lenOk x := by trivial) (hg : Gl X "len" := by rfl) (he : starEach (e :: []) X.env = (false, eval e X.env) :: starEach [] X.env := by rfl) (hpl : (backTo pos (starEach [] X.env)).any (·.1) = false := by rfl) :
    EV X (.Call (.Name "len" p) [e] [] pos) env (.val (lenR x)) env1 := ev_b1 call_lenU B.len_ bt_len h (c1_lenU ok) w hg (by decide) (by decide) he hpl
theorem ev_toint (h : EV X e env R env1) (w : vw (Pd.fz R) env1 = some (.int i)) (hg : Gl X "int" := by rfl) (he : starEach (e :: []) X.env = (false, eval e X.env) :: starEach [] X.env := by rfl) (hpl : (backTo pos (starEach [] X.env)).any (·.1) = false := by rfl) :
    EV X (.Call (.Name "int" p) [e] [] pos) env (.val (.int i)) env1 := ev_t1 call_int1 B.int_ bt_int h c1_int w hg (by decide) (by decide) he hpl
theorem ev_tointB {k : Bool} (h : EV X e env R env1) (w : vw (Pd.fz R) env1 = some (.bool k)) (hg : Gl X "int" := by rfl) (he : starEach (e :: []) X.env = (false, eval e X.env) :: starEach [] X.env := by rfl) (hpl : (backTo pos (starEach [] X.env)).any (·.1) = false := by rfl) :
    EV X (.Call (.Name "int" p) [e] [] pos) env (.val (.int (if k then 1 else 0))) env1 := ev_t1 call_int1 B.int_ bt_int h c1_intB w hg (by decide) (by decide) he hpl
theorem ev_abs (h : EV X e env R env1) (w : vw (Pd.fz R) env1 = some (.int i)) (hg : Gl X "abs" := by rfl) (he : starEach (e :: []) X.env = (false, eval e X.env) :: starEach [] X.env := by rfl) (hpl : (backTo pos (starEach [] X.env)).any (·.1) = false := by rfl) :
    EV X (.Call (.Name "abs" p) [e] [] pos) env (.val (.int (if i < 0 then -i else i))) env1 := ev_b1 call_abs B.abs_ bt_abs h c1_abs w hg (by decide) (by decide) he hpl
theorem ev_tuple (h : EV X e env R env1) (w : vw (Pd.fz R) env1 = some x) (q : seqD x = some ds := by rfl) (hg : Gl X "tuple" := by rfl) (he : starEach (e :: []) X.env = (false, eval e X.env) :: starEach [] X.env := by rfl) (hpl : (backTo pos (starEach [] X.env)).any (·.1) = false := by rfl) :
    EV X (.Call (.Name "tuple" p) [e] [] pos) env (.val (.tuple ds)) env1 := ev_t1 call_tuple_of B.tuple_ bt_tuple h (c1_tuple (seqD_or q)) w hg (by decide) (by decide) he hpl
theorem ev_list (h : EV X e env R env1) (w : vw (Pd.fz R) env1 = some x) (q : seqD x = some ds := by rfl) (hg : Gl X "list" := by rfl) (he : starEach (e :: []) X.env = (false, eval e X.env) :: starEach [] X.env := by rfl) (hpl : (backTo pos (starEach [] X.env)).any (·.1) = false := by rfl) :
    EV X (.Call (.Name "list" p) [e] [] pos) env (.new (.lst none ds)) env1 := ev_t1 call_list_of B.list_ bt_list h (c1_list (seqD_or q)) w hg (by decide) (by decide) he hpl
theorem ev_sorted {ns : List Int} (h : EV X e env R env1) (w : vw (Pd.fz R) env1 = some (.list (ns.map .int))) (hg : Gl X "sorted" := by rfl) (he : starEach (e :: []) X.env = (false, eval e X.env) :: starEach [] X.env := by rfl) (hpl : (backTo pos (starEach [] X.env)).any (·.1) = false := by rfl) :
    EV X (.Call (.Name "sorted" p) [e] [] pos) env (.new (.lst none ((isort ns).map .int))) env1 := ev_b1 cr_sortedI B.sorted_ bt_sorted h c1_sorted w hg (by decide) (by decide) he hpl
theorem ev_sortedM {α : Type} {xs : List α} {q : α → Int} (h : EV X e env R env1) (w : vw (Pd.fz R) env1 = some (.list (xs.map fun a => .int (q a)))) (hg : Gl X "sorted" := by rfl) (he : starEach (e :: []) X.env = (false, eval e X.env) :: starEach [] X.env := by rfl) (hpl : (backTo pos (starEach [] X.env)).any (·.1) = false := by rfl) :
    EV X (.Call (.Name "sorted" p) [e] [] pos) env (.new (.lst none ((isort (xs.map q)).map .int))) env1 := ev_b1 cr_sortedI B.sorted_ bt_sorted h c1_sortedM w hg (by decide) (by decide) he hpl
theorem ev_sum {ns : List Int} (hc : X.calm = true) (h : EV X e env R env1) (w : vw (Pd.fz R) env1 = some (.list (ns.map .int))) (hg : Gl X "sum" := by rfl) (he : starEach (e :: []) X.env = (false, eval e X.env) :: starEach [] X.env := by rfl) (hpl : (backTo pos (starEach [] X.env)).any (·.1) = false := by rfl) :
    EV X (.Call (.Name "sum" p) [e] [] pos) env (.val (.int ns.sum)) env1 := ev_b1 (cr_sum hc) B.sum_ bt_sum h c1_sum w hg (by decide) (by decide) he hpl
theorem ev_sumM {α : Type} {xs : List α} {q : α → Int} (hc : X.calm = true) (h : EV X e env R env1) (w : vw (Pd.fz R) env1 = some (.list (xs.map fun a => .int (q a)))) (hg : Gl X "sum" := by rfl) (he : starEach (e :: []) X.env = (false, eval e X.env) :: starEach [] X.env := by rfl) (hpl : (backTo pos (starEach [] X.env)).any (·.1) = false := by rfl) :
    EV X (.Call (.Name "sum" p) [e] [] pos) env (.val (.int (xs.map q).sum)) env1 := ev_b1 (cr_sum hc) B.sum_ bt_sum h c1_sumM w hg (by decide) (by decide) he hpl
theorem ev_all {α : Type} {xs : List α} {q : α → Bool} (hc : X.calm = true) (h : EV X e env R env1) (w : vw (Pd.fz R) env1 = some (.list (xs.map fun a => .bool (q a)))) (hg : Gl X "all" := by rfl) (he : starEach (e :: []) X.env = (false, eval e X.env) :: starEach [] X.env := by rfl) (hpl : (backTo pos (starEach [] X.env)).any (·.1) = false := by rfl) :
    EV X (.Call (.Name "all" p) [e] [] pos) env (.val (.bool (xs.all q))) env1 := ev_b1 (cr_all hc) B.all_ bt_all h c1_allM w hg (by decide) (by decide) he hpl
theorem ev_any {α : Type} {xs : List α} {q : α → Bool} (hc : X.calm = true) (h : EV X e env R env1) (w : vw (Pd.fz R) env1 = some (.list (xs.map fun a => .bool (q a)))) (hg : Gl X "any" := by rfl) (he : starEach (e :: []) X.env = (false, eval e X.env) :: starEach [] X.env := by rfl) (hpl : (backTo pos (starEach [] X.env)).any (·.1) = false := by rfl) :
    EV X (.Call (.Name "any" p) [e] [] pos) env (.val (.bool (xs.any q))) env1 := ev_b1 (cr_any hc) B.any_ bt_any h c1_anyM w hg (by decide) (by decide) he hpl
theorem ev_zip {elts : List Expr} {kk : Nat} {tpos : Pos} {es : List D} (h : EV X e env Ra env1) (h2 : EV X e2 env1 Rb env2) (wx : Pd.fz Ra = .val x) (wy : Pd.fz Rb = .val y) (t : (x = .list ds ∧ y = .list es) ∨ (x = .tuple ds ∧ y = .tuple es)) (hg : Gl X "zip" := by rfl) (hs : starEach [e, e2] X.env = (false, eval e X.env) :: starEach [e2] X.env := by rfl) (hs2 : starEach [e2] X.env = (false, eval e2 X.env) :: starEach [] X.env := by rfl) (hpl : (backTo pos (starEach [e2] X.env)).any (·.1) = false := by rfl) :
    EI X (.Tuple elts kk tpos) (.Call (.Name "zip" p) [e, e2] [] pos) env (zipD ds es) env2 := by
  have q := ea_cons h (ea_cons h2 ea_nil (by rw [wy]; rfl) hs2) (by rw [wx]; rfl) hs
  rw [wx, wy] at q
  exact ei_zip B.zip_ q t hg hs hpl
theorem ev_rng1 {tg : Expr} (h : EV X e env (.val (.int i)) env1) (b : -(2 ^ 62) ≤ i ∧ i < 2 ^ 62) (hg : Gl X "range" := by rfl) (he : starEach (e :: []) X.env = (false, eval e X.env) :: starEach [] X.env := by rfl) (hs : starEach [e] X.env = [(false, eval e X.env)] := by rfl) :
    EI X tg (.Call (.Name "range" p) [e] [] pos) env ((irange 0 i).map .int) env1 := ei_rng1 B.range_ h b hg he hs
theorem ev_rng2 {tg : Expr} (h : EV X e env (.val (.int i)) env1) (h2 : EV X e2 env1 (.val (.int j)) env2) (b : (-(2 ^ 62) ≤ i ∧ i < 2 ^ 62) ∧ -(2 ^ 62) ≤ j ∧ j < 2 ^ 62) (hg : Gl X "range" := by rfl) (he1 : starEach (e :: [e2]) X.env = (false, eval e X.env) :: starEach [e2] X.env := by rfl)
    (he2 : starEach (e2 :: []) X.env = (false, eval e2 X.env) :: starEach [] X.env := by rfl) (hs : starEach [e, e2] X.env = [(false, eval e X.env), (false, eval e2 X.env)] := by rfl) (hs2 : starEach [e2] X.env = [(false, eval e2 X.env)] := by rfl) :
    EI X tg (.Call (.Name "range" p) [e, e2] [] pos) env ((irange i j).map .int) env2 := ei_rng2 B.range_ h h2 b hg he1 he2 hs hs2
end
section
variable {X : Cx} {env env1 env2 : Ev} {e a b c : Expr} {R Ra Rb Rc : Rs} {x y z d : D} {pos p : Pos} {i j k : Int} {ds : List D} {k1 k2 : Bool}
/-! ### operators in short -/
theorem ev_add (h : EV X a env Ra env1) (h2 : EV X b env1 Rb env2) (wx : vw (Pd.fz Ra) env2 = some x) (wy : vw (Pd.fz Rb) env2 = some y) (ok : addOk x y := by trivial) (fl : (Pd.fz Ra).flat = true := by rfl) : EV X (.BinOp a .Add b pos) env (addR x y) env2 := ev_bin op_addU h h2 (opd_add ok) wx wy fl
theorem ev_sub (h : EV X a env Ra env1) (h2 : EV X b env1 Rb env2) (wx : vw (Pd.fz Ra) env2 = some (.int i)) (wy : vw (Pd.fz Rb) env2 = some (.int j)) (fl : (Pd.fz Ra).flat = true := by rfl) : EV X (.BinOp a .Sub b pos) env (.val (.int (i - j))) env2 := ev_bin op_sub h h2 (opd_int0 fun _ => .int _) wx wy fl
theorem ev_mul (h : EV X a env Ra env1) (h2 : EV X b env1 Rb env2) (wx : vw (Pd.fz Ra) env2 = some (.int i)) (wy : vw (Pd.fz Rb) env2 = some (.int j)) (ok : CMul i j) (fl : (Pd.fz Ra).flat = true := by rfl) : EV X (.BinOp a .Mult b pos) env (.val (.int (i * j))) env2 := ev_bin op_mulU h h2 (opd_mul ok) wx wy fl
theorem ev_mulW (h : EV X a env Ra env1) (h2 : EV X b env1 Rb env2) (wx : vw (Pd.fz Ra) env2 = some (.int i)) (wy : vw (Pd.fz Rb) env2 = some (.int j)) (ok : CMulW i j) (fl : (Pd.fz Ra).flat = true := by rfl) : EV X (.BinOp a .Mult b pos) env (.val (.int (i * j))) env2 := ev_bin op_mulU h h2 (opd_mulW ok) wx wy fl
theorem ev_rep {xs : List D} (h : EV X a env Ra env1) (h2 : EV X b env1 Rb env2) (wx : vw (Pd.fz Ra) env2 = some (.list xs)) (wy : vw (Pd.fz Rb) env2 = some (.int j)) (h0 : -(2 ^ 63) ≤ j ∧ j < 2 ^ 63) (ok : xs.length * j.toNat ≤ sizeLine) (fl : (Pd.fz Ra).flat = true := by rfl) : EV X (.BinOp a .Mult b pos) env (.new (.lst none (List.replicate j.toNat xs).flatten)) env2 := ev_bin op_mulU h h2 (opd_rep h0 ok) wx wy fl
theorem ev_div (h : EV X a env Ra env1) (h2 : EV X b env1 Rb env2) (wx : vw (Pd.fz Ra) env2 = some (.int i)) (wy : vw (Pd.fz Rb) env2 = some (.int j)) (ok : 0 < j ∧ j < 1073741824) (fl : (Pd.fz Ra).flat = true := by rfl) : EV X (.BinOp a .FloorDiv b pos) env (.val (.int (i / j))) env2 := ev_bin op_divU h h2 (opd_div ok) wx wy fl
theorem ev_mod (h : EV X a env Ra env1) (h2 : EV X b env1 Rb env2) (wx : vw (Pd.fz Ra) env2 = some (.int i)) (wy : vw (Pd.fz Rb) env2 = some (.int j)) (ok : 0 < j) (fl : (Pd.fz Ra).flat = true := by rfl) : EV X (.BinOp a .Mod b pos) env (.val (.int (i % j))) env2 := ev_bin op_mod h h2 (opd_mod ok) wx wy fl
theorem ev_neg (h : EV X a env Ra env1) (w : vw (Pd.fz Ra) env1 = some (.int i)) : EV X (.UnaryOp .USub a pos) env (.val (.int (-i))) env1 := ev_un un_neg h und_neg w
theorem ev_lt (h : EV X a env Ra env1) (h2 : EV X b env1 Rb env2) (wx : vw (Pd.fz Ra) env2 = some (.int i)) (wy : vw (Pd.fz Rb) env2 = some (.int j)) (fl : (Pd.fz Ra).flat = true := by rfl) : EV X (.Compare a [.Lt] [b] pos) env (.val (.bool (decide (i < j)))) env2 := ev_cmp op_lt h h2 (opd_int0 fun _ => .bl _) wx wy (nomark _) fl
theorem ev_le (h : EV X a env Ra env1) (h2 : EV X b env1 Rb env2) (wx : vw (Pd.fz Ra) env2 = some (.int i)) (wy : vw (Pd.fz Rb) env2 = some (.int j)) (fl : (Pd.fz Ra).flat = true := by rfl) : EV X (.Compare a [.LtE] [b] pos) env (.val (.bool (decide (i ≤ j)))) env2 := ev_cmp op_le h h2 (opd_int0 fun _ => .bl _) wx wy (nomark _) fl
theorem ev_gt (h : EV X a env Ra env1) (h2 : EV X b env1 Rb env2) (wx : vw (Pd.fz Ra) env2 = some (.int i)) (wy : vw (Pd.fz Rb) env2 = some (.int j)) (fl : (Pd.fz Ra).flat = true := by rfl) : EV X (.Compare a [.Gt] [b] pos) env (.val (.bool (decide (j < i)))) env2 := ev_cmp op_gt h h2 (opd_int0 fun _ => .bl _) wx wy (nomark _) fl
theorem ev_ge (h : EV X a env Ra env1) (h2 : EV X b env1 Rb env2) (wx : vw (Pd.fz Ra) env2 = some (.int i)) (wy : vw (Pd.fz Rb) env2 = some (.int j)) (fl : (Pd.fz Ra).flat = true := by rfl) : EV X (.Compare a [.GtE] [b] pos) env (.val (.bool (decide (j ≤ i)))) env2 := ev_cmp op_ge h h2 (opd_int0 fun _ => .bl _) wx wy (nomark _) fl
theorem et_lt (h : EV X a env Ra env1) (h2 : EV X b env1 Rb env2) (wx : vw (Pd.fz Ra) env2 = some (.int i)) (wy : vw (Pd.fz Rb) env2 = some (.int j)) (fl : (Pd.fz Ra).flat = true := by rfl) : ET X (.Compare a [.Lt] [b] pos) env (decide (i < j)) env2 := et_cmp op_lt h h2 (opd_int0 fun _ => .bl _) wx wy (nomark _) fl
theorem et_le (h : EV X a env Ra env1) (h2 : EV X b env1 Rb env2) (wx : vw (Pd.fz Ra) env2 = some (.int i)) (wy : vw (Pd.fz Rb) env2 = some (.int j)) (fl : (Pd.fz Ra).flat = true := by rfl) : ET X (.Compare a [.LtE] [b] pos) env (decide (i ≤ j)) env2 := et_cmp op_le h h2 (opd_int0 fun _ => .bl _) wx wy (nomark _) fl
theorem et_gt (h : EV X a env Ra env1) (h2 : EV X b env1 Rb env2) (wx : vw (Pd.fz Ra) env2 = some (.int i)) (wy : vw (Pd.fz Rb) env2 = some (.int j)) (fl : (Pd.fz Ra).flat = true := by rfl) : ET X (.Compare a [.Gt] [b] pos) env (decide (j < i)) env2 := et_cmp op_gt h h2 (opd_int0 fun _ => .bl _) wx wy (nomark _) fl
theorem et_ge (h : EV X a env Ra env1) (h2 : EV X b env1 Rb env2) (wx : vw (Pd.fz Ra) env2 = some (.int i)) (wy : vw (Pd.fz Rb) env2 = some (.int j)) (fl : (Pd.fz Ra).flat = true := by rfl) : ET X (.Compare a [.GtE] [b] pos) env (decide (j ≤ i)) env2 := et_cmp op_ge h h2 (opd_int0 fun _ => .bl _) wx wy (nomark _) fl
/-- == and != of data; room: «hr.units» -/
theorem ev_eq (hu : X.A.units + 64 < cLine) (h : EV X a env Ra env1) (h2 : EV X b env1 Rb env2) (wx : vw (Pd.fz Ra) env2 = some x) (wy : vw (Pd.fz Rb) env2 = some y) (sx : SeqAt.shaped x = true) (sy : SeqAt.shaped y = true) (fl : (Pd.fz Ra).flat = true := by rfl) : EV X (.Compare a [.Eq] [b] pos) env (.val (.bool (PyData.eqv x y))) env2 := ev_cmp (op_eqD hu) h h2 (opd_eq sx sy) wx wy (nomark _) fl
theorem ev_ne (hu : X.A.units + 64 < cLine) (h : EV X a env Ra env1) (h2 : EV X b env1 Rb env2) (wx : vw (Pd.fz Ra) env2 = some x) (wy : vw (Pd.fz Rb) env2 = some y) (sx : SeqAt.shaped x = true) (sy : SeqAt.shaped y = true) (fl : (Pd.fz Ra).flat = true := by rfl) : EV X (.Compare a [.NotEq] [b] pos) env (.val (.bool (!PyData.eqv x y))) env2 := ev_cmp (op_neD hu) h h2 (opd_ne sx sy) wx wy (nomark _) fl
theorem et_eq (hu : X.A.units + 64 < cLine) (h : EV X a env Ra env1) (h2 : EV X b env1 Rb env2) (wx : vw (Pd.fz Ra) env2 = some x) (wy : vw (Pd.fz Rb) env2 = some y) (sx : SeqAt.shaped x = true) (sy : SeqAt.shaped y = true) (fl : (Pd.fz Ra).flat = true := by rfl) : ET X (.Compare a [.Eq] [b] pos) env (PyData.eqv x y) env2 := et_cmp (op_eqD hu) h h2 (opd_eq sx sy) wx wy (nomark _) fl
theorem et_ne (hu : X.A.units + 64 < cLine) (h : EV X a env Ra env1) (h2 : EV X b env1 Rb env2) (wx : vw (Pd.fz Ra) env2 = some x) (wy : vw (Pd.fz Rb) env2 = some y) (sx : SeqAt.shaped x = true) (sy : SeqAt.shaped y = true) (fl : (Pd.fz Ra).flat = true := by rfl) : ET X (.Compare a [.NotEq] [b] pos) env (!PyData.eqv x y) env2 := et_cmp (op_neD hu) h h2 (opd_ne sx sy) wx wy (nomark _) fl
/-- == of ints -/
theorem shaped_int : SeqAt.shaped (.int i) = true := rfl
theorem ev_eqI (hu : X.A.units + 64 < cLine) (h : EV X a env Ra env1) (h2 : EV X b env1 Rb env2) (wx : vw (Pd.fz Ra) env2 = some (.int i)) (wy : vw (Pd.fz Rb) env2 = some (.int j)) (fl : (Pd.fz Ra).flat = true := by rfl) : EV X (.Compare a [.Eq] [b] pos) env (.val (.bool (i == j))) env2 := ev_eq hu h h2 wx wy rfl rfl fl
theorem ev_neI (hu : X.A.units + 64 < cLine) (h : EV X a env Ra env1) (h2 : EV X b env1 Rb env2) (wx : vw (Pd.fz Ra) env2 = some (.int i)) (wy : vw (Pd.fz Rb) env2 = some (.int j)) (fl : (Pd.fz Ra).flat = true := by rfl) : EV X (.Compare a [.NotEq] [b] pos) env (.val (.bool (!(i == j)))) env2 := ev_ne hu h h2 wx wy rfl rfl fl
theorem et_eqI (hu : X.A.units + 64 < cLine) (h : EV X a env Ra env1) (h2 : EV X b env1 Rb env2) (wx : vw (Pd.fz Ra) env2 = some (.int i)) (wy : vw (Pd.fz Rb) env2 = some (.int j)) (fl : (Pd.fz Ra).flat = true := by rfl) : ET X (.Compare a [.Eq] [b] pos) env (i == j) env2 := et_eq hu h h2 wx wy rfl rfl fl
theorem et_neI (hu : X.A.units + 64 < cLine) (h : EV X a env Ra env1) (h2 : EV X b env1 Rb env2) (wx : vw (Pd.fz Ra) env2 = some (.int i)) (wy : vw (Pd.fz Rb) env2 = some (.int j)) (fl : (Pd.fz Ra).flat = true := by rfl) : ET X (.Compare a [.NotEq] [b] pos) env (!(i == j)) env2 := et_ne hu h h2 wx wy rfl rfl fl
theorem ev_isN (h : EV X a env Ra env1) (wx : vw (Pd.fz Ra) env1 = some x) {j p'} (fl : (Pd.fz Ra).flat = true := by rfl) : EV X (.Compare a [.Is] [.Constant .none j p'] pos) env (.val (.bool (isNone x))) env1 := ev_cmp op_isN h ev_none opd_isN wx rfl (nomark _) fl
theorem ev_notN (h : EV X a env Ra env1) (wx : vw (Pd.fz Ra) env1 = some x) {j p'} (fl : (Pd.fz Ra).flat = true := by rfl) : EV X (.Compare a [.IsNot] [.Constant .none j p'] pos) env (.val (.bool (!isNone x))) env1 := ev_cmp op_notN h ev_none opd_notN wx rfl (nomark _) fl
theorem et_isN (h : EV X a env Ra env1) (wx : vw (Pd.fz Ra) env1 = some x) {j p'} (fl : (Pd.fz Ra).flat = true := by rfl) : ET X (.Compare a [.Is] [.Constant .none j p'] pos) env (isNone x) env1 := et_cmp op_isN h ev_none opd_isN wx rfl (nomark _) fl
theorem et_notN (h : EV X a env Ra env1) (wx : vw (Pd.fz Ra) env1 = some x) {j p'} (fl : (Pd.fz Ra).flat = true := by rfl) : ET X (.Compare a [.IsNot] [.Constant .none j p'] pos) env (!isNone x) env1 := et_cmp op_notN h ev_none opd_notN wx rfl (nomark _) fl
theorem ev_inI {ns : List Int} (h : EV X a env Ra env1) (h2 : EV X b env1 Rb env2) (wx : vw (Pd.fz Ra) env2 = some (.int i)) (wy : vw (Pd.fz Rb) env2 = some y) (e : y = .tuple (ns.map .int) ∨ y = .list (ns.map .int)) (hm : behindInMarks .In b = false := by rfl) (fl : (Pd.fz Ra).flat = true := by rfl) : EV X (.Compare a [.In] [b] pos) env (.val (.bool (decide (i ∈ ns)))) env2 := ev_cmp op_in_seq h h2 (opd_inI e) wx wy hm fl
theorem ev_niI {ns : List Int} (h : EV X a env Ra env1) (h2 : EV X b env1 Rb env2) (wx : vw (Pd.fz Ra) env2 = some (.int i)) (wy : vw (Pd.fz Rb) env2 = some y) (e : y = .tuple (ns.map .int) ∨ y = .list (ns.map .int)) (hm : behindInMarks .NotIn b = false := by rfl) (fl : (Pd.fz Ra).flat = true := by rfl) : EV X (.Compare a [.NotIn] [b] pos) env (.val (.bool (!decide (i ∈ ns)))) env2 := ev_cmp op_notIn_seq h h2 (opd_niI e) wx wy hm fl
theorem ev_inD {xs : List D} (hu : X.A.units + 65 < cLine) (h : EV X a env Ra env1) (h2 : EV X b env1 Rb env2) (wx : vw (Pd.fz Ra) env2 = some x) (wy : vw (Pd.fz Rb) env2 = some (.list xs)) (sx : SeqAt.shaped x = true) (sy : SeqAt.shaped (.list xs) = true) (hm : behindInMarks .In b = false := by rfl) (fl : (Pd.fz Ra).flat = true := by rfl) : EV X (.Compare a [.In] [b] pos) env (.val (.bool (xs.any fun z => PyData.eqv z x))) env2 := ev_cmp (op_inD hu) h h2 (opd_inD sx sy) wx wy hm fl
theorem ev_idx (h : EV X a env Ra env1) (h2 : EV X b env1 Rb env2) (wx : vw (Pd.fz Ra) env2 = some x) (wy : vw (Pd.fz Rb) env2 = some (.int i)) (q : seqD x = some ds) (hd : atI ds i = some d) (fl : (Pd.fz Ra).flat = true := by rfl) (hs : PlainIx b := by exact fun _ _ => rfl) : EV X (.Subscript a b pos) env (.val d) env2 := ev_ix ix_seq h h2 (opd_ix (seqD_or q) hd) wx wy fl hs
theorem ev_chainI {op op' : CmpOp} {g g' : Int → Int → Bool} (ho : OpR X (compareOp op) (rI0 fun i j => .bl (g i j))) (ho' : OpR X (compareOp op') (rI0 fun i j => .bl (g' i j))) (ha : EV X a env Ra env1) (hb : EV X b env1 Rb env2) (hc : EV X c env2 Rc env2) (wx : vw (Pd.fz Ra) env2 = some (.int i)) (wy : vw (Pd.fz Rb) env2 = some (.int j)) (wz : vw (Pd.fz Rc) env2 = some (.int k))
    (hmk : lastMarks [op, op'] [b, c] = false := by with_unfolding_all rfl) (fl : (Pd.fz Ra).flat = true := by rfl) (fl2 : (Pd.fz Rb).flat = true := by rfl) : EV X (.Compare a [op, op'] [b, c] pos) env (.val (.bool (g i j && g' j k))) env2 := ev_chain ho ho' ha hb hc (opd_int0 fun _ => .bl _) (fun _ => opd_int0 fun _ => .bl _) wx wy wz hmk fl fl2
/-- the chain as a test -/
theorem et_chainI {op op' : CmpOp} {g g' : Int → Int → Bool} (ho : OpR X (compareOp op) (rI0 fun i j => .bl (g i j))) (ho' : OpR X (compareOp op') (rI0 fun i j => .bl (g' i j))) (ha : EV X a env Ra env1) (hb : EV X b env1 Rb env2) (hc : EV X c env2 Rc env2) (wx : vw (Pd.fz Ra) env2 = some (.int i)) (wy : vw (Pd.fz Rb) env2 = some (.int j)) (wz : vw (Pd.fz Rc) env2 = some (.int k))
    (hmk : lastMarks [op, op'] [b, c] = false := by with_unfolding_all rfl) (fl : (Pd.fz Ra).flat = true := by rfl) (fl2 : (Pd.fz Rb).flat = true := by rfl) : ET X (.Compare a [op, op'] [b, c] pos) env (g i j && g' j k) env2 :=
  PT.wk (pt_chain ho ho' ha hb hc hmk) fun σ H Q ⟨G, F, S, q⟩ => chain_core (Q := fun v H' => ∃ k, v = .bl k ∧ Q k H') S (fun _ _ h => h) (fun _ _ h => h) (fun _ _ h _ => h) fl fl2 wx wy wz (opd_int0 fun _ => .bl _) (fun _ => opd_int0 fun _ => .bl _) fun F' H' x1 S1 => ⟨_, rfl, q F' H' x1 S1⟩
/-! ### comprehensions in short -/
omit X in
theorem hts_of {l m : List Nat} (h : (l.all fun i => m.elem i) = true) : ∀ i ∈ l, i ∈ m := fun i hi => List.mem_of_elem_eq_true (List.all_eq_true.mp h i hi)
omit X in
theorem hno_of {l : List Nat} {e : Ev} (h : (l.all fun i => !(ge e i).own) = true) : ∀ i ∈ l, (ge e i).own = false := fun i hi => by
  have q := List.all_eq_true.mp h i hi
  simpa using q
theorem ets_nil : PTs X [] (tTt X.K env true env) := ⟨fun pins s σ H Q I ⟨G, F, S, q⟩ => pts_nil.run pins s σ H Q I (q F H (Ext.refl G F) S)⟩
theorem ets_one (h : ET X c env k1 env1) : PTs X [c] (tTt X.K env k1 env1) := pts_one h
theorem ev_lc1 {α : Type} {tg iter elt c : Expr} {scope : Scope} {xs : List α} {g : α → D} {q : α → Bool} {R : α → Rs} {f : α → D} (own : List (Str × Nat)) (t : Tgt) (hc : X.calm = true) (hN : X.N.Nodup) (hi : EI X tg iter env (xs.map g) env1) (ok : BlkOk X.N X.env.scope scope own)
    (hg : ∀ sh H C cl fp, PG (blkC' X scope sh H C cl fp) tg (t.g X.K)) (hz : xs.length ≤ sizeLine)
    (ht : ∀ a ∈ xs, ∀ sh H C cl fp, ET (blkC' X scope sh H C cl fp) c (t.bind (wipeE (own.map (·.2)) 0 env1) (g a)) (q a) (t.bind (wipeE (own.map (·.2)) 0 env1) (g a)))
    (he : ∀ a ∈ xs, q a = true → ∀ sh H C cl fp, EV (blkC' X scope sh H C cl fp) elt (t.bind (wipeE (own.map (·.2)) 0 env1) (g a)) (R a) (t.bind (wipeE (own.map (·.2)) 0 env1) (g a))) (hf : ∀ a, Pd.fz (R a) = .val (f a)) (hok : ∀ a, t.okB env1.length (g a) = true) (hts : (t.slots.all fun i => (own.map (·.2)).elem i) = true := by rfl) (hno : ((own.map (·.2)).all fun i => !(ge env1 i).own) = true := by rfl)
    (hs : ∀ x, foldedSetIterable iter X.env x = pure x := by intro _; rfl) : EV X (.ListComp elt [⟨tg, iter, [c], 0⟩] scope pos) env (.new (.lst none ((xs.filter q).map f))) env1 :=
  ev_lc (pos := pos) (ifs := [c]) (p := q) own t hc hN hi ok hg (hts_of hts) hz (fun a _ => Tgt.ok_of (hok a)) (fun a ha sh H C cl fp => ets_one (ht a ha sh H C cl fp)) he hf (hno_of hno) hs
theorem ev_lc0 {α : Type} {tg iter elt : Expr} {scope : Scope} {xs : List α} {g : α → D} {R : α → Rs} {f : α → D} (own : List (Str × Nat)) (t : Tgt) (hc : X.calm = true) (hN : X.N.Nodup) (hi : EI X tg iter env (xs.map g) env1) (ok : BlkOk X.N X.env.scope scope own)
    (hg : ∀ sh H C cl fp, PG (blkC' X scope sh H C cl fp) tg (t.g X.K)) (hz : xs.length ≤ sizeLine)
    (he : ∀ a ∈ xs, ∀ sh H C cl fp, EV (blkC' X scope sh H C cl fp) elt (t.bind (wipeE (own.map (·.2)) 0 env1) (g a)) (R a) (t.bind (wipeE (own.map (·.2)) 0 env1) (g a))) (hf : ∀ a, Pd.fz (R a) = .val (f a)) (hok : ∀ a, t.okB env1.length (g a) = true) (hts : (t.slots.all fun i => (own.map (·.2)).elem i) = true := by rfl) (hno : ((own.map (·.2)).all fun i => !(ge env1 i).own) = true := by rfl)
    (hs : ∀ x, foldedSetIterable iter X.env x = pure x := by intro _; rfl) : EV X (.ListComp elt [⟨tg, iter, [], 0⟩] scope pos) env (.new (.lst none (xs.map f))) env1 := by
  have q := ev_lc (pos := pos) (ifs := []) (p := fun _ => true) own t hc hN hi ok hg (hts_of hts) hz (fun a _ => Tgt.ok_of (hok a)) (fun a _ sh H C cl fp => ets_nil) (fun a ha _ => he a ha) hf (hno_of hno) hs
  rwa [List.filter_eq_self.mpr fun _ _ => rfl] at q
end
/-! ### a name, whatever it holds -/
def rsOf : Sl → Nat → Option Rs
  | .val d, _ => some (.val d)
  | .lst _ _, i => some (.ptr i)
  | .dk _ _, i => some (.ptr i)
  | .dt _ _, i => some (.ptr i)
  | .scr _, i => some (.ptr i)
  | .obj a, _ => some (.obj a)
  | .un, _ => none
section
variable {X : Cx} {env : Ev} {R : Rs} {pos : Pos}
theorem ev_nm {x : Str} (i : Nat) (h : rsOf (ge env i) i = some R) (hN : X.N[i]? = some x := by rfl) (hv : Vis X.env.scope x := by first | exact Or.inl rfl | exact Or.inr (Or.inl rfl) | exact Or.inr (Or.inr rfl)) (hd : (x == ("__debug__" : Str)) = false := by decide)
    (hcd : (x == ("__classdict__" : Str)) = false := by decide) : EV X (.Name x pos) env R env :=
  PE.wk (pe_var hN hv hd hcd) fun σ H Q ⟨G, F, S, q⟩ => by
    have s := S.sl i
    generalize hg : ge env i = sl at s h
    cases sl with
    | un => cases h
    | val d =>
      cases h
      obtain ⟨v, e, r⟩ := s
      exact ⟨v, gs_some e, q F v H (Ext.refl G F) ⟨r, S⟩⟩
    | lst a b =>
      cases h
      obtain ⟨p, u, e, _⟩ := s
      exact ⟨.ref p, gs_some e, q F _ H (Ext.refl G F) ⟨e, S⟩⟩
    | dk a b =>
      cases h
      obtain ⟨p, u, e, _⟩ := s
      exact ⟨.ref p, gs_some e, q F _ H (Ext.refl G F) ⟨e, S⟩⟩
    | dt a b =>
      cases h
      obtain ⟨p, u, e, _⟩ := s
      exact ⟨.ref p, gs_some e, q F _ H (Ext.refl G F) ⟨e, S⟩⟩
    | scr a =>
      cases h
      obtain ⟨p, e, _⟩ := s
      exact ⟨.ref p, gs_some e, q F _ H (Ext.refl G F) ⟨e, S⟩⟩
    | obj a =>
      cases h
      exact ⟨.ref a, gs_some s, q F _ H (Ext.refl G F) ⟨rfl, S⟩⟩
end
/-! ### lengths that are known of what stands -/
section
variable {X : Cx} {ea : Str → Addr} {W : WX} {sts : List Stmt} {env : Ev} {Post : Out → Prop} {ds : List D}
theorem es_lenT (i : Nat) (g : ge env i = .val (.tuple ds)) (h : ds.length ≤ sizeLine → ES X ea W sts env Post) : ES X ea W sts env Post := by
  by_cases z : ds.length ≤ sizeLine
  · exact h z
  · refine ⟨fun pins s σ H D I ⟨G, F, S, q⟩ => ?_⟩
    obtain ⟨v, _, r⟩ := S.val g
    cases r with
    | tup a b c => rw [c.length] at b; exact absurd b z
theorem es_lenL (i : Nat) {pin : Option Addr} (g : ge env i = .lst pin ds) (h : ds.length ≤ sizeLine → ES X ea W sts env Post) : ES X ea W sts env Post := by
  by_cases z : ds.length ≤ sizeLine
  · exact h z
  · refine ⟨fun pins s σ H D I ⟨G, F, S, q⟩ => ?_⟩
    obtain ⟨p, vs, _, _, _, b, c, _⟩ := S.lstS g
    rw [c.length] at b
    exact absurd b z
theorem es_lenV (i : Nat) (g : ge env i = .val (.list ds)) (h : ds.length ≤ sizeLine → ES X ea W sts env Post) : ES X ea W sts env Post := by
  by_cases z : ds.length ≤ sizeLine
  · exact h z
  · refine ⟨fun pins s σ H D I ⟨G, F, S, q⟩ => ?_⟩
    obtain ⟨v, _, r⟩ := S.val g
    cases r with
    | lst a b c => rw [c.length] at b; exact absurd b z
end
end Pd
set_option Elab.async false
set_option linter.all false
set_option maxRecDepth 100000
set_option maxHeartbeats 4000000
namespace Pd
open PySem PySem.Spec PyProof.Rows L2
/-! ### a def entered at one place -/
abbrev cxAt (P : Program) (w : World) (K : Frag) (mg : Str → Option Value) (base : Heap) (N : List Str) (qual : Str) (st : Stmt) (f : Addr) (cdv : Value) (A : Around) (outer : List Env) (s : Shared) (H : Hp) (E : XK) (c : Bool) (pn : List (Addr × Obj)) : Cx :=
  { cxOf (L2N.CX P w) P w K mg base N qual (defScope st) f cdv A outer s H E with calm := c, pn := pn }
section
variable {P : Program} {w : World} {K : Frag} {mg : Str → Option Value} {base : Heap} {N ps : List Str} {x qual : Str} {st : Stmt} {f : Addr} {fd : FuncData} {A : Around} {outer : List Env} {s : Shared} {H : Hp} {E : XK} {Q : VK} {vs : List V} {us : List Value} {args : Args}
theorem enter {oc : Value} {od : Option Addr} {kV doc pm cdv ct : Value} {an : Option Addr} {osl : Array (Option Value)} {c : Bool} {pn : List (Addr × Obj)} {t : TS}
    (lk : K.lookup f = some ⟨oc, od, .func (PySem.W.fnOf x qual (defArgs st) (defBody st) (defScope st) .none kV doc pm an cdv ct), osl⟩) (hcd : PySem.W.codeIn K cdv qual = true) (Sc : FnScope N ps (defScope st)) (hd : A.depth < recursionLimit)
    (e0 : Env0 P w K mg base A outer s H) (hb : BindsTo s (PySem.W.fnOf x qual (defArgs st) (defBody st) (defScope st) .none kV doc pm an cdv ct) args (ps.zip us))
    (start : ∀ s1, InCallC s s.heap.objs.size (bindL (envOfC qual (defScope st) s.heap.objs.size f cdv).kindOf (ps.zip us) fun _ => none) (cellsFrom (s.heap.objs.size + 1) (defScope st).names []) (bindC (envOfC qual (defScope st) s.heap.objs.size f cdv).kindOf (ps.zip us) fun _ => none) s1 →
      Inv (cxAt P w K mg base N qual st f cdv A outer s H E c pn) [] (L2.start N vs) H s1)
    (ht : PSs (cxAt P w K mg base N qual st f cdv A outer s H E c pn) (defBody st) t) (hq : t { nx := fun _ H' => Q .non H', rt := Q } (L2.start N vs) H) :
    codeAny (model P w) A (.call (.ref f) args) (CR (L2N.CX P w) outer P w H s Q E) s := by
  have old : ∀ b o, base.get? b = some o → s.heap.get? b = some o := fun b o e => (e0.bs b o e).1
  have kin : K.In s.heap := e0.mod.kin.keeps old
  have nolim : s.heap.NoLimit := e0.mod.nolimit.keeps old
  have kinds : ∀ y ∈ ps.zip us, (defScope st).names.lookup y.1 = some .local ∨ ((defScope st).names.lookup y.1 = some .cell ∧ ((cellsFrom (s.heap.objs.size + 1) (defScope st).names []).lookup y.1).isSome = true) := by
    rintro ⟨nm, v⟩ hy
    cases Sc.par nm (List.of_mem_zip hy).1 with
    | inl q => exact .inl q
    | inr q => exact .inr ⟨q, PySem.W.cellsFrom_some _ _ _ (.inl q)⟩
  refine codeAny_call_function hd (kin _ _ lk) rfl Sc.co Sc.gen rfl (PySem.W.codeRec_of kin hcd) (hb _ _ _ _ ?_)
  refine wpAny_newFunctionEnv_cells Sc.kind kinds fun env henv s1 inc => ?_
  subst henv
  refine ⟨nolim.keeps inc.toInCall.keep, codeAny_func ?_⟩
  refine wpAny_mono (ht.run [] s1 (L2.start N vs) H _ (start s1 inc) hq) (fun fl s2 hs => ?_) fun _ _ hs => hs
  cases fl with
  | next =>
    obtain ⟨σ2, H2, J, q⟩ := hs
    exact ⟨V.non, H2, J.os, J.bare, J.base, J.hok, rfl, q⟩
  | ret u =>
    obtain ⟨v, σ2, H2, J, rv, q⟩ := hs
    exact ⟨v, H2, J.os, J.bare, J.base, J.hok, rv, q⟩
  | brk => obtain ⟨_, _, _, q⟩ := hs; exact q.elim
  | cont => obtain ⟨_, _, _, q⟩ := hs; exact q.elim
end
/-! ### a def that is called where an error is handled, and handed that error -/
structure FnP (P : Program) (w : World) (K : Frag) (mg : Str → Option Value) (base : Heap) (k : Nat) (f : Addr) (fd : FuncData) (ps : List Str) (sp : Addr × Obj → Sp) : Prop where
  len : ∀ p vs H Q E, sp p vs H Q E → vs.length = ps.length
  run : ∀ (A : Around) (outer : List Env) (s : Shared) (H : Hp) (args : Args) (us : List Value) (vs : List V) (Q : VK) (E : XK) (p : Addr × Obj), L2H.RoomH k A → L2H.Hot1 A p → L2H.PinOk outer H s p → Env0 P w K mg base A outer s H → BindsTo s fd args (ps.zip us) → Vals vs us → sp p vs H Q E →
    codeAny (model P w) A (.call (.ref f) args) (CR (L2N.CX P w) outer P w H s Q E) s
section
variable {P : Program} {w : World} {K : Frag} {mg : Str → Option Value} {base : Heap} {N ps : List Str} {x qual : Str} {st : Stmt} {f : Addr} {fd : FuncData}
theorem fnP {k : Nat} {sp : Addr × Obj → Sp} (Fn : Fun K x qual st f fd) (Sc : FnScope N ps (defScope st)) (len : ∀ p vs H Q E, sp p vs H Q E → vs.length = ps.length)
    (body : ∀ (cdv : Value) (A : Around) (outer : List Env) (s : Shared) (H : Hp) (vs : List V) (Q : VK) (E : XK) (p : Addr × Obj), L2H.Hot1 A p → L2H.RoomH k (A.deeper (envOfC qual (defScope st) s.heap.objs.size f cdv)) → sp p vs H Q E →
      ∃ t, PSs (cxAt P w K mg base N qual st f cdv A outer s H E false [p]) (defBody st) t ∧ t { nx := fun _ H' => Q .non H', rt := Q } (L2.start N vs) H) : FnP P w K mg base (k + 1) f fd ps sp := by
  obtain ⟨oc, od, kV, doc, pm, an, cdv, ct, osl, rfl, lk, hcd⟩ := Fn.ex
  refine ⟨len, fun A outer s H args us vs Q E p hr hot pin e0 hb r h => ?_⟩
  obtain ⟨t, ht, hq⟩ := body cdv A outer s H vs Q E p hot (hr.deeper _) h
  exact enter lk hcd Sc hr.depth e0 hb (fun s1 inc => L2H.inv_startH Sc pin e0 (len _ _ _ _ _ h) r inc) ht hq
end
section
variable {X : Cx} {k : Nat} {f : Addr} {fd : FuncData} {ps : List Str} {sp : Addr × Obj → Sp} {fn : Str} {cp pos : Pos} {e : Expr} {es : List Expr} {t : TA}
def tCallP (sp : Addr × Obj → Sp) (p : Addr × Obj) (t : TA) : TE := fun σ H Q => t σ H fun vs H1 => sp p vs H1 Q E0
theorem pe_callP {p : Addr × Obj} (F : FnP X.prog X.w X.K X.mg X.base k f fd ps sp) (hr : L2H.RoomH k X.A) (hot : L2H.Hot1 X.A p) (hp : p ∈ X.pn) (hg : Gl X fn) (hm : X.mg fn = some (.ref f)) (hk : PySem.W.keepIn X.K (.ref f) = true) (hb : Binds X.K fd ps []) (ha : PA X (e :: es) t)
    (hdb : (fn == ("__debug__" : Str)) = false := by decide) (he : starEach (e :: es) X.env = (false, eval e X.env) :: starEach es X.env := by rfl) (hpl : (backTo pos (starEach es X.env)).any (·.1) = false := by rfl) :
    PE X (.Call (.Name fn cp) (e :: es) [] pos) (tCallP sp p t) := by
  refine ⟨fun pins s σ H Q I h => wpAny_Call_Name_kw (ld_glob I hg hm ?_ hdb)⟩
  refine PySem.W.callWith_K (h₀ := X.base) I.ok.mod.kin hk (thn (ha.run pos pins s σ H _ I h) fun us s1 ⟨vs, H1, I1, r, q⟩ => ⟨I1.kIn, ?_⟩) he hpl
  have hl : us.length = ps.length := by rw [← r.length]; exact F.len _ _ _ _ _ q
  have b := hb s1 us I1.kIn (by rw [List.append_nil]; exact hl)
  rw [List.append_nil] at b
  have P1 := I1.pin p (List.mem_append_left _ hp)
  have pin : L2H.PinOk X.stack H1 s1 p := ⟨P1.1, P1.2.1, fun hm => (List.mem_cons.mp (I1.stkSub p.1 hm)).elim P1.2.2.1 P1.2.2.2.1, P1.2.2.2.2⟩
  refine wpAny_call (codeAny_mono (F.run X.A X.stack s1 H1 ⟨us, []⟩ us vs Q E0 p hr hot pin I1.env0 b r q) fun res s2 hq => ?_)
  cases res with
  | error u => exact passN pins σ H1 s1 u s2 I1 hq
  | ok fl =>
    cases fl with
    | ret u => exact I1.after hq
    | next => exact hq.elim
    | brk => exact hq.elim
    | cont => exact hq.elim
/-- isinstance of the error that is held -/
theorem call_isH {a D : Addr} {oe : Obj} (C : ExcC X.K D) (hz : Zc (.ref D) none oe) (hf : ∃ vs, oe.data = .fields vs) (hp : (a, oe) ∈ X.pn) : CallR X (.builtin "isinstance") (rIsE X.K D a) := by
  intro pins s σ H xs us Q I r h
  obtain ⟨c, cv, b, rfl, hcv, e, q⟩ := h
  obtain ⟨u1, u2, rfl, r1, r2⟩ := vals2 r
  have e1 : u1 = .ref a := r1
  subst e1
  have e2 := hcv _ r2
  subst e2
  have got := (I.pin (a, oe) (List.mem_append_left _ hp)).1
  obtain ⟨vs, hv⟩ := hf
  have J : PySem.W.InstAt s.heap a oe D none := by
    obtain ⟨oc, od, oda, osl⟩ := oe
    obtain ⟨h1, h2⟩ := hz
    dsimp only at h1 h2 hv
    subst h1 h2 hv
    exact ⟨got, rfl, rfl, trivial⟩
  exact PySem.W.kia_one (PySem.W.handS_kitx_exc C.hg C.hk C.hs C.hd C.ha C.hn C.ht C.hm) I.kIn J e (fun z => nomatch z) fun tk => ⟨.bl b, H, I.kept (t' := tk) fun _ _ z => z, rfl, q⟩
end
/-! ### try .. except X as n: return .. -/
section
variable {X : Cx} {ea : Str → Addr} {W : WX} {body suite rest : List Stmt} {b0 : Stmt} {env : Ev} {PB Post : Out → Prop} {x n : Str} {np pos pos' : Pos} {cB : Addr}
theorem es_try (i : Nat) (tk : L2N.Takes X W) (hc : Names X x (.ref cB)) (hb : ∀ (W' : WX) (pn : List (Addr × Obj)) (xe : Value → Shared → Prop), L2N.Takes (X.tr pn xe) W' → PassesOwn (model X.prog X.w) X.A X.env xe → ES (X.tr pn xe) ea W' body env PB)
    (hnx : ∀ e, ¬ PB (.nx e)) (hbk : ∀ e, ¬ PB (.bk e)) (hct : ∀ e, ¬ PB (.ct e)) (hrt : ∀ r e, PB (.rt r e) → Post (.rt r e))
    (hex : ∀ c e, PB (.ex c e) → Nat.blt i e.length = true ∧ PySem.W.exmOne X.K (.ref (ea c)) (.ref cB) = some true ∧ ∀ a oe pn, L2N.Zn (.ref (ea c)) none oe → (∃ vs, oe.data = .fields vs) → ES (X.suite a ((a, oe) :: pn)) ea (fun _ _ _ _ => False) (b0 :: suite) (e.set i (.obj a)) (fun o => ∃ r e', o = .rt r e' ∧ Post (.rt r e')))
    (hN : X.N.Nodup) (hi : X.N[i]? = some n := by rfl) (hln : X.env.kindOf n = some .local := by rfl) (hs : X.stack = X.env :: X.outer := by rfl) (hf : X.env.frame = some X.env.locals := by rfl) :
    ES X ea W (.Try body [.ExceptHandler (some (.Name x np)) (some n) (b0 :: suite) pos'] [] [] pos :: rest) env Post := by
  have go := L2N.ps_try_as (pos := pos) (pos' := pos') (np := np) (b₀ := b0) (suite := suite) (body := body) (tb := fun W' => tX X.K ea W' env PB) (ts := fun a cls d => fun D σ H => ∃ c e, cls = .ref (ea c) ∧ d = none ∧ PB (.ex c e) ∧ tX X.K ea (fun _ _ _ _ => False) (e.set i (.obj a)) (fun o => ∃ r e', o = .rt r e' ∧ Post (.rt r e')) D σ H)
    hs hf hN hi hln hc tk hb (fun a oe cls d pn hz hfl => ⟨fun pins s σ H D I ⟨c, e, h1, h2, h3, h4⟩ => by
      subst h1 h2
      exact ((hex c e h3).2.2 a oe pn hz hfl).run pins s σ H D I h4⟩)
  refine PSs.wk (pss_cons (u := fun _ _ _ => False) go ⟨fun _ _ _ _ _ _ z => z.elim⟩) fun D σ H ⟨G, F, S, q⟩ => ⟨G, F, S, fun o p F1 x1 => ?_⟩
  cases o with
  | nx e => exact (hnx e p).elim
  | bk e => exact (hbk e p).elim
  | ct e => exact (hct e p).elim
  | rt r e => exact q _ (hrt r e p) F1 x1
  | ex c e =>
    obtain ⟨h0, h1, h2⟩ := hex c e p
    refine fun σ1 H1 S1 => ⟨true, h1, fun _ a na => ⟨c, e, rfl, rfl, p, G, F1, (S1.cons (s := .obj a) rfl rfl).store (blt_lt h0), fun o po F2 x2 => ?_⟩, fun z => nomatch z⟩
    obtain ⟨r, e', rfl, pr⟩ := po
    exact q _ pr F2 (x1.trans x2)
end
end Pd
set_option Elab.async false
set_option linter.all false
set_option maxRecDepth 100000
set_option maxHeartbeats 4000000
namespace Pd
open PySem PySem.Spec PyProof.Rows L2
/-! ### dicts of ints and texts -/
def valD {κ : Type} [DecidableEq κ] (kvs : List (κ × D)) (k : κ) : Option D := (kvs.find? fun kv => decide (kv.1 = k)).map (·.2)
def putD {κ : Type} [DecidableEq κ] (kvs : List (κ × D)) (k : κ) (d : D) : List (κ × D) :=
  if (kvs.any fun kv => decide (kv.1 = k)) = true then kvs.map (fun kv => if kv.1 = k then (kv.1, d) else kv) else kvs ++ [(k, d)]
def mergeD (kvs more : List (Key × D)) : List (Key × D) := more.foldl (fun acc kv => putD acc kv.1 kv.2) kvs
def keyD : D → Option Key
  | .int i => some (.inl i)
  | .str x => some (.inr x)
  | _ => none
section
variable {κ : Type} [DecidableEq κ] {K : Frag} {G F F' H H' : Hp} {σ : L2.St} {env : Ev} {v : V} {d : D} {i j : Nat}
theorem KD.any {vs : List (κ × V)} {kvs : List (κ × D)} (h : KD K F vs kvs) (k : κ) : (vs.any fun kv => decide (kv.1 = k)) = kvs.any fun kv => decide (kv.1 = k) := by
  unfold KD at h
  induction h with
  | nil => rfl
  | cons hq t ih => rw [List.any_cons, List.any_cons, ih, hq.1]
theorem KD.val {vs : List (κ × V)} {kvs : List (κ × D)} (h : KD K F vs kvs) (k : κ) : (valV vs k = none ∧ valD kvs k = none) ∨ ∃ v d, valV vs k = some v ∧ valD kvs k = some d ∧ DR K F v d := by
  unfold KD at h
  induction h with
  | nil => exact .inl ⟨rfl, rfl⟩
  | @cons p q ps qs hq t ih =>
    unfold valV valD at ih ⊢
    rw [List.find?_cons, List.find?_cons, hq.1]
    by_cases e : q.1 = k
    · rw [decide_eq_true e]
      exact .inr ⟨_, _, rfl, rfl, hq.2⟩
    · rw [decide_eq_false e]
      exact ih
theorem KD.isSome {vs : List (κ × V)} {kvs : List (κ × D)} (h : KD K F vs kvs) (k : κ) : (valV vs k).isSome = (valD kvs k).isSome := by
  rcases h.val k with ⟨a, b⟩ | ⟨v, d, a, b, _⟩ <;> rw [a, b] <;> rfl
theorem KD.put {vs : List (κ × V)} {kvs : List (κ × D)} (h : KD K F vs kvs) (k : κ) (r : DR K F v d) : KD K F (putK vs k v) (putD kvs k d) := by
  unfold putK putD
  rw [h.any k]
  by_cases e : (kvs.any fun kv => decide (kv.1 = k)) = true
  · rw [if_pos e, if_pos e]
    unfold KD at h ⊢
    induction h with
    | nil => exact .nil
    | @cons p q ps qs hq t ih =>
      rw [List.map_cons, List.map_cons]
      refine .cons ?_ ?_
      · by_cases z : q.1 = k
        · rw [if_pos z, if_pos (hq.1.trans z)]; exact ⟨hq.1, r⟩
        · rw [if_neg z, if_neg (fun y => z (hq.1.symm.trans y))]; exact hq
      · clear ih e hq
        induction t with
        | nil => exact .nil
        | @cons p q ps qs hq t ih =>
          rw [List.map_cons, List.map_cons]
          refine .cons ?_ ih
          by_cases z : q.1 = k
          · rw [if_pos z, if_pos (hq.1.trans z)]; exact ⟨hq.1, r⟩
          · rw [if_neg z, if_neg (fun y => z (hq.1.symm.trans y))]; exact hq
  · rw [if_neg e, if_neg e]
    exact Paired.snoc h ⟨rfl, r⟩
theorem KD.length {vs : List (κ × V)} {kvs : List (κ × D)} (h : KD K F vs kvs) : vs.length = kvs.length := Paired.length h
theorem KD.keys {vs : List (κ × V)} {kvs : List (κ × D)} (h : KD K F vs kvs) : vs.map (·.1) = kvs.map (·.1) := by
  unfold KD at h
  induction h with
  | nil => rfl
  | cons hq t ih => rw [List.map_cons, List.map_cons, ih, hq.1]
theorem KD.merge : ∀ {ms : List (Key × V)} {more : List (Key × D)} {vs : List (Key × V)} {kvs : List (Key × D)}, KD K F ms more → KD K F vs kvs → KD K F (mergeK vs ms) (mergeD kvs more) := by
  intro ms more vs kvs h
  unfold KD at h
  induction h generalizing vs kvs with
  | nil => exact fun h => h
  | @cons p q ps qs hq t ih =>
    intro g
    have g2 := g.put p.1 hq.2
    have e : mergeK vs (p :: ps) = mergeK (putK vs p.1 p.2) ps := rfl
    have e2 : mergeD kvs (q :: qs) = mergeD (putD kvs q.1 q.2) qs := rfl
    rw [e, e2, ← hq.1]
    exact ih g2
/-- an owned object is written -/
theorem St.writeS {s' : Sl} {p : Addr} {o : HO} (S : St K G F σ H env) (hw : (ge env j).own = true) (e : gs σ j = some (.ref p)) (ow' : s'.own = true) (r : F p = none → G p = none → Pd.SlR K G F (upd H p o) (some (.ref p)) s') :
    St K G F σ (upd H p o) (env.set j s') := by
  obtain ⟨p', u0, e', hp, f, g⟩ := (S.sl j).own_at hw
  rw [e] at e'
  cases e'
  have hj : j < env.length := ge_lt (s := ge env j) rfl (fun z => by rw [z] at hw; cases hw)
  have keep : ∀ {X : Hp}, Le X H → X p = none → Le X (upd H p o) := fun {X} l n a u q => by
    rw [upd_ne (ne_of_none q n)]
    exact l a u q
  refine ⟨keep S.kg g, keep S.kf f, by rw [List.length_set]; exact S.ln, fun i => ?_, fun i k a q hi hk => ?_⟩
  · by_cases q : j = i
    · subst q
      rw [ge_set_same hj, e]
      exact r f g
    · rw [ge_set_ne q]
      refine (S.sl i).mono (Le.refl F) fun b eb w => ?_
      have nb : b ≠ p := fun y => S.ap j i p q hw w e (by rw [eb, y])
      obtain ⟨p', u, e', _, f', _⟩ := (S.sl i).own_at w
      rw [eb] at e'
      cases e'
      exact ⟨upd_ne nb, f'⟩
  · have ow : ∀ m, (ge (env.set j s') m).own = (ge env m).own := fun m => by
      by_cases y : j = m
      · subst y; rw [ge_set_same hj, ow', hw]
      · rw [ge_set_ne y]
    rw [ow] at hi hk
    exact S.ap i k a q hi hk
end
theorem keyD_dr {K : Frag} {F : Hp} {v : V} {d : D} {k : Key} (h : keyD d = some k) (r : DR K F v d) : v = kV k := by
  cases d with
  | int i =>
    have e : Sum.inl i = k := Option.some.inj h
    subst e
    exact r.int_iff
  | str i =>
    have e : Sum.inr i = k := Option.some.inj h
    subst e
    exact r.str_iff
  | _ => cases h
theorem keyD_va {K : Frag} {F H : Hp} {v : V} {d : D} {k : Key} (h : keyD d = some k) (r : VA K F H v d) : v = kV k := by
  cases d with
  | int i =>
    have e : Sum.inl i = k := Option.some.inj h
    subst e
    exact r.int
  | str i =>
    have e : Sum.inr i = k := Option.some.inj h
    subst e
    exact r.str
  | _ => cases h
section
variable {X : Cx} {env env1 env2 env3 : Ev} {a b e e2 o : Expr} {es : List Expr} {R Ra Rb : Rs} {d x y : D} {pos p pos' apos cpos : Pos} {i : Nat} {kvs : List (Key × D)} {k : Key} {pin : Option Addr}
theorem ev_dnew : EV X (.Dict [] [] pos) env (.new (.dk none [])) env :=
  PE.wk pe_dnewK fun σ H Q ⟨G, F, S, q⟩ p hp => q F _ _ (Ext.refl G F) (S.consNew hp fun f g => ⟨p, [], rfl, (fun _ z => nomatch z), upd_same, Nat.zero_le _, .nil, f, g⟩)
theorem St.dkS {K : Frag} {G F H : Hp} {σ : L2.St} (S : St K G F σ H env) (h : ge env i = .dk pin kvs) : ∃ p vs, gs σ i = some (.ref p) ∧ (∀ q, pin = some q → p = q) ∧ H p = some (.dK vs) ∧ vs.length ≤ sizeLine ∧ KD K F vs kvs ∧ F p = none ∧ G p = none := by
  have q := S.sl i
  rw [h] at q
  exact q
/-- k in d, of an owned dict -/
theorem din_core (hu : X.A.units + 1 < cLine) (ha : EV X a env Ra env1) (hb : EV X b env1 (.ptr i) env2) (g : ge env2 i = .dk pin kvs) (wx : vw (Pd.fz Ra) env2 = some x) (hk : keyD x = some k) (fl : (Pd.fz Ra).flat = true) :
    PC X .In a b (fun σ H Q => ∃ G F, St X.K G F σ H env ∧ ∀ F' H', Ext G F F' → St X.K G F' σ H' env2 → Q (.bl (valD kvs k).isSome) H') := by
  refine ⟨fun pins s σ H Q I ⟨G, F, S, q⟩ => ?_⟩
  refine (pc_din hu ha hb).run pins s σ H Q I ⟨G, F, S, fun F1 v H1 x1 r1 => ?_⟩
  obtain ⟨F1', x1', r1'⟩ := r1.fz
  refine ⟨G, F1', r1'.st, fun F2 u H2 x2 r2 => ?_⟩
  have kk := (r1'.keep fl x2.le r2.2).va wx
  obtain ⟨p, vs, e1, _, hp, z, kd, _⟩ := r2.2.dkS g
  rw [r2.1] at e1
  cases e1
  refine ⟨p, valV vs k, rfl, ?_, ?_⟩
  · rw [keyD_va hk kk]; exact DGet.k hp
  · rw [kd.isSome k]
    exact q F2 H2 ((x1.trans x1').trans x2) r2.2
theorem et_din (hu : X.A.units + 1 < cLine) (ha : EV X a env Ra env1) (hb : EV X b env1 (.ptr i) env2) (g : ge env2 i = .dk pin kvs) (wx : vw (Pd.fz Ra) env2 = some x) (hk : keyD x = some k) (hm : behindInMarks .In b = false := by rfl) (fl : (Pd.fz Ra).flat = true := by rfl) :
    ET X (.Compare a [.In] [b] pos) env (valD kvs k).isSome env2 :=
  PT.wk (pt_cmp (din_core hu ha hb g wx hk fl) hm) fun σ H Q ⟨G, F, S, q⟩ => ⟨G, F, S, fun F1 H1 x1 S1 => ⟨_, rfl, q F1 H1 x1 S1⟩⟩
/-- d[k] = e -/
theorem es_dput {ea : Str → Addr} {W : WX} {rest : List Stmt} {Post : Out → Prop} {value : Expr} {Rv : Rs} (i : Nat) (hu : X.A.units + 1 < cLine) (hv : EV X value env Rv env1) (ho : EV X o env1 (.ptr i) env2) (hi : EV X e env2 Ra env3) (hf : Pd.fz Rv = .val d) (g : ge env3 i = .dk pin kvs) (wx : vw (Pd.fz Ra) env3 = some x) (hk : keyD x = some k) (hz : kvs.length < 16000000)
    (kk : ES X ea W rest (env3.set i (.dk pin (putD kvs k d))) Post) (hs : swapsWith value (some (.Subscript o e pos')) pos.line X.env = pure false := by rfl) : ES X ea W (.Assign [.Subscript o e pos'] value pos :: rest) env Post :=
  PSs.wk (pss_seq (ps_dput hu ho hi hv hs) kk) fun D σ H ⟨G, F, S, q⟩ => ⟨G, F, S, fun F1 v H1 x1 r1 => by
    obtain ⟨F1', x1', r1'⟩ := r1.fz
    rw [hf] at r1'
    refine ⟨G, F1', r1'.2, fun F2 u H2 x2 r2 => ⟨G, F2, r2.2, fun F3 w H3 x3 r3 => ?_⟩⟩
    obtain ⟨F4, x4, r4⟩ := r3.fz
    obtain ⟨p, vs, e1, hpin, hp, z, kd, f, g'⟩ := r4.st.dkS g
    rw [r2.1] at e1
    cases e1
    have rv : DR X.K F4 v d := r1'.1.mono (x2.trans (x3.trans x4)).le
    have hlt : vs.length < sizeLine := by rw [kd.length, sizeLine_eq]; omega
    refine ⟨p, _, rfl, by rw [keyD_va hk (r4.va wx)]; exact DPut.k hp hlt, G, F4, ?_, fun o p F5 x5 => q o p F5 (((x1.trans x1').trans (x2.trans (x3.trans x4))).trans x5)⟩
    have kd2 := kd.put k rv
    refine r4.st.writeS (by rw [g]; rfl) r2.1 rfl fun f g' => ⟨p, _, rfl, hpin, upd_same, ?_, kd2, f, g'⟩
    rw [kd2.length]
    have e2 : (putD kvs k d).length ≤ kvs.length + 1 := by
      unfold putD
      split
      · rw [List.length_map]; omega
      · rw [List.length_append]; exact Nat.le_refl _
    rw [sizeLine_eq]
    omega⟩
/-- sorted(d), keys all ints, fewer than 64 -/
theorem ev_sortedDI {ks : List Int} (B : Blt X.mg) (hc : X.calm = true) (h : EV X e env (.ptr i) env1) (g : ge env1 i = .dk pin kvs) (hks : kvs.map (·.1) = ks.map Sum.inl) (h64 : ks.length < 64) (hg : Gl X "sorted" := by rfl) (he : starEach (e :: []) X.env = (false, eval e X.env) :: starEach [] X.env := by rfl) (hpl : (backTo pos (starEach [] X.env)).any (·.1) = false := by rfl) :
    EV X (.Call (.Name "sorted" p) [e] [] pos) env (.new (.lst none ((isort ks).map .int))) env1 :=
  PE.wk (pe_callB (call_sortedDI hc) hg B.sorted_ bt_sorted (pa_cons h pa_nil he) (by decide) (by decide) he hpl) fun σ H Q ⟨G, F, S, q⟩ => ⟨G, F, S, fun F1 v H1 x1 r1 => by
    obtain ⟨p, vs, e1, hpin, hp, z, kd, f, g'⟩ := r1.2.dkS g
    rw [r1.1] at e1
    cases e1
    refine ⟨p, vs, ks, rfl, .inl hp, kd.keys.trans hks, h64, fun ys l hperm hsort hl => ?_⟩
    rw [isort_of hperm hsort]
    refine q F1 _ _ x1 (r1.2.consNew hl fun f g => ⟨l, _, rfl, (fun _ z => nomatch z), upd_same, ?_, DRs.of_ints _, f, g⟩)
    rw [List.length_map, (isort_perm ks).length_eq, sizeLine_eq]
    omega⟩
theorem drs_pairs {K : Frag} {F : Hp} : ∀ {kds : List (Key × D)} {vs : List V}, DRs K F vs (kds.map fun q => .tuple [(match q.1 with | .inl i => PyData.int i | .inr x => PyData.str x), q.2]) → ∃ (ps : List Addr) (kvs : List (Key × V)), vs = ps.map V.ref ∧ KD K F kvs kds ∧ Paired (fun p kv => SqT K F p [kV kv.1, kv.2]) ps kvs
  | [], _, .nil => ⟨[], [], rfl, .nil, .nil⟩
  | (k, d) :: r, _, .cons h t => by
    obtain ⟨ps, kvs, e1, e2, e3⟩ := drs_pairs t
    subst e1
    cases h with
    | tup ha hz hr =>
      rename_i p xs
      cases hr with
      | cons h1 hr =>
        cases hr with
        | cons h2 hr =>
          cases hr
          rename_i v1 v2
          have ek : v1 = kV k := by
            cases k with
            | inl i => exact h1.int_iff
            | inr i => exact h1.str_iff
          subst ek
          exact ⟨p :: ps, (k, v2) :: kvs, rfl, .cons ⟨rfl, h2⟩ e2, .cons ha e3⟩
/-- dict([(k, v), ..]) -/
theorem ev_dictP (B : Blt X.mg) (hc : X.calm = true) (h : EV X e env R env1) (hf : Pd.fz R = .val (.list (kvs.map fun q => .tuple [(match q.1 with | .inl i => PyData.int i | .inr x => PyData.str x), q.2]))) (hg : Gl X "dict" := by rfl) (he : starEach (e :: []) X.env = (false, eval e X.env) :: starEach [] X.env := by rfl) (hpl : (backTo pos (starEach [] X.env)).any (·.1) = false := by rfl) :
    EV X (.Call (.Name "dict" p) [e] [] pos) env (.new (.dk none (mergeD [] kvs))) env1 :=
  PE.wk (pe_callTy (call_dictP hc) hg B.dict_ bt_dict (pa_cons h pa_nil he) (by decide) (by decide) he hpl) fun σ H Q ⟨G, F, S, q⟩ => ⟨G, F, S, fun F1 v H1 x1 r1 => by
    obtain ⟨F2, x2, r2⟩ := r1.fz
    rw [hf] at r2
    obtain ⟨r2, S2⟩ := r2
    cases r2 with
    | lst ha hz hr =>
      rename_i a vs
      obtain ⟨ps, kv, e1, e2, e3⟩ := drs_pairs hr
      subst e1
      refine ⟨a, ps, kv, rfl, .of (S2.kf _ _ ha), Paired.mapP e3 fun _ _ z => le_t S2.kf z, fun l hl => ?_⟩
      have m := KD.merge e2 (.nil : KD X.K F2 [] [])
      refine q F2 _ _ (x1.trans x2) (S2.consNew hl fun f g => ⟨l, _, rfl, (fun _ z => nomatch z), upd_same, ?_, m, f, g⟩)
      rw [m.length]
      have hle : ∀ (more kvs : List (Key × D)), (mergeD kvs more).length ≤ kvs.length + more.length := by
        intro more
        induction more with
        | nil => intro kvs; exact Nat.le_refl _
        | cons q r ih =>
          intro kvs
          have e : mergeD kvs (q :: r) = mergeD (putD kvs q.1 q.2) r := rfl
          rw [e]
          refine Nat.le_trans (ih _) ?_
          have e2 : (putD kvs q.1 q.2).length ≤ kvs.length + 1 := by
            unfold putD
            split
            · rw [List.length_map]; omega
            · rw [List.length_append]; exact Nat.le_refl _
          rw [List.length_cons]
          omega
      have q1 := hle kvs []
      rw [List.length_nil, Nat.zero_add] at q1
      have q2 := hr.length
      simp only [List.length_map] at q2 hz
      omega⟩
/-- len of a new dict -/
theorem ev_lenDn (B : Blt X.mg) (h : EV X e env (.new (.dk pin kvs)) env1) (hg : Gl X "len" := by rfl) (he : starEach (e :: []) X.env = (false, eval e X.env) :: starEach [] X.env := by rfl) (hpl : (backTo pos (starEach [] X.env)).any (·.1) = false := by rfl) :
    EV X (.Call (.Name "len" p) [e] [] pos) env (.val (.int kvs.length)) env1 :=
  PE.wk (pe_callB call_lenD hg B.len_ bt_len (pa_cons h pa_nil he) (by decide) (by decide) he hpl) fun σ H Q ⟨G, F, S, q⟩ => ⟨G, F, S, fun F1 v H1 x1 r1 => by
    obtain ⟨p, vs, e1, hpin, hp, z, kd, f, g'⟩ := St.dkS (i := 0) r1 rfl
    have e1' : some v = some (V.ref p) := e1
    cases e1'
    refine ⟨p, vs, rfl, hp, ?_⟩
    rw [kd.length]
    exact q F1 _ H1 x1 ⟨.int _, St.tail r1⟩⟩
theorem ev_lenDp (B : Blt X.mg) (h : EV X e env (.ptr i) env1) (g : ge env1 i = .dk pin kvs) (hg : Gl X "len" := by rfl) (he : starEach (e :: []) X.env = (false, eval e X.env) :: starEach [] X.env := by rfl) (hpl : (backTo pos (starEach [] X.env)).any (·.1) = false := by rfl) :
    EV X (.Call (.Name "len" p) [e] [] pos) env (.val (.int kvs.length)) env1 :=
  PE.wk (pe_callB call_lenD hg B.len_ bt_len (pa_cons h pa_nil he) (by decide) (by decide) he hpl) fun σ H Q ⟨G, F, S, q⟩ => ⟨G, F, S, fun F1 v H1 x1 r1 => by
    obtain ⟨p, vs, e1, hpin, hp, z, kd, f, g'⟩ := r1.2.dkS g
    rw [r1.1] at e1
    cases e1
    refine ⟨p, vs, rfl, hp, ?_⟩
    rw [kd.length]
    exact q F1 _ H1 x1 ⟨.int _, r1.2⟩⟩
/-! ### the script is walked -/
theorem itOk_scr {K : Frag} {F : Hp} {a : Addr} {ns : List Int} (h : SqL K F a (ns.map V.int)) : ItOk K F (Itl K a) (ns.map .int) := fun i H l =>
  ⟨fun d e => by
    rw [List.getElem?_map] at e
    cases en : ns[i]? with
    | none => rw [en] at e; cases e
    | some n =>
      rw [en] at e
      cases e
      have h2 : (ns.map V.int)[i]? = some (.int n) := by rw [List.getElem?_map, en]; rfl
      exact ⟨⟨_, .int n, le_l l h, h2⟩, fun x H' ⟨y1, y2⟩ => .inl ⟨y1, by
        have q := y2 _ (le_l l h)
        rw [h2] at q
        cases q
        exact .int n⟩⟩, fun z => ⟨_, le_l l h, by rw [List.length_map] at z ⊢; exact z⟩⟩
theorem ei_scr {tg : Expr} {ns : List Int} (h : EV X e env (.ptr i) env1) (g : ge env1 i = .scr ns) : EI X tg e env (ns.map .int) env1 := PI.wk (pi_list h) fun σ H Q ⟨G, F, S, q⟩ => ⟨G, F, S, fun F1 v H1 x1 r1 => by
  have s := r1.2.sl i
  rw [g] at s
  obtain ⟨a, e1, e2⟩ := s
  rw [r1.1] at e1
  cases e1
  exact ⟨a, rfl, ⟨_, le_l r1.2.kf e2⟩, q F1 _ H1 x1 (itOk_scr e2) r1.2⟩⟩
end
end Pd
set_option Elab.async false
set_option linter.all false
set_option maxRecDepth 100000
set_option maxHeartbeats 4000000
namespace Pd
open PySem PySem.Spec PyProof.Rows L2
/-! ### a raising call in a statement -/
section
variable {X : Cx} {ea : Str → Addr} {W : WX} {rest A B : List Stmt} {env env1 : Ev} {Post : Out → Prop} {e : Expr} {es : List Expr} {rs : List Rs} {ss : List Sl} {p cp pos pos2 : Pos} {fn x y : Str} {n : Nat} {ps : List Str} {S : FS}
theorem es_exprX (F : FnI X.prog X.w X.K X.mg X.base ea n fn ps S) (hr : Room n X.A) (tk : L2N.Takes X W) (ha : EA X (e :: es) env rs env1) (hS : S (rs.map (toS env1)) (.ex x ss)) (k : Post (.ex x (wb env1 rs ss))) (nd : ndL (ptrs rs) = true := by rfl) (hg : Gl X fn := by rfl)
    (hdb : (fn == ("__debug__" : Str)) = false := by decide) (he : starEach (e :: es) X.env = (false, eval e X.env) :: starEach es X.env := by rfl) (hpl : (backTo cp (starEach es X.env)).any (·.1) = false := by rfl) (hs : swapsWith (.Call (.Name fn p) (e :: es) [] cp) none pos.line X.env = pure false := by rfl) :
    ES X ea W (.Expr (.Call (.Name fn p) (e :: es) [] cp) pos :: rest) env Post :=
  es_callX (te := fun t => tDrop t) F hr tk ha hS (fun t h => ps_expr h hs) (fun t D σ H h => h _) k nd hg hdb he hpl
theorem es_retX (F : FnI X.prog X.w X.K X.mg X.base ea n fn ps S) (hr : Room n X.A) (tk : L2N.Takes X W) (ha : EA X (e :: es) env rs env1) (hS : S (rs.map (toS env1)) (.ex x ss)) (k : Post (.ex x (wb env1 rs ss))) (nd : ndL (ptrs rs) = true := by rfl) (hg : Gl X fn := by rfl)
    (hdb : (fn == ("__debug__" : Str)) = false := by decide) (he : starEach (e :: es) X.env = (false, eval e X.env) :: starEach es X.env := by rfl) (hpl : (backTo cp (starEach es X.env)).any (·.1) = false := by rfl) :
    ES X ea W (.Return (some (.Call (.Name fn p) (e :: es) [] cp)) pos :: rest) env Post :=
  es_callX (te := fun t => tRet t) F hr tk ha hS (fun t h => ps_ret h) (fun t D σ H h => h _) k nd hg hdb he hpl
theorem es_setX (i : Nat) (F : FnI X.prog X.w X.K X.mg X.base ea n fn ps S) (hr : Room n X.A) (tk : L2N.Takes X W) (ha : EA X (e :: es) env rs env1) (hS : S (rs.map (toS env1)) (.ex x ss)) (k : Post (.ex x (wb env1 rs ss))) (hN : X.N.Nodup) (nd : ndL (ptrs rs) = true := by rfl) (hg : Gl X fn := by rfl)
    (hdb : (fn == ("__debug__" : Str)) = false := by decide) (he : starEach (e :: es) X.env = (false, eval e X.env) :: starEach es X.env := by rfl) (hpl : (backTo cp (starEach es X.env)).any (·.1) = false := by rfl)
    (hi : X.N[i]? = some y := by rfl) (hx : Loc X.env.scope y := by first | exact Or.inl rfl | exact Or.inr rfl) (hs : swapsWith (.Call (.Name fn p) (e :: es) [] cp) (some (.Name y pos2)) pos.line X.env = pure false := by rfl) (hf : X.fn y = true ∨ X.env.scope.names.lookup y = some .local := by first | exact .inl rfl | exact .inr rfl) :
    ES X ea W (.Assign [.Name y pos2] (.Call (.Name fn p) (e :: es) [] cp) pos :: rest) env Post :=
  es_callX (te := fun t => tAsg t (gName i)) F hr tk ha hS (fun t h => ps_set hN hi hx h hs hf) (fun t D σ H h => h _) k nd hg hdb he hpl
/-- if not f(..): .. -/
theorem es_ifnX (F : FnI X.prog X.w X.K X.mg X.base ea n fn ps S) (hr : Room n X.A) (tk : L2N.Takes X W) (ha : EA X (e :: es) env rs env1) (hS : S (rs.map (toS env1)) (.ex x ss)) (k : Post (.ex x (wb env1 rs ss))) (nd : ndL (ptrs rs) = true := by rfl) (hg : Gl X fn := by rfl)
    (hdb : (fn == ("__debug__" : Str)) = false := by decide) (he : starEach (e :: es) X.env = (false, eval e X.env) :: starEach es X.env := by rfl) (hpl : (backTo cp (starEach es X.env)).any (·.1) = false := by rfl) :
    ES X ea W (.If (.UnaryOp .Not (.Call (.Name fn p) (e :: es) [] cp) pos2) A B pos :: rest) env Post :=
  es_callX (te := fun t => tIfS (tNot (tB t)) (fun _ _ _ => False) (fun _ _ _ => False)) F hr tk ha hS (fun t h => ps_if (pt_not (pt_val h (fun _ => rfl))) ⟨fun _ _ _ _ _ _ z => z.elim⟩ ⟨fun _ _ _ _ _ _ z => z.elim⟩) (fun t D σ H h => h _) k nd hg hdb he hpl
theorem es_ifX (F : FnI X.prog X.w X.K X.mg X.base ea n fn ps S) (hr : Room n X.A) (tk : L2N.Takes X W) (ha : EA X (e :: es) env rs env1) (hS : S (rs.map (toS env1)) (.ex x ss)) (k : Post (.ex x (wb env1 rs ss))) (nd : ndL (ptrs rs) = true := by rfl) (hg : Gl X fn := by rfl)
    (hdb : (fn == ("__debug__" : Str)) = false := by decide) (he : starEach (e :: es) X.env = (false, eval e X.env) :: starEach es X.env := by rfl) (hpl : (backTo cp (starEach es X.env)).any (·.1) = false := by rfl) :
    ES X ea W (.If (.Call (.Name fn p) (e :: es) [] cp) A B pos :: rest) env Post :=
  es_callX (te := fun t => tIfS (tB t) (fun _ _ _ => False) (fun _ _ _ => False)) F hr tk ha hS (fun t h => ps_if (pt_val h (fun _ => rfl)) ⟨fun _ _ _ _ _ _ z => z.elim⟩ ⟨fun _ _ _ _ _ _ z => z.elim⟩) (fun t D σ H h => h _) k nd hg hdb he hpl
end
/-! ### the defs of a written list, one of them called -/
section
variable {X : Cx} {ea : Str → Addr} {W : WX} {rest : List Stmt} {env env0 env1 : Ev} {Post : Out → Prop} {c e : Expr} {es : List Expr} {Ra : Rs} {rs : List Rs} {ss : List Sl} {r : Sl} {p cp pos pos2 : Pos} {fn x y : Str} {n : Nat} {ps : List Str} {S : FS} {f : Addr} {i : Int}
/-- names of defs, one after the other -/
theorem pa_defs_nil : PA X [] (fun σ H Q => Q (([] : List Addr).map V.ref) H) := pa_nil
theorem pa_defs_cons {fs : List Addr} {np : Pos} (hm : X.mg x = some (.ref f)) (t : PA X es (fun σ H Q => Q (fs.map V.ref) H)) (hg : Gl X x := by rfl) (hd : (x == ("__debug__" : Str)) = false := by decide) (hs : starEach (.Name x np :: es) X.env = (false, eval (.Name x np) X.env) :: starEach es X.env := by rfl) :
    PA X (.Name x np :: es) (fun σ H Q => Q ((f :: fs).map V.ref) H) :=
  PA.wk (pa_cons (pe_glob (v := .ref f) hg hm rfl hd) t hs) fun σ H Q q => q
theorem St.keepNew {K : Frag} {G F H : Hp} {σ : L2.St} {q : Addr} {o : HO} (S1 : St K G F σ H env) (hD : H q = none) : St K (upd G q o) F σ (upd H q o) env := by
  have S2 := S1.heapNew (o := o) hD
  refine ⟨fun a u e => ?_, S2.kf, S2.ln, fun i => (S2.sl i).otherG fun b eb w => ?_, S2.ap⟩
  · by_cases z : a = q
    · subst z; rw [upd_same] at e ⊢; exact e
    · rw [upd_ne z] at e; exact S2.kg a u e
  · obtain ⟨b', u, e', hb, f, g⟩ := (S1.sl i).own_at w
    rw [eb] at e'
    cases e'
    rw [upd_ne (ne_of_none hb hD)]
    exact g
theorem Ext.lessG {G G' F F' : Hp} (l : Le G G') (x : Ext G' F F') : Ext G F F' := ⟨x.le, fun a o e => (x.nw a o e).imp id fun z => l.fresh z⟩
theorem St.lessG {K : Frag} {G G' F H : Hp} {σ : L2.St} (l : Le G G') (S : St K G' F σ H env) : St K G F σ H env :=
  ⟨l.trans S.kg, S.kf, S.ln, fun i => (S.sl i).otherG fun b eb w => by
    obtain ⟨b', u, e', hb, f, g⟩ := (S.sl i).own_at w
    rw [eb] at e'
    cases e'
    exact l.fresh g, S.ap⟩
theorem ev_fsel {fs : List Addr} {lp : Pos} (hl : PA X es (fun σ H Q => Q (fs.map V.ref) H)) (hw : EV X e env (.val (.int i)) env1) (hat : atI fs i = some f) (hz : fs.length ≤ 1000) (hp : PlainIx e := by exact fun _ _ => rfl) : EV X (.Subscript (.List es lp) e pos) env (.obj f) env1 :=
  PE.wk (pe_ix ix_list (pe_lst hl) hw hp) fun σ H Q ⟨G, F, S, q⟩ => by
    refine ⟨by rw [List.length_map, sizeLine_eq]; omega, fun l hl => ?_⟩
    have lg : Le G (upd G l (.lst (fs.map V.ref))) := Le.new (S.kg.fresh hl)
    refine ⟨_, F, S.keepNew hl, fun F1 v H1 x1 r1 => ?_⟩
    refine ⟨l, fs.map V.ref, i, .ref f, rfl, r1.1.int_iff, .of (r1.2.kg _ _ upd_same), ?_, q F1 _ H1 (x1.lessG lg) ⟨rfl, r1.2.lessG lg⟩⟩
    unfold atI at hat ⊢
    rw [List.length_map]
    cases h : ixN fs.length i with
    | none => rw [h] at hat; cases hat
    | some j =>
      rw [h] at hat
      have hat' : fs[j]? = some f := hat
      show (fs.map V.ref)[j]? = some (.ref f)
      rw [List.getElem?_map, hat']
      rfl
/-- a call of what an expression gives -/
theorem pe_callAt {tc : TE} {t : TA} {k : Nat} {fd : FuncData} {sp : Sp} {CX : CXT} {E : L2.St → XK} (hc : PE X c tc) (F : FnOk X.prog X.w X.K X.mg X.base CX k f fd ps sp) (hr : Room k X.A) (hk : PySem.W.keepIn X.K (.ref f) = true) (hb : Binds X.K fd ps []) (hx : ∀ σ, L2.PassesAt CX X σ (E σ)) (ha : PA X (e :: es) t)
    (hcall : eval (.Call c (e :: es) [] pos) X.env = (do callWith pos (← eval c X.env) [] (backTo pos (starEach (e :: es) X.env)) (backToKw pos (keywordEach [] X.env))) := by rfl) (he : starEach (e :: es) X.env = (false, eval e X.env) :: starEach es X.env := by rfl) (hpl : (backTo pos (starEach es X.env)).any (·.1) = false := by rfl) :
    PE X (.Call c (e :: es) [] pos) (fun σ H Q => tc σ H fun v H1 => v = .ref f ∧ t σ H1 fun vs H2 => sp vs H2 Q (E σ)) := by
  refine ⟨fun pins s σ H Q I h => ?_⟩
  rw [hcall]
  refine wpAny_bind (thn (hc.run pins s σ H _ I h) fun u s1 ⟨v, H1, I1, r1, e1, q1⟩ => ?_)
  subst e1
  cases r1
  refine PySem.W.callWith_K (h₀ := X.base) I1.ok.mod.kin hk (thn (ha.run pos pins s1 σ H1 _ I1 q1) fun us s2 ⟨vs, H2, I2, r, q⟩ => ⟨I2.kIn, ?_⟩) he hpl
  exact L2.run_fnS F hr hb (hx σ) I2 r q
theorem ev_callAt (hc : EV X c env (.obj f) env0) (F : FnI X.prog X.w X.K X.mg X.base ea n fn ps S) (hf : X.mg fn = some (.ref f)) (hr : Room n X.A) (ha : EA X (e :: es) env0 rs env1) (hS : S (rs.map (toS env1)) (.rt r ss)) (nd : ndL (ptrs rs) = true := by rfl)
    (hcall : eval (.Call c (e :: es) [] pos) X.env = (do callWith pos (← eval c X.env) [] (backTo pos (starEach (e :: es) X.env)) (backToKw pos (keywordEach [] X.env))) := by rfl) (he : starEach (e :: es) X.env = (false, eval e X.env) :: starEach es X.env := by rfl) (hpl : (backTo pos (starEach es X.env)).any (·.1) = false := by rfl) :
    EV X (.Call c (e :: es) [] pos) env (resR r) (wb env1 rs ss) := by
  obtain ⟨f', fd, F, hm, hk, hb⟩ := F
  have ef : f' = f := by rw [hm] at hf; cases hf; rfl
  subst ef
  refine PE.wk (pe_callAt (E := fun _ => E0) hc F hr hk hb (fun σ _ _ _ _ _ _ h => by obtain ⟨_, _, _, _, _, _, _, _, _, _, _, _, z⟩ := h; exact z.elim) ha hcall he hpl) fun σ H Q ⟨G, F, S, q⟩ => ⟨G, F, S, fun F0 v H0 x0 r0 => ⟨r0.1, G, F0, r0.2, fun F1 vs H1 x1 r1 S1 => ?_⟩⟩
  refine ⟨gOf σ env1 rs H1, F1, rs.map (toS env1), .rt r ss, hS, by rw [List.length_map, r1.length], S1.callee r1 (ndL_ok nd), fun F' v H' x' S' => ?_⟩
  exact q F' v H' ((x0.trans x1).trans (Ext.back S1 x')) (RR.back S1 r1 (ndL_ok nd) x' S')
/-- the same, raising, as what is returned -/
theorem es_retAtX (hc : EV X c env (.obj f) env0) (F : FnI X.prog X.w X.K X.mg X.base ea n fn ps S) (hf : X.mg fn = some (.ref f)) (hr : Room n X.A) (tk : L2N.Takes X W) (ha : EA X (e :: es) env0 rs env1) (hS : S (rs.map (toS env1)) (.ex x ss)) (k : Post (.ex x (wb env1 rs ss))) (nd : ndL (ptrs rs) = true := by rfl)
    (hcall : eval (.Call c (e :: es) [] cp) X.env = (do callWith cp (← eval c X.env) [] (backTo cp (starEach (e :: es) X.env)) (backToKw cp (keywordEach [] X.env))) := by rfl) (he : starEach (e :: es) X.env = (false, eval e X.env) :: starEach es X.env := by rfl) (hpl : (backTo cp (starEach es X.env)).any (·.1) = false := by rfl) :
    ES X ea W (.Return (some (.Call c (e :: es) [] cp)) pos :: rest) env Post := by
  obtain ⟨f', fd, F, hm, hk, hb⟩ := F
  have ef : f' = f := by rw [hm] at hf; cases hf; rfl
  subst ef
  have c1 := pe_callAt (E := L2.WE W) hc F hr hk hb (fun σ => L2N.passAt tk σ) ha hcall he hpl
  refine PSs.wk (pss_cons (u := fun _ _ _ => False) (ps_ret c1) ⟨fun _ _ _ _ _ _ z => z.elim⟩) fun D σ H ⟨G, F, S, q⟩ => ⟨G, F, S, fun F0 v H0 x0 r0 => ⟨r0.1, G, F0, r0.2, fun F1 vs H1 x1 r1 S1 => ?_⟩⟩
  refine ⟨gOf σ env1 rs H1, F1, rs.map (toS env1), .ex x ss, hS, by rw [List.length_map, r1.length], S1.callee r1 (ndL_ok nd), fun F' H' x' S' => ?_⟩
  exact q _ k F' ((x0.trans x1).trans (Ext.back S1 x')) σ H' (St.back (hd := []) (he := []) S1 r1 (ndL_ok nd) x' S')
end
/-! ### is, is not of truth values; classes at their names -/
section
variable {X : Cx} {env env1 env2 : Ev} {a b e : Expr} {Ra Rb R : Rs} {x y d : D} {pos p : Pos} {k1 k2 : Bool} {nm : Str} {f : Addr}
theorem ev_isB (h : EV X a env Ra env1) (h2 : EV X b env1 Rb env2) (wx : vw (Pd.fz Ra) env2 = some (.bool k1)) (wy : vw (Pd.fz Rb) env2 = some (.bool k2)) (fl : (Pd.fz Ra).flat = true := by rfl) : EV X (.Compare a [.Is] [b] pos) env (.val (.bool (decide (k1 = k2)))) env2 := ev_cmp op_is_bl h h2 opd_isB wx wy (nobehind _ (by decide) (by decide)) fl
theorem et_isB (h : EV X a env Ra env1) (h2 : EV X b env1 Rb env2) (wx : vw (Pd.fz Ra) env2 = some (.bool k1)) (wy : vw (Pd.fz Rb) env2 = some (.bool k2)) (fl : (Pd.fz Ra).flat = true := by rfl) : ET X (.Compare a [.Is] [b] pos) env (decide (k1 = k2)) env2 := et_cmp op_is_bl h h2 opd_isB wx wy (nobehind _ (by decide) (by decide)) fl
theorem et_notB (h : EV X a env Ra env1) (h2 : EV X b env1 Rb env2) (wx : vw (Pd.fz Ra) env2 = some (.bool k1)) (wy : vw (Pd.fz Rb) env2 = some (.bool k2)) (fl : (Pd.fz Ra).flat = true := by rfl) : ET X (.Compare a [.IsNot] [b] pos) env (!decide (k1 = k2)) env2 := et_cmp op_isnot_bl h h2 opd_isNB wx wy (nobehind _ (by decide) (by decide)) fl
theorem ev_cls (hm : X.mg nm = some (.ref f)) (hg : Gl X nm := by rfl) (hd : (nm == ("__debug__" : Str)) = false := by decide) : EV X (.Name nm pos) env (.obj f) env :=
  PE.wk (pe_glob (v := .ref f) hg hm rfl hd) fun σ H Q ⟨G, F, S, q⟩ => q F _ H (Ext.refl G F) ⟨rfl, S⟩
/-! ### count, index of truth values -/
theorem reads_bools {h : Heap} : ∀ bs : List Bool, ∃ as, ReadsAll h (bs.map Value.bool) (bs.map PyData.bool) as
  | [] => ⟨_, .nil⟩
  | b :: r => by
    obtain ⟨as, q⟩ := reads_bools (h := h) r
    exact ⟨_, .cons (.bool b) q⟩
theorem vals_bools : ∀ {bs : List Bool} {us : List Value}, Vals (bs.map V.bl) us → us = bs.map Value.bool
  | [], _, .nil => rfl
  | b :: r, _, .cons h t => by
    cases h
    rw [vals_bools t, List.map_cons]
def rCntB (K : Frag) : V → List V → Hp → VK → Prop := fun x xs H Q => ∃ (p : Addr) (bs : List Bool) (k : Bool), x = .ref p ∧ xs = [.bl k] ∧ SqL K H p (bs.map V.bl) ∧ Q (.int (bs.count k : Nat)) H
theorem mt_countB : MtR X "list.count" (rCntB X.K) := by
  intro pins s σ H x xs v us Q I rx rxs h
  obtain ⟨p, bs, k, rfl, rfl, hs, q⟩ := h
  cases rx
  obtain ⟨u, rfl, ru⟩ := rxs.one
  cases ru
  obtain ⟨its, rv, pl, hlen⟩ := I.list hs
  have e := vals_bools rv
  subst e
  obtain ⟨as, ra⟩ := reads_bools (h := s.heap) bs
  refine PyProof.Rows.count_list_bools pl.isList ra (by rw [List.all_map, List.all_eq_true]; intro b _; rfl) ⟨.int (bs.count k : Nat), H, I.tok _, ⟨s.toks, ?_⟩, q⟩
  have ec := PyProof.Rows.countP_isBoolOf k ra (by rw [List.all_map, List.all_eq_true]; intro b _; rfl)
  rw [← ec, List.countP_map]
  have e2 : ∀ l : List Bool, List.countP (PyProof.Rows.isBoolOf k ∘ Value.bool) l = l.count k := by
    intro l
    induction l with
    | nil => rfl
    | cons b r ih =>
      rw [List.countP_cons, List.count_cons, ih]
      rfl
  rw [e2]
end
end Pd
set_option Elab.async false
set_option linter.all false
set_option maxRecDepth 100000
set_option maxHeartbeats 1000000
namespace Pd
open PySem PySem.Spec PyProof.Rows L2
/-! ### data that are shown: k deep, of weight w -/
inductive Gd : Nat → Nat → D → Prop
  | non {k w : Nat} : Gd k w .none
  | bl {k w : Nat} (b : Bool) : Gd k w (.bool b)
  | int {k w : Nat} {i : Int} : i.natAbs < 10 ^ 12 → 40 ≤ w → Gd k w (.int i)
  | str {k w : Nat} {x : Str} : PyData.strOk x = true → x.cps.size ≤ w → Gd k w (.str x)
  | lst {k w w' : Nat} {xs : List D} : (∀ x ∈ xs, Gd k w' x) → xs.length * (w' + 1) ≤ w → Gd (k + 1) w (.list xs)
  | tup {k w w' : Nat} {xs : List D} : (∀ x ∈ xs, Gd k w' x) → xs.length * (w' + 1) ≤ w → Gd (k + 1) w (.tuple xs)
theorem all_show : ∀ {xs : List D}, (∀ x ∈ xs, PyData.showable x = true) → PyData.showableAll xs = true
  | [], _ => rfl
  | x :: r, h => by
    unfold PyData.showableAll
    rw [h x List.mem_cons_self, all_show fun y hy => h y (List.mem_cons_of_mem _ hy)]
    rfl
theorem all_nodict : ∀ {xs : List D}, (∀ x ∈ xs, PyData.hasDict x = false) → PyData.hasDictAll xs = false
  | [], _ => rfl
  | x :: r, h => by
    unfold PyData.hasDictAll
    rw [h x List.mem_cons_self, all_nodict fun y hy => h y (List.mem_cons_of_mem _ hy)]
    rfl
theorem all_leaves {B : Nat} : ∀ {xs : List D}, (∀ x ∈ xs, PyData.leavesShort B x = true) → PyData.leavesShortAll B xs = true
  | [], _ => rfl
  | x :: r, h => by
    unfold PyData.leavesShortAll
    rw [h x List.mem_cons_self, all_leaves fun y hy => h y (List.mem_cons_of_mem _ hy)]
    rfl
theorem all_lay : ∀ {xs : List D}, (∀ x ∈ xs, PyData.canLay0 x = true) → PyData.canLayAll0 xs = true
  | [], _ => rfl
  | x :: r, h => by
    unfold PyData.canLayAll0
    rw [h x List.mem_cons_self, all_lay fun y hy => h y (List.mem_cons_of_mem _ hy)]
    rfl
theorem all_depth {n : Nat} : ∀ {xs : List D}, (∀ x ∈ xs, PyData.depth x ≤ n) → PyData.depthAll xs ≤ n
  | [], _ => Nat.zero_le _
  | x :: r, h => by
    unfold PyData.depthAll
    exact Nat.max_le.mpr ⟨h x List.mem_cons_self, all_depth fun y hy => h y (List.mem_cons_of_mem _ hy)⟩
theorem all_weight {n : Nat} : ∀ {xs : List D}, (∀ x ∈ xs, PyData.weight x ≤ n) → PyData.weightAll xs ≤ xs.length * (n + 1)
  | [], _ => Nat.zero_le _
  | x :: r, h => by
    unfold PyData.weightAll
    have h1 := h x List.mem_cons_self
    have h2 := all_weight (n := n) fun y hy => h y (List.mem_cons_of_mem _ hy)
    rw [List.length_cons, Nat.succ_mul]
    omega
structure Gds (k w : Nat) (d : D) : Prop where
  sh : PyData.showable d = true
  nd : PyData.hasDict d = false
  lv : PyData.leavesShort 13 d = true
  ly : PyData.canLay0 d = true
  dp : PyData.depth d ≤ k
  wt : PyData.weight d ≤ w
theorem ofStr_len {x : String} {n : Nat} (h : x.length ≤ n) : (Str.ofString x).length ≤ n := by
  rw [PySem.ofString_length]
  exact h
theorem log2_small {i : Int} (h : i.natAbs < 10 ^ 12) : i.natAbs.log2 < 40 := by
  by_cases z : i.natAbs = 0
  · rw [z]; decide
  · rw [Nat.log2_lt z]
    exact Nat.lt_trans h (by decide)
theorem Gd.all {k w : Nat} {d : D} (h : Gd k w d) : Gds k w d := by
  induction h with
  | non => exact ⟨rfl, rfl, rfl, rfl, Nat.zero_le _, Nat.zero_le _⟩
  | bl b => exact ⟨rfl, rfl, rfl, rfl, Nat.zero_le _, Nat.zero_le _⟩
  | @int k w i h hw =>
    have hl := log2_small h
    refine ⟨?_, rfl, ?_, rfl, Nat.zero_le _, ?_⟩
    · unfold PyData.showable
      exact decide_eq_true (by omega)
    · unfold PyData.leavesShort PyData.shown
      have q := PySem.int_text_length_le10 (k := 12) (by decide) h
      exact decide_eq_true (ofStr_len q)
    · unfold PyData.weight
      split <;> omega
  | @str k w x h hw =>
    refine ⟨rfl, rfl, ?_, h, Nat.zero_le _, hw⟩
    unfold PyData.leavesShort
    rw [List.all_eq_true]
    intro c hc
    unfold PyData.strOk at h
    have h0 := (Array.all_eq_true_iff_forall_mem.mp h) c (Array.mem_toList_iff.mp hc)
    have h1 : c < 0x110000 := by simpa using h0
    have e : (16 : Nat) ^ 8 = 4294967296 := by decide
    exact decide_eq_true (by omega)
  | @lst k w w' xs h hw ih =>
    refine ⟨all_show fun x hx => (ih x hx).sh, all_nodict fun x hx => (ih x hx).nd, all_leaves fun x hx => (ih x hx).lv, all_lay fun x hx => (ih x hx).ly, ?_, ?_⟩
    · unfold PyData.depth
      exact Nat.succ_le_succ (all_depth fun x hx => (ih x hx).dp)
    · unfold PyData.weight
      exact Nat.le_trans (all_weight fun x hx => (ih x hx).wt) hw
  | @tup k w w' xs h hw ih =>
    refine ⟨all_show fun x hx => (ih x hx).sh, all_nodict fun x hx => (ih x hx).nd, all_leaves fun x hx => (ih x hx).lv, all_lay fun x hx => (ih x hx).ly, ?_, ?_⟩
    · unfold PyData.depth
      exact Nat.succ_le_succ (all_depth fun x hx => (ih x hx).dp)
    · unfold PyData.weight
      exact Nat.le_trans (all_weight fun x hx => (ih x hx).wt) hw
theorem Gds.shaped {k w : Nat} {d : D} (h : Gds k w d) (hk : k ≤ 64) : SeqAt.shaped d = true := by
  unfold SeqAt.shaped
  rw [h.ly, decide_eq_true (Nat.le_trans h.dp hk)]
  rfl
theorem Gd.ints {k : Nat} {ns : List Int} (h : ∀ n ∈ ns, n.natAbs < 10 ^ 12) : ∀ x ∈ ns.map PyData.int, Gd k 40 x := fun x hx => by
  obtain ⟨n, hn, rfl⟩ := List.mem_map.mp hx
  exact .int (h n hn) (Nat.le_refl _)
theorem Gd.tupI {k w : Nat} {ns : List Int} (h : ∀ n ∈ ns, n.natAbs < 10 ^ 12) (hw : ns.length * 41 ≤ w) : Gd (k + 1) w (.tuple (ns.map .int)) := .tup (Gd.ints h) (by rw [List.length_map]; exact hw)
theorem Gd.lstI {k w : Nat} {ns : List Int} (h : ∀ n ∈ ns, n.natAbs < 10 ^ 12) (hw : ns.length * 41 ≤ w) : Gd (k + 1) w (.list (ns.map .int)) := .lst (Gd.ints h) (by rw [List.length_map]; exact hw)
/-! ### repr -/
section
variable {X : Cx}
def rRepr (K : Frag) : List V → Hp → VK → Prop := fun xs H Q => ∃ (a : Addr) (d : D), xs = [.ref a] ∧ Dp K H (.ref a) d ∧ d.showable = true ∧ d.hasDict = false ∧ d.depth ≤ 64 ∧ d.shown.length ≤ sizeLine ∧ Q (.str d.shown) H
theorem call_reprD (hg : X.A.guards = some []) (hu : X.A.units + 80 < cLine) : CallR X (.builtin "repr") (rRepr X.K) := by
  intro pins s σ H xs us Q I r h
  obtain ⟨a, d, rfl, hd, hs, hn, hp, hz, q⟩ := h
  obtain ⟨u, rfl, ru⟩ := vals1 r
  obtain ⟨as, rd⟩ := Dp.reads I d _ _ hd ru
  cases ru
  exact repr_of_reads' rd hs (PyData.noDict_hsm hn) hg (by omega) (fun _ _ e => e) (fun h' u tk k => ⟨.str d.shown, H, I.kept (t' := tk) k, ⟨u, rfl⟩, q⟩) hz
end
section
variable {X : Cx} {env env1 env2 : Ev} {e a b c : Expr} {R Ra Rb Rc : Rs} {d x : D} {pos p : Pos} {k w : Nat} {ds : List D} {i j n : Int}
theorem ev_reprL (B : Blt X.mg) (hgu : X.A.guards = some []) (hu : X.A.units + 80 < cLine) (h : EV X e env R env1) (w1 : vw (Pd.fz R) env1 = some (.list ds)) (gd : Gd k w (.list ds)) (hk : k ≤ 64) (hw : w ≤ 2 ^ 20) (hgl : Gl X "repr" := by rfl) (he : starEach (e :: []) X.env = (false, eval e X.env) :: starEach [] X.env := by rfl) (hpl : (backTo pos (starEach [] X.env)).any (·.1) = false := by rfl) :
    EV X (.Call (.Name "repr" p) [e] [] pos) env (.val (.str (PyData.shown (.list ds)))) env1 :=
  ev_b1 (call_reprD hgu hu) B.repr_ bt_repr h (fun G F σ H env v Q S hv q => by
    have g := gd.all
    have dp := hv.dp S.kf
    obtain ⟨a, vs, rfl, _⟩ := hv.lst S.kf
    exact ⟨a, _, rfl, dp, g.sh, g.nd, Nat.le_trans g.dp hk, PyData.shown_fits (by decide) (by decide) g.lv (Nat.le_trans g.wt hw), q F _ H (Ext.refl G F) ⟨.str _, S⟩⟩) w1 hgl (by decide) (by decide) he hpl
end
/-! ### range with a step -/
def srange (lo c : Int) (n : Nat) : List Int := (List.range n).map fun k : Nat => lo + (k : Int) * c
theorem srange_one (lo hi : Int) : srange lo 1 (hi - lo).toNat = irange lo hi := by
  unfold srange irange
  refine List.map_congr_left fun k _ => ?_
  rw [Int.mul_one]
theorem srange_len {lo c : Int} {n : Nat} : (srange lo c n).length = n := by
  unfold srange
  rw [List.length_map, List.length_range]
theorem srange_get {lo c : Int} {n i : Nat} (h : i < n) : (srange lo c n)[i]? = some (lo + (i : Int) * c) := by
  unfold srange
  rw [List.getElem?_map, List.getElem?_range h]
  rfl
theorem itOk_srange {K : Frag} {F : Hp} {lo c : Int} {m : Nat} : ItOk K F (Itc lo c m) ((srange lo c m).map .int) := fun i H l =>
  ⟨fun d e => by
    rw [List.getElem?_map] at e
    have hi' : i < m := by
      apply Nat.lt_of_not_le
      intro z
      rw [getElem?_of_le (by rw [srange_len]; exact z)] at e
      cases e
    rw [srange_get hi'] at e
    cases e
    exact ⟨hi', fun x H' ⟨y1, y2⟩ => .inl ⟨y1, by subst y2; exact .int _⟩⟩, fun z => by
    rw [List.length_map, srange_len] at z
    exact z⟩
def PRn (X : Cx) (e : Expr) (t : L2.St → Hp → (Int → Int → Nat → Hp → Prop) → Prop) : Prop := ∀ (pins : List (Addr × Obj)) (s : Shared) (σ : L2.St) (H : Hp) (Q : Int → Int → Nat → Hp → Prop), Inv X pins σ H s → t σ H Q →
  wpAny (model X.prog X.w) X.A (eval e X.env) (fun x s1 => ∃ (r : Addr) (lo hi c : Int) (t1 t2 t3 : Tok) (n : Nat) (H1 : Hp), x = Value.ref r ∧ Inv X pins σ H1 s1 ∧ IsRange s1.heap r lo hi c t1 t2 t3 ∧ RgC lo hi c n ∧ n ≤ 2 ^ 24 ∧ Q lo c n H1) X.xe s
def tRn (K : Frag) (env : Ev) (lo c : Int) (n : Nat) (env' : Ev) : L2.St → Hp → (Int → Int → Nat → Hp → Prop) → Prop := fun σ H Q => ∃ G F, St K G F σ H env ∧ ∀ F' H', Ext G F F' → St K G F' σ H' env' → Q lo c n H'
abbrev ER (X : Cx) (e : Expr) (env : Ev) (lo c : Int) (n : Nat) (env' : Ev) : Prop := PRn X e (tRn X.K env lo c n env')
theorem rgC_one {a b : Int} (ha : -(2 ^ 62) ≤ a ∧ a < 2 ^ 62) (hb : -(2 ^ 62) ≤ b ∧ b < 2 ^ 62) : RgC a b 1 (b - a).toNat := ⟨by decide, by decide, small_one ha.1 ha.2 hb.1 hb.2, PyProof.Rows.rangeSize_nat a b⟩
section
variable {X : Cx} {env env1 env2 env3 : Ev} {e a b c : Expr} {R Ra Rb Rc : Rs} {d x : D} {pos p : Pos} {k w m : Nat} {ds : List D} {i j n lo : Int}
theorem er_1 (B : Blt X.mg) (h : EV X a env (.val (.int i)) env1) (hb : -(2 ^ 62) ≤ i ∧ i ≤ 2 ^ 24) (hg : Gl X "range" := by rfl) (na : starEach [a] X.env = (false, eval a X.env) :: starEach [] X.env := by rfl) : ER X (.Call (.Name "range" p) [a] [] pos) env 0 1 i.toNat env1 := by
  intro pins s σ H Q I ⟨G, F, S, q⟩
  refine thn (L2.prg_1 hg B.range_ h na pins s σ H (fun lo hi H' => lo = 0 ∧ hi = i ∧ Q 0 1 i.toNat H') I ⟨G, F, S, fun F1 v H1 x1 r1 => ⟨i, r1.1.int_iff, rfl, rfl, q F1 H1 x1 r1.2⟩⟩) fun x s1 ⟨r, lo, hi, t1, t2, t3, H1, e1, e2, e3, e4, e5, e6⟩ => ?_
  subst e4 e5
  have rc := rgC_one (a := 0) (b := hi) ⟨by decide, by decide⟩ ⟨hb.1, by omega⟩
  rw [Int.sub_zero] at rc
  exact ⟨r, 0, hi, 1, t1, t2, t3, hi.toNat, H1, e1, e3, e2, rc, by omega, e6⟩
theorem er_2 (B : Blt X.mg) (h : EV X a env (.val (.int i)) env1) (h2 : EV X b env1 (.val (.int j)) env2) (bi : -(2 ^ 62) ≤ i ∧ i < 2 ^ 62) (bj : -(2 ^ 62) ≤ j ∧ j < 2 ^ 62) (hb : j - i ≤ 2 ^ 24) (hg : Gl X "range" := by rfl) (na : starEach [a, b] X.env = (false, eval a X.env) :: starEach [b] X.env := by rfl)
    (nb : starEach [b] X.env = (false, eval b X.env) :: starEach [] X.env := by rfl) (hp : (backTo pos (starEach [b] X.env)).any (·.1) = false := by rfl) : ER X (.Call (.Name "range" p) [a, b] [] pos) env i 1 (j - i).toNat env2 := by
  intro pins s σ H Q I ⟨G, F, S, q⟩
  refine thn (L2.prg_2 hg B.range_ h h2 na nb hp pins s σ H (fun lo hi H' => lo = i ∧ hi = j ∧ Q i 1 (j - i).toNat H') I ⟨G, F, S, fun F1 v H1 x1 r1 => ⟨G, F1, r1.2, fun F2 u H2 x2 r2 => ⟨i, j, r1.1.int_iff, r2.1.int_iff, rfl, rfl, q F2 H2 (x1.trans x2) r2.2⟩⟩⟩) fun x s1 ⟨r, lo, hi, t1, t2, t3, H1, e1, e2, e3, e4, e5, e6⟩ => ?_
  subst e4 e5
  exact ⟨r, lo, hi, 1, t1, t2, t3, (hi - lo).toNat, H1, e1, e3, e2, rgC_one bi bj, by omega, e6⟩
theorem ars3 {K : Frag} {F : Hp} {σ : L2.St} {x y z : D} : ∀ {vs : List V}, ARs K F σ vs [.val x, .val y, .val z] → ∃ u v t, vs = [u, v, t] ∧ DR K F u x ∧ DR K F v y ∧ DR K F t z
  | [u, v, t], ⟨a, b, c, _⟩ => ⟨u, v, t, rfl, a, b, c⟩
  | [], h => by cases h
  | [_], h => by cases h.2
  | [_, _], h => by cases h.2.2
  | _ :: _ :: _ :: _ :: _, h => by cases h.2.2.2
theorem vals3i {i j n : Int} : ∀ {us : List Value}, Vals [V.int i, V.int j, V.int n] us → ∃ t1 t2 t3, us = [.int i t1, .int j t2, .int n t3]
  | _, .cons ⟨t1, h1⟩ (.cons ⟨t2, h2⟩ (.cons ⟨t3, h3⟩ .nil)) => ⟨t1, t2, t3, by rw [h1, h2, h3]⟩
theorem er_3 (B : Blt X.mg) (h : EA X [a, b, c] env [.val (.int i), .val (.int j), .val (.int n)] env1) (hc : RgC i j n m) (hm : m ≤ 2 ^ 24) (hg : Gl X "range" := by rfl)
    (na : starEach [a, b, c] X.env = (false, eval a X.env) :: starEach [b, c] X.env := by rfl) (hp : (backTo pos (starEach [b, c] X.env)).any (·.1) = false := by rfl) : ER X (.Call (.Name "range" p) [a, b, c] [] pos) env i n m env1 := by
  intro pins s σ H Q I ⟨G, F, S, q⟩
  refine Call_ (ld_blt I hg B.range_ boot_range (PyProof.Rows.callWith_type1 (thn (h.run pos pins s σ H (fun vs H1 => vs = [.int i, .int j, .int n] ∧ Q i n m H1) I ⟨G, F, S, fun F1 vs H1 x1 r1 S1 => ?_⟩) fun us s1 ⟨vs, H1, I1, r1, e1, q1⟩ => ?_) na hp))
  · obtain ⟨u, v, z, e, a1, a2, a3⟩ := ars3 r1
    exact ⟨by rw [e, a1.int_iff, a2.int_iff, a3.int_iff], q F1 H1 x1 S1⟩
  · subst e1
    obtain ⟨t1, t2, t3, e⟩ := vals3i r1
    subst e
    exact call_range_3 hc.1 ⟨_, i, j, n, t1, t2, t3, m, H1, rfl, I1.kept (t' := s1.toks) (fun b o e => Heap.get?_push_of_some _ e), IsRange.new _ _ _ _ _ _ _, hc, hm, q1⟩ (.inl (PyProof.noPylong_small hc.2.1))
theorem vals_srange {acc : Array Value} {lo c : Int} {n : Nat} (h : ItemsOf (fun i v => ∃ t, v = .int (lo + i * c) t) acc n) : Vals ((srange lo c n).map V.int) acc.toList := by
  have e : acc.toList.length = n := by rw [Array.length_toList]; exact h.1
  have r := vals_of_get acc.toList (fun k : Nat => V.int (lo + (k : Int) * c)) fun j u hj => by
    obtain ⟨t, rfl⟩ := h.2 j u (by rw [← hj, Array.getElem?_toList])
    exact ⟨t, rfl⟩
  rw [e] at r
  unfold srange
  rw [List.map_map]
  exact r
/-- tuple(range(..)) -/
theorem ev_tupRn (B : Blt X.mg) (hc : X.calm = true) (h : ER X e env lo i m env1) (hm : m ≤ 16000000) (hg : Gl X "tuple" := by rfl) (na : starEach [e] X.env = (false, eval e X.env) :: starEach [] X.env := by rfl) : EV X (.Call (.Name "tuple" p) [e] [] pos) env (.val (.tuple ((srange lo i m).map .int))) env1 := by
  refine ⟨fun pins s σ H Q I ⟨G, F, S, q⟩ => ?_⟩
  refine Call_ (ld_blt I hg B.tuple_ boot_tuple (PyProof.Rows.callWith_type1 (args_cons (thn (h pins s σ H (fun a b c H1 => a = lo ∧ b = i ∧ c = m ∧ ∀ q', H1 q' = none → Q (.ref q') (upd H1 q' (.tup ((srange lo i m).map V.int)))) I ⟨G, F, S, fun F1 H1 x1 S1 => ⟨rfl, rfl, rfl, fun l hl => ?_⟩⟩) fun x s1 h2 => args_nil ?_) na) na))
  · have z : ((srange lo i m).map V.int).length ≤ sizeLine := by rw [List.length_map, srange_len, sizeLine_eq]; omega
    obtain ⟨x2, r2, S2⟩ := S1.newTup hl z (DRs.of_ints (srange lo i m))
    exact q _ _ _ (x1.trans x2) ⟨r2, S2⟩
  · obtain ⟨r, a, hi, b, t1, t2, t3, c, H1, e1, I1, e2, e3, e4, rfl, rfl, rfl, q1⟩ := h2
    subst e1
    refine call_tuple_range (I1.ok.hd hc) e2 e3.2.2.1 e3.2.2.2 e4 fun h' tk acc hk hi => ?_
    have I2 : Inv X pins σ H1 { s1 with heap := h', toks := tk } := I1.kept hk
    refine ⟨.ref h'.objs.size, upd H1 h'.objs.size (.tup ((srange a b c).map V.int)), I2.laid (t' := tk) (fun b o e => Heap.get?_push_of_some _ e) (Nat.le_refl _) ⟨?_, acc.toList, vals_srange hi, ?_⟩, rfl, q1 _ (I2.hok.fresh (Nat.le_refl _))⟩
    · rw [List.length_map, srange_len, sizeLine_eq]; omega
    · rw [Array.toArray_toList]; exact IsTup.new _ _
end
end Pd
set_option Elab.async false
set_option linter.all false
set_option maxRecDepth 100000
set_option maxHeartbeats 1000000
namespace Pd
open PySem PySem.Spec PyProof.Rows L2
/-! ### the law's def: it is called by the claim alone, so its place is known -/
structure FnC (P : Program) (w : World) (K : Frag) (mg : Str → Option Value) (base : Heap) (f : Addr) (fd : FuncData) (ps : List Str) (sp : Sp) : Prop where
  run : ∀ (s : Shared) (H : Hp) (args : Args) (us : List Value) (vs : List V) (Q : VK) (E : XK), Env0 P w K mg base callerA [] s H → BindsTo s fd args (ps.zip us) → Vals vs us → sp vs H Q E →
    codeAny (model P w) callerA (.call (.ref f) args) (CR (L2N.CX P w) [] P w H s Q E) s
section
variable {P : Program} {w : World} {K : Frag} {mg mb : Str → Option Value} {base : Heap} {N ps : List Str} {x qual : Str} {st : Stmt} {f a : Addr} {fd : FuncData} {sp : Sp} {s₁ : Shared} {vs : List Value} {ns : List Int} {H : Hp}
theorem guards_at (e : Env) : (callerA.deeper e).guards = some [] := rfl
theorem fnC (Fn : Fun K x qual st f fd) (Sc : FnScope N ps (defScope st)) (len : ∀ vs H Q E, sp vs H Q E → vs.length = ps.length)
    (body : ∀ (cdv : Value) (s : Shared) (H : Hp) (vs : List V) (Q : VK) (E : XK), sp vs H Q E →
      ∃ t, PSs (cxOf (L2N.CX P w) P w K mg base N qual (defScope st) f cdv callerA [] s H E) (defBody st) t ∧ t { nx := fun _ H' => Q .non H', rt := Q } (L2.start N vs) H) : FnC P w K mg base f fd ps sp := by
  obtain ⟨oc, od, kV, doc, pm, an, cdv, ct, osl, rfl, lk, hcd⟩ := Fn.ex
  refine ⟨fun s H args us vs Q E e0 hb r h => ?_⟩
  obtain ⟨t, ht, hq⟩ := body cdv s H vs Q E h
  have hdep : callerA.depth < recursionLimit := by decide
  exact enter (c := true) (pn := []) lk hcd Sc hdep e0 hb (fun s1 inc => L2.inv_start Sc rfl e0 (len _ _ _ _ h) r inc) ht hq
/-- from a heap in which nothing but the script may be tracked -/
theorem law_core (hO : Only H) (hS : SqL K H a (ns.map V.int)) (hok : HOk P w H s₁.heap) (hA : ∀ b, H b ≠ none → b = a) (hK : H a ≠ none → K.lookup a = none)
    (KX : K.In s₁.heap) (hns : s₁.heap.Ns mainGlobals mg) (hb : s₁.heap.Ns builtinsNs mb) (hbb : ∀ x : Str, x ≠ "__name__" → mb x = bootBuiltins x) (hlim : s₁.heap.NoLimit) (hg : s₁.gens = #[])
    (ha : s₁.heap.get? a = some { cls := .type "list", data := .seq vs.toArray }) (F : ∀ base : Heap, K.In base → base.Ns mainGlobals mg → FnC P w K mg base f fd [x] sp) (hbind : ∀ (s : Shared) (u : Value), BindsTo s fd ⟨[u], []⟩ [(x, u)])
    (hsp : sp [.ref a] H (fun v _ => v = .bl true) fun _ _ _ => False) :
    codeAny (model P w) callerA (.call (.ref f) ⟨[.ref a], []⟩) (fun r s' => r = .ok (.ret (.bool true)) ∧ OldK s₁.heap s'.heap ∧ s'.os = s₁.os ∧ AllBare s'.gens) s₁ := by
  have away : ∀ {b : Addr} {o : Obj}, s₁.heap.get? b = some o → b ≠ a → (hidT s₁.heap H).get? b = some o := fun {b o} e ne => hidT_get e (by
    cases q : H b with
    | none => rfl
    | some u => exact absurd (hA b (by rw [q]; exact fun z => nomatch z)) ne)
  have nsB : ∀ {b : Addr} {m : Str → Option Value}, s₁.heap.Ns b m → (hidT s₁.heap H).Ns b m := fun {b m} ⟨o, es, ep, e, d, r⟩ => ⟨o, es, ep, away e (fun z => by
    subst z
    rw [ha] at e
    cases e
    have d' : Data.seq vs.toArray _ = Data.dict es ep := d
    cases d'), d, r⟩
  have inB : K.In (hidT s₁.heap H) := fun b o e => by
    by_cases z : b = a
    · subst z
      refine hidT_get (KX _ _ e) ?_
      cases q : H b with
      | none => rfl
      | some u =>
        have l := hK (by rw [q]; exact fun z => nomatch z)
        rw [l] at e
        cases e
    · exact away (KX b o e) z
  obtain ⟨mc, lim1, lim2⟩ := hlim
  have e0 : Env0 P w K mg (hidT s₁.heap H) callerA [] s₁ H :=
    { frames := rfl, mod := ⟨inB, nsB hns, ⟨mb, nsB hb, hbb⟩, ⟨mc, nsB lim1, lim2⟩⟩, bs := fun b o e => of_hidT e, bsz := Nat.le_of_eq (hidT_size _ _), funs := trivial, frf := fun b z => (nomatch z), hok := hok, bare := .of_eq hg }
  refine codeAny_mono ((F _ inB (nsB hns)).run s₁ H ⟨[.ref a], []⟩ [.ref a] [.ref a] _ _ e0 (hbind s₁ (.ref a)) (.cons rfl .nil) hsp) fun res s2 h => ?_
  cases res with
  | error e =>
    obtain ⟨_, _, _, _, _, _, _, _, _, _, _, _, z⟩ := h
    exact z.elim
  | ok fl =>
    cases fl with
    | next => exact False.elim h
    | brk => exact False.elim h
    | cont => exact False.elim h
    | ret u =>
      obtain ⟨v, H', hos, hbare, un, hok', rv, ev⟩ := h
      have ev' : v = .bl true := ev
      subst ev'
      have eu : u = Value.bool true := rv
      subst eu
      refine ⟨rfl, OldK.of_keep fun b o e => ?_, hos, hbare⟩
      rcases hO b with z | ⟨ob, xs, z⟩
      · exact un.keep b o e z (fun y => nomatch y) (fun y => nomatch y)
      · obtain ⟨e1, _⟩ := hok b _ z
        obtain ⟨e2, _⟩ := hok' b _ (un.frzs b ob _ z)
        rw [e1] at e
        cases e
        exact e2
theorem law_end (KX : K.In s₁.heap) (hns : s₁.heap.Ns mainGlobals mg) (hb : s₁.heap.Ns builtinsNs mb) (hbb : ∀ x : Str, x ≠ "__name__" → mb x = bootBuiltins x) (hlim : s₁.heap.NoLimit) (hg : s₁.gens = #[])
    (ha : s₁.heap.get? a = some { cls := .type "list", data := .seq vs.toArray }) (hi : IntsAre vs ns) (hl : ns.length ≤ sizeLine) (F : ∀ base : Heap, K.In base → base.Ns mainGlobals mg → FnC P w K mg base f fd [x] sp)
    (hbind : ∀ (s : Shared) (u : Value), BindsTo s fd ⟨[u], []⟩ [(x, u)]) (hsp : ∀ H : Hp, Only H → SqL K H a (ns.map V.int) → sp [.ref a] H (fun v _ => v = .bl true) fun _ _ _ => False) :
    codeAny (model P w) callerA (.call (.ref f) ⟨[.ref a], []⟩) (fun r s' => r = .ok (.ret (.bool true)) ∧ OldK s₁.heap s'.heap ∧ s'.os = s₁.os ∧ AllBare s'.gens) s₁ := by
  have rv := vals_ints hi
  have lenV := hi.length
  cases hk : K.lookup a with
  | some o =>
    have e := KX a o hk
    rw [ha] at e
    cases e
    have hO : Only (fun _ => none) := fun _ => .inl rfl
    have hS : SqL K (fun _ => none) a (ns.map V.int) := .inr ⟨_, vs.toArray, _, hk, rfl, rfl, rfl, by rw [List.size_toArray, lenV]; exact hl, by simpa using rv⟩
    exact law_core hO hS (fun b u z => nomatch z) (fun b z => absurd rfl z) (fun z => absurd rfl z) KX hns hb hbb hlim hg ha F hbind (hsp _ hO hS)
  | none =>
    have hin : ∀ b u, upd (fun _ => none) a (.frz { cls := .type "list", data := .seq vs.toArray } (.lst (ns.map V.int))) b = some u → b = a ∧ u = .frz { cls := .type "list", data := .seq vs.toArray } (.lst (ns.map V.int)) := fun b u z => by
      by_cases y : b = a
      · subst y
        rw [upd_same] at z
        exact ⟨rfl, (Option.some.inj z).symm⟩
      · rw [upd_ne y] at z
        cases z
    have hO : Only (upd (fun _ => none) a (.frz { cls := .type "list", data := .seq vs.toArray } (.lst (ns.map V.int)))) := fun b => by
      by_cases y : b = a
      · subst y
        exact .inr ⟨_, _, upd_same⟩
      · exact .inl (upd_ne y)
    have hS : SqL K (upd (fun _ => none) a (.frz { cls := .type "list", data := .seq vs.toArray } (.lst (ns.map V.int)))) a (ns.map V.int) := .inl (.inr ⟨_, upd_same⟩)
    refine law_core hO hS (fun b u z => ?_) (fun b z => ?_) (fun _ => hk) KX hns hb hbb hlim hg ha F hbind (hsp _ hO hS)
    · obtain ⟨e1, e2⟩ := hin b u z
      subst e1 e2
      exact ⟨ha, by rw [List.length_map]; exact hl, vs, _, rv, ha⟩
    · cases q : upd (fun _ => none) a (.frz { cls := .type "list", data := .seq vs.toArray } (.lst (ns.map V.int))) b with
      | none => exact absurd q z
      | some u => exact (hin b u q).1
end
/-- the goal that k_head leaves -/
theorem walkC {l : PySem.W.OpenLaw} {n : Nat} {q : Program} {loose : List Str} {XP : (Str → Option Value) → Heap → Prop} {YP : World → Heap → Prop} {d : DefRec} {K : Params → Frag} {sp : World → Sp} {x : Str}
    (hn : l.most = some n) (hn2 : n ≤ sizeLine) (hdf : d.params.defaults = []) (hY : ∀ (w : World) (h : Heap), YP w h → (K w.params).In h)
    (F : ∀ (w : World) (mg : Str → Option Value) (fa : Addr) (h : Heap), (K w.params).In h → h.Ns mainGlobals mg → mg d.name = some (.ref fa) →
      ∃ fd : FuncData, (∀ (s : Shared) (u : Value), BindsTo s fd ⟨[u], []⟩ [(x, u)]) ∧ ∀ base : Heap, (K w.params).In base → base.Ns mainGlobals mg → FnC l.prog w (K w.params) mg base fa fd [x] (sp w))
    (hsp : ∀ (w : World) (H : Hp) (a : Addr) (ns : List Int), ns.length ≤ n → Only H → SqL (K w.params) H a (ns.map V.int) → sp w [.ref a] H (fun v _ => v = .bl true) fun _ _ _ => False) :
    PySem.W.WalkO q loose XP YP l.row.toRowW d [] (fun f vs => PySem.call f vs) := by
  refine Att.attach_call hn hdf fun w s₀ s₁ mg mb fa o pm cd doc a vs ns G Y ho hd hcd hmg hobj hints hlen hg => ?_
  have KX := hY w _ Y
  obtain ⟨fd, hb, hF⟩ := F w mg fa _ KX G.T.g hmg
  exact law_end KX G.T.g G.T.b G.T.builtins G.T.nolimit hg hobj hints (Nat.le_trans hlen hn2) hF hb fun H hO hS => hsp w H a ns hlen hO hS
end Pd
set_option Elab.async false
set_option linter.all false
set_option maxRecDepth 100000
set_option maxHeartbeats 1000000
namespace Pd
open PySem PySem.Spec PyProof.Rows L2
def spLaw (K : Frag) : Sp := fun vs H Q _ => ∃ (a : Addr) (ns : List Int), vs = [.ref a] ∧ ns.length ≤ 63 ∧ SqL K H a (ns.map V.int) ∧ ∀ H', Q (.bl true) H'
section
variable {P : Program} {w : World} {K : Frag} {mg mb : Str → Option Value} {base : Heap} {N : List Str} {x qual : Str} {st : Stmt} {f a : Addr} {fd : FuncData} {ea : Str → Addr}
abbrev lawX (P : Program) (w : World) (K : Frag) (mg : Str → Option Value) (base : Heap) (N : List Str) (qual : Str) (st : Stmt) (f : Addr) (cdv : Value) (s : Shared) (H : Hp) (E : XK) : Cx := cxOf (L2N.CX P w) P w K mg base N qual (defScope st) f cdv callerA [] s H E
theorem scr_start {H : Hp} {ns : List Int} (h : SqL K H a (ns.map V.int)) (m : Nat) : ∃ F, St K (fun _ => none) F (L2.start N [.ref a]) H (.scr ns :: List.replicate m .un) ∨ N.length < m + 1 := by
  by_cases hn : N.length < m + 1
  · exact ⟨fun _ => none, .inr hn⟩
  refine ⟨fun b => if b = a then H b else none, .inl ?_⟩
  have e : (fun b => if b = a then H b else none : Hp) a = H a := if_pos rfl
  have hF : SqL K (fun b => if b = a then H b else none) a (ns.map V.int) := by
    rcases h with h | h
    · rcases h with h | ⟨o, h⟩
      · exact .inl (.inl (e.trans h))
      · exact .inl (.inr ⟨o, e.trans h⟩)
    · exact .inr h
  have ow : ∀ i, (ge (.scr ns :: List.replicate m .un) i).own = false := fun i => by
    cases i with
    | zero => rfl
    | succ i =>
      have q : ge (Sl.scr ns :: List.replicate m .un) (i + 1) = ge (List.replicate m .un) i := rfl
      rw [q]
      unfold ge
      rw [List.getD_eq_getElem?_getD, List.getElem?_replicate]
      split <;> rfl
  refine ⟨fun a o z => (by cases z), fun b o z => ?_, ?_, fun i => ?_, fun i j b _ hi _ => ?_⟩
  · by_cases y : b = a
    · have z' : H b = some o := (if_pos y).symm.trans z
      exact z'
    · have z' : (none : Option HO) = some o := (if_neg y).symm.trans z
      cases z'
  · unfold L2.start
    rw [List.length_cons, List.length_replicate, List.length_append, List.length_map, List.length_replicate, List.length_singleton]
    omega
  · cases i with
    | zero => exact ⟨a, rfl, hF⟩
    | succ i =>
      have q : ge (Sl.scr ns :: List.replicate m .un) (i + 1) = ge (List.replicate m .un) i := rfl
      rw [q]
      have q2 : ge (List.replicate m .un) i = .un := by
        unfold ge
        rw [List.getD_eq_getElem?_getD, List.getElem?_replicate]
        split <;> rfl
      rw [q2]
      trivial
  · rw [ow i] at hi
    cases hi
/-- THE RULE for the law's def -/
theorem lawD (Fn : Fun K x qual st f fd) (Sc : FnScope N ["script"] (defScope st)) (hN : N.length = m + 1)
    (body : ∀ (cdv : Value) (s : Shared) (H : Hp) (E : XK), Room 40 (lawX P w K mg base N qual st f cdv s H E).A → L2N.Takes (lawX P w K mg base N qual st f cdv s H E) (fun cls d _ H => E cls d H) → PassesOwn (model P w) (lawX P w K mg base N qual st f cdv s H E).A (lawX P w K mg base N qual st f cdv s H E).env (lawX P w K mg base N qual st f cdv s H E).xe →
      (lawX P w K mg base N qual st f cdv s H E).A.guards = some [] → ∀ ns : List Int, ns.length ≤ 63 → ES (lawX P w K mg base N qual st f cdv s H E) ea (fun cls d _ H => E cls d H) (defBody st) (.scr ns :: List.replicate m .un) (fun o => ∃ e, o = .rt (.val (.bool true)) e)) :
    FnC P w K mg base f fd ["script"] (spLaw K) := by
  refine fnC Fn Sc (fun vs H Q E ⟨a, ns, e, _⟩ => by subst e; rfl) fun cdv s H vs Q E ⟨a, ns, e, hl, hs, q⟩ => ?_
  subst e
  have r41 : Room 41 callerA := ⟨rfl, by decide, by decide⟩
  have b := body cdv s H E (r41.deeper _) (L2N.takes_of rfl rfl rfl rfl) (passes_of rfl) rfl ns hl
  obtain ⟨F, S | z⟩ := scr_start (N := N) hs m
  · refine ⟨_, b, fun _ => none, F, S, fun o ⟨e, eo⟩ F' x => ?_⟩
    subst eo
    exact fun v σ' H' S' => by
      obtain ⟨v', ev, r⟩ := S'.sl 0
      have ev' : some v = some v' := ev
      cases ev'
      rw [r.bool_iff]
      exact q H'
  · omega
end
/-! ### index, count -/
section
variable {X : Cx} {env env1 env2 : Ev} {e o : Expr} {R Ro : Rs} {d : D} {pos p apos cpos : Pos} {k : Bool} {ds : List D} {i j : Nat} {pin : Option Addr}
theorem ev_indexD {z : D} (hu : X.A.units + 65 < cLine) (ho : EV X o env (.ptr i) env) (g : ge env i = .lst pin ds) (h : EV X e env (.val d) env) (hds : SeqAt.shaped (.list ds) = true) (hd : SeqAt.shaped d = true) (hj : ds[j]? = some z) (hz : PyData.eqv z d = true) (hno : ∀ (m : Nat) (z' : D), m < j → ds[m]? = some z' → PyData.eqv z' d = false)
    (hbase : attributeBase o "index" X.env (eval o X.env) = eval o X.env := by rfl)
    (hfew : ((backTo cpos (starEach (e :: []) X.env)).all (fun x => !x.1) && (backToKw cpos (keywordEach [] X.env)).all (fun x => x.1.isSome) && decide ((e :: []).length + ([] : List Keyword).length + (if ([] : List Keyword).isEmpty then 0 else 1) < 30)) = true := by rfl)
    (hline : (apos.endLine == cpos.line) = true := by rfl) (hs : starEach (e :: []) X.env = (false, eval e X.env) :: starEach [] X.env := by rfl) (hplain : (backTo cpos (starEach [] X.env)).any (·.1) = false := by rfl) :
    EV X (.Call (.Attribute o "index" apos) [e] [] cpos) env (.val (.int (j : Nat))) env :=
  PE.wk (pe_bm PySem.F.plainAttrs_list PySem.F.slot_list_index PySem.F.type_list_index (mt_indexD hu) ho (pa_cons h pa_nil hs) hbase hfew hline hs hplain) fun σ H Q ⟨G, F, S, q⟩ => ⟨G, F, S, fun F1 v H1 x1 r1 => by
    obtain ⟨e1, S1⟩ := r1
    refine ⟨ptr_ty S1 g e1, G, F1, S1, fun F2 u H2 x2 r2 => ?_⟩
    obtain ⟨p, vs, e2, _, hp, z0, r, f, g'⟩ := r2.2.lstS g
    rw [e1] at e2
    cases e2
    exact ⟨p, u, d, ds, j, z, rfl, rfl, .lst (.of hp) (r.dp r2.2.kf), r2.1.dp r2.2.kf, hds, hd, hj, hz, hno, q F2 _ H2 (x1.trans x2) ⟨.int _, r2.2⟩⟩⟩
theorem ev_countB {bs : List Bool} (ho : EV X o env (.ptr i) env) (g : ge env i = .lst pin (bs.map .bool)) (h : EV X e env (.val (.bool k)) env)
    (hbase : attributeBase o "count" X.env (eval o X.env) = eval o X.env := by rfl)
    (hfew : ((backTo cpos (starEach (e :: []) X.env)).all (fun x => !x.1) && (backToKw cpos (keywordEach [] X.env)).all (fun x => x.1.isSome) && decide ((e :: []).length + ([] : List Keyword).length + (if ([] : List Keyword).isEmpty then 0 else 1) < 30)) = true := by rfl)
    (hline : (apos.endLine == cpos.line) = true := by rfl) (hs : starEach (e :: []) X.env = (false, eval e X.env) :: starEach [] X.env := by rfl) (hplain : (backTo cpos (starEach [] X.env)).any (·.1) = false := by rfl) :
    EV X (.Call (.Attribute o "count" apos) [e] [] cpos) env (.val (.int (bs.count k : Nat))) env :=
  PE.wk (pe_bm PySem.F.plainAttrs_list PySem.F.slot_list_count PySem.F.type_list_count mt_countB ho (pa_cons h pa_nil hs) hbase hfew hline hs hplain) fun σ H Q ⟨G, F, S, q⟩ => ⟨G, F, S, fun F1 v H1 x1 r1 => by
    obtain ⟨e1, S1⟩ := r1
    refine ⟨ptr_ty S1 g e1, G, F1, S1, fun F2 u H2 x2 r2 => ?_⟩
    obtain ⟨p, vs, e2, _, hp, z0, r, f, g'⟩ := r2.2.lstS g
    rw [e1] at e2
    cases e2
    have er := r.bools
    rw [er] at hp
    exact ⟨p, bs, k, rfl, by rw [r2.1.bool_iff], .of hp, q F2 _ H2 (x1.trans x2) ⟨.int _, r2.2⟩⟩⟩
end
end Pd
set_option Elab.async false
set_option linter.all false
set_option maxRecDepth 100000
set_option maxHeartbeats 1000000
namespace Pd
open PySem PySem.Spec PyProof.Rows L2
/-! ### own errors -/
def veChain : List Value := [.type "ValueError", .type "Exception", .type "BaseException", .type "object"]
structure ErrC (K : Frag) (mg : Str → Option Value) (ea : Str → Addr) (x : Str) : Prop where
  q : PySem.W.excIn K (ea x) veChain "ValueError.__new__" = true
  gC : mg x = some (.ref (ea x))
  kC : PySem.W.keepIn K (.ref (ea x)) = true
  exC : PySem.W.subIn K (.ref (ea x)) (.type "BaseException") = some true
  tyC : PySem.W.typeIn K (.ref (ea x)) = some (.type "type")
def eaOf (mg : Str → Option Value) (x : Str) : Addr := match mg x with
  | some (.ref a) => a
  | _ => 0
theorem eaOf_is {mg : Str → Option Value} {x : Str} {a : Addr} (h : mg x = some (.ref a)) : eaOf mg x = a := by
  unfold eaOf
  rw [h]
section
variable {X : Cx} {ea : Str → Addr} {W : WX} {rest : List Stmt} {env : Ev} {Post : Out → Prop} {pos : Pos}
theorem es_raiseE {x : Str} {p : Pos} {m : Str} {j : Nat} {p2 cp : Pos} (E : ErrC X.K X.mg ea x) (tk : L2N.Takes X W) (hc : X.calm = true) (k : Post (.ex x env)) (hg : Gl X x := by rfl) (hdb : (x == ("__debug__" : Str)) = false := by decide) :
    ES X ea W (.Raise (some (.Call (.Name x p) [.Constant (.str m) j p2] [] cp)) none pos :: rest) env Post :=
  es_raise tk hc PySem.F.excBase_ValueError E.q E.gC E.kC (raises_own E.exC E.tyC) k hg hdb
end
theorem wb_vals {env : Ev} {rs : List Rs} {ss : List Sl} (h : ptrs rs = []) : wb env rs ss = env := by
  have hn : ∀ i, rs.findIdx? (isPtr i) = none := fun i => by
    cases e : rs.findIdx? (isPtr i) with
    | none => rfl
    | some k =>
      have q := mem_ptrs (find_ptr e)
      rw [h] at q
      exact nomatch q
  unfold wb
  apply List.ext_getElem?
  intro i
  by_cases hi : i < env.length
  · rw [List.getElem?_map, List.getElem?_range hi, List.getElem?_eq_getElem hi]
    show some (match rs.findIdx? (isPtr i) with | some k => _ | none => _) = _
    rw [hn i]
    show some (ge env i) = _
    unfold ge
    rw [List.getD_eq_getElem?_getD, List.getElem?_eq_getElem hi]
    rfl
  · rw [List.getElem?_eq_none_iff.mpr (by rw [List.length_map, List.length_range]; omega), List.getElem?_eq_none_iff.mpr (by omega)]
theorem pins1 {pins : List Addr} {a : Sl} (h : pins.length = [a].length) : ∃ p, pins = [p] := match pins, h with
  | [p], _ => ⟨p, rfl⟩
theorem pins2 {pins : List Addr} {a b : Sl} (h : pins.length = [a, b].length) : ∃ p q, pins = [p, q] := match pins, h with
  | [p, q], _ => ⟨p, q, rfl⟩
theorem pins3 {pins : List Addr} {a b c : Sl} (h : pins.length = [a, b, c].length) : ∃ p q r, pins = [p, q, r] := match pins, h with
  | [p, q, r], _ => ⟨p, q, r, rfl⟩
theorem pins4 {pins : List Addr} {a b c d : Sl} (h : pins.length = [a, b, c, d].length) : ∃ p q r t, pins = [p, q, r, t] := match pins, h with
  | [p, q, r, t], _ => ⟨p, q, r, t, rfl⟩
end Pd
set_option Elab.async false
set_option linter.all false
set_option maxRecDepth 100000
set_option maxHeartbeats 1000000
namespace Pd
open PySem PySem.Spec PyProof.Rows L2
def isUn : Sl → Bool
  | .un => true
  | _ => false
theorem isUn_eq {s : Sl} (h : isUn s = true) : s = .un := by
  cases s <;> first | rfl | cases h
section
variable {X : Cx} {env env1 : Ev} {tg iter elt : Expr} {ifs : List Expr} {pos : Pos} {scope : Scope}
/-- a comprehension whose turns change the state mk s -/
theorem lcs_st {α S : Type} {xs : List α} {g : α → D} {R : α → S → Rs} {pt : α → S → Bool × S} {ef : α → S → D × S} (own : List (Str × Nat)) (t : Tgt) (mk : S → Ev) (s0 : S) (J : S → Prop) (hc : X.calm = true) (hN : X.N.Nodup) (hi : EI X tg iter env (xs.map g) env1) (h0 : env1 = mk s0) (ok : BlkOk X.N X.env.scope scope own)
    (hg : ∀ sh H C cl fp, PG (blkC' X scope sh H C cl fp) tg (t.g X.K)) (hz : xs.length ≤ sizeLine) (j0 : J s0)
    (ht : ∀ a s, a ∈ xs → J s → ∀ sh H C cl fp, PTs (blkC' X scope sh H C cl fp) ifs (tTt X.K (t.bind (mk s) (g a)) (pt a s).1 (t.bind (mk (pt a s).2) (g a))))
    (he : ∀ a s, a ∈ xs → J s → (pt a s).1 = true → ∀ sh H C cl fp, EV (blkC' X scope sh H C cl fp) elt (t.bind (mk (pt a s).2) (g a)) (R a (pt a s).2) (t.bind (mk (ef a (pt a s).2).2) (g a))) (hf : ∀ a s, Pd.fz (R a s) = .val (ef a s).1)
    (hj : ∀ a s, a ∈ xs → J s → J (pt a s).2 ∧ J (ef a (pt a s).2).2) (hok : ∀ s a, t.okB (mk s).length (g a) = true) (hl : ∀ s s', (mk s).length = (mk s').length) (hun : ∀ s, (own.all fun q => isUn (ge (mk s) q.2)) = true) (hts : (t.slots.all fun i => (own.map (·.2)).elem i) = true := by rfl) :
    LcS X env tg iter elt ifs scope own t xs g mk s0 (fun _ s => J s) pt ef env1 (mk (lcA pt ef xs s0).2) := by
  have un : ∀ s, ∀ i ∈ own.map (·.2), ge (mk s) i = .un := fun s i hi => by
    obtain ⟨q, hq, rfl⟩ := List.mem_map.mp hi
    exact isUn_eq (List.all_eq_true.mp (hun s) q hq)
  subst h0
  exact
    { hc := hc, hN := hN, hi := hi, ok := ok, hg := hg,
      h0 := by
        have e : ∀ i, ge (wipeE (own.map (·.2)) 0 (mk s0)) i = ge (mk s0) i := fun i => by
          rw [ge_wipeE, Nat.zero_add]
          by_cases m : i ∈ own.map (·.2)
          · rw [if_pos m, un s0 i m]
          · rw [if_neg m]
        apply List.ext_getElem?
        intro i
        by_cases hi : i < (mk s0).length
        · have q := e i
          unfold ge at q
          rw [List.getD_eq_getElem?_getD, List.getD_eq_getElem?_getD, List.getElem?_eq_getElem hi, List.getElem?_eq_getElem (by rw [wipeE_len]; exact hi)] at q
          rw [List.getElem?_eq_getElem hi, List.getElem?_eq_getElem (by rw [wipeE_len]; exact hi)]
          exact congrArg some q
        · rw [getElem?_of_le (by rw [wipeE_len]; omega), getElem?_of_le (by omega)],
      j0 := j0, hts := hts_of hts, hun := un, hz := hz, hok := fun s a _ => Tgt.ok_of (hok s a), ht := fun i a s ha j => ht a s (List.mem_of_getElem? ha) j,
      he := fun i a s ha j hp => ⟨_, he a s (List.mem_of_getElem? ha) j hp, hf a _⟩,
      hj := fun i a s ha j => by
        obtain ⟨h1, h2⟩ := hj a s (List.mem_of_getElem? ha) j
        split
        · exact h2
        · exact h1,
      hE := fun i => by
        by_cases m : i ∈ own.map (·.2)
        · rw [if_pos m, un _ i m, un _ i m]
        · rw [if_neg m],
      hno := fun i m => by rw [un _ i m]; rfl, hlen := Nat.le_of_eq (hl _ _) }
theorem ev_lcD {α S : Type} {xs : List α} {g : α → D} {R : α → S → Rs} {pt : α → S → Bool × S} {ef : α → S → D × S} (own : List (Str × Nat)) (t : Tgt) (mk : S → Ev) (s0 : S) (J : S → Prop) (hc : X.calm = true) (hN : X.N.Nodup) (hi : EI X tg iter env (xs.map g) env1) (h0 : env1 = mk s0) (ok : BlkOk X.N X.env.scope scope own)
    (hg : ∀ sh H C cl fp, PG (blkC' X scope sh H C cl fp) tg (t.g X.K)) (hz : xs.length ≤ sizeLine) (j0 : J s0)
    (ht : ∀ a s, a ∈ xs → J s → ∀ sh H C cl fp, PTs (blkC' X scope sh H C cl fp) ifs (tTt X.K (t.bind (mk s) (g a)) (pt a s).1 (t.bind (mk (pt a s).2) (g a))))
    (he : ∀ a s, a ∈ xs → J s → (pt a s).1 = true → ∀ sh H C cl fp, EV (blkC' X scope sh H C cl fp) elt (t.bind (mk (pt a s).2) (g a)) (R a (pt a s).2) (t.bind (mk (ef a (pt a s).2).2) (g a))) (hf : ∀ a s, Pd.fz (R a s) = .val (ef a s).1)
    (hj : ∀ a s, a ∈ xs → J s → J (pt a s).2 ∧ J (ef a (pt a s).2).2) (hok : ∀ s a, t.okB (mk s).length (g a) = true) (hl : ∀ s s', (mk s).length = (mk s').length) (hun : ∀ s, (own.all fun q => isUn (ge (mk s) q.2)) = true) (hts : (t.slots.all fun i => (own.map (·.2)).elem i) = true := by rfl)
    (hs : ∀ x, foldedSetIterable iter X.env x = pure x := by intro _; rfl) : EV X (.ListComp elt [⟨tg, iter, ifs, 0⟩] scope pos) env (.new (.lst none (lcA pt ef xs s0).1)) (mk (lcA pt ef xs s0).2) :=
  ev_lcS (lcs_st own t mk s0 J hc hN hi h0 ok hg hz j0 ht he hf hj hok hl hun hts) hs
end
end Pd
set_option Elab.async false
set_option linter.all false
set_option maxRecDepth 100000
set_option maxHeartbeats 1000000
namespace Pd
open PySem PySem.Spec PyProof.Rows L2
section
variable {X : Cx} {env env1 : Ev} {e : Expr} {p pos np : Pos} {x : Str} {a D cB : Addr} {oe : Obj} {b : Bool}
theorem ars2 {K : Frag} {F : Hp} {σ : L2.St} {a b : Addr} : ∀ {vs : List V}, ARs K F σ vs [.obj a, .obj b] → vs = [.ref a, .ref b]
  | [u, v], ⟨h1, h2, _⟩ => by rw [h1, h2]
  | [], h => by cases h
  | [_], h => by cases h.2
  | _ :: _ :: _ :: _, h => by cases h.2.2
theorem ev_isH (B : Blt X.mg) (C : ExcC X.K D) (hz : Zc (.ref D) none oe) (hf : ∃ vs, oe.data = .fields vs) (hp : (a, oe) ∈ X.pn) (h : EV X e env (.obj a) env) (hm : X.mg x = some (.ref cB)) (k : PySem.W.kitOne X.K (.ref D) (.ref cB) = some b) (hg : Gl X "isinstance" := by rfl) (hgx : Gl X x := by rfl) (hdx : (x == ("__debug__" : Str)) = false := by decide)
    (hs : starEach (e :: [.Name x np]) X.env = (false, eval e X.env) :: starEach [.Name x np] X.env := by rfl) (hs2 : starEach (.Name x np :: []) X.env = (false, eval (.Name x np) X.env) :: starEach [] X.env := by rfl) (hpl : (backTo pos (starEach [.Name x np] X.env)).any (·.1) = false := by rfl) :
    EV X (.Call (.Name "isinstance" p) [e, .Name x np] [] pos) env (.val (.bool b)) env :=
  PE.wk (pe_callB (call_isH C hz hf hp) hg B.isinstance_ bt_isinstance (ea_cons h (ea_cons (ev_cls hm hgx hdx) ea_nil rfl hs2) rfl hs) (by decide) (by decide) hs hpl) fun σ H Q ⟨G, F, S, q⟩ => ⟨G, F, S, fun F1 vs H1 x1 r1 S1 => ⟨.ref cB, .ref cB, b, ars2 r1, fun u r => r, k, q F1 _ H1 x1 ⟨.bl b, S1⟩⟩⟩
end
structure ErrK (K : Frag) (ea : Str → Addr) (c : Str) (ns : List (Str × Bool)) : Prop where
  ex : ExcC K (ea c)
  kit : ∀ q ∈ ns, PySem.W.kitOne K (.ref (ea c)) (.ref (ea q.1)) = some q.2
  exm : PySem.W.exmOne K (.ref (ea c)) (.ref (ea "BeatError")) = some true
  bt : PySem.W.kitOne K (.ref (ea c)) (.ref (ea "BeatError")) = some true
section
variable {P : Program} {w : World} {K : Frag} {mg : Str → Option Value} {base : Heap} {N ps : List Str} {x qual : Str} {st : Stmt} {f : Addr} {fd : FuncData} {ea : Str → Addr}
/-- THE RULE for a def that is handed the error that is held -/
theorem fnPD {k : Nat} {S : Addr × Obj → FS} (Fn : Fun K x qual st f fd) (Sc : FnScope N ps (defScope st)) (hl : ∀ p ss o, S p ss o → ss.length = ps.length)
    (body : ∀ (cdv : Value) (A : Around) (outer : List Env) (s : Shared) (H : Hp) (E : XK) (p : Addr × Obj), L2H.Hot1 A p → L2H.RoomH k (cxAt P w K mg base N qual st f cdv A outer s H E false [p]).A → ∀ (pins : List Addr) (ss : List Sl) (o : FOut), S p ss o → pins.length = ss.length →
      ES (cxAt P w K mg base N qual st f cdv A outer s H E false [p]) ea (fun cls d _ H => E cls d H) (defBody st) (pinE pins ss ++ List.replicate (N.length - ps.length) .un) (finP pins ss o)) : FnP P w K mg base (k + 1) f fd ps (fun p => spD K ea (S p)) := by
  have hn : ps.length ≤ N.length := by
    have := congrArg List.length Sc.pre
    rw [List.length_take] at this
    omega
  refine fnP Fn Sc (fun p vs H Q E ⟨G, F, ss, o, hS, len, _⟩ => len.symm.trans (hl p ss o hS)) fun cdv A outer s H vs Q E p hot hr h => ?_
  exact body_go (N := N) rfl (hl p) hn (body cdv A outer s H E p hot hr) h
end
/-- such a def, called with the error -/
theorem ev_callP {X : Cx} {ea : Str → Addr} {env env1 : Ev} {e : Expr} {cp pos : Pos} {k : Nat} {f : Addr} {fd : FuncData} {ps : List Str} {S : Addr × Obj → FS} {fn : Str} {r : Sl} {ss : List Sl} {rs : List Rs} {p : Addr × Obj} (F : FnP X.prog X.w X.K X.mg X.base k f fd ps (fun p => spD X.K ea (S p))) (hr : L2H.RoomH k X.A) (hot : L2H.Hot1 X.A p) (hp : p ∈ X.pn) (hm : X.mg fn = some (.ref f)) (hk : PySem.W.keepIn X.K (.ref f) = true) (hb : Binds X.K fd ps [])
    (ha : EA X [e] env rs env1) (hS : S p (rs.map (toS env1)) (.rt r ss)) (nd : ndL (ptrs rs) = true := by rfl) (hg : Gl X fn := by rfl) (hdb : (fn == ("__debug__" : Str)) = false := by decide) (he : starEach (e :: []) X.env = (false, eval e X.env) :: starEach [] X.env := by rfl) (hpl : (backTo pos (starEach [] X.env)).any (·.1) = false := by rfl) :
    EV X (.Call (.Name fn cp) [e] [] pos) env (resR r) (wb env1 rs ss) := by
  refine PE.wk (pe_callP F hr hot hp hg hm hk hb ha hdb he hpl) fun σ H Q ⟨G, F, S, q⟩ => ⟨G, F, S, fun F1 vs H1 x1 r1 S1 => ?_⟩
  refine ⟨gOf σ env1 rs H1, F1, rs.map (toS env1), .rt r ss, hS, by rw [List.length_map, r1.length], S1.callee r1 (ndL_ok nd), fun F' v H' x' S' => ?_⟩
  exact q F' v H' (x1.trans (Ext.back S1 x')) (RR.back S1 r1 (ndL_ok nd) x' S')
end Pd
set_option Elab.async false
set_option linter.all false
set_option maxRecDepth 100000
set_option maxHeartbeats 1000000
namespace Pd
open PySem PySem.Spec PyProof.Rows L2
section
variable {K : Frag} {X : Cx} {env env1 env2 : Ev} {a b c : Expr} {Ra Rb : Rs} {pos : Pos} {x y : Str} {k1 k2 : Bool} {rest : List Expr}
theorem opd_neS : OpD K rNe (.str x) (.str y) (.val (.bool (!decide (x = y)))) :=
  opd_flat (fun _ => .bl _) fun F H v u Q l hv hu q => by
    rw [hv.str, hu.str]
    refine ⟨rfl, ?_⟩
    have e : decide (V.str x = V.str y) = decide (x = y) := by
      rw [Bool.eq_iff_iff, decide_eq_true_iff, decide_eq_true_iff]
      exact ⟨V.str.inj, congrArg _⟩
    rw [e]
    exact q
theorem opd_eqS : OpD K rEq (.str x) (.str y) (.val (.bool (decide (x = y)))) :=
  opd_flat (fun _ => .bl _) fun F H v u Q l hv hu q => by
    rw [hv.str, hu.str]
    refine ⟨rfl, ?_⟩
    have e : decide (V.str x = V.str y) = decide (x = y) := by
      rw [Bool.eq_iff_iff, decide_eq_true_iff, decide_eq_true_iff]
      exact ⟨V.str.inj, congrArg _⟩
    rw [e]
    exact q
theorem et_neS (h : EV X a env Ra env1) (h2 : EV X b env1 Rb env2) (wx : vw (Pd.fz Ra) env2 = some (.str x)) (wy : vw (Pd.fz Rb) env2 = some (.str y)) (fl : (Pd.fz Ra).flat = true := by rfl) : ET X (.Compare a [.NotEq] [b] pos) env (!decide (x = y)) env2 := et_cmp op_ne h h2 opd_neS wx wy (nobehind _ (by decide) (by decide)) fl
theorem et_eqS (h : EV X a env Ra env1) (h2 : EV X b env1 Rb env2) (wx : vw (Pd.fz Ra) env2 = some (.str x)) (wy : vw (Pd.fz Rb) env2 = some (.str y)) (fl : (Pd.fz Ra).flat = true := by rfl) : ET X (.Compare a [.Eq] [b] pos) env (decide (x = y)) env2 := et_cmp op_eq h h2 opd_eqS wx wy (nobehind _ (by decide) (by decide)) fl
/-- or whose first part is known to be false; and whose first part is known to be true -/
theorem ew_orF (h : ET X a env false env1) (h2 : EW X (.BoolOp .Or (b :: rest) pos) env1 k2 env2) : EW X (.BoolOp .Or (a :: b :: rest) pos) env k2 env2 :=
  PW.wk (pw_or h h2) fun σ H Q ⟨G, F, S, q⟩ => ⟨G, F, S, fun F1 H1 x1 S1 => iteF (⟨G, F1, S1, fun F2 H2 x2 S2 => q F2 H2 (x1.trans x2) S2⟩)⟩
theorem ew_andT (h : ET X a env true env1) (h2 : EW X (.BoolOp .And (b :: rest) pos) env1 k2 env2) : EW X (.BoolOp .And (a :: b :: rest) pos) env k2 env2 :=
  PW.wk (pw_and h h2) fun σ H Q ⟨G, F, S, q⟩ => ⟨G, F, S, fun F1 H1 x1 S1 => iteT (⟨G, F1, S1, fun F2 H2 x2 S2 => q F2 H2 (x1.trans x2) S2⟩)⟩
theorem ev_addI {i j : Int} (h : EV X a env Ra env1) (h2 : EV X b env1 Rb env2) (wx : vw (Pd.fz Ra) env2 = some (.int i)) (wy : vw (Pd.fz Rb) env2 = some (.int j)) (fl : (Pd.fz Ra).flat = true := by rfl) : EV X (.BinOp a .Add b pos) env (.val (.int (i + j))) env2 := ev_add (x := .int i) (y := .int j) h h2 wx wy trivial fl
/-- a call that is handed data alone -/
theorem ev_callV {ea : Str → Addr} {n : Nat} {fn : Str} {ps : List Str} {S : FS} {r : Sl} {ss : List Sl} {e : Expr} {es : List Expr} {rs : List Rs} {p : Pos} (F : FnI X.prog X.w X.K X.mg X.base ea n fn ps S) (hr : Room n X.A) (ha : EA X (e :: es) env rs env1) (hS : S (rs.map (toS env1)) (.rt r ss)) (nd : ptrs rs = [] := by rfl) (hg : Gl X fn := by rfl)
    (hdb : (fn == ("__debug__" : Str)) = false := by decide) (he : starEach (e :: es) X.env = (false, eval e X.env) :: starEach es X.env := by rfl) (hpl : (backTo pos (starEach es X.env)).any (·.1) = false := by rfl) :
    EV X (.Call (.Name fn p) (e :: es) [] pos) env (resR r) env1 := EV.is (ev_call F hr ha hS (by rw [nd]; rfl) hg hdb he hpl) rfl (wb_vals nd)
theorem ET.is (h : ET X a env k1 env1) (e : k1 = k2) : ET X a env k2 env1 := by
  subst e
  exact h
end
end Pd
set_option Elab.async false
set_option linter.all false
set_option maxRecDepth 100000
set_option maxHeartbeats 1000000
namespace Pd
open PySem PySem.Spec PyProof.Rows L2
/-! ### what the written part says -/
def FunAt (K : Frag) (x : Str) (st : Stmt) : Prop := ∃ (f : Addr) (oc : Value) (od : Option Addr) (kV doc pm : Value) (an : Option Addr) (cdv ct : Value) (osl : Array (Option Value)), PySem.W.nsIn K mainGlobals x = some (some (.ref f)) ∧
  K.lookup f = some ⟨oc, od, .func (PySem.W.fnOf x x (defArgs st) (defBody st) (defScope st) .none kV doc pm an cdv ct), osl⟩ ∧ PySem.W.codeIn K cdv x = true ∧ PySem.W.keepIn K (.ref f) = true
section
variable {K : Frag} {x : Str} {st : Stmt} {h : Heap} {mg : Str → Option Value} {ps : List Str} {f : Addr} {oc : Value} {od : Option Addr} {kV doc pm : Value} {an : Option Addr} {cdv ct : Value} {osl : Array (Option Value)}
theorem FunAt.mk (a : PySem.W.nsIn K mainGlobals x = some (some (.ref f))) (l : K.lookup f = some ⟨oc, od, .func (PySem.W.fnOf x x (defArgs st) (defBody st) (defScope st) .none kV doc pm an cdv ct), osl⟩) (c : PySem.W.codeIn K cdv x = true) (k : PySem.W.keepIn K (.ref f) = true) : FunAt K x st := ⟨_, _, _, _, _, _, _, _, _, _, a, l, c, k⟩
def BindsFn (x : Str) (st : Stmt) (ps : List Str) : Prop := ∀ (kV doc pm : Value) (an : Option Addr) (cdv ct : Value) (us : List Value), us.length = ps.length → bindArgs (PySem.W.fnOf x x (defArgs st) (defBody st) (defScope st) .none kV doc pm an cdv ct) ⟨us, []⟩ = pure (ps.zip us)
theorem FunAt.use (F : FunAt K x st) (X : K.In h) (G : h.Ns mainGlobals mg) (hb : BindsFn x st ps) : ∃ f fd, Fun K x x st f fd ∧ mg x = some (.ref f) ∧ PySem.W.keepIn K (.ref f) = true ∧ Binds K fd ps [] := by
  obtain ⟨f, oc, od, kV, doc, pm, an, cdv, ct, osl, a, l, c, k⟩ := F
  have F := fun_mk l c k
  exact ⟨f, _, F, PySem.W.mg_of X G a, k, F.binds hb⟩
theorem FunAt.useL {p : Str} (F : FunAt K x st) (X : K.In h) (G : h.Ns mainGlobals mg) (hb : BindsFn x st [p]) : ∃ f fd, Fun K x x st f fd ∧ mg x = some (.ref f) ∧ ∀ (s : Shared) (u : Value), BindsTo s fd ⟨[u], []⟩ [(p, u)] := by
  obtain ⟨f, oc, od, kV, doc, pm, an, cdv, ct, osl, a, l, c, k⟩ := F
  exact ⟨f, _, fun_mk l c k, PySem.W.mg_of X G a, fun s u => .of_eq (hb kV doc pm an cdv ct [u] rfl)⟩
structure BltAt (K : Frag) : Prop where
  int_ : PySem.W.nsIn K mainGlobals "int" = some none
  len_ : PySem.W.nsIn K mainGlobals "len" = some none
  range_ : PySem.W.nsIn K mainGlobals "range" = some none
  tuple_ : PySem.W.nsIn K mainGlobals "tuple" = some none
  sorted_ : PySem.W.nsIn K mainGlobals "sorted" = some none
  isinstance_ : PySem.W.nsIn K mainGlobals "isinstance" = some none
  all_ : PySem.W.nsIn K mainGlobals "all" = some none
  repr_ : PySem.W.nsIn K mainGlobals "repr" = some none
  enumerate_ : PySem.W.nsIn K mainGlobals "enumerate" = some none
  list_ : PySem.W.nsIn K mainGlobals "list" = some none
  any_ : PySem.W.nsIn K mainGlobals "any" = some none
  zip_ : PySem.W.nsIn K mainGlobals "zip" = some none
  dict_ : PySem.W.nsIn K mainGlobals "dict" = some none
  max_ : PySem.W.nsIn K mainGlobals "max" = some none
  min_ : PySem.W.nsIn K mainGlobals "min" = some none
  sum_ : PySem.W.nsIn K mainGlobals "sum" = some none
  abs_ : PySem.W.nsIn K mainGlobals "abs" = some none
  str_ : PySem.W.nsIn K mainGlobals "str" = some none
  set_ : PySem.W.nsIn K mainGlobals "set" = some none
theorem BltAt.use (B : BltAt K) (X : K.In h) (G : h.Ns mainGlobals mg) : Blt mg :=
  ⟨PySem.W.mg_none_of X G B.int_, PySem.W.mg_none_of X G B.len_, PySem.W.mg_none_of X G B.range_, PySem.W.mg_none_of X G B.tuple_, PySem.W.mg_none_of X G B.sorted_, PySem.W.mg_none_of X G B.isinstance_, PySem.W.mg_none_of X G B.all_, PySem.W.mg_none_of X G B.repr_, PySem.W.mg_none_of X G B.enumerate_, PySem.W.mg_none_of X G B.list_, PySem.W.mg_none_of X G B.any_, PySem.W.mg_none_of X G B.zip_, PySem.W.mg_none_of X G B.dict_, PySem.W.mg_none_of X G B.max_, PySem.W.mg_none_of X G B.min_, PySem.W.mg_none_of X G B.sum_, PySem.W.mg_none_of X G B.abs_, PySem.W.mg_none_of X G B.str_, PySem.W.mg_none_of X G B.set_⟩
/-- a class that is raised -/
structure RaiseAt (K : Frag) (C : Addr) : Prop where
  q : PySem.W.excIn K C [.type "ValueError", .type "Exception", .type "BaseException", .type "object"] "ValueError.__new__" = true
  kC : PySem.W.keepIn K (.ref C) = true
  exC : PySem.W.subIn K (.ref C) (.type "BaseException") = some true
  tyC : PySem.W.typeIn K (.ref C) = some (.type "type")
  hg : PySem.W.findIn K (.ref C) "__getattribute__" = some (some (.builtin "BaseException.__getattribute__"))
  hk : PySem.W.findIn K (.ref C) "__getattr__" = some none
  hd : PySem.W.hasDictIn K C = true
  ha : PySem.W.findIn K (.ref C) "__class__" = some (some (.builtin "object.__class__"))
  hn : PySem.W.specialIn K (.builtin "object.__class__") "__get__" = some (some (.builtin "getset_descriptor.__get__"))
  ht : PySem.W.takesIn K (.builtin "object.__class__") = some true
  hm : PySem.W.mroIn K C (.type "object") = some true
variable {C D : Addr} {b : Bool}
theorem RaiseAt.err (R : RaiseAt K C) (g : mg x = some (.ref C)) : ErrC K mg (eaOf mg) x := by
  have e := eaOf_is g
  exact ⟨by rw [e]; exact R.q, by rw [e]; exact g, by rw [e]; exact R.kC, by rw [e]; exact R.exC, by rw [e]; exact R.tyC⟩
theorem RaiseAt.exc (R : RaiseAt K C) : ExcC K C := ⟨R.hg, R.hk, R.exC, R.hd, R.ha, R.hn, R.ht, R.hm⟩
theorem kit_of (ne : (Value.ref D == Value.ref C) = false) (hd : PySem.W.hasDictIn K C = true) (ht : PySem.W.typeIn K (.ref C) = some (.type "type")) (h : PySem.W.subIn K (.ref D) (.ref C) = some b) : PySem.W.kitOne K (.ref D) (.ref C) = some b := by
  obtain ⟨cd, hc, _⟩ := PySem.W.any_some hd
  have e2 : ((PySem.W.clsIn K C).isSome && PySem.W.typeIn K (.ref C) == some (.type "type")) = true := by rw [hc, ht] <;> rfl
  unfold PySem.W.kitOne
  rw [ne, if_neg Bool.false_ne_true]
  show (if ((PySem.W.clsIn K C).isSome && PySem.W.typeIn K (.ref C) == some (.type "type")) = true then PySem.W.subIn K (.ref D) (.ref C) else none) = some b
  rw [if_pos e2]
  exact h
theorem kit_self : PySem.W.kitOne K (.ref C) (.ref C) = some true := by
  unfold PySem.W.kitOne
  rw [if_pos (beq_self_eq_true _)]
end
end Pd
set_option Elab.async false
set_option linter.all false
set_option maxRecDepth 100000
set_option maxHeartbeats 1000000
namespace Pd
open PySem PySem.Spec PyProof.Rows L2
/-! ### dict comprehensions whose turns change nothing -/
section
variable {X : Cx} {env env1 : Ev} {tg iter kx vx : Expr} {ifs : List Expr} {pos : Pos} {scope : Scope}
theorem putD_len {κ : Type} [DecidableEq κ] (kvs : List (κ × D)) (k : κ) (d : D) : (putD kvs k d).length ≤ kvs.length + 1 := by
  unfold putD
  split
  · rw [List.length_map]; omega
  · rw [List.length_append]; exact Nat.le_refl _
theorem mergeD_len : ∀ (more kvs : List (Key × D)), (mergeD kvs more).length ≤ kvs.length + more.length
  | [], kvs => Nat.le_refl _
  | q :: r, kvs => by
    have e : mergeD kvs (q :: r) = mergeD (putD kvs q.1 q.2) r := rfl
    rw [e]
    refine Nat.le_trans (mergeD_len r _) ?_
    have := putD_len kvs q.1 q.2
    rw [List.length_cons]
    omega
theorem mergeD_snoc (kvs more : List (Key × D)) (q : Key × D) : mergeD kvs (more ++ [q]) = putD (mergeD kvs more) q.1 q.2 := by
  unfold mergeD
  rw [List.foldl_append]
  rfl
theorem setAll_other {k : Nat} : ∀ {is : List Nat} {ds : List D} {e : Ev}, k ∉ is → ge (setAll e is ds) k = ge e k
  | [], _, _, _ => rfl
  | _ :: _, [], _, _ => rfl
  | a :: is, d :: ds, e, h => by
    rw [List.mem_cons, not_or] at h
    show ge (setAll (e.set a (.val d)) is ds) k = _
    rw [setAll_other h.2, ge_set_ne (Ne.symm h.1)]
theorem bind_other {t : Tgt} {e : Ev} {d : D} {k : Nat} (h : k ∉ t.slots) : ge (t.bind e d) k = ge e k := by
  cases t with
  | nm a => exact ge_set_ne fun z => h (by rw [z]; exact List.mem_cons_self)
  | tp is =>
    have h' : k ∉ is := h
    cases d <;> first | exact setAll_other h' | rfl
theorem wipe_same {σ σ2 : L2.St} {vs : List Nat} {t : Tgt} (hts : ∀ i ∈ t.slots, i ∈ vs) (sm : ∀ j, j ∉ t.slots → gs σ2 j = gs (wipe σ vs) j) (ln : σ2.length = (wipe σ vs).length) : wipe σ2 vs = wipe σ vs := by
  refine List.ext_getElem? fun j => ?_
  have hl : (wipe σ2 vs).length = (wipe σ vs).length := by rw [wipe_length, ln]
  by_cases hj : j < (wipe σ vs).length
  · have g1 : gs (wipe σ2 vs) j = gs (wipe σ vs) j := by
      rw [gs_wipe]
      by_cases hm : j ∈ vs
      · rw [if_pos hm, gs_wipe, if_pos hm]
      · rw [if_neg hm]
        exact sm j fun z => hm (hts j z)
    unfold gs at g1
    rw [List.getD_eq_getElem?_getD, List.getD_eq_getElem?_getD] at g1
    rw [List.getElem?_eq_getElem (by omega), List.getElem?_eq_getElem hj] at g1 ⊢
    exact congrArg some g1
  · rw [getElem?_of_le (by omega), getElem?_of_le (by omega)]
theorem St.unturn {K : Frag} {G F H : Hp} {σ σ2 : L2.St} {vs : List Nat} {t : Tgt} {e : Ev} {d : D} (S : St K G F σ2 H (t.bind (wipeE vs 0 e) d)) (hts : ∀ i ∈ t.slots, i ∈ vs) (back : L2.wipe σ2 vs = L2.wipe σ vs) : St K G F (L2.wipe σ vs) H (wipeE vs 0 e) := by
  have S4 := S.wipe vs
  rw [back] at S4
  refine S4.weak ⟨by rw [wipeE_len, wipeE_len, Tgt.bind_len, wipeE_len]; exact Nat.le_refl _, fun k => ?_⟩
  by_cases hm : k ∈ vs
  · exact .inr (by rw [ge_wipeE, Nat.zero_add, if_pos hm])
  · refine .inl ?_
    have e1 : ge (wipeE vs 0 (t.bind (wipeE vs 0 e) d)) k = ge (t.bind (wipeE vs 0 e) d) k := by rw [ge_wipeE, Nat.zero_add, if_neg hm]
    rw [e1]
    exact (bind_other fun z => hm (hts k z)).symm
/-- the object in hand is written: G holds it as it is now -/
theorem St.rewrite {K : Frag} {G F H : Hp} {σ : L2.St} {e : Ev} {q : Addr} {o o' : HO} (S : St K (upd G q o) F σ H e) (fq : F q = none) : St K (upd G q o') F σ (upd H q o') e := by
  have ownD : ∀ k, (ge e k).own = true → gs σ k ≠ some (.ref q) := fun k w ek => by
    obtain ⟨p', u, e', hp, f, g⟩ := (S.sl k).own_at w
    rw [ek] at e'
    cases e'
    rw [upd_same] at g
    cases g
  refine ⟨fun a u z => ?_, fun a u z => ?_, S.ln, fun k => ?_, S.ap⟩
  · by_cases y : a = q
    · subst y; rw [upd_same] at z ⊢; exact z
    · rw [upd_ne y] at z ⊢
      exact S.kg a u (by rw [upd_ne y]; exact z)
  · by_cases y : a = q
    · subst y; rw [fq] at z; cases z
    · rw [upd_ne y]; exact S.kf a u z
  · refine ((S.sl k).mono (Le.refl F) fun p ep w => ?_).otherG fun p ep w => ?_
    · obtain ⟨p', u, e', hp, f, g⟩ := (S.sl k).own_at w
      rw [ep] at e'
      cases e'
      exact ⟨upd_ne fun z => ownD k w (by rw [ep, z]), f⟩
    · have z : p ≠ q := fun z => ownD k w (by rw [ep, z])
      obtain ⟨p', u, e', hp, f, g⟩ := (S.sl k).own_at w
      rw [ep] at e'
      cases e'
      rw [upd_ne z] at g ⊢
      exact g
theorem Ext.noneAt {G F F' : Hp} {q : Addr} {o : HO} (x : Ext (upd G q o) F F') (n : F q = none) : F' q = none := by
  cases e : F' q with
  | none => rfl
  | some w =>
    rcases x.nw q w e with z | z
    · rw [n] at z; cases z
    · rw [upd_same] at z; cases z
theorem Ext.lessAt {G F F' : Hp} {q : Addr} {o : HO} (gq : G q = none) (x : Ext (upd G q o) F F') : Ext G F F' := x.lessG (Le.new gq)
theorem ev_dc0 {α : Type} {xs : List α} {g : α → D} {Rk Rv : α → Rs} {kf : α → Key} {kd vf : α → D} (own : List (Str × Nat)) (t : Tgt) (hc : X.calm = true) (hN : X.N.Nodup) (hi : EI X tg iter env (xs.map g) env1) (ok : BlkOk X.N X.env.scope scope own)
    (hg : ∀ sh H C cl fp, PG (blkC' X scope sh H C cl fp) tg (t.g X.K)) (hz : xs.length < 16000000)
    (hk : ∀ a ∈ xs, ∀ sh H C cl fp, EV (blkC' X scope sh H C cl fp) kx (t.bind (wipeE (own.map (·.2)) 0 env1) (g a)) (Rk a) (t.bind (wipeE (own.map (·.2)) 0 env1) (g a))) (hkf : ∀ a, Pd.fz (Rk a) = .val (kd a)) (hkk : ∀ a, keyD (kd a) = some (kf a))
    (hv : ∀ a ∈ xs, ∀ sh H C cl fp, EV (blkC' X scope sh H C cl fp) vx (t.bind (wipeE (own.map (·.2)) 0 env1) (g a)) (Rv a) (t.bind (wipeE (own.map (·.2)) 0 env1) (g a))) (hvf : ∀ a, Pd.fz (Rv a) = .val (vf a))
    (hok : ∀ a, t.okB env1.length (g a) = true) (hts : (t.slots.all fun i => (own.map (·.2)).elem i) = true := by rfl) (hno : ((own.map (·.2)).all fun i => !(ge env1 i).own) = true := by rfl)
    (hs : ∀ x, foldedSetIterable iter X.env x = pure x := by intro _; rfl) : EV X (.DictComp kx vx [⟨tg, iter, [], 0⟩] scope pos) env (.new (.dk none (mergeD [] (xs.map fun a => (kf a, vf a))))) env1 := by
  refine PE.wk (pe_dc (tk := fun σ H Q => ∃ e R e', (∀ sh H C cl fp, EV (blkC' X scope sh H C cl fp) kx e R e') ∧ tV X.K e R e' σ H Q) (tv := fun σ H Q => ∃ e R e', (∀ sh H C cl fp, EV (blkC' X scope sh H C cl fp) vx e R e') ∧ tV X.K e R e' σ H Q) (tt := fun σ H Q => Q true H) hc hN hi ok hg (fun sh H C cl fp => ⟨fun pins s σ H' Q I q => pts_nil.run pins s σ H' Q I q⟩)
    (fun sh H C cl fp => ⟨fun pins s σ H' Q I ⟨e, R, e', h, q⟩ => (h sh H C cl fp).run pins s σ H' Q I q⟩) (fun sh H C cl fp => ⟨fun pins s σ H' Q I ⟨e, R, e', h, q⟩ => (h sh H C cl fp).run pins s σ H' Q I q⟩) hs) fun σ H Q ⟨G, F, S, q⟩ => ⟨G, F, S, fun F1 Jt H1 x1 it S1 Dl hD => ?_⟩
  generalize hvs : own.map (·.2) = vs at *
  have lg : ∀ o, Le G (upd G Dl o) := fun o => Le.new (S1.kg.fresh hD)
  refine ⟨fun i m H' => m = xs.length - i ∧ i ≤ xs.length ∧ ∃ F' kv, Ext G F1 F' ∧ H' Dl = some (.dK kv) ∧ F' Dl = none ∧ KD X.K F' kv (mergeD [] ((xs.take i).map fun a => (kf a, vf a))) ∧ St X.K (upd G Dl (.dK kv)) F' (wipe σ vs) H' (wipeE vs 0 env1),
    ⟨xs.length, by omega, by omega, F1, [], Ext.refl G F1, upd_same, S1.kf.fresh hD, .nil, (S1.wipe vs).keepNew hD⟩, ?_⟩
  rintro i m H' ⟨rfl, hle, F', kv, x', hDl, fD, kd1, S'⟩
  have it' := it.mono x'.le
  have hlen : kv.length ≤ i := by
    have q1 := kd1.length
    have q2 := mergeD_len ((xs.take i).map fun a => (kf a, vf a)) []
    rw [List.length_map, List.length_take, List.length_nil] at q2
    omega
  by_cases hlt : i < xs.length
  · refine .inr ?_
    have ha : xs[i]? = some xs[i] := List.getElem?_eq_getElem hlt
    have hd' : (xs.map g)[i]? = some (g xs[i]) := by rw [List.getElem?_map, ha]; rfl
    have hm : xs[i] ∈ xs := List.getElem_mem hlt
    obtain ⟨h1, _⟩ := it' i H' S'.kf
    refine ⟨(h1 _ hd').1, fun H2 => ∃ F' kv, Ext G F1 F' ∧ H2 Dl = some (.dK kv) ∧ F' Dl = none ∧ KD X.K F' kv (mergeD [] ((xs.take (i + 1)).map fun a => (kf a, vf a))) ∧ St X.K (upd G Dl (.dK kv)) F' (wipe σ vs) H2 (wipeE vs 0 env1),
      fun H2 n => ⟨xs.length - (i + 1), by omega, rfl, by omega, n⟩, fun x H2 y => ?_⟩
    have okT : t.ok (wipeE vs 0 env1).length (g xs[i]) := by rw [wipeE_len]; exact Tgt.ok_of (hok _)
    have hts' : ∀ j ∈ t.slots, j ∈ vs := hts_of hts
    have gD : G Dl = none := S1.kg.fresh hD
    refine yld_run it' S' hd' y okT fun F2 σ2 x2 sm ln2 S2 => ?_
    have back := wipe_same (t := t) hts' sm ln2
    refine ⟨back, iteT ?_⟩
    refine ⟨_, _, _, hk _ hm, upd G Dl (.dK kv), F2, S2, fun F3 v3 H3 x3 r3 => ?_⟩
    obtain ⟨F4, x4, r4⟩ := r3.fz
    rw [hkf] at r4
    refine ⟨_, _, _, hv _ hm, upd G Dl (.dK kv), F4, r4.2, fun F5 v5 H5 x5 r5 => ?_⟩
    obtain ⟨F6, x6, r6⟩ := r5.fz
    rw [hvf] at r6
    have x46 := x5.trans x6
    have xa := x2.trans ((x3.trans x4).trans x46)
    have fD6 : F6 Dl = none := xa.noneAt fD
    have kDl : H5 Dl = some (.dK kv) := r6.2.kg Dl _ upd_same
    have ek : v3 = kV (kf xs[i]) := keyD_dr (hkk _) r4.1
    have kd2 := (kd1.mono xa.le).put (kf xs[i]) r6.1
    refine ⟨kv, kf xs[i], ek, kDl, by rw [sizeLine_eq]; omega, F6, putK kv (kf xs[i]) v5, x'.trans (Ext.lessAt gD xa), upd_same, fD6, ?_, (r6.2.unturn hts' back).rewrite fD6⟩
    rw [take_succ_get ha, List.map_append, List.map_cons, List.map_nil, mergeD_snoc]
    exact kd2
  · have hie : i = xs.length := by omega
    subst hie
    obtain ⟨_, h2⟩ := it' xs.length H' S'.kf
    refine .inl ⟨h2 (by rw [List.length_map]; exact Nat.le_refl _), ?_⟩
    rw [List.take_length] at kd1
    have gD : G Dl = none := S1.kg.fresh hD
    have ownW : ∀ k, (ge (wipeE vs 0 env1) k).own = true → gs (wipe σ vs) k ≠ some (.ref Dl) := fun k w ek => by
      obtain ⟨p', u, e', hp, f, g⟩ := (S'.sl k).own_at w
      rw [ek] at e'
      cases e'
      rw [upd_same] at g
      cases g
    have no : ∀ k ∈ vs, (ge env1 k).own = false := hno_of hno
    have nv : ∀ k, (ge env1 k).own = true → k ∉ vs := fun k w z => by rw [no k z] at w; cases w
    have sW : ∀ k, k ∉ vs → gs (wipe σ vs) k = gs σ k ∧ ge (wipeE vs 0 env1) k = ge env1 k := fun k h => ⟨by rw [gs_wipe, if_neg h], by rw [ge_wipeE, Nat.zero_add, if_neg h]⟩
    have B : St X.K G F' σ H' env1 := by
      refine ⟨(lg _).trans S'.kg, S'.kf, S1.ln, fun k => ?_, S1.ap⟩
      by_cases hm : k ∈ vs
      · exact (S1.sl k).mono x'.le fun p ep w => by rw [no k hm] at w; cases w
      · have q1 := S'.sl k
        rw [(sW k hm).1, (sW k hm).2] at q1
        refine q1.otherG fun p ep w => ?_
        obtain ⟨p', u, e', hp, f, g⟩ := (S1.sl k).own_at w
        rw [ep] at e'
        cases e'
        exact g
    refine q F' _ H' (x1.trans x') ⟨B.kg, B.kf, Nat.succ_le_succ B.ln, fun k => ?_, fun a b c ne ha hb ea eb => ?_⟩
    · cases k with
      | zero => exact ⟨Dl, kv, rfl, (fun _ z => nomatch z), hDl, by rw [sizeLine_eq]; omega, kd1, fD, gD⟩
      | succ k => exact B.sl k
    · have other : ∀ k, (ge env1 k).own = true → gs σ k = some (.ref c) → c ≠ Dl := fun k w ek z => by
        have h := sW k (nv k w)
        exact ownW k (by rw [h.2]; exact w) (by rw [h.1, ek, z])
      cases a with
      | zero =>
        cases b with
        | zero => exact ne rfl
        | succ b =>
          have e1 : Dl = c := V.ref.inj (Option.some.inj ea)
          exact other b hb eb e1.symm
      | succ a =>
        cases b with
        | zero =>
          have e1 : Dl = c := V.ref.inj (Option.some.inj eb)
          exact other a ha ea e1.symm
        | succ b => exact B.ap a b c (fun z => ne (congrArg _ z)) ha hb ea eb
end
section
variable {X : Cx} {env env1 env2 : Ev} {a b e : Expr} {es : List Expr} {R Ra Rb : Rs} {d x y : D} {pos p : Pos} {i : Nat} {kvs : List (Key × D)} {k : Key} {pin : Option Addr} {ds : List D} {kk w : Nat}
/-- sorted of a new dict, keys all ints, fewer than 64 -/
theorem ev_sortedDn {ks : List Int} (B : Blt X.mg) (hc : X.calm = true) (h : EV X e env (.new (.dk pin kvs)) env1) (hks : kvs.map (·.1) = ks.map Sum.inl) (h64 : ks.length < 64) (hg : Gl X "sorted" := by rfl) (he : starEach (e :: []) X.env = (false, eval e X.env) :: starEach [] X.env := by rfl) (hpl : (backTo pos (starEach [] X.env)).any (·.1) = false := by rfl) :
    EV X (.Call (.Name "sorted" p) [e] [] pos) env (.new (.lst none ((isort ks).map .int))) env1 :=
  PE.wk (pe_callB (call_sortedDI hc) hg B.sorted_ bt_sorted (pa_cons h pa_nil he) (by decide) (by decide) he hpl) fun σ H Q ⟨G, F, S, q⟩ => ⟨G, F, S, fun F1 v H1 x1 r1 => by
    obtain ⟨p, vs, e1, hpin, hp, z, kd, f, g'⟩ := St.dkS (i := 0) r1 rfl
    have e1' : some v = some (V.ref p) := e1
    cases e1'
    refine ⟨p, vs, ks, rfl, .inl hp, kd.keys.trans hks, h64, fun ys l hperm hsort hl => ?_⟩
    rw [isort_of hperm hsort]
    refine q F1 _ _ x1 ((St.tail r1).consNew hl fun f g => ⟨l, _, rfl, (fun _ z => nomatch z), upd_same, ?_, DRs.of_ints _, f, g⟩)
    rw [List.length_map, (isort_perm ks).length_eq, sizeLine_eq]
    omega⟩
/-- k not in d -/
theorem et_dnin (hu : X.A.units + 1 < cLine) (ha : EV X a env Ra env1) (hb : EV X b env1 (.ptr i) env2) (g : ge env2 i = .dk pin kvs) (wx : vw (Pd.fz Ra) env2 = some x) (hk : keyD x = some k) (hm : behindInMarks .NotIn b = false := by rfl) (fl : (Pd.fz Ra).flat = true := by rfl) :
    ET X (.Compare a [.NotIn] [b] pos) env (!(valD kvs k).isSome) env2 :=
  PT.wk (pt_cmp (pc_dnotin hu ha hb) hm) fun σ H Q ⟨G, F, S, q⟩ => ⟨G, F, S, fun F1 v H1 x1 r1 => by
    obtain ⟨F1', x1', r1'⟩ := r1.fz
    refine ⟨G, F1', r1'.st, fun F2 u H2 x2 r2 => ?_⟩
    have kk := (r1'.keep fl x2.le r2.2).va wx
    obtain ⟨p, vs, e1, _, hp, z, kd, _⟩ := r2.2.dkS g
    rw [r2.1] at e1
    cases e1
    refine ⟨p, valV vs k, rfl, by rw [keyD_va hk kk]; exact DGet.k hp, !(valV vs k).isSome, rfl, ?_⟩
    rw [kd.isSome k]
    exact q F2 H2 ((x1.trans x1').trans x2) r2.2⟩
theorem ars2v {K : Frag} {F : Hp} {σ : L2.St} {x y : D} : ∀ {vs : List V}, ARs K F σ vs [.val x, .val y] → ∃ u v, vs = [u, v] ∧ DR K F u x ∧ DR K F v y
  | [u, v], ⟨a, b, _⟩ => ⟨u, v, rfl, a, b⟩
  | [], h => by cases h
  | [_], h => by cases h.2
  | _ :: _ :: _ :: _, h => by cases h.2.2
/-- a, b = x, y -/
theorem es_par {ea : Str → Addr} {W : WX} {rest : List Stmt} {Post : Out → Prop} {nx ny : Str} {px py pt pt2 : Pos} {kt k2} (i j : Nat) (hc : X.calm = true) (hN : X.N.Nodup) (ha : EA X [a, b] env [.val x, .val y] env1) (k : ES X ea W rest ((env1.set i (.val x)).set j (.val y)) Post) (hi : X.N[i]? = some nx := by rfl) (hj : X.N[j]? = some ny := by rfl) (hij : i ≠ j := by decide)
    (hx : X.env.scope.names.lookup nx = some .local := by rfl) (hy : X.env.scope.names.lookup ny = some .local := by rfl) (hli : Nat.blt i env1.length = true := by rfl) (hlj : Nat.blt j env1.length = true := by rfl)
    (hw : swappedStores [.Tuple [.Name nx px, .Name ny py] kt pt] (.Tuple [a, b] k2 pt2) X.env = pure (some [nx, ny]) := by rfl) (hs : swapsWithSole [.Tuple [.Name nx px, .Name ny py] kt pt] (.Tuple [a, b] k2 pt2) pos.line X.env = pure false := by rfl) :
    ES X ea W (.Assign [.Tuple [.Name nx px, .Name ny py] kt pt] (.Tuple [a, b] k2 pt2) pos :: rest) env Post :=
  PSs.wk (pss_seq (ps_par hc hN hi hj hij hx hy ha hw hs) k) fun D σ H ⟨G, F, S, q⟩ => ⟨G, F, S, fun F1 vs H1 x1 r1 S1 => by
    obtain ⟨u, v, e, r2, r3⟩ := ars2v r1
    refine ⟨u, v, e, G, F1, ?_, fun o p F2 x2 => q o p F2 (x1.trans x2)⟩
    have S2 := (S1.consVal r2).store (blt_lt hli)
    exact (S2.consVal r3).store (by rw [List.length_set]; exact blt_lt hlj)⟩
/-- repr of a tuple -/
theorem ev_reprT (B : Blt X.mg) (hgu : X.A.guards = some []) (hu : X.A.units + 80 < cLine) (h : EV X e env R env1) (w1 : vw (Pd.fz R) env1 = some (.tuple ds)) (gd : Gd kk w (.tuple ds)) (hk : kk ≤ 64) (hw : w ≤ 2 ^ 20) (hgl : Gl X "repr" := by rfl) (he : starEach (e :: []) X.env = (false, eval e X.env) :: starEach [] X.env := by rfl) (hpl : (backTo pos (starEach [] X.env)).any (·.1) = false := by rfl) :
    EV X (.Call (.Name "repr" p) [e] [] pos) env (.val (.str (PyData.shown (.tuple ds)))) env1 :=
  ev_b1 (call_reprD hgu hu) B.repr_ bt_repr h (fun G F σ H env v Q S hv q => by
    have g := gd.all
    have dp := hv.dp S.kf
    obtain ⟨a, vs, rfl, _⟩ := hv.tup S.kf
    exact ⟨a, _, rfl, dp, g.sh, g.nd, Nat.le_trans g.dp hk, PyData.shown_fits (by decide) (by decide) g.lv (Nat.le_trans g.wt hw), q F _ H (Ext.refl G F) ⟨.str _, S⟩⟩) w1 hgl (by decide) (by decide) he hpl
end
end Pd
set_option Elab.async false
set_option linter.all false
set_option maxRecDepth 100000
set_option maxHeartbeats 1000000
namespace Pd
open PySem PySem.Spec PyProof.Rows L2
/-! ### t[::-1] of a tuple -/
theorem adjust_back (n : Nat) : Builtin.Slice.sliceAdjust none none (-1) (n : Int) = ((n : Int) - 1, -1) := by
  unfold Builtin.Slice.sliceAdjust
  rfl
theorem places_back (n : Nat) : Builtin.Slice.slicePlaces ((n : Int) - 1) (-1) (-1) = n := by
  unfold Builtin.Slice.slicePlaces
  have h1 : ¬ ((-1 : Int) > 0) := by decide
  simp only [h1, if_false]
  rw [show (- -1 : Int) = 1 by decide, Int.ediv_one]
  split <;> omega
theorem pick_back (xs : Array Value) : ((List.range xs.size).filterMap fun (m : Nat) => xs[(((xs.size : Nat) : Int) - 1 + (m : Int) * (-1)).toNat]?).toArray = xs.toList.reverse.toArray := by
  have e : (fun (m : Nat) => xs[(((xs.size : Nat) : Int) - 1 + (m : Int) * (-1)).toNat]?) = fun m => xs[xs.size - 1 - m]? := by
    funext m
    have : (((xs.size : Nat) : Int) - 1 + (m : Int) * (-1)).toNat = xs.size - 1 - m := by omega
    rw [this]
  rw [e]
  have e2 : (List.range xs.size).filterMap (fun m => xs[xs.size - 1 - m]?) = ((List.range xs.size).map fun k => xs.size - 1 - k).filterMap (xs[·]?) := by
    rw [List.filterMap_map]
    rfl
  rw [e2, PySem.W.krv_range, List.filterMap_reverse, PySem.W.krv_all]
section
variable {prog : Program} {w : World} {A : Around} {E : Value → Shared → Prop} {s : Shared}
theorem applied_back {sl : Addr} {vs : Value} {n : Nat} {Q : Int × Int × Nat → Shared → Prop} (hs : s.heap.IsSliceOf sl .none .none vs) (ps : IsPart vs (some (-1))) (h : Q ((n : Int) - 1, -1, n) s) : wpAny (model prog w) A (Builtin.Slice.sliceApplied (.ref sl) (pure (n : Int))) Q E s := by
  obtain ⟨os, hos, hcs, hds⟩ := id hs
  unfold Builtin.Slice.sliceApplied Builtin.Slice.sliceFields
  refine wpAny_bind (wpAny_bind (wpAny_field hos hds (x := Value.none) rfl (wpAny_bind (wpAny_field hos hds (x := Value.none) rfl (wpAny_bind (wpAny_field hos hds (x := vs) rfl (wpAny_pure ?_)))))))
  refine wpAny_bind (HT.slicePart_ ps ?_)
  show wpAny _ _ (if ((-1 : Int) == 0) = true then _ else _) _ _ s
  rw [if_neg (by decide)]
  refine wpAny_bind (HT.slicePart_ .none (wpAny_bind (HT.slicePart_ .none (wpAny_bind (wpAny_pure ?_)))))
  show wpAny _ _ (match Builtin.Slice.sliceAdjust none none (-1) (n : Int) with | (lo, hi) => pure (lo, (-1 : Int), Builtin.Slice.slicePlaces lo hi (-1))) _ _ s
  rw [adjust_back]
  show wpAny _ _ (pure ((n : Int) - 1, (-1 : Int), Builtin.Slice.slicePlaces ((n : Int) - 1) (-1) (-1))) _ _ s
  rw [places_back]
  exact wpAny_pure h
theorem item_back {t sl : Addr} {items : Array Value} {vs : Value} {Q : Value → Shared → Prop} (ht : IsTup s.heap t items) (hs : s.heap.IsSliceOf sl .none .none vs) (ps : IsPart vs (some (-1)))
    (h : Q (.ref s.heap.objs.size) { s with heap := s.heap.push { cls := .type "tuple", data := .seq items.toList.reverse.toArray } }) (hsz : items.size ≤ sizeLine) : wpAny (model prog w) A (getItem (.ref t) (.ref sl)) Q E s := by
  obtain ⟨os, hos, hcs, hds⟩ := id hs
  have hT : s.TypeIs (.ref sl) "slice" := ⟨os, hos, hcs⟩
  have hok : sizeOk (.seq items.toList.reverse.toArray) := by
    show items.toList.reverse.toArray.size ≤ sizeLine
    rw [List.size_toArray, List.length_reverse, Array.length_toList]
    exact hsz
  unfold getItem
  try with_reducible refine wpAny_holding ?_
  first | refine wpAny_bind (wpAny_pure ?_) | skip
  refine wpAny_bind (wpAny_sequenceKey ht.typeIs (by decide) ?_)
  refine wpAny_bind (wpAny_callSpecial?_slot (name := Str.ofString "__getitem__") ht.typeIs PyProof.Rows.slot_tuple_getitem
    (wpAny_call_entry PyProof.Rows.slot_tuple_getitem ht.typeIs PyProof.Rows.entry_tuple_getitem ?_ (PyProof.Rows.args_tuple_getitem _ _)))
  show wpAny _ _ (Builtin.Tuple.tupleItemsOf (.ref t) >>= _) _ _ s
  refine wpAny_bind (PyProof.Rows.tupleItemsOf_ ht ?_)
  refine wpAny_bind (wpAny_typeOf hT ?_)
  rw [if_pos (by decide)]
  refine wpAny_bind (applied_back hs ps ?_)
  have hno : ¬ (((((items.size : Nat) : Int) - 1) == 0 && (-1 : Int) == 1 && items.size == items.size) = true) := by
    intro q
    rw [Bool.and_eq_true, Bool.and_eq_true] at q
    exact absurd q.1.2 (by decide)
  show wpAny _ _ (if ((((items.size : Nat) : Int) - 1) == 0 && (-1 : Int) == 1 && items.size == items.size) = true then _ else _) _ _ s
  rw [if_neg hno, pick_back]
  first
    | exact wpAny_bind (m := Builtin.Tuple.tupleExact _) (wpAny_newObj_type (wpAny_pure ⟨_, rfl, wpAny_pure h⟩) hok)
    | exact wpAny_bind (m := Builtin.Tuple.tupleExact _) (wpAny_newObj_type (wpAny_bind (wpAny_pure (wpAny_pure ⟨_, rfl, wpAny_pure h⟩))) hok)
    | exact wpAny_bind (wpAny_bind (m := Builtin.Tuple.tupleExact _) (wpAny_newObj_type (wpAny_pure (wpAny_pure ⟨_, rfl, wpAny_pure h⟩)) hok))
    | exact wpAny_bind (wpAny_bind (m := Builtin.Tuple.tupleExact _) (wpAny_newObj_type (wpAny_pure ⟨_, rfl, wpAny_pure h⟩) hok))
end
def tBackT (K : Frag) (te : TE) : TE := fun σ H Q => te σ H fun x H1 => ∃ a xs, x = .ref a ∧ SqT K H1 a xs ∧ ∀ p, H1 p = none → Q (.ref p) (upd H1 p (.tup xs.reverse))
theorem pe_backT {X : Cx} {e : Expr} {te : TE} {k : Nat} {p1 p2 p3 pos : Pos} (he : PE X e te) : PE X (.Subscript e (.Slice none none (some (.UnaryOp .USub (.Constant (.int 1) k p1) p2)) p3) pos) (tBackT X.K te) := by
  refine ⟨fun pins s σ H Q I h => ?_⟩
  refine Subscript_ (thn (he.run pins s σ H _ I h) fun v s1 ⟨x, H1, I1, r1, q1⟩ => ?_)
  obtain ⟨a, xs, ex, hx, q⟩ := q1
  subst ex
  cases r1
  have hst : PO X (some (.UnaryOp .USub (.Constant (.int 1) k p1) p2)) (tPart (tUn (rU fun i => .int (-i)) (tC (.int 1)))) := po_some (pe_un un_neg pe_int)
  refine wpAny_Slice (thn (po_none.run pins s1 σ H1 (fun o H2 => o = none ∧ H2 = H1) I1 ⟨rfl, rfl⟩) fun vl s2 ⟨l, H2, I2, pl, el, e2⟩ => ?_)
  subst el e2
  refine thn (po_none.run pins s2 σ H2 (fun o H3 => o = none ∧ H3 = H2) I2 ⟨rfl, rfl⟩) fun vu s3 ⟨u, H3, I3, pu, eu, e3⟩ => ?_
  subst eu e3
  refine thn (hst.run pins s3 σ H3 (fun o H4 => o = some (-1) ∧ H4 = H3) I3 ⟨1, rfl, -1, rfl, rfl, rfl⟩) fun vs s4 ⟨o, H4, I4, ps, eo, e4⟩ => ?_
  subst eo e4
  cases pl
  cases pu
  have I5 : Inv X pins σ H4 { s4 with heap := s4.heap.push { cls := .type "slice", data := .fields #[.none, .none, vs] } } := I4.kept (t' := s4.toks) fun b ob q => Heap.get?_push_of_some _ q
  obtain ⟨its, r, ht, hz⟩ := I5.tuple hx
  have hlen := r.length
  show wpAny (model X.prog X.w) X.A (subscriptTail e (.Slice none none (some (.UnaryOp .USub (.Constant (.int 1) k p1) p2)) p3) (.ref a) (.ref s4.heap.objs.size)) (EP X pins σ Q) X.xe { s4 with heap := s4.heap.push { cls := .type "slice", data := .fields #[.none, .none, vs] } }
  refine tail_any (ops := [.ref a, .ref s4.heap.objs.size]) ht.typeIs (PyProof.Rows.slot_tuple_getitem.lookup) ?_ (by with_unfolding_all rfl)
  refine item_back ht (Heap.IsSliceOf.new _ .none .none vs) ps ?_ (by rw [List.size_toArray]; omega)
  refine ⟨.ref _, _, I5.laid (t' := s4.toks) (o := .tup xs.reverse) (fun b ob q => Heap.get?_push_of_some _ q) (Nat.le_refl _) ?_, rfl, q _ (I5.hok.fresh (Nat.le_refl _))⟩
  exact ⟨by rw [List.length_reverse]; exact hz, _, r.reverse, IsTup.new _ _⟩
section
variable {X : Cx} {env env1 : Ev} {e : Expr} {R : Rs} {d : D} {pos p p1 p2 p3 : Pos} {k kk w : Nat} {ds : List D}
theorem ev_backT (h : EV X e env (.val (.tuple ds)) env1) : EV X (.Subscript e (.Slice none none (some (.UnaryOp .USub (.Constant (.int 1) k p1) p2)) p3) pos) env (.val (.tuple ds.reverse)) env1 :=
  PE.wk (pe_backT h) fun σ H Q ⟨G, F, S, q⟩ => ⟨G, F, S, fun F1 v H1 x1 r1 => by
    obtain ⟨r1, S1⟩ := r1
    cases r1 with
    | tup a b c =>
      refine ⟨_, _, rfl, le_t S1.kf a, fun l hl => ?_⟩
      obtain ⟨x2, r2, S2⟩ := S1.newTup hl (by rw [List.length_reverse]; exact b) c.reverse
      exact q _ _ _ (x1.trans x2) ⟨r2, S2⟩⟩
/-! ### repr of any datum -/
def rReprA (K : Frag) : List V → Hp → VK → Prop := fun xs H Q => ∃ (x : V) (d : D), xs = [x] ∧ Dp K H x d ∧ d.showable = true ∧ d.hasDict = false ∧ d.depth ≤ 64 ∧ d.shown.length ≤ sizeLine ∧ Q (.str d.shown) H
theorem call_reprA (hg : X.A.guards = some []) (hu : X.A.units + 80 < cLine) : CallR X (.builtin "repr") (rReprA X.K) := by
  intro pins s σ H xs us Q I r h
  obtain ⟨x, d, rfl, hd, hs, hn, hp, hz, q⟩ := h
  cases d with
  | none =>
    cases hd
    obtain ⟨u, rfl, ru⟩ := vals1 r
    cases ru
    exact PySem.P.repr_of_none ⟨.str _, H, I.tok _, ⟨_, rfl⟩, q⟩
  | bool b =>
    cases hd
    obtain ⟨u, rfl, ru⟩ := vals1 r
    cases ru
    refine PySem.P.repr_of_bool ⟨.str _, H, I.tok _, ⟨_, rfl⟩, ?_⟩
    cases b <;> exact q
  | int i =>
    cases hd
    obtain ⟨u, rfl, t, rfl⟩ := vals1 r
    have z : i.natAbs.log2 < 1920 := of_decide_eq_true hs
    exact PySem.P.repr_of_int z ⟨.str _, H, I.tok _, ⟨_, rfl⟩, q⟩
  | str x =>
    cases hd
    obtain ⟨u, rfl, t, rfl⟩ := vals1 r
    exact PySem.P.repr_of_str ⟨.str _, H, I.tok _, ⟨_, rfl⟩, q⟩ hz
  | dict b => cases hd
  | list ds =>
    cases hd with
    | lst h1 h2 => exact call_reprD hg hu pins s σ H _ us Q I r ⟨_, _, rfl, .lst h1 h2, hs, hn, hp, hz, q⟩
  | tuple ds =>
    cases hd with
    | tup h1 h2 => exact call_reprD hg hu pins s σ H _ us Q I r ⟨_, _, rfl, .tup h1 h2, hs, hn, hp, hz, q⟩
theorem ev_reprA (B : Blt X.mg) (hgu : X.A.guards = some []) (hu : X.A.units + 80 < cLine) (h : EV X e env R env1) (w1 : vw (Pd.fz R) env1 = some d) (gd : Gd kk w d) (hk : kk ≤ 64) (hw : w ≤ 2 ^ 20) (hgl : Gl X "repr" := by rfl) (he : starEach (e :: []) X.env = (false, eval e X.env) :: starEach [] X.env := by rfl) (hpl : (backTo pos (starEach [] X.env)).any (·.1) = false := by rfl) :
    EV X (.Call (.Name "repr" p) [e] [] pos) env (.val (.str (PyData.shown d))) env1 :=
  ev_b1 (call_reprA hgu hu) B.repr_ bt_repr h (fun G F σ H env v Q S hv q => by
    have g := gd.all
    exact ⟨v, d, rfl, hv.dp S.kf, g.sh, g.nd, Nat.le_trans g.dp hk, PyData.shown_fits (by decide) (by decide) g.lv (Nat.le_trans g.wt hw), q F _ H (Ext.refl G F) ⟨.str _, S⟩⟩) w1 hgl (by decide) (by decide) he hpl
end
end Pd
set_option Elab.async false
set_option linter.all false
set_option maxRecDepth 100000
set_option maxHeartbeats 1000000
namespace Pd
open PySem PySem.Spec PyProof.Rows L2
/-! ### expressions that raise -/
def tXR (K : Frag) (ea : Str → Addr) (W : WX) (env : Ev) (c : Str) (env' : Ev) : TE := fun σ H _ => ∃ G F, St K G F σ H env ∧ ∀ F' H', Ext G F F' → St K G F' σ H' env' → W (.ref (ea c)) none σ H'
abbrev EX (X : Cx) (ea : Str → Addr) (W : WX) (e : Expr) (env : Ev) (c : Str) (env' : Ev) : Prop := PE X e (tXR X.K ea W env c env')
section
variable {X : Cx} {ea : Str → Addr} {W : WX} {rest A B : List Stmt} {env env0 env1 env2 : Ev} {Post : Out → Prop} {a b c e : Expr} {es : List Expr} {rs : List Rs} {ss : List Sl} {p cp pos pos2 : Pos} {fn x y : Str} {n : Nat} {ps : List Str} {S : FS} {f : Addr} {R : Rs}
theorem ex_call (F : FnI X.prog X.w X.K X.mg X.base ea n fn ps S) (hr : Room n X.A) (tk : L2N.Takes X W) (ha : EA X (e :: es) env rs env1) (hS : S (rs.map (toS env1)) (.ex x ss)) (nd : ndL (ptrs rs) = true := by rfl) (hg : Gl X fn := by rfl)
    (hdb : (fn == ("__debug__" : Str)) = false := by decide) (he : starEach (e :: es) X.env = (false, eval e X.env) :: starEach es X.env := by rfl) (hpl : (backTo cp (starEach es X.env)).any (·.1) = false := by rfl) :
    EX X ea W (.Call (.Name fn p) (e :: es) [] cp) env x (wb env1 rs ss) := by
  obtain ⟨f, fd, F, hm, hk, hb⟩ := F
  refine PE.wk (pe_callS (pos := cp) (p := p) (E := L2.WE W) F hr hg hm hk hb (fun σ => L2N.passAt tk σ) ha hdb he hpl) fun σ H Q ⟨G, F, S, q⟩ => ⟨G, F, S, fun F1 vs H1 x1 r1 S1 => ?_⟩
  refine ⟨gOf σ env1 rs H1, F1, rs.map (toS env1), .ex x ss, hS, by rw [List.length_map, r1.length], S1.callee r1 (ndL_ok nd), fun F' H' x' S' => ?_⟩
  exact q F' H' (x1.trans (Ext.back S1 x')) (St.back (hd := []) (he := []) S1 r1 (ndL_ok nd) x' S')
/-- handed data alone: the state stays -/
theorem ex_callV (F : FnI X.prog X.w X.K X.mg X.base ea n fn ps S) (hr : Room n X.A) (tk : L2N.Takes X W) (ha : EA X (e :: es) env rs env1) (hS : S (rs.map (toS env1)) (.ex x ss)) (nd : ptrs rs = [] := by rfl) (hg : Gl X fn := by rfl)
    (hdb : (fn == ("__debug__" : Str)) = false := by decide) (he : starEach (e :: es) X.env = (false, eval e X.env) :: starEach es X.env := by rfl) (hpl : (backTo cp (starEach es X.env)).any (·.1) = false := by rfl) :
    EX X ea W (.Call (.Name fn p) (e :: es) [] cp) env x env1 := by
  have q := ex_call (p := p) (cp := cp) F hr tk ha hS (by rw [nd]; rfl) hg hdb he hpl
  rwa [wb_vals nd] at q
theorem ex_callAt (hc : EV X c env (.obj f) env0) (F : FnI X.prog X.w X.K X.mg X.base ea n fn ps S) (hf : X.mg fn = some (.ref f)) (hr : Room n X.A) (tk : L2N.Takes X W) (ha : EA X (e :: es) env0 rs env1) (hS : S (rs.map (toS env1)) (.ex x ss)) (nd : ndL (ptrs rs) = true := by rfl)
    (hcall : eval (.Call c (e :: es) [] cp) X.env = (do callWith cp (← eval c X.env) [] (backTo cp (starEach (e :: es) X.env)) (backToKw cp (keywordEach [] X.env))) := by rfl) (he : starEach (e :: es) X.env = (false, eval e X.env) :: starEach es X.env := by rfl) (hpl : (backTo cp (starEach es X.env)).any (·.1) = false := by rfl) :
    EX X ea W (.Call c (e :: es) [] cp) env x (wb env1 rs ss) := by
  obtain ⟨f', fd, F, hm, hk, hb⟩ := F
  have ef : f' = f := by rw [hm] at hf; cases hf; rfl
  subst ef
  refine PE.wk (pe_callAt (E := L2.WE W) hc F hr hk hb (fun σ => L2N.passAt tk σ) ha hcall he hpl) fun σ H Q ⟨G, F, S, q⟩ => ⟨G, F, S, fun F0 v H0 x0 r0 => ⟨r0.1, G, F0, r0.2, fun F1 vs H1 x1 r1 S1 => ?_⟩⟩
  refine ⟨gOf σ env1 rs H1, F1, rs.map (toS env1), .ex x ss, hS, by rw [List.length_map, r1.length], S1.callee r1 (ndL_ok nd), fun F' H' x' S' => ?_⟩
  exact q F' H' ((x0.trans x1).trans (Ext.back S1 x')) (St.back (hd := []) (he := []) S1 r1 (ndL_ok nd) x' S')
theorem ex_ifT (h : ET X c env true env1) (h1 : EX X ea W a env1 x env2) : EX X ea W (.IfExp c a b pos) env x env2 :=
  PE.wk (pe_ifExp (tb := fun _ _ _ => False) h h1 ⟨fun _ _ _ _ _ _ z => z.elim⟩) fun σ H Q ⟨G, F, S, q⟩ => ⟨G, F, S, fun F1 H1 x1 S1 => iteT ⟨G, F1, S1, fun F2 H2 x2 S2 => q F2 H2 (x1.trans x2) S2⟩⟩
theorem ex_ifF (h : ET X c env false env1) (h1 : EX X ea W b env1 x env2) : EX X ea W (.IfExp c a b pos) env x env2 :=
  PE.wk (pe_ifExp (ta := fun _ _ _ => False) h ⟨fun _ _ _ _ _ _ z => z.elim⟩ h1) fun σ H Q ⟨G, F, S, q⟩ => ⟨G, F, S, fun F1 H1 x1 S1 => iteF ⟨G, F1, S1, fun F2 H2 x2 S2 => q F2 H2 (x1.trans x2) S2⟩⟩
theorem ev_ifT (h : ET X c env true env1) (h1 : EV X a env1 R env2) : EV X (.IfExp c a b pos) env R env2 := ev_if h (fun _ => h1) (fun z => nomatch z)
theorem ev_ifF (h : ET X c env false env1) (h1 : EV X b env1 R env2) : EV X (.IfExp c a b pos) env R env2 := ev_if h (fun z => nomatch z) (fun _ => h1)
/-- the first part of a comparison raises -/
theorem ex_cmp1 {op : CmpOp} (h : EX X ea W a env x env1) (hm : behindInMarks op b = false) : EX X ea W (.Compare a [op] [b] pos) env x env1 :=
  ⟨fun pins s σ H Q I q => wpAny_Compare1 (wpAny_mono (h.run pins s σ H (fun _ _ => False) I q) (fun v s1 ⟨_, _, _, _, z⟩ => z.elim) fun _ _ z => z) hm⟩
theorem es_retE (h : EX X ea W e env x env1) (k : Post (.ex x env1)) : ES X ea W (.Return (some e) pos :: rest) env Post :=
  PSs.wk (pss_cons (u := fun _ _ _ => False) (ps_ret h) ⟨fun _ _ _ _ _ _ z => z.elim⟩) fun D σ H ⟨G, F, S, q⟩ => ⟨G, F, S, fun F1 H1 x1 S1 => q _ k F1 x1 σ H1 S1⟩
theorem es_exprE (h : EX X ea W e env x env1) (k : Post (.ex x env1)) (hs : swapsWith e none pos.line X.env = pure false := by rfl) : ES X ea W (.Expr e pos :: rest) env Post :=
  PSs.wk (pss_cons (u := fun _ _ _ => False) (ps_expr h hs) ⟨fun _ _ _ _ _ _ z => z.elim⟩) fun D σ H ⟨G, F, S, q⟩ => ⟨G, F, S, fun F1 H1 x1 S1 => q _ k F1 x1 σ H1 S1⟩
theorem es_setE (i : Nat) (h : EX X ea W e env x env1) (k : Post (.ex x env1)) (hN : X.N.Nodup) (hi : X.N[i]? = some y := by rfl) (hx : Loc X.env.scope y := by first | exact Or.inl rfl | exact Or.inr rfl) (hs : swapsWith e (some (.Name y pos2)) pos.line X.env = pure false := by rfl) (hf : X.fn y = true ∨ X.env.scope.names.lookup y = some .local := by first | exact .inl rfl | exact .inr rfl) :
    ES X ea W (.Assign [.Name y pos2] e pos :: rest) env Post :=
  PSs.wk (pss_cons (u := fun _ _ _ => False) (ps_set hN hi hx h hs hf) ⟨fun _ _ _ _ _ _ z => z.elim⟩) fun D σ H ⟨G, F, S, q⟩ => ⟨G, F, S, fun F1 H1 x1 S1 => q _ k F1 x1 σ H1 S1⟩
theorem es_ifnE (h : EX X ea W e env x env1) (k : Post (.ex x env1)) (hw : ∀ whole, isTrue e X.env whole = (do let v ← whole; standAt e.pos; holding [v] (truthy v)) := by intro _; rfl) : ES X ea W (.If (.UnaryOp .Not e pos2) A B pos :: rest) env Post :=
  PSs.wk (pss_cons (u := fun _ _ _ => False) (ps_if (pt_not (pt_val h hw)) (t := fun _ _ _ => False) (u := fun _ _ _ => False) ⟨fun _ _ _ _ _ _ z => z.elim⟩ ⟨fun _ _ _ _ _ _ z => z.elim⟩) ⟨fun _ _ _ _ _ _ z => z.elim⟩) fun D σ H ⟨G, F, S, q⟩ => ⟨G, F, S, fun F1 H1 x1 S1 => q _ k F1 x1 σ H1 S1⟩
end
end Pd
set_option Elab.async false
set_option linter.all false
set_option maxRecDepth 100000
set_option maxHeartbeats 1000000
namespace Pd
open PySem PySem.Spec PyProof.Rows L2
section
variable {X : Cx} {ea : Str → Addr} {W : WX} {rest : List Stmt} {env env1 : Ev} {Post : Out → Prop} {tg e : Expr} {pos : Pos} {R : Rs} {d : D}
/-- target = e, any target of names -/
theorem es_asg (t : Tgt) (h : EV X e env R env1) (hf : Pd.fz R = .val d) (hg : PG X tg (t.g X.K)) (hok : t.okB env1.length d = true) (k : ES X ea W rest (t.bind env1 d) Post) (hs : swapsWithSole [tg] e pos.line X.env = pure false := by rfl) (hw : swappedStores [tg] e X.env = pure none := by rfl)
    (h1 : (assignEach [tg] X.env).map (·.2) = [assign tg X.env] := by rfl) : ES X ea W (.Assign [tg] e pos :: rest) env Post :=
  PSs.wk (pss_seq (ps_asg h hg hs hw h1) k) fun D σ H ⟨G, F, S, q⟩ => ⟨G, F, S, fun F1 v H1 x1 r1 => by
    obtain ⟨F2, x2, r2⟩ := r1.fz
    rw [hf] at r2
    exact Tgt.run r2.1 (Tgt.ok_of hok) r2.2 fun σ' _ _ S' => ⟨G, F2, S', fun o p F3 x3 => q o p F3 ((x1.trans x2).trans x3)⟩⟩
end
end Pd
set_option Elab.async false
set_option linter.all false
set_option maxRecDepth 100000
set_option maxHeartbeats 4000000
namespace Pd
open PySem PySem.Spec PyProof.Rows L2
open PySem.W (AlikeAll minD maxD iter_listW iter_tupleW moved_old cmpIn_lt cmpIn_gt argBest_fold dataLt dataLt_tuple keyToksAll keyToks lex_atom lex_one alike alikeAll)
/-! displays whose data are read off -/
def valsOf : List Rs → Option (List D)
  | [] => some []
  | .val d :: r => match valsOf r with
    | some ds => some (d :: ds)
    | none => none
  | _ :: _ => none
theorem valsOf_is : ∀ {rs : List Rs} {ds : List D}, valsOf rs = some ds → rs = ds.map Rs.val
  | [], ds, h => by cases h; rfl
  | .val d :: r, ds, h => by
    unfold valsOf at h
    cases e : valsOf r with
    | none => rw [e] at h; cases h
    | some l =>
      rw [e] at h
      cases h
      rw [List.map_cons, valsOf_is e]
  | .new _ :: _, _, h => by cases h
  | .ptr _ :: _, _, h => by cases h
  | .obj _ :: _, _, h => by cases h
section
variable {X : Cx} {env env1 env2 : Ev} {e : Expr} {es : List Expr} {rs : List Rs} {R : Rs} {d x : D} {ds : List D} {pos p sp : Pos}
theorem ev_tupV {x1} (h : EA X es env rs env1) (e : valsOf rs = some ds) (z : Nat.ble ds.length 100000 = true := by rfl) : EV X (.Tuple es x1 pos) env (.val (.tuple ds)) env1 := ev_tup h (valsOf_is e) z
theorem ev_lstV (h : EA X es env rs env1) (e : valsOf rs = some ds) (z : Nat.ble ds.length 100000 = true := by rfl) : EV X (.List es pos) env (.new (.lst none ds)) env1 := ev_lst h (valsOf_is e) z
theorem ev_tupZ {x1} (h : EA X es env rs env1) (e : rs = ds.map Rs.val) (z : ds.length ≤ sizeLine) : EV X (.Tuple es x1 pos) env (.val (.tuple ds)) env1 :=
  PE.wk (pe_tup h) fun σ H Q ⟨G, F, S, q⟩ => ⟨G, F, S, fun F1 vs H1 x1 r1 S1 => by
    subst e
    have r := drs_vals r1
    have zz : vs.length ≤ sizeLine := by rw [r.length]; exact z
    refine ⟨zz, fun p hp => ?_⟩
    obtain ⟨x2, r2, S2⟩ := S1.newTup hp zz r
    exact q _ _ _ (x1.trans x2) ⟨r2, S2⟩⟩
theorem ars_vals {K : Frag} {F : Hp} {σ : L2.St} : ∀ {vs : List V} {ds : List D}, DRs K F vs ds → ∀ {ws : List V} {rs : List Rs}, ARs K F σ ws rs → ARs K F σ (vs ++ ws) (ds.map Rs.val ++ rs)
  | _, _, .nil, _, _, h => h
  | _, _, .cons r t, _, _, h => ⟨r, ars_vals t h⟩
/-- *e ahead of arguments -/
theorem ea_star (h : EV X e env R env1) (w : Pd.fz R = .val x) (sd : seqD x = some ds) (t : EA X es env1 rs env2) (hs : starEach (.Starred e p :: es) X.env = (true, eval e X.env) :: starEach es X.env := by rfl) : EA X (.Starred e p :: es) env (ds.map Rs.val ++ rs) env2 :=
  PA.wk (StX.pa_star h t hs) fun σ H Q ⟨G, F, S, q⟩ => ⟨G, F, S, fun F1 v H1 x1 r1 => by
    obtain ⟨F1', x1', r1'⟩ := r1.fz
    rw [w] at r1'
    obtain ⟨r, S1⟩ := r1'
    rcases seqD_or sd with e | e <;> subst e
    · cases r with
      | lst a b c =>
        refine ⟨_, _, rfl, .inr (.of (S1.kf _ _ a)), G, F1', S1, fun F2 ws H2 x2 r2 S2 => ?_⟩
        exact q F2 _ H2 ((x1.trans x1').trans x2) (ars_vals (c.mono x2.le) r2) S2
    · cases r with
      | tup a b c =>
        refine ⟨_, _, rfl, .inl (le_t S1.kf a), G, F1', S1, fun F2 ws H2 x2 r2 S2 => ?_⟩
        exact q F2 _ H2 ((x1.trans x1').trans x2) (ars_vals (c.mono x2.le) r2) S2⟩
end
/-! ### min, max of data that are alike -/
section
variable {X : Cx}
def rBest (K : Frag) (best : D → List D → D) : List V → Hp → VK → Prop := fun xs H Q => ∃ (a : Addr) (vs : List V) (d : D) (ds : List D), xs = [.ref a] ∧ (SqL K H a vs ∨ SqT K H a vs) ∧ DpAll K H vs (d :: ds) ∧ AlikeAll (d :: ds) ∧ PyData.depthAll (d :: ds) ≤ 60 ∧
  ∀ (i : Nat) (w : V), vs[i]? = some w → (d :: ds).getD i .none = best d ds → Q w H
theorem vals_back : ∀ {xs : List V} {us : List Value} {i : Nat} {u : Value}, Vals xs us → us[i]? = some u → ∃ x, xs[i]? = some x ∧ RelV x u
  | _, _, i, u, .nil, e => by simp at e
  | _, _, 0, u, .cons r _, e => by simp at e; subst e; exact ⟨_, rfl, r⟩
  | _, _, i + 1, u, .cons _ t, e => by
    obtain ⟨x, h1, h2⟩ := vals_back (i := i) t (by simpa using e)
    exact ⟨x, by simpa using h1, h2⟩
theorem call_minD (hc : X.calm = true) (hu : X.A.units + 64 < cLine) : CallR X (.builtin "min") (rBest X.K minD) := by
  intro pins s σ H xs us Q I r h
  obtain ⟨a, vs, d, ds, rfl, hs, hd, ha, hp, q⟩ := h
  rw [Vals.ref1 r]
  rcases hs with hs | hs
  · obtain ⟨its, rv, hl, _⟩ := I.list hs
    obtain ⟨as, rd⟩ := Dp.readsAll I _ _ _ hd rv
    have hn : its.length = ds.length + 1 := readsAll_len _ rd
    refine call_min_walkH (iter_listW (A := X.A.in1) (I.ok.hd hc) hl.isList fun s₂ e W st hfp hw hk => ?_)
    refine ⟨_, _, _, _, _, _, _, s.heap, _, rfl, W, st, hfp, by rw [List.size_toArray]; omega, hw, hk, cmpIn_lt (A := X.A.in1) (vs := its.toArray) rd ha (by show X.A.units + 1 + _ < _; omega), fun v s' hP m => ?_⟩
    obtain ⟨h', tk, rfl, hk'⟩ := moved_old e rfl m
    have e2 := (argBest_fold dataLt PyData.none d ds ds.length (Nat.le_refl _)).2
    rw [List.take_length] at e2
    have e1 : its.toArray.size - 1 = ds.length := by rw [List.size_toArray]; omega
    rw [e1, List.getElem?_toArray] at hP
    obtain ⟨w, h1, h2⟩ := vals_back rv hP
    exact ⟨w, H, I.kept hk', h2, q _ w h1 e2⟩
  · obtain ⟨its, rv, hl, _⟩ := I.tuple hs
    obtain ⟨as, rd⟩ := Dp.readsAll I _ _ _ hd rv
    have hn : its.length = ds.length + 1 := readsAll_len _ rd
    refine call_min_walkH (iter_tupleW (A := X.A.in1) (I.ok.hd hc) hl fun s₂ e W st hfp hw hk => ?_)
    refine ⟨_, _, _, _, _, _, _, s.heap, _, rfl, W, st, hfp, by rw [List.size_toArray]; omega, hw, hk, cmpIn_lt (A := X.A.in1) (vs := its.toArray) rd ha (by show X.A.units + 1 + _ < _; omega), fun v s' hP m => ?_⟩
    obtain ⟨h', tk, rfl, hk'⟩ := moved_old e rfl m
    have e2 := (argBest_fold dataLt PyData.none d ds ds.length (Nat.le_refl _)).2
    rw [List.take_length] at e2
    have e1 : its.toArray.size - 1 = ds.length := by rw [List.size_toArray]; omega
    rw [e1, List.getElem?_toArray] at hP
    obtain ⟨w, h1, h2⟩ := vals_back rv hP
    exact ⟨w, H, I.kept hk', h2, q _ w h1 e2⟩
theorem call_maxD (hc : X.calm = true) (hu : X.A.units + 64 < cLine) : CallR X (.builtin "max") (rBest X.K maxD) := by
  intro pins s σ H xs us Q I r h
  obtain ⟨a, vs, d, ds, rfl, hs, hd, ha, hp, q⟩ := h
  rw [Vals.ref1 r]
  rcases hs with hs | hs
  · obtain ⟨its, rv, hl, _⟩ := I.list hs
    obtain ⟨as, rd⟩ := Dp.readsAll I _ _ _ hd rv
    have hn : its.length = ds.length + 1 := readsAll_len _ rd
    refine call_max_walkH (iter_listW (A := X.A.in1) (I.ok.hd hc) hl.isList fun s₂ e W st hfp hw hk => ?_)
    refine ⟨_, _, _, _, _, _, _, s.heap, _, rfl, W, st, hfp, by rw [List.size_toArray]; omega, hw, hk, cmpIn_gt (A := X.A.in1) (vs := its.toArray) rd ha (by show X.A.units + 1 + _ < _; omega), fun v s' hP m => ?_⟩
    obtain ⟨h', tk, rfl, hk'⟩ := moved_old e rfl m
    have e2 := (argBest_fold (fun a b => dataLt b a) PyData.none d ds ds.length (Nat.le_refl _)).2
    rw [List.take_length] at e2
    have e1 : its.toArray.size - 1 = ds.length := by rw [List.size_toArray]; omega
    rw [e1, List.getElem?_toArray] at hP
    obtain ⟨w, h1, h2⟩ := vals_back rv hP
    exact ⟨w, H, I.kept hk', h2, q _ w h1 e2⟩
  · obtain ⟨its, rv, hl, _⟩ := I.tuple hs
    obtain ⟨as, rd⟩ := Dp.readsAll I _ _ _ hd rv
    have hn : its.length = ds.length + 1 := readsAll_len _ rd
    refine call_max_walkH (iter_tupleW (A := X.A.in1) (I.ok.hd hc) hl fun s₂ e W st hfp hw hk => ?_)
    refine ⟨_, _, _, _, _, _, _, s.heap, _, rfl, W, st, hfp, by rw [List.size_toArray]; omega, hw, hk, cmpIn_gt (A := X.A.in1) (vs := its.toArray) rd ha (by show X.A.units + 1 + _ < _; omega), fun v s' hP m => ?_⟩
    obtain ⟨h', tk, rfl, hk'⟩ := moved_old e rfl m
    have e2 := (argBest_fold (fun a b => dataLt b a) PyData.none d ds ds.length (Nat.le_refl _)).2
    rw [List.take_length] at e2
    have e1 : its.toArray.size - 1 = ds.length := by rw [List.size_toArray]; omega
    rw [e1, List.getElem?_toArray] at hP
    obtain ⟨w, h1, h2⟩ := vals_back rv hP
    exact ⟨w, H, I.kept hk', h2, q _ w h1 e2⟩
/-- sum of a tuple of ints -/
def rSumT (K : Frag) : List V → Hp → VK → Prop := fun xs H Q => ∃ (a : Addr) (ns : List Int), xs = [.ref a] ∧ SqT K H a (ns.map V.int) ∧ Q (.int ns.sum) H
theorem call_sumT (hc : X.calm = true) : CallR X (.builtin "sum") (rSumT X.K) := by
  intro pins s σ H xs us Q I r h
  obtain ⟨a, ns, rfl, hs, q⟩ := h
  rw [Vals.ref1 r]
  obtain ⟨its, rv, hl, _⟩ := I.tuple hs
  obtain ⟨xs, e⟩ := rv.ints.allInts.items
  have hn : numsOf (intItems xs).toList = ns := by rw [← e]; exact rv.ints.numsOf
  rw [nums_intItems] at hn
  refine call_sum_walkAnyS (iter_tupleW (A := X.A.in1) (I.ok.hd hc) hl fun s₂ e2 W st hfp hw hk => ?_)
  refine ⟨_, _, _, _, _, _, _, numAt xs, rfl, W, st, hfp, fun i v hv => intItems_at (by rw [← e]; exact hv), fun s' t' m => ?_⟩
  obtain ⟨h', tk, rfl, hk'⟩ := moved_old e2 rfl m
  have e3 : preSum (numAt xs) its.toArray.size = ns.sum := by
    rw [preSum_eq, e, List.take_of_length_le (by simp [intItems]), hn]
  rw [e3]
  exact ⟨.int _, H, I.kept hk', ⟨_, rfl⟩, q⟩
end
section
variable {X : Cx} (B : Blt X.mg) {env env1 : Ev} {e : Expr} {R : Rs} {d x : D} {ds : List D} {pos p : Pos}
include B
theorem c1_best {K : Frag} {best : D → List D → D} (sd : seqD x = some (d :: ds)) (ha : AlikeAll (d :: ds)) (hp : PyData.depthAll (d :: ds) ≤ 60) : C1 K (rBest K best) x (.val (best d ds)) := by
  intro G F σ H env v Q S hv q
  have key : ∀ {vs : List V} {i : Nat} {w : V}, DRs K F vs (d :: ds) → vs[i]? = some w → (d :: ds).getD i .none = best d ds → DR K F w (best d ds) := fun {vs i w} ra h1 h2 => by
    obtain ⟨d', h3, h4⟩ := ra.getV h1
    rw [List.getD_eq_getElem?_getD, h3] at h2
    exact h2 ▸ h4
  rcases seqD_or sd with e | e <;> subst e
  · obtain ⟨a, vs, rfl, h1, za, ra⟩ := hv.lst S.kf
    exact ⟨a, vs, d, ds, rfl, .inl (.of h1), ra.dp S.kf, ha, hp, fun i w h2 h3 => q F w H (Ext.refl G F) ⟨key ra h2 h3, S⟩⟩
  · obtain ⟨a, vs, rfl, h1, za, ra⟩ := hv.tup S.kf
    exact ⟨a, vs, d, ds, rfl, .inr h1, ra.dp S.kf, ha, hp, fun i w h2 h3 => q F w H (Ext.refl G F) ⟨key ra h2 h3, S⟩⟩
theorem ev_min (hc : X.calm = true) (hu : X.A.units + 64 < cLine) (h : EV X e env R env1) (w : vw (Pd.fz R) env1 = some x) (sd : seqD x = some (d :: ds)) (ha : AlikeAll (d :: ds)) (hp : PyData.depthAll (d :: ds) ≤ 60) (hg : Gl X "min" := by rfl) (he : starEach (e :: []) X.env = (false, eval e X.env) :: starEach [] X.env := by rfl) (hpl : (backTo pos (starEach [] X.env)).any (·.1) = false := by rfl) :
    EV X (.Call (.Name "min" p) [e] [] pos) env (.val (minD d ds)) env1 := ev_b1 (call_minD hc hu) B.min_ bt_min h (c1_best B sd ha hp) w hg (by decide) (by decide) he hpl
theorem ev_max (hc : X.calm = true) (hu : X.A.units + 64 < cLine) (h : EV X e env R env1) (w : vw (Pd.fz R) env1 = some x) (sd : seqD x = some (d :: ds)) (ha : AlikeAll (d :: ds)) (hp : PyData.depthAll (d :: ds) ≤ 60) (hg : Gl X "max" := by rfl) (he : starEach (e :: []) X.env = (false, eval e X.env) :: starEach [] X.env := by rfl) (hpl : (backTo pos (starEach [] X.env)).any (·.1) = false := by rfl) :
    EV X (.Call (.Name "max" p) [e] [] pos) env (.val (maxD d ds)) env1 := ev_b1 (call_maxD hc hu) B.max_ bt_max h (c1_best B sd ha hp) w hg (by decide) (by decide) he hpl
theorem ev_sumT {ns : List Int} (hc : X.calm = true) (h : EV X e env R env1) (w : vw (Pd.fz R) env1 = some (.tuple (ns.map .int))) (hg : Gl X "sum" := by rfl) (he : starEach (e :: []) X.env = (false, eval e X.env) :: starEach [] X.env := by rfl) (hpl : (backTo pos (starEach [] X.env)).any (·.1) = false := by rfl) :
    EV X (.Call (.Name "sum" p) [e] [] pos) env (.val (.int ns.sum)) env1 := ev_b1 (call_sumT hc) B.sum_ bt_sum h (fun G F σ H env v Q S hv q => by
      obtain ⟨a, vs, rfl, h1, za, ra⟩ := hv.tup S.kf
      rw [ra.ints] at h1
      exact ⟨a, ns, rfl, h1, q F _ H (Ext.refl G F) ⟨.int _, S⟩⟩) w hg (by decide) (by decide) he hpl
end
/-! ### the order of tuples of ints -/
theorem lexTok (a b : List Int) : PyProof.Rows.lexLt itemOrd (keyToksAll (a.map PyData.int)) (keyToksAll (b.map PyData.int)) = HT.lexLt a b := by
  induction a generalizing b with
  | nil =>
    cases b with
    | nil => rfl
    | cons y b => rfl
  | cons x a ih =>
    cases b with
    | nil => rfl
    | cons y b =>
      rw [List.map_cons, List.map_cons, HT.lexLt_cons, ← ih b]
      show PyProof.Rows.lexLt itemOrd (.inl 1 :: (.inl x :: keyToksAll (a.map PyData.int))) (.inl 1 :: (.inl y :: keyToksAll (b.map PyData.int))) = _
      rw [PyProof.Rows.lex_self]
      by_cases h : x = y
      · subst h
        rw [if_pos rfl]
        exact PyProof.Rows.lex_self _ _ _
      · rw [if_neg h]
        rw [lex_atom (fun z => h (Sum.inl.inj z)), lex_one]
        rfl
theorem ltT (a b : List Int) : dataLt (.tuple (a.map .int)) (.tuple (b.map .int)) = HT.lexLt a b := (dataLt_tuple _ _).trans (lexTok a b)
theorem lex_irr : ∀ a : List Int, HT.lexLt a a = false
  | [] => rfl
  | x :: a => by rw [HT.lexLt_cons, if_pos rfl]; exact lex_irr a
theorem lex_tr : ∀ {a b c : List Int}, HT.lexLt a b = true → HT.lexLt b c = true → HT.lexLt a c = true
  | [], [], _, h, _ => by cases h
  | [], _ :: _, [], _, h => by cases h
  | [], _ :: _, _ :: _, _, _ => rfl
  | _ :: _, [], _, h, _ => by cases h
  | _ :: _, _ :: _, [], _, h => by cases h
  | x :: a, y :: b, z :: c, h, h' => by
    rw [HT.lexLt_cons] at h h' ⊢
    by_cases e : x = y
    · subst e
      rw [if_pos rfl] at h
      by_cases e2 : x = z
      · rw [if_pos e2] at h' ⊢
        exact lex_tr h h'
      · rw [if_neg e2] at h' ⊢
        exact h'
    · rw [if_neg e, decide_eq_true_iff] at h
      by_cases e2 : y = z
      · subst e2
        rw [if_neg e, decide_eq_true_iff]
        exact h
      · rw [if_neg e2, decide_eq_true_iff] at h'
        rw [if_neg (by omega), decide_eq_true_iff]
        omega
theorem lex_tot : ∀ {a b : List Int}, HT.lexLt a b = false → HT.lexLt b a = false → a = b
  | [], [], _, _ => rfl
  | [], _ :: _, h, _ => by cases h
  | _ :: _, [], _, h => by cases h
  | x :: a, y :: b, h, h' => by
    rw [HT.lexLt_cons] at h h'
    by_cases e : x = y
    · subst e
      rw [if_pos rfl] at h h'
      rw [lex_tot h h']
    · rw [if_neg e, decide_eq_false_iff_not] at h
      rw [if_neg (Ne.symm e), decide_eq_false_iff_not] at h'
      omega
/-- the least of x :: xs -/
def minT (x : List Int) (xs : List (List Int)) : List Int := xs.foldl (fun a y => if HT.lexLt y a = true then y else a) x
abbrev tupI (l : List Int) : D := .tuple (l.map .int)
theorem minD_tup (x : List Int) (xs : List (List Int)) : minD (tupI x) (xs.map tupI) = tupI (minT x xs) := by
  unfold minD minT
  induction xs generalizing x with
  | nil => rfl
  | cons y ys ih =>
    rw [List.map_cons, List.foldl_cons, List.foldl_cons, ← ih, ltT]
    cases HT.lexLt y x <;> rfl
theorem minT_mem (x : List Int) (xs : List (List Int)) : minT x xs ∈ x :: xs := by
  unfold minT
  induction xs generalizing x with
  | nil => exact List.mem_cons_self
  | cons y ys ih =>
    rw [List.foldl_cons]
    have h := ih (if HT.lexLt y x = true then y else x)
    rcases List.mem_cons.mp h with e | e
    · rw [e]
      split
      · exact List.mem_cons_of_mem _ List.mem_cons_self
      · exact List.mem_cons_self
    · exact List.mem_cons_of_mem _ (List.mem_cons_of_mem _ e)
theorem minT_le (x : List Int) (xs : List (List Int)) : ∀ y ∈ x :: xs, HT.lexLt y (minT x xs) = false := by
  unfold minT
  induction xs generalizing x with
  | nil =>
    intro y hy
    rw [List.mem_singleton] at hy
    subst hy
    exact lex_irr _
  | cons z zs ih =>
    intro y hy
    rw [List.foldl_cons]
    have h := ih (if HT.lexLt z x = true then z else x)
    have hb := h _ List.mem_cons_self
    rcases List.mem_cons.mp hy with e | e
    · subst e
      by_cases hz : HT.lexLt z y = true
      · rw [if_pos hz] at hb ⊢
        by_cases q : HT.lexLt y (zs.foldl (fun a y => if HT.lexLt y a = true then y else a) z) = true
        · have := lex_tr hz q
          rw [this] at hb
          cases hb
        · exact Bool.eq_false_iff.mpr q
      · rw [if_neg hz] at hb ⊢
        exact hb
    · rcases List.mem_cons.mp e with e | e
      · subst e
        by_cases hz : HT.lexLt y x = true
        · rw [if_pos hz] at hb ⊢
          exact hb
        · rw [if_neg hz] at hb ⊢
          by_cases q : HT.lexLt y (zs.foldl (fun a y => if HT.lexLt y a = true then y else a) x) = true
          · -- y < best, best ≤ x
            by_cases q2 : HT.lexLt (zs.foldl (fun a y => if HT.lexLt y a = true then y else a) x) x = true
            · exact absurd (lex_tr q q2) hz
            · have := lex_tot hb (Bool.eq_false_iff.mpr q2)
              rw [← this] at q
              exact absurd q hz
          · exact Bool.eq_false_iff.mpr q
      · exact h y (List.mem_cons_of_mem _ e)
/-- two rows with the same members have the same least one -/
theorem minT_same {x y : List Int} {xs ys : List (List Int)} (h : ∀ z ∈ x :: xs, ∃ z' ∈ y :: ys, HT.lexLt z z' = false) (h' : ∀ z ∈ y :: ys, ∃ z' ∈ x :: xs, HT.lexLt z z' = false) : minT x xs = minT y ys := by
  have le_tr : ∀ {a b c : List Int}, HT.lexLt a b = false → HT.lexLt b c = false → HT.lexLt a c = false := fun {a b c} p q => by
    by_cases z : HT.lexLt a c = true
    · by_cases w : HT.lexLt b a = true
      · rw [lex_tr w z] at q; cases q
      · have := lex_tot p (Bool.eq_false_iff.mpr w)
        subst this
        rw [z] at q
        cases q
    · exact Bool.eq_false_iff.mpr z
  refine lex_tot ?_ ?_
  · obtain ⟨z', h1, h2⟩ := h _ (minT_mem x xs)
    exact le_tr h2 (minT_le y ys z' h1)
  · obtain ⟨z', h1, h2⟩ := h' _ (minT_mem y ys)
    exact le_tr h2 (minT_le x xs z' h1)
theorem alikeI : ∀ a b : List Int, alikeAll (a.map PyData.int) (b.map PyData.int) = true
  | [], [] => rfl
  | [], _ :: _ => rfl
  | _ :: _, [] => rfl
  | x :: a, y :: b => by
    rw [List.map_cons, List.map_cons, alikeAll, alikeI a b]
    rfl
theorem alike_tups (xs : List (List Int)) : AlikeAll (xs.map tupI) := by
  refine ⟨fun x hx y hy => ?_, fun x hx => ?_⟩
  · obtain ⟨a, _, rfl⟩ := List.mem_map.mp hx
    obtain ⟨b, _, rfl⟩ := List.mem_map.mp hy
    show alike (.tuple _) (.tuple _) = true
    rw [alike]
    exact alikeI a b
  · obtain ⟨a, _, rfl⟩ := List.mem_map.mp hx
    intro e
    cases e
theorem alike_ints (xs : List Int) : AlikeAll (xs.map PyData.int) := by
  refine ⟨fun x hx y hy => ?_, fun x hx => ?_⟩
  · obtain ⟨a, _, rfl⟩ := List.mem_map.mp hx
    obtain ⟨b, _, rfl⟩ := List.mem_map.mp hy
    rfl
  · obtain ⟨a, _, rfl⟩ := List.mem_map.mp hx
    intro e
    cases e
theorem depth_ints : ∀ xs : List Int, PyData.depthAll (xs.map PyData.int) ≤ 1
  | [] => Nat.zero_le _
  | x :: r => by
    rw [List.map_cons, PyData.depthAll]
    exact Nat.max_le.mpr ⟨by rw [PyData.depth]; decide, depth_ints r⟩
theorem depth_tups : ∀ xs : List (List Int), PyData.depthAll (xs.map tupI) ≤ 2
  | [] => Nat.zero_le _
  | x :: r => by
    rw [List.map_cons, PyData.depthAll]
    refine Nat.max_le.mpr ⟨?_, depth_tups r⟩
    rw [PyData.depth]
    have := depth_ints x
    omega
theorem hu_of {k : Nat} {A : Around} (h : Room k A) : A.units + 64 < cLine := by
  have := h.un
  omega
theorem hu65_of {k : Nat} {A : Around} (h : Room k A) : A.units + 65 < cLine := by
  have := h.un
  omega
section
variable {X : Cx} {env env1 env2 : Ev} {a b : Expr} {Ra Rb : Rs} {i : Int} {x y : D} {pos : Pos}
theorem et_inI {ns : List Int} (h : EV X a env Ra env1) (h2 : EV X b env1 Rb env2) (wx : vw (Pd.fz Ra) env2 = some (.int i)) (wy : vw (Pd.fz Rb) env2 = some y) (e : y = .tuple (ns.map .int) ∨ y = .list (ns.map .int)) (hm : behindInMarks .In b = false := by rfl) (fl : (Pd.fz Ra).flat = true := by rfl) : ET X (.Compare a [.In] [b] pos) env (decide (i ∈ ns)) env2 := et_cmp op_in_seq h h2 (opd_inI e) wx wy hm fl
theorem et_niI {ns : List Int} (h : EV X a env Ra env1) (h2 : EV X b env1 Rb env2) (wx : vw (Pd.fz Ra) env2 = some (.int i)) (wy : vw (Pd.fz Rb) env2 = some y) (e : y = .tuple (ns.map .int) ∨ y = .list (ns.map .int)) (hm : behindInMarks .NotIn b = false := by rfl) (fl : (Pd.fz Ra).flat = true := by rfl) : ET X (.Compare a [.NotIn] [b] pos) env (!decide (i ∈ ns)) env2 := et_cmp op_notIn_seq h h2 (opd_niI e) wx wy hm fl
theorem et_inD {xs : List D} (hu : X.A.units + 65 < cLine) (h : EV X a env Ra env1) (h2 : EV X b env1 Rb env2) (wx : vw (Pd.fz Ra) env2 = some x) (wy : vw (Pd.fz Rb) env2 = some (.list xs)) (sx : SeqAt.shaped x = true) (sy : SeqAt.shaped (.list xs) = true) (hm : behindInMarks .In b = false := by rfl) (fl : (Pd.fz Ra).flat = true := by rfl) : ET X (.Compare a [.In] [b] pos) env (xs.any fun z => PyData.eqv z x) env2 := et_cmp (op_inD hu) h h2 (opd_inD sx sy) wx wy hm fl
end
theorem hu80_of {k : Nat} {A : Around} (h : Room k A) : A.units + 80 < cLine := by
  have := h.un
  omega
theorem canAll {l : List D} (h : ∀ x ∈ l, PyData.canLay0 x = true) : PyData.canLayAll0 l = true := all_lay h
theorem shaped_tup (l : List Int) : SeqAt.shaped (.tuple (l.map .int)) = true := by
  unfold SeqAt.shaped
  have h1 : PyData.canLay0 (.tuple (l.map PyData.int)) = true := by
    unfold PyData.canLay0
    exact all_lay fun x hx => by
      obtain ⟨a, _, rfl⟩ := List.mem_map.mp hx
      rfl
  rw [h1, decide_eq_true (by
    have := depth_ints l
    rw [PyData.depth]
    omega)]
  rfl
theorem shaped_tups (l : List (List Int)) : SeqAt.shaped (.list (l.map tupI)) = true := by
  unfold SeqAt.shaped
  have h1 : PyData.canLay0 (.list (l.map tupI)) = true := by
    unfold PyData.canLay0
    exact all_lay fun x hx => by
      obtain ⟨a, _, rfl⟩ := List.mem_map.mp hx
      have := shaped_tup a
      exact SeqAt.canLay_of_shaped this
  rw [h1, decide_eq_true (by
    have := depth_tups l
    rw [PyData.depth]
    omega)]
  rfl
theorem eqvAll_ints : ∀ a b : List Int, PyData.eqvAll (a.map .int) (b.map .int) = decide (a = b)
  | [], [] => by rfl
  | [], _ :: _ => by rfl
  | _ :: _, [] => by rfl
  | x :: a, y :: b => by
    rw [List.map_cons, List.map_cons, PySem.W.eqv_all_cons, eqvAll_ints a b]
    have e : PyData.eqv (.int x) (.int y) = (x == y) := by rfl
    rw [e, Bool.eq_iff_iff, Bool.and_eq_true, beq_iff_eq, decide_eq_true_iff, decide_eq_true_iff, List.cons.injEq]
theorem eqv_tup (a b : List Int) : PyData.eqv (.tuple (a.map .int)) (.tuple (b.map .int)) = decide (a = b) := by
  rw [← eqvAll_ints]
  rfl
/-! x = [.. for ..] on one line -/
section
variable {X : Cx} {ea : Str → Addr} {W : WX} {rest : List Stmt} {Post : Out → Prop} {env env1 : Ev} {y : Str} {py spos pos : Pos}
theorem es_setLc1 {α : Type} {tg iter elt c : Expr} {scope : Scope} {xs : List α} {g : α → D} {q : α → Bool} {R : α → Rs} {f : α → D} (i : Nat) (own : List (Str × Nat)) (t : Tgt) (hc : X.calm = true) (hN : X.N.Nodup) (hi : EI X tg iter env (xs.map g) env1) (ok : BlkOk X.N X.env.scope scope own)
    (hg : ∀ sh H C cl fp, PG (blkC' X scope sh H C cl fp) tg (t.g X.K)) (hz : xs.length ≤ sizeLine)
    (ht : ∀ a ∈ xs, ∀ sh H C cl fp, ET (blkC' X scope sh H C cl fp) c (t.bind (wipeE (own.map (·.2)) 0 env1) (g a)) (q a) (t.bind (wipeE (own.map (·.2)) 0 env1) (g a)))
    (he : ∀ a ∈ xs, q a = true → ∀ sh H C cl fp, EV (blkC' X scope sh H C cl fp) elt (t.bind (wipeE (own.map (·.2)) 0 env1) (g a)) (R a) (t.bind (wipeE (own.map (·.2)) 0 env1) (g a))) (hf : ∀ a, Pd.fz (R a) = .val (f a)) (hok : ∀ a, t.okB env1.length (g a) = true)
    (k : ES X ea W rest (env1.set i (.lst none ((xs.filter q).map f))) Post) (hts : (t.slots.all fun i => (own.map (·.2)).elem i) = true := by rfl) (hno : ((own.map (·.2)).all fun i => !(ge env1 i).own) = true := by rfl) (hy : X.N[i]? = some y := by rfl) (hyl : X.env.scope.names.lookup y = some .local := by rfl) (hl : Nat.blt i env1.length = true := by rfl)
    (hsw : swapsWith (.ListComp elt [⟨tg, iter, [c], 0⟩] scope pos) (some (.Name y py)) spos.line X.env = pure true := by exact sw_true rfl rfl rfl (by decide +kernel)) (hs : ∀ x, foldedSetIterable iter X.env x = pure x := by intro _; rfl) :
    ES X ea W (.Assign [.Name y py] (.ListComp elt [⟨tg, iter, [c], 0⟩] scope pos) spos :: rest) env Post :=
  es_setLcS i (lcs_pure (ifs := [c]) (p := q) (f := f) (own := own) (t := t) hc hN hi ok hg (hts_of hts) hz (fun a _ => Tgt.ok_of (hok a)) (fun a ha sh H C cl fp => ets_one (ht a ha sh H C cl fp)) he hf (hno_of hno)) (by rw [lcA_pure]; exact k) hy hyl hl hsw hs
theorem es_setLc0 {α : Type} {tg iter elt : Expr} {scope : Scope} {xs : List α} {g : α → D} {R : α → Rs} {f : α → D} (i : Nat) (own : List (Str × Nat)) (t : Tgt) (hc : X.calm = true) (hN : X.N.Nodup) (hi : EI X tg iter env (xs.map g) env1) (ok : BlkOk X.N X.env.scope scope own)
    (hg : ∀ sh H C cl fp, PG (blkC' X scope sh H C cl fp) tg (t.g X.K)) (hz : xs.length ≤ sizeLine)
    (he : ∀ a ∈ xs, ∀ sh H C cl fp, EV (blkC' X scope sh H C cl fp) elt (t.bind (wipeE (own.map (·.2)) 0 env1) (g a)) (R a) (t.bind (wipeE (own.map (·.2)) 0 env1) (g a))) (hf : ∀ a, Pd.fz (R a) = .val (f a)) (hok : ∀ a, t.okB env1.length (g a) = true)
    (k : ES X ea W rest (env1.set i (.lst none (xs.map f))) Post) (hts : (t.slots.all fun i => (own.map (·.2)).elem i) = true := by rfl) (hno : ((own.map (·.2)).all fun i => !(ge env1 i).own) = true := by rfl) (hy : X.N[i]? = some y := by rfl) (hyl : X.env.scope.names.lookup y = some .local := by rfl) (hl : Nat.blt i env1.length = true := by rfl)
    (hsw : swapsWith (.ListComp elt [⟨tg, iter, [], 0⟩] scope pos) (some (.Name y py)) spos.line X.env = pure true := by exact sw_true rfl rfl rfl (by decide +kernel)) (hs : ∀ x, foldedSetIterable iter X.env x = pure x := by intro _; rfl) :
    ES X ea W (.Assign [.Name y py] (.ListComp elt [⟨tg, iter, [], 0⟩] scope pos) spos :: rest) env Post :=
  es_setLcS i (lcs_pure (ifs := []) (p := fun _ => true) (f := f) (own := own) (t := t) hc hN hi ok hg (hts_of hts) hz (fun a _ => Tgt.ok_of (hok a)) (fun a _ sh H C cl fp => ets_nil) (fun a ha _ => he a ha) hf (hno_of hno)) (by rw [lcA_pure, List.filter_eq_self.mpr fun _ _ => rfl]; exact k) hy hyl hl hsw hs
theorem es_setLcD {α S : Type} {tg iter elt : Expr} {ifs : List Expr} {scope : Scope} {xs : List α} {g : α → D} {R : α → S → Rs} {pt : α → S → Bool × S} {ef : α → S → D × S} (i : Nat) (own : List (Str × Nat)) (t : Tgt) (mk : S → Ev) (s0 : S) (J : S → Prop) (hc : X.calm = true) (hN : X.N.Nodup) (hi : EI X tg iter env (xs.map g) env1) (h0 : env1 = mk s0) (ok : BlkOk X.N X.env.scope scope own)
    (hg : ∀ sh H C cl fp, PG (blkC' X scope sh H C cl fp) tg (t.g X.K)) (hz : xs.length ≤ sizeLine) (j0 : J s0)
    (ht : ∀ a s, a ∈ xs → J s → ∀ sh H C cl fp, PTs (blkC' X scope sh H C cl fp) ifs (tTt X.K (t.bind (mk s) (g a)) (pt a s).1 (t.bind (mk (pt a s).2) (g a))))
    (he : ∀ a s, a ∈ xs → J s → (pt a s).1 = true → ∀ sh H C cl fp, EV (blkC' X scope sh H C cl fp) elt (t.bind (mk (pt a s).2) (g a)) (R a (pt a s).2) (t.bind (mk (ef a (pt a s).2).2) (g a))) (hf : ∀ a s, Pd.fz (R a s) = .val (ef a s).1)
    (hj : ∀ a s, a ∈ xs → J s → J (pt a s).2 ∧ J (ef a (pt a s).2).2) (hok : ∀ s a, t.okB (mk s).length (g a) = true) (hl : ∀ s s', (mk s).length = (mk s').length) (hun : ∀ s, (own.all fun q => isUn (ge (mk s) q.2)) = true)
    (k : ES X ea W rest ((mk (lcA pt ef xs s0).2).set i (.lst none (lcA pt ef xs s0).1)) Post) (hts : (t.slots.all fun i => (own.map (·.2)).elem i) = true := by rfl) (hy : X.N[i]? = some y := by rfl) (hyl : X.env.scope.names.lookup y = some .local := by rfl) (hli : Nat.blt i (mk (lcA pt ef xs s0).2).length = true := by rfl)
    (hsw : swapsWith (.ListComp elt [⟨tg, iter, ifs, 0⟩] scope pos) (some (.Name y py)) spos.line X.env = pure true := by exact sw_true rfl rfl rfl (by decide +kernel)) (hs : ∀ x, foldedSetIterable iter X.env x = pure x := by intro _; rfl) :
    ES X ea W (.Assign [.Name y py] (.ListComp elt [⟨tg, iter, ifs, 0⟩] scope pos) spos :: rest) env Post :=
  es_setLcS i (lcs_st own t mk s0 J hc hN hi h0 ok hg hz j0 ht he hf hj hok hl hun hts) k hy hyl hli hsw hs
end
end Pd
set_option Elab.async false
set_option linter.all false
set_option maxRecDepth 100000
set_option maxHeartbeats 4000000
namespace Pd
open PySem PySem.Spec PyProof.Rows L2
open PySem.W (iter_listW moved_old)
/-! a, b, .. = a list -/
section
variable {prog : Program} {w : World} {A : Around} {E : Value → Shared → Prop}
theorem draw_walk {I : Addr} {fp wr : List Addr} {G : Array GenState → Array GenState → Prop} {N : Nat} {P : Nat → Value → Prop} {St : Nat → Shared → Prop} (W : WalksS prog w A I fp wr G N P St) : ∀ (n i : Nat) (s : Shared) (Q : List Value → Shared → Prop), St i s → i + n ≤ N →
    (∀ vs s', vs.length = n → (∀ j v, vs[j]? = some v → P (i + j) v) → St (i + n) s' → Moved wr G s s' → Q vs s') → wpAny (model prog w) A (draw (.ref I) n) Q E s
  | 0, i, s, Q, st, _, hQ => by
    show wpAny _ _ (pure []) Q E s
    exact wpAny_pure (hQ [] s rfl (fun j v h => by simp at h) st (Moved.refl W.grefl))
  | n + 1, i, s, Q, st, hle, hQ => by
    show wpAny _ _ (pyNext (.ref I) >>= _) Q E s
    refine wpAny_bind (W.item i s _ _ (by omega) st fun v s1 hv st1 m1 => ?_)
    refine wpAny_bind (wpAny_holding (draw_walk W n (i + 1) _ _ st1 (by omega) fun vs s2 hl hp st2 m2 => wpAny_pure ?_))
    refine hQ (v :: vs) s2 (by rw [List.length_cons, hl]) (fun j u hj => ?_) (by rw [show i + (n + 1) = i + 1 + n by omega]; exact st2) (m1.trans W.gtrans m2)
    cases j with
    | zero =>
      have e : v = u := by simpa using hj
      exact e ▸ hv
    | succ j =>
      have := hp j u (by simpa using hj)
      rwa [show i + 1 + j = i + (j + 1) by omega] at this
theorem unpackItems_list {s : Shared} {l : Addr} {items : Array Value} {Q : List Value → Shared → Prop} (hh : A.handled = none) (hl : s.heap.IsList l items)
    (hQ : ∀ h' tk, (∀ b o, s.heap.get? b = some o → h'.get? b = some o) → Q items.toList { s with heap := h', toks := tk }) : wpAny (model prog w) A (unpackItems (.ref l) items.size none) Q E s := by
  unfold unpackItems
  refine wpAny_bind ?_
  unfold notIterableAtAll
  refine wpAny_bind (wpAny_specialOf hl.typeIs slot_list_iter.lookup ?_)
  refine wpAny_pure ?_
  simp only [Bool.false_eq_true, if_false]
  refine wpAny_bind (wpAny_holding (iter_listW hh hl fun s₂ e W st _ _ _ => ?_))
  refine wpAny_bind (wpAny_holding (draw_walk W items.size 0 _ _ st (by omega) fun vs s3 hn hp st3 m3 => ?_))
  have e2 : vs = items.toList := by
    refine List.ext_getElem? fun j => ?_
    by_cases hj : j < vs.length
    · have h1 := hp j _ (List.getElem?_eq_getElem hj)
      rw [Nat.zero_add, ← Array.getElem?_toList] at h1
      rw [h1, List.getElem?_eq_getElem hj]
    · rw [List.getElem?_eq_none (by omega), List.getElem?_eq_none (by rw [Array.length_toList]; omega)]
  subst e2
  rw [if_neg (by simp)]
  refine wpAny_bind (wpAny_holding (W.done _ _ _ (by rw [Nat.zero_add] at st3; exact st3) fun s4 m4 => ?_))
  simp only [Option.isSome_none, Bool.false_eq_true, if_false]
  obtain ⟨h', tk, rfl, hk⟩ := moved_old e rfl (m3.trans W.gtrans m4)
  exact wpAny_pure (hQ h' tk hk)
theorem assign_Tuple_list {s : Shared} {env : Env} {elts : List Expr} {x1} {pos : Pos} {l : Addr} {items : Array Value} {Q : Unit → Shared → Prop} (hh : A.handled = none) (hl : s.heap.IsList l items)
    (hn : (assignEach elts env).length = items.size) (hstar : (assignEach elts env).findIdx? (·.1) = none)
    (h : ∀ h' tk, (∀ b o, s.heap.get? b = some o → h'.get? b = some o) → wpAny (model prog w) A (assignInOrder ((assignEach elts env).map (·.2)) items.toList) Q E { s with heap := h', toks := tk }) :
    wpAny (model prog w) A (assign (.Tuple elts x1 pos) env (.ref l)) Q E s := by
  rw [assign_Tuple]
  refine wpAny_bind (wpAny_standAt ?_)
  unfold unpack
  rw [hn, hstar]
  exact wpAny_bind (wpAny_holding (unpackItems_list hh hl h))
end
def gLst (K : Frag) (n : Nat) (t : TGs) : TG := fun v σ H Q => ∃ a xs, v = .ref a ∧ SqL K H a xs ∧ xs.length = n ∧ t xs σ H Q
theorem pg_lst {X : Cx} {pos : Pos} {es : List Expr} {k : Nat} {t : TGs} {n : Nat} (hc : X.calm = true) (h : PGs X es t)
    (hn : (assignEach es X.env).length = n := by rfl) (hst : (assignEach es X.env).findIdx? (·.1) = none := by rfl) : PG X (.Tuple es k pos) (gLst X.K n t) := by
  refine ⟨fun pins s σ H v u Q I r hw => ?_⟩
  obtain ⟨a, xs, e1, hq, hl, hw⟩ := hw
  subst e1
  cases r
  obtain ⟨its, rv, ht, hz⟩ := I.list hq
  refine assign_Tuple_list (I.ok.hd hc) ht.isList (by simp [hn, ← hl, rv.length]) hst fun h' tk hx => ?_
  exact h.run pins _ σ H xs _ Q (I.kept hx) (by simpa using rv) hw
section
variable {X : Cx} {ea : Str → Addr} {W : WX} {rest : List Stmt} {env env1 env2 env3 : Ev} {Post : Out → Prop} {tg e a b o : Expr} {pos p pos' apos cpos : Pos} {R Ra Rb Rv : Rs} {d x y : D} {ds : List D} {i : Nat} {z j : Int} {pin pin0 : Option Addr}
/-- a, b, .. = e, which is a list -/
theorem es_asgL (is : List Nat) (h : EV X e env R env1) (hf : Pd.fz R = .val (.list ds)) (hg : PG X tg (gLst X.K is.length (gNames is))) (hl : ds.length = is.length) (hi : (is.all fun i => Nat.blt i env1.length) = true) (k : ES X ea W rest (setAll env1 is ds) Post) (hs : swapsWithSole [tg] e pos.line X.env = pure false := by rfl) (hw : swappedStores [tg] e X.env = pure none := by rfl)
    (h1 : (assignEach [tg] X.env).map (·.2) = [assign tg X.env] := by rfl) : ES X ea W (.Assign [tg] e pos :: rest) env Post :=
  PSs.wk (pss_seq (ps_asg h hg hs hw h1) k) fun D σ H ⟨G, F, S, q⟩ => ⟨G, F, S, fun F1 v H1 x1 r1 => by
    obtain ⟨F2, x2, r2⟩ := r1.fz
    rw [hf] at r2
    obtain ⟨r, S2⟩ := r2
    cases r with
    | lst a b c =>
      exact ⟨_, _, rfl, .of (S2.kf _ _ a), by rw [c.length]; exact hl, gNames_run c hl (fun i m => blt_lt (List.all_eq_true.mp hi i m)) S2 fun σ' _ _ S' => ⟨G, F2, S', fun o p F3 x3 => q o p F3 ((x1.trans x2).trans x3)⟩⟩⟩
/-! the list that a name owns -/
theorem ev_popAt {k : Nat} (ho : EV X o env (.ptr i) env) (g0 : ge env i = .lst pin0 ds) {ds1 : List D} (h : EV X e env (.val (.int z)) env1) (g : ge env1 i = .lst pin ds1) (h0 : 0 ≤ z) (hz : z < ds1.length) (hd : ds1[z.toNat]? = some d) (hbase : attributeBase o "pop" X.env (eval o X.env) = eval o X.env := by rfl)
    (hfew : ((backTo cpos (starEach (e :: []) X.env)).all (fun x => !x.1) && (backToKw cpos (keywordEach [] X.env)).all (fun x => x.1.isSome) && decide ((e :: []).length + ([] : List Keyword).length + (if ([] : List Keyword).isEmpty then 0 else 1) < 30)) = true := by rfl)
    (hline : (apos.endLine == cpos.line) = true := by rfl) (hs : starEach (e :: []) X.env = (false, eval e X.env) :: starEach [] X.env := by rfl) (hplain : (backTo cpos (starEach [] X.env)).any (·.1) = false := by rfl) :
    EV X (.Call (.Attribute o "pop" apos) [e] [] cpos) env (.val d) (env1.set i (.lst pin (ds1.eraseIdx z.toNat))) :=
  PE.wk (pe_bm PySem.F.plainAttrs_list PySem.F.slot_list_pop PySem.F.type_list_pop mt_popAt ho (pa_cons h pa_nil hs) hbase hfew hline hs hplain) fun σ H Q ⟨G, F, S, q⟩ => ⟨G, F, S, fun F1 v H1 x1 r1 => by
    obtain ⟨e1, S1⟩ := r1
    refine ⟨ptr_ty S1 g0 e1, G, F1, S1, fun F2 u H2 x2 r2 => ?_⟩
    obtain ⟨r2, S2⟩ := r2
    have r2 := r2.int_iff
    subst r2
    obtain ⟨p, vs, e2, _, hp, zz, r, f, g'⟩ := S2.lstS g
    rw [e1] at e2
    cases e2
    obtain ⟨w, hw, rw'⟩ := r.get hd
    have hl := r.length
    have hL : vs.length ≤ 2 ^ 62 := Nat.le_trans zz (by rw [sizeLine_eq]; decide)
    refine ⟨p, vs, z, z.toNat, w, rfl, rfl, hp, by omega, by omega, seqIndex_of h0 (by omega), hw, q F2 _ _ (x1.trans x2) ⟨rw', S2.write g e1 ?_ (r.eraseIdx _)⟩⟩
    exact Nat.le_trans (List.length_eraseIdx_le _ _) zz⟩
theorem ixN_pos {n : Nat} (h0 : 0 ≤ z) (hz : z < n) : ixN n z = some z.toNat := by
  unfold ixN
  rw [if_pos h0, if_pos hz]
/-- xs[i] = e -/
theorem es_lput (i : Nat) (hv : EV X e env Rv env1) (hf : Pd.fz Rv = .val d) (ho : EV X o env1 (.ptr i) env1) (hi : EV X a env1 (.val (.int z)) env2) (g : ge env2 i = .lst pin ds) (h0 : 0 ≤ z) (hz : z < ds.length) (k : ES X ea W rest (env2.set i (.lst pin (ds.set z.toNat d))) Post)
    (ha : ∀ v, assign (.Subscript o a pos') X.env v = (do
      let ov ← holding [v] (eval o X.env)
      let iv ← holding [v, ov] (eval a X.env)
      standAt pos'
      holding [v, ov, iv] (setItem ov iv v)
      release [v, ov, iv] []) := by intro _; rfl)
    (hs : swapsWithSole [.Subscript o a pos'] e pos.line X.env = pure false := by rfl) (hw : swappedStores [.Subscript o a pos'] e X.env = pure none := by rfl)
    (h1 : (assignEach [.Subscript o a pos'] X.env).map (·.2) = [assign (.Subscript o a pos') X.env] := by rfl) : ES X ea W (.Assign [.Subscript o a pos'] e pos :: rest) env Post :=
  PSs.wk (pss_seq (ps_asg hv (pg_sub ho hi set_list ha) hs hw h1) k) fun D σ H ⟨G, F, S, q⟩ => ⟨G, F, S, fun F1 v H1 x1 r1 => by
    obtain ⟨F2, x2, r2⟩ := r1.fz
    rw [hf] at r2
    obtain ⟨rv, S2⟩ := r2
    refine ⟨G, F2, S2, fun F3 u H3 x3 r3 => ?_⟩
    obtain ⟨e1, S3⟩ := r3
    refine ⟨G, F3, S3, fun F4 y H4 x4 r4 => ?_⟩
    obtain ⟨ry, S4⟩ := r4
    have ry := ry.int_iff
    subst ry
    obtain ⟨p, vs, e2, _, hp, zz, r, f, g'⟩ := S4.lstS g
    rw [e1] at e2
    cases e2
    refine ⟨p, vs, z, z.toNat, rfl, rfl, hp, ixN_pos h0 (by rw [r.length]; exact hz), G, F4, ?_, fun o p F5 x5 => q o p F5 ((((x1.trans x2).trans x3).trans x4).trans x5)⟩
    exact S4.write g e1 (by rw [List.length_set]; exact zz) (DRs.set (rv.mono (x3.le.trans x4.le)) _ r)⟩
def rGetP (K : Frag) : V → V → Hp → VK → Prop := fun o i H Q => ∃ p xs k v, o = .ref p ∧ i = .int k ∧ H p = some (.lst xs) ∧ 0 ≤ k ∧ k < xs.length ∧ xs[k.toNat]? = some v ∧ Q v H
theorem get_list : PGet X (rGetP X.K) := by
  intro pins s σ H o i ov iv Q I ro ri h
  obtain ⟨p, xs, k, v, rfl, rfl, hp, h0, hk, hv, q⟩ := h
  cases ro
  obtain ⟨t, rfl⟩ := ri
  obtain ⟨its, r, pl, hz⟩ := I.list (.of hp)
  obtain ⟨w, ew, rw'⟩ := r.get hv
  have hn := line63
  exact wpAny_getItem_list pl.isList h0 (by omega) (by rw [List.getElem?_toArray]; exact ew) ⟨v, H, I, rw', q⟩
/-- xs[i] += e, ints -/
theorem es_laug (i : Nat) {u : Int} (ho : EV X o env (.ptr i) env) (hi : EV X a env (.val (.int z)) env1) (he : EV X e env1 (.val (.int j)) env1) (g : ge env1 i = .lst pin ds) (h0 : 0 ≤ z) (hz : z < ds.length) (hd : ds[z.toNat]? = some (.int u)) (k : ES X ea W rest (env1.set i (.lst pin (ds.set z.toNat (.int (u + j))))) Post)
    (ha : ∀ ov iv new, augStore a ov iv new = (do holding [new, ov, iv] (setItem ov iv new); release [new, ov, iv] []; pure .next) := by intros; rfl) : ES X ea W (.AugAssign (.Subscript o a pos') .Add e pos :: rest) env Post :=
  PSs.wk (pss_seq (ps_augS ho hi get_list he ip_add set_list ha) k) fun D σ H ⟨G, F, S, q⟩ => ⟨G, F, S, fun F1 v H1 x1 r1 => by
    obtain ⟨e1, S1⟩ := r1
    refine ⟨G, F1, S1, fun F2 y H2 x2 r2 => ?_⟩
    obtain ⟨ry, S2⟩ := r2
    have ry := ry.int_iff
    subst ry
    obtain ⟨p, vs, e2, _, hp, zz, r, f, g'⟩ := S2.lstS g
    rw [e1] at e2
    cases e2
    obtain ⟨w, hw, rw'⟩ := r.get hd
    have rw' := rw'.int_iff
    subst rw'
    refine ⟨p, vs, z, _, rfl, rfl, hp, h0, by rw [r.length]; exact hz, hw, G, F2, S2, fun F3 v3 H3 x3 r3 => ?_⟩
    obtain ⟨r3, S3⟩ := r3
    have r3 := r3.int_iff
    subst r3
    obtain ⟨p', vs', e3, _, hp', zz', r', f', g''⟩ := S3.lstS g
    rw [e1] at e3
    cases e3
    refine ⟨u, j, rfl, rfl, p, vs', z, z.toNat, rfl, rfl, hp', ixN_pos h0 (by rw [r'.length]; exact hz), G, F3, ?_, fun o p F5 x5 => q o p F5 (((x1.trans x2).trans x3).trans x5)⟩
    exact S3.write g e1 (by rw [List.length_set]; exact zz') (DRs.set (.int _) _ r')⟩
theorem ev_pow (h : EV X a env Ra env1) (h2 : EV X b env1 Rb env2) (wx : vw (Pd.fz Ra) env2 = some (.int z)) (wy : vw (Pd.fz Rb) env2 = some (.int j)) (ok : CPow z j) (fl : (Pd.fz Ra).flat = true := by rfl) : EV X (.BinOp a .Pow b pos) env (.val (.int (z ^ j.toNat))) env2 := ev_bin op_pow h h2 (opd_intC ok fun _ => .int _) wx wy fl
theorem ev_listR1 (B : Blt X.mg) (hc : X.calm = true) (h : EV X a env (.val (.int z)) env1) (hz : 0 ≤ z ∧ z ≤ 1000000) (hg : Gl X "list" := by rfl) (hgr : Gl X "range" := by rfl) (na : starEach [.Call (.Name "range" p) [a] [] pos'] X.env = (false, eval (.Call (.Name "range" p) [a] [] pos') X.env) :: starEach [] X.env := by rfl)
    (na2 : starEach [a] X.env = (false, eval a X.env) :: starEach [] X.env := by rfl) : EV X (.Call (.Name "list" cpos) [.Call (.Name "range" p) [a] [] pos'] [] pos) env (.new (.lst none ((irange 0 z).map .int))) env1 :=
  PE.wk (pe_listRg hc hg B.list_ (prg_1 hgr B.range_ h na2) na) fun σ H Q ⟨G, F, S, q⟩ => ⟨G, F, S, fun F1 v H1 x1 r1 => by
    obtain ⟨r, S1⟩ := r1
    refine ⟨z, r.int_iff, ⟨by omega, by omega, by omega, by omega, by omega⟩, fun l hl => ?_⟩
    refine q F1 _ _ x1 (S1.consNew hl fun f g => ⟨l, _, rfl, (fun _ z => nomatch z), upd_same, ?_, drs_range 0 z, f, g⟩)
    rw [rgV_length, sizeLine_eq]
    omega⟩
end
/-! a comprehension whose turns change the state, with the number of the turn -/
section
variable {X : Cx} {env env1 : Ev} {tg iter elt : Expr} {ifs : List Expr} {pos : Pos} {scope : Scope}
theorem lcs_sti {α S : Type} {xs : List α} {g : α → D} {R : α → S → Rs} {pt : α → S → Bool × S} {ef : α → S → D × S} (own : List (Str × Nat)) (t : Tgt) (mk : S → Ev) (s0 : S) (J : Nat → S → Prop) (hc : X.calm = true) (hN : X.N.Nodup) (hi : EI X tg iter env (xs.map g) env1) (h0 : env1 = mk s0) (ok : BlkOk X.N X.env.scope scope own)
    (hg : ∀ sh H C cl fp, PG (blkC' X scope sh H C cl fp) tg (t.g X.K)) (hz : xs.length ≤ sizeLine) (j0 : J 0 s0)
    (ht : ∀ i a s, xs[i]? = some a → J i s → ∀ sh H C cl fp, PTs (blkC' X scope sh H C cl fp) ifs (tTt X.K (t.bind (mk s) (g a)) (pt a s).1 (t.bind (mk (pt a s).2) (g a))))
    (he : ∀ i a s, xs[i]? = some a → J i s → (pt a s).1 = true → ∀ sh H C cl fp, EV (blkC' X scope sh H C cl fp) elt (t.bind (mk (pt a s).2) (g a)) (R a (pt a s).2) (t.bind (mk (ef a (pt a s).2).2) (g a))) (hf : ∀ a s, Pd.fz (R a s) = .val (ef a s).1)
    (hj : ∀ i a s, xs[i]? = some a → J i s → J (i + 1) (if (pt a s).1 = true then (ef a (pt a s).2).2 else (pt a s).2)) (hok : ∀ s a, t.okB (mk s).length (g a) = true) (hl : ∀ s s', (mk s).length = (mk s').length) (hun : ∀ s, (own.all fun q => isUn (ge (mk s) q.2)) = true) (hts : (t.slots.all fun i => (own.map (·.2)).elem i) = true := by rfl) :
    LcS X env tg iter elt ifs scope own t xs g mk s0 J pt ef env1 (mk (lcA pt ef xs s0).2) := by
  have un : ∀ s, ∀ i ∈ own.map (·.2), ge (mk s) i = .un := fun s i hi => by
    obtain ⟨q, hq, rfl⟩ := List.mem_map.mp hi
    exact isUn_eq (List.all_eq_true.mp (hun s) q hq)
  subst h0
  exact
    { hc := hc, hN := hN, hi := hi, ok := ok, hg := hg,
      h0 := by
        have e : ∀ i, ge (wipeE (own.map (·.2)) 0 (mk s0)) i = ge (mk s0) i := fun i => by
          rw [ge_wipeE, Nat.zero_add]
          by_cases m : i ∈ own.map (·.2)
          · rw [if_pos m, un s0 i m]
          · rw [if_neg m]
        apply List.ext_getElem?
        intro i
        by_cases hi : i < (mk s0).length
        · have q := e i
          unfold ge at q
          rw [List.getD_eq_getElem?_getD, List.getD_eq_getElem?_getD, List.getElem?_eq_getElem hi, List.getElem?_eq_getElem (by rw [wipeE_len]; exact hi)] at q
          rw [List.getElem?_eq_getElem hi, List.getElem?_eq_getElem (by rw [wipeE_len]; exact hi)]
          exact congrArg some q
        · rw [getElem?_of_le (by rw [wipeE_len]; omega), getElem?_of_le (by omega)],
      j0 := j0, hts := hts_of hts, hun := un, hz := hz, hok := fun s a _ => Tgt.ok_of (hok s a), ht := ht,
      he := fun i a s ha j hp => ⟨_, he i a s ha j hp, hf a _⟩,
      hj := hj,
      hE := fun i => by
        by_cases m : i ∈ own.map (·.2)
        · rw [if_pos m, un _ i m, un _ i m]
        · rw [if_neg m],
      hno := fun i m => by rw [un _ i m]; rfl, hlen := Nat.le_of_eq (hl _ _) }
theorem ev_lcI {α S : Type} {xs : List α} {g : α → D} {R : α → S → Rs} {pt : α → S → Bool × S} {ef : α → S → D × S} (own : List (Str × Nat)) (t : Tgt) (mk : S → Ev) (s0 : S) (J : Nat → S → Prop) (hc : X.calm = true) (hN : X.N.Nodup) (hi : EI X tg iter env (xs.map g) env1) (h0 : env1 = mk s0) (ok : BlkOk X.N X.env.scope scope own)
    (hg : ∀ sh H C cl fp, PG (blkC' X scope sh H C cl fp) tg (t.g X.K)) (hz : xs.length ≤ sizeLine) (j0 : J 0 s0)
    (ht : ∀ i a s, xs[i]? = some a → J i s → ∀ sh H C cl fp, PTs (blkC' X scope sh H C cl fp) ifs (tTt X.K (t.bind (mk s) (g a)) (pt a s).1 (t.bind (mk (pt a s).2) (g a))))
    (he : ∀ i a s, xs[i]? = some a → J i s → (pt a s).1 = true → ∀ sh H C cl fp, EV (blkC' X scope sh H C cl fp) elt (t.bind (mk (pt a s).2) (g a)) (R a (pt a s).2) (t.bind (mk (ef a (pt a s).2).2) (g a))) (hf : ∀ a s, Pd.fz (R a s) = .val (ef a s).1)
    (hj : ∀ i a s, xs[i]? = some a → J i s → J (i + 1) (if (pt a s).1 = true then (ef a (pt a s).2).2 else (pt a s).2)) (hok : ∀ s a, t.okB (mk s).length (g a) = true) (hl : ∀ s s', (mk s).length = (mk s').length) (hun : ∀ s, (own.all fun q => isUn (ge (mk s) q.2)) = true) (hts : (t.slots.all fun i => (own.map (·.2)).elem i) = true := by rfl)
    (hs : ∀ x, foldedSetIterable iter X.env x = pure x := by intro _; rfl) : EV X (.ListComp elt [⟨tg, iter, ifs, 0⟩] scope pos) env (.new (.lst none (lcA pt ef xs s0).1)) (mk (lcA pt ef xs s0).2) :=
  ev_lcS (lcs_sti own t mk s0 J hc hN hi h0 ok hg hz j0 ht he hf hj hok hl hun hts) hs
end
end Pd
set_option Elab.async false
set_option linter.all false
set_option maxRecDepth 100000
set_option maxHeartbeats 4000000
namespace Pd
open PySem PySem.Spec PyProof.Rows L2
/-! x op= e, ints -/
section
variable {X : Cx} {ea : Str → Addr} {W : WX} {rest : List Stmt} {env env1 : Ev} {Post : Out → Prop} {e : Expr} {pos pos' : Pos} {x : Str} {a b c : Int} {op : Operator}
theorem es_augI {C : Int → Int → Prop} {g : Int → Int → Int} (i : Nat) (ho : PIp X op (rI C fun i j => V.int (g i j))) (hg : ge env i = .val (.int a)) (h : EV X e env (.val (.int b)) env1) (ok : C a b) (k : ES X ea W rest (env1.set i (.val (.int (g a b)))) Post) (hN : X.N.Nodup) (hi : X.N[i]? = some x := by rfl) (hx : Loc X.env.scope x := by first | exact Or.inl rfl | exact Or.inr rfl) (hl : Nat.blt i env1.length = true := by rfl)
    (hf : X.fn x = true ∨ X.env.scope.names.lookup x = some .local := by first | exact .inl rfl | exact .inr rfl) : ES X ea W (.AugAssign (.Name x pos') op e pos :: rest) env Post :=
  PSs.wk (pss_seq (ps_aug hN hi hx h ho hf) k) fun D σ H ⟨G, F, S, q⟩ => by
    obtain ⟨v, e1, r⟩ := S.val hg
    have r := r.int_iff
    subst r
    refine ⟨_, e1, G, F, S, fun F1 u H1 x1 r1 => ?_⟩
    obtain ⟨ru, S1⟩ := r1
    have ru := ru.int_iff
    subst ru
    exact ⟨a, b, rfl, rfl, ok, G, F1, (S1.consVal (.int _)).store (blt_lt hl), fun o p F2 x2 => q o p F2 (x1.trans x2)⟩
theorem pip_mul : PIp X .Mult (rI CMul fun i j => V.int (i * j)) := iop_mul
theorem pip_add : PIp X .Add (rI (fun _ _ => True) fun i j => V.int (i + j)) := fun pins s σ H x y v u Q I r1 r2 h => by
  obtain ⟨i, j, e1, e2, _, q⟩ := h
  exact iop_add pins s σ H x y v u Q I r1 r2 ⟨i, j, e1, e2, q⟩
end
section
variable {X : Cx} {env env1 : Ev} {e : Expr} {R : Rs} {d : D} {pos p : Pos} {kk w : Nat}
theorem ev_reprS (B : Blt X.mg) (hgu : X.A.guards = some []) (hu : X.A.units + 80 < cLine) (h : EV X e env R env1) (w1 : vw (Pd.fz R) env1 = some d) (g : Gds kk w d) (hk : kk ≤ 64) (hw : w ≤ 2 ^ 20) (hgl : Gl X "repr" := by rfl) (he : starEach (e :: []) X.env = (false, eval e X.env) :: starEach [] X.env := by rfl) (hpl : (backTo pos (starEach [] X.env)).any (·.1) = false := by rfl) :
    EV X (.Call (.Name "repr" p) [e] [] pos) env (.val (.str (PyData.shown d))) env1 :=
  ev_b1 (call_reprA hgu hu) B.repr_ bt_repr h (fun G F σ H env v Q S hv q =>
    ⟨v, d, rfl, hv.dp S.kf, g.sh, g.nd, Nat.le_trans g.dp hk, PyData.shown_fits (by decide) (by decide) g.lv (Nat.le_trans g.wt hw), q F _ H (Ext.refl G F) ⟨.str _, S⟩⟩) w1 hgl (by decide) (by decide) he hpl
end
section
variable {X : Cx} {env env1 : Ev} {e : Expr} {R : Rs} {d : D} {pos p : Pos}
theorem ev_reprX (B : Blt X.mg) (hgu : X.A.guards = some []) (hu : X.A.units + 80 < cLine) (h : EV X e env R env1) (w1 : vw (Pd.fz R) env1 = some d) (h1 : PyData.showable d = true) (h2 : PyData.hasDict d = false) (h3 : PyData.depth d ≤ 64) (h4 : d.shown.length ≤ sizeLine) (hgl : Gl X "repr" := by rfl) (he : starEach (e :: []) X.env = (false, eval e X.env) :: starEach [] X.env := by rfl) (hpl : (backTo pos (starEach [] X.env)).any (·.1) = false := by rfl) :
    EV X (.Call (.Name "repr" p) [e] [] pos) env (.val (.str (PyData.shown d))) env1 :=
  ev_b1 (call_reprA hgu hu) B.repr_ bt_repr h (fun G F σ H env v Q S hv q => ⟨v, d, rfl, hv.dp S.kf, h1, h2, h3, h4, q F _ H (Ext.refl G F) ⟨.str _, S⟩⟩) w1 hgl (by decide) (by decide) he hpl
end
section
variable {X : Cx} {ea : Str → Addr} {W : WX} {sts : List Stmt} {env env1 env2 : Ev} {Post : Out → Prop} {a b : Expr} {Ra : Rs} {x : D} {k : Key} {pos : Pos} {i : Nat} {pin : Option Addr} {kvs : List (Key × D)}
theorem ev_globS {x k : Str} (hg : Gl X x) (hm : ∃ t, X.mg x = some (.str k t)) (hd : (x == ("__debug__" : Str)) = false := by decide) : EV X (.Name x pos) env (.val (.str k)) env := by
  obtain ⟨t, hm⟩ := hm
  exact ev_const (pe_glob (v := .str k) hg hm ⟨t, rfl⟩ hd) fun _ => .str k
theorem ev_din (hu : X.A.units + 1 < cLine) (ha : EV X a env Ra env1) (hb : EV X b env1 (.ptr i) env2) (g : ge env2 i = .dk pin kvs) (wx : vw (Pd.fz Ra) env2 = some x) (hk : keyD x = some k) (hm : behindInMarks .In b = false := by rfl) (fl : (Pd.fz Ra).flat = true := by rfl) :
    EV X (.Compare a [.In] [b] pos) env (.val (.bool (valD kvs k).isSome)) env2 :=
  PE.wk (pe_cmp (din_core hu ha hb g wx hk fl) hm) fun σ H Q ⟨G, F, S, q⟩ => ⟨G, F, S, fun F1 H1 x1 S1 => q F1 _ H1 x1 ⟨.bl _, S1⟩⟩
/-- a slot is forgotten -/
theorem es_un (i : Nat) (h : ES X ea W sts (env.set i .un) Post) : ES X ea W sts env Post := es_weak ⟨by rw [List.length_set]; exact Nat.le_refl _, fun j => by
  by_cases e : i = j
  · subst e
    by_cases hl : i < env.length
    · exact .inr (ge_set_same hl)
    · exact .inr (ge_out (by rw [List.length_set]; omega))
  · exact .inl (ge_set_ne e)⟩ h
end
end Pd
set_option Elab.async false
set_option linter.all false
set_option maxRecDepth 100000
set_option maxHeartbeats 4000000
namespace Pd
open PySem PySem.Spec PyProof.Rows L2
/-! isinstance(x, tuple); max, min, index of ints -/
theorem tyx_tup {K : Frag} {F H : Hp} {v : V} {ds : List D} (l : Le F H) (r : DR K F v (.tuple ds)) : TyX K H v (.type "tuple") := by
  cases r with
  | tup h _ _ =>
    rcases le_t l h with h | ⟨o, its, n, h1, h2, _⟩
    · rcases h with h | ⟨o, h⟩
      · exact .base (.tup h)
      · exact .fTuple h
    · exact .kTuple h1 h2
section
variable {X : Cx} {env env1 : Ev} {e o : Expr} {p pos np apos cpos : Pos} {R : Rs} {ds : List D} {y : D} {l : List Int} {v : Int} {i : Nat} {pin : Option Addr}
theorem ev_isTup (B : Blt X.mg) (h : EV X e env R env1) (w : vw (Pd.fz R) env1 = some (.tuple ds)) (hg : Gl X "isinstance" := by rfl) (hgx : Gl X "tuple" := by rfl)
    (hs : starEach (e :: [.Name "tuple" np]) X.env = (false, eval e X.env) :: starEach [.Name "tuple" np] X.env := by rfl) (hs2 : starEach (.Name "tuple" np :: []) X.env = (false, eval (.Name "tuple" np) X.env) :: starEach [] X.env := by rfl) (hpl : (backTo pos (starEach [.Name "tuple" np] X.env)).any (·.1) = false := by rfl) :
    EV X (.Call (.Name "isinstance" p) [e, .Name "tuple" np] [] pos) env (.val (.bool true)) env1 :=
  PE.wk (pe_callB call_isi hg B.isinstance_ bt_isinstance (pa_cons h (pa_cons (pe_bltn (v := .ty "tuple") hgx B.tuple_ bt_tuple rfl (by decide) (by decide)) pa_nil hs2) hs) (by decide) (by decide) hs hpl) fun σ H Q ⟨G, F, S, q⟩ =>
    one_op (ta := tV X.K env R env1) (Q := fun v H' => rIsi X.K [v, .ty "tuple"] H' Q) S (fun _ _ h => h) w fun F' v H' x1 S1 hv => by
      rcases hv with hv | ⟨_, _, _, e, _⟩
      · exact ⟨v, .ty "tuple", .type "tuple", .type "tuple", true, rfl, .ty _, tyx_tup S1.kf hv, kit_ty (by decide +kernel), q F' _ H' x1 ⟨.bl true, S1⟩⟩
      · cases e
def maxL : List Int → Int
  | [] => 0
  | x :: r => r.foldl max x
def minL : List Int → Int
  | [] => 0
  | x :: r => r.foldl min x
theorem ev_maxI (B : Blt X.mg) (hc : X.calm = true) (hu : X.A.units + 64 < cLine) (h : EV X e env R env1) (w : vw (Pd.fz R) env1 = some y) (sd : seqD y = some (l.map .int)) (hne : l ≠ []) (hg : Gl X "max" := by rfl) (he : starEach (e :: []) X.env = (false, eval e X.env) :: starEach [] X.env := by rfl) (hpl : (backTo pos (starEach [] X.env)).any (·.1) = false := by rfl) :
    EV X (.Call (.Name "max" p) [e] [] pos) env (.val (.int (maxL l))) env1 := by
  cases l with
  | nil => exact absurd rfl hne
  | cons x r =>
    have q := ev_max (p := p) (pos := pos) (X := X) B hc hu h w sd (alike_ints (x :: r)) (Nat.le_trans (depth_ints (x :: r)) (by decide)) hg he hpl
    rw [PySem.W.maxD_ints] at q
    exact q
theorem ev_minI (B : Blt X.mg) (hc : X.calm = true) (hu : X.A.units + 64 < cLine) (h : EV X e env R env1) (w : vw (Pd.fz R) env1 = some y) (sd : seqD y = some (l.map .int)) (hne : l ≠ []) (hg : Gl X "min" := by rfl) (he : starEach (e :: []) X.env = (false, eval e X.env) :: starEach [] X.env := by rfl) (hpl : (backTo pos (starEach [] X.env)).any (·.1) = false := by rfl) :
    EV X (.Call (.Name "min" p) [e] [] pos) env (.val (.int (minL l))) env1 := by
  cases l with
  | nil => exact absurd rfl hne
  | cons x r =>
    have q := ev_min (p := p) (pos := pos) (X := X) B hc hu h w sd (alike_ints (x :: r)) (Nat.le_trans (depth_ints (x :: r)) (by decide)) hg he hpl
    rw [PySem.W.minD_ints] at q
    exact q
theorem maxL_ge : ∀ {l : List Int} {x : Int}, x ∈ l → x ≤ maxL l := by
  have go : ∀ (r : List Int) (a : Int), a ≤ r.foldl max a ∧ ∀ x ∈ r, x ≤ r.foldl max a := by
    intro r
    induction r with
    | nil => exact fun a => ⟨Int.le_refl _, fun x h => nomatch h⟩
    | cons y r ih =>
      intro a
      obtain ⟨h1, h2⟩ := ih (max a y)
      rw [List.foldl_cons]
      refine ⟨by omega, fun x hx => ?_⟩
      rcases List.mem_cons.mp hx with e | e
      · rw [e]; omega
      · exact h2 x e
  intro l x h
  cases l with
  | nil => exact nomatch h
  | cons y r =>
    rcases List.mem_cons.mp h with e | e
    · rw [e]; exact (go r y).1
    · exact (go r y).2 x e
theorem minL_le : ∀ {l : List Int} {x : Int}, x ∈ l → minL l ≤ x := by
  have go : ∀ (r : List Int) (a : Int), r.foldl min a ≤ a ∧ ∀ x ∈ r, r.foldl min a ≤ x := by
    intro r
    induction r with
    | nil => exact fun a => ⟨Int.le_refl _, fun x h => nomatch h⟩
    | cons y r ih =>
      intro a
      obtain ⟨h1, h2⟩ := ih (min a y)
      rw [List.foldl_cons]
      refine ⟨by omega, fun x hx => ?_⟩
      rcases List.mem_cons.mp hx with e | e
      · rw [e]; omega
      · exact h2 x e
  intro l x h
  cases l with
  | nil => exact nomatch h
  | cons y r =>
    rcases List.mem_cons.mp h with e | e
    · rw [e]; exact (go r y).1
    · exact (go r y).2 x e
theorem maxL_mem : ∀ {l : List Int}, l ≠ [] → maxL l ∈ l := by
  have go : ∀ (r : List Int) (a : Int), r.foldl max a ∈ a :: r := by
    intro r
    induction r with
    | nil => exact fun a => List.mem_cons_self
    | cons y r ih =>
      intro a
      rw [List.foldl_cons]
      rcases List.mem_cons.mp (ih (max a y)) with e | e
      · rw [e]
        by_cases q : a ≤ y
        · rw [Int.max_eq_right q]; exact List.mem_cons_of_mem _ List.mem_cons_self
        · rw [Int.max_eq_left (by omega)]; exact List.mem_cons_self
      · exact List.mem_cons_of_mem _ (List.mem_cons_of_mem _ e)
  intro l h
  cases l with
  | nil => exact absurd rfl h
  | cons y r => exact go r y
theorem minL_mem : ∀ {l : List Int}, l ≠ [] → minL l ∈ l := by
  have go : ∀ (r : List Int) (a : Int), r.foldl min a ∈ a :: r := by
    intro r
    induction r with
    | nil => exact fun a => List.mem_cons_self
    | cons y r ih =>
      intro a
      rw [List.foldl_cons]
      rcases List.mem_cons.mp (ih (min a y)) with e | e
      · rw [e]
        by_cases q : a ≤ y
        · rw [Int.min_eq_left q]; exact List.mem_cons_self
        · rw [Int.min_eq_right (by omega)]; exact List.mem_cons_of_mem _ List.mem_cons_self
      · exact List.mem_cons_of_mem _ (List.mem_cons_of_mem _ e)
  intro l h
  cases l with
  | nil => exact absurd rfl h
  | cons y r => exact go r y
theorem shaped_ints (l : List Int) : SeqAt.shaped (.list (l.map .int)) = true := by
  unfold SeqAt.shaped
  have h1 : PyData.canLay0 (.list (l.map PyData.int)) = true := by
    unfold PyData.canLay0
    exact all_lay fun x hx => by
      obtain ⟨a, _, rfl⟩ := List.mem_map.mp hx
      rfl
  rw [h1, decide_eq_true (by
    have := depth_ints l
    rw [PyData.depth]
    omega)]
  rfl
def idxL (v : Int) : List Int → Nat
  | [] => 0
  | x :: r => if x = v then 0 else idxL v r + 1
theorem idxL_get {v : Int} : ∀ {l : List Int}, v ∈ l → l[idxL v l]? = some v
  | [], h => nomatch h
  | x :: r, h => by
    unfold idxL
    by_cases e : x = v
    · rw [if_pos e, e]; rfl
    · rw [if_neg e]
      rcases List.mem_cons.mp h with q | q
      · exact absurd q.symm e
      · exact idxL_get q
theorem idxL_lt {v : Int} {l : List Int} (h : v ∈ l) : idxL v l < l.length := by
  have q := idxL_get h
  by_cases e : idxL v l < l.length
  · exact e
  · rw [List.getElem?_eq_none (by omega)] at q; cases q
theorem idxL_no {v : Int} : ∀ {l : List Int} {m : Nat} {z : Int}, m < idxL v l → l[m]? = some z → z ≠ v
  | [], m, z, h, _ => by cases h
  | x :: r, m, z, h, hz => by
    unfold idxL at h
    by_cases e : x = v
    · rw [if_pos e] at h; cases h
    · rw [if_neg e] at h
      cases m with
      | zero => cases hz; exact e
      | succ m => exact idxL_no (l := r) (Nat.lt_of_succ_lt_succ h) (by simpa using hz)
theorem ev_indexI (hu : X.A.units + 65 < cLine) (ho : EV X o env (.ptr i) env) (g : ge env i = .lst pin (l.map .int)) (h : EV X e env (.val (.int v)) env) (hm : v ∈ l)
    (hbase : attributeBase o "index" X.env (eval o X.env) = eval o X.env := by rfl)
    (hfew : ((backTo cpos (starEach (e :: []) X.env)).all (fun x => !x.1) && (backToKw cpos (keywordEach [] X.env)).all (fun x => x.1.isSome) && decide ((e :: []).length + ([] : List Keyword).length + (if ([] : List Keyword).isEmpty then 0 else 1) < 30)) = true := by rfl)
    (hline : (apos.endLine == cpos.line) = true := by rfl) (hs : starEach (e :: []) X.env = (false, eval e X.env) :: starEach [] X.env := by rfl) (hplain : (backTo cpos (starEach [] X.env)).any (·.1) = false := by rfl) :
    EV X (.Call (.Attribute o "index" apos) [e] [] cpos) env (.val (.int (idxL v l : Nat))) env :=
  ev_indexD (z := .int v) hu ho g h (shaped_ints l) (by rfl) (by rw [List.getElem?_map, idxL_get hm]; rfl) (by show (v == v) = true; exact beq_self_eq_true v) (fun m z' hlt hz => by
    rw [List.getElem?_map] at hz
    cases q : l[m]? with
    | none => rw [q] at hz; cases hz
    | some a =>
      rw [q] at hz
      cases hz
      show (a == v) = false
      exact beq_eq_false_iff_ne.mpr (idxL_no hlt q)) hbase hfew hline hs hplain
end
/-! x = {.. for ..} on one line -/
theorem ps_setDc {X : Cx} {i : Nat} {y : Str} {py : Pos} {kx vx tg iter : Expr} {ifs : List Expr} {scope : Scope} {own : List (Str × Nat)} {pos spos : Pos} {wi : TI} {g : TG} {tt : TT} {tk tv : TE} (hc : X.calm = true) (hN : X.N.Nodup) (hy : X.N[i]? = some y) (hyl : X.env.scope.names.lookup y = some .local)
    (hsw : swapsWith (.DictComp kx vx [⟨tg, iter, ifs, 0⟩] scope pos) (some (.Name y py)) spos.line X.env = pure true) (hi : PI X tg iter wi) (ok : BlkOk X.N X.env.scope scope own)
    (hg : ∀ (s : Shared) (H : Hp) (C : Addr) (cl : List (Str × Addr)) (fp : List Addr), PG (X.blk s H scope (compEnvC scope cl C X.env) fp) tg g) (ht : ∀ (s : Shared) (H : Hp) (C : Addr) (cl : List (Str × Addr)) (fp : List Addr), PTs (X.blk s H scope (compEnvC scope cl C X.env) fp) ifs tt)
    (hk : ∀ (s : Shared) (H : Hp) (C : Addr) (cl : List (Str × Addr)) (fp : List Addr), PE (X.blk s H scope (compEnvC scope cl C X.env) fp) kx tk)
    (he : ∀ (s : Shared) (H : Hp) (C : Addr) (cl : List (Str × Addr)) (fp : List Addr), PE (X.blk s H scope (compEnvC scope cl C X.env) fp) vx tv) (hs : ∀ x, foldedSetIterable iter X.env x = pure x := by intro _; rfl) :
    PS X (.Assign [.Name y py] (.DictComp kx vx [⟨tg, iter, ifs, 0⟩] scope pos) spos) (tAsg (tDc wi g tt tk tv (own.map (·.2))) (gName i)) := by
  refine ⟨fun pins s σ H D I h => ?_⟩
  rw [exec_Assign_Name_used _ _ _ _ hsw]
  refine wpAny_bind (wpAny_standAt (wpAny_bind ?_))
  show wpAny _ X.A (do let _ ← comprehension (.DictComp kx vx [⟨tg, iter, ifs, 0⟩] scope pos) scope X.env (firstIterPos [⟨tg, iter, ifs, 0⟩] pos) newDict false (eval iter X.env) (some (assign (.Name y py) X.env))) _ _ s
  have h : tDc wi g tt tk tv (own.map (·.2)) σ H (fun x H1 => gName i x σ H1 D.nx) := h
  refine wpAny_bind (thn (dc_core (Qf := fun _ s' => SP X pins D .next s') hc hN I hi ok hg ht hk he hs h fun L C s' m H' I' q hn f => ?_) fun _ s' hq => wpAny_pure (wpAny_pure hq))
  show wpAny _ _ (assign (.Name y py) X.env (.ref L)) _ _ _
  refine wpAny_assign_Name (store_ok2 (v := V.ref L) I' hN hy (.inl hyl) rfl (fun s2 I2 ⟨a, sb, ha⟩ => ?_) (.inr hyl))
  obtain ⟨f0, f1, f2, f3, f4, f5⟩ := f
  have haC : C ≠ a := by
    rcases ha with z | z
    · rw [z]; exact f1
    · exact fun e => f4 y a z e.symm
  refine ⟨m, hn.sameBut sb haC, fun h3 sb3 => ?_⟩
  exact ⟨_, H', I2.turned (t' := s2.toks) (fun b o hb e => (sb3.2 b hb).trans e) f0 f1 f3 f4 f5, q⟩
theorem sw_trueD {kx vx : Expr} {gs : List Comprehension} {scope : Scope} {pos py : Pos} {y : Str} {l : Nat} {env : Env} (hk : env.scope.kind = .function) (hy : env.scope.names.lookup y = some .local) (hl : (py.line == pos.line) = true)
    (ha : (scope.names.any fun (n, k) => n == y && (k == .local || k == .cell)) = false) : swapsWith (.DictComp kx vx gs scope pos) (some (.Name y py)) l env = pure true := by
  have ky : env.kindOf y = some .local := hy
  have hb : env.blockKind = .function := by unfold Env.blockKind; rw [hk]; rfl
  unfold swapsWith
  simp only [hb, ky, ha, Expr.pos, hl]
  rfl
section
variable {X : Cx} {env env1 : Ev} {kx vx tg iter : Expr} {scope : Scope} {pos : Pos}
theorem dc_go {α : Type} {xs : List α} {g : α → D} {Rk Rv : α → Rs} {kf : α → Key} {kd vf : α → D} (own : List (Str × Nat)) (t : Tgt) (hc : X.calm = true) (hN : X.N.Nodup) (hi : EI X tg iter env (xs.map g) env1) (ok : BlkOk X.N X.env.scope scope own)
    (hg : ∀ sh H C cl fp, PG (blkC' X scope sh H C cl fp) tg (t.g X.K)) (hz : xs.length < 16000000)
    (hk : ∀ a ∈ xs, ∀ sh H C cl fp, EV (blkC' X scope sh H C cl fp) kx (t.bind (wipeE (own.map (·.2)) 0 env1) (g a)) (Rk a) (t.bind (wipeE (own.map (·.2)) 0 env1) (g a))) (hkf : ∀ a, Pd.fz (Rk a) = .val (kd a)) (hkk : ∀ a, keyD (kd a) = some (kf a))
    (hv : ∀ a ∈ xs, ∀ sh H C cl fp, EV (blkC' X scope sh H C cl fp) vx (t.bind (wipeE (own.map (·.2)) 0 env1) (g a)) (Rv a) (t.bind (wipeE (own.map (·.2)) 0 env1) (g a))) (hvf : ∀ a, Pd.fz (Rv a) = .val (vf a))
    (hok : ∀ a, t.okB env1.length (g a) = true) (hts : (t.slots.all fun i => (own.map (·.2)).elem i) = true := by rfl) (hno : ((own.map (·.2)).all fun i => !(ge env1 i).own) = true := by rfl) {σ : L2.St} {H : Hp} {Q : VK} (hq : ∃ G F, St X.K G F σ H env ∧ ∀ F' v H', Ext G F F' → RR X.K G F' σ H' v (.new (.dk none (mergeD [] (xs.map fun a => (kf a, vf a))))) env1 → Q v H') :
    tDc (tI X.K env (xs.map g) env1) (t.g X.K) (fun σ H Q => Q true H) (fun σ H Q => ∃ e R e', (∀ sh H C cl fp, EV (blkC' X scope sh H C cl fp) kx e R e') ∧ tV X.K e R e' σ H Q) (fun σ H Q => ∃ e R e', (∀ sh H C cl fp, EV (blkC' X scope sh H C cl fp) vx e R e') ∧ tV X.K e R e' σ H Q) (own.map (·.2)) σ H Q := by
  obtain ⟨G, F, S, q⟩ := hq
  refine ⟨G, F, S, fun F1 Jt H1 x1 it S1 Dl hD => ?_⟩
  generalize hvs : own.map (·.2) = vs at *
  have lg : ∀ o, Le G (upd G Dl o) := fun o => Le.new (S1.kg.fresh hD)
  refine ⟨fun i m H' => m = xs.length - i ∧ i ≤ xs.length ∧ ∃ F' kv, Ext G F1 F' ∧ H' Dl = some (.dK kv) ∧ F' Dl = none ∧ KD X.K F' kv (mergeD [] ((xs.take i).map fun a => (kf a, vf a))) ∧ St X.K (upd G Dl (.dK kv)) F' (wipe σ vs) H' (wipeE vs 0 env1),
    ⟨xs.length, by omega, by omega, F1, [], Ext.refl G F1, upd_same, S1.kf.fresh hD, .nil, (S1.wipe vs).keepNew hD⟩, ?_⟩
  rintro i m H' ⟨rfl, hle, F', kv, x', hDl, fD, kd1, S'⟩
  have it' := it.mono x'.le
  have hlen : kv.length ≤ i := by
    have q1 := kd1.length
    have q2 := mergeD_len ((xs.take i).map fun a => (kf a, vf a)) []
    rw [List.length_map, List.length_take, List.length_nil] at q2
    omega
  by_cases hlt : i < xs.length
  · refine .inr ?_
    have ha : xs[i]? = some xs[i] := List.getElem?_eq_getElem hlt
    have hd' : (xs.map g)[i]? = some (g xs[i]) := by rw [List.getElem?_map, ha]; rfl
    have hm : xs[i] ∈ xs := List.getElem_mem hlt
    obtain ⟨h1, _⟩ := it' i H' S'.kf
    refine ⟨(h1 _ hd').1, fun H2 => ∃ F' kv, Ext G F1 F' ∧ H2 Dl = some (.dK kv) ∧ F' Dl = none ∧ KD X.K F' kv (mergeD [] ((xs.take (i + 1)).map fun a => (kf a, vf a))) ∧ St X.K (upd G Dl (.dK kv)) F' (wipe σ vs) H2 (wipeE vs 0 env1),
      fun H2 n => ⟨xs.length - (i + 1), by omega, rfl, by omega, n⟩, fun x H2 y => ?_⟩
    have okT : t.ok (wipeE vs 0 env1).length (g xs[i]) := by rw [wipeE_len]; exact Tgt.ok_of (hok _)
    have hts' : ∀ j ∈ t.slots, j ∈ vs := hts_of hts
    have gD : G Dl = none := S1.kg.fresh hD
    refine yld_run it' S' hd' y okT fun F2 σ2 x2 sm ln2 S2 => ?_
    have back := wipe_same (t := t) hts' sm ln2
    refine ⟨back, iteT ?_⟩
    refine ⟨_, _, _, hk _ hm, upd G Dl (.dK kv), F2, S2, fun F3 v3 H3 x3 r3 => ?_⟩
    obtain ⟨F4, x4, r4⟩ := r3.fz
    rw [hkf] at r4
    refine ⟨_, _, _, hv _ hm, upd G Dl (.dK kv), F4, r4.2, fun F5 v5 H5 x5 r5 => ?_⟩
    obtain ⟨F6, x6, r6⟩ := r5.fz
    rw [hvf] at r6
    have x46 := x5.trans x6
    have xa := x2.trans ((x3.trans x4).trans x46)
    have fD6 : F6 Dl = none := xa.noneAt fD
    have kDl : H5 Dl = some (.dK kv) := r6.2.kg Dl _ upd_same
    have ek : v3 = kV (kf xs[i]) := keyD_dr (hkk _) r4.1
    have kd2 := (kd1.mono xa.le).put (kf xs[i]) r6.1
    refine ⟨kv, kf xs[i], ek, kDl, by rw [sizeLine_eq]; omega, F6, putK kv (kf xs[i]) v5, x'.trans (Ext.lessAt gD xa), upd_same, fD6, ?_, (r6.2.unturn hts' back).rewrite fD6⟩
    rw [take_succ_get ha, List.map_append, List.map_cons, List.map_nil, mergeD_snoc]
    exact kd2
  · have hie : i = xs.length := by omega
    subst hie
    obtain ⟨_, h2⟩ := it' xs.length H' S'.kf
    refine .inl ⟨h2 (by rw [List.length_map]; exact Nat.le_refl _), ?_⟩
    rw [List.take_length] at kd1
    have gD : G Dl = none := S1.kg.fresh hD
    have ownW : ∀ k, (ge (wipeE vs 0 env1) k).own = true → gs (wipe σ vs) k ≠ some (.ref Dl) := fun k w ek => by
      obtain ⟨p', u, e', hp, f, g⟩ := (S'.sl k).own_at w
      rw [ek] at e'
      cases e'
      rw [upd_same] at g
      cases g
    have no : ∀ k ∈ vs, (ge env1 k).own = false := hno_of hno
    have nv : ∀ k, (ge env1 k).own = true → k ∉ vs := fun k w z => by rw [no k z] at w; cases w
    have sW : ∀ k, k ∉ vs → gs (wipe σ vs) k = gs σ k ∧ ge (wipeE vs 0 env1) k = ge env1 k := fun k h => ⟨by rw [gs_wipe, if_neg h], by rw [ge_wipeE, Nat.zero_add, if_neg h]⟩
    have B : St X.K G F' σ H' env1 := by
      refine ⟨(lg _).trans S'.kg, S'.kf, S1.ln, fun k => ?_, S1.ap⟩
      by_cases hm : k ∈ vs
      · exact (S1.sl k).mono x'.le fun p ep w => by rw [no k hm] at w; cases w
      · have q1 := S'.sl k
        rw [(sW k hm).1, (sW k hm).2] at q1
        refine q1.otherG fun p ep w => ?_
        obtain ⟨p', u, e', hp, f, g⟩ := (S1.sl k).own_at w
        rw [ep] at e'
        cases e'
        exact g
    refine q F' _ H' (x1.trans x') ⟨B.kg, B.kf, Nat.succ_le_succ B.ln, fun k => ?_, fun a b c ne ha hb ea eb => ?_⟩
    · cases k with
      | zero => exact ⟨Dl, kv, rfl, (fun _ z => nomatch z), hDl, by rw [sizeLine_eq]; omega, kd1, fD, gD⟩
      | succ k => exact B.sl k
    · have other : ∀ k, (ge env1 k).own = true → gs σ k = some (.ref c) → c ≠ Dl := fun k w ek z => by
        have h := sW k (nv k w)
        exact ownW k (by rw [h.2]; exact w) (by rw [h.1, ek, z])
      cases a with
      | zero =>
        cases b with
        | zero => exact ne rfl
        | succ b =>
          have e1 : Dl = c := V.ref.inj (Option.some.inj ea)
          exact other b hb eb e1.symm
      | succ a =>
        cases b with
        | zero =>
          have e1 : Dl = c := V.ref.inj (Option.some.inj eb)
          exact other a ha ea e1.symm
        | succ b => exact B.ap a b c (fun z => ne (congrArg _ z)) ha hb ea eb
theorem es_setDc0 {ea : Str → Addr} {W : WX} {rest : List Stmt} {Post : Out → Prop} {y : Str} {py spos : Pos} {α : Type} {xs : List α} {g : α → D} {Rk Rv : α → Rs} {kf : α → Key} {kd vf : α → D} (i : Nat) (own : List (Str × Nat)) (t : Tgt) (hc : X.calm = true) (hN : X.N.Nodup) (hi : EI X tg iter env (xs.map g) env1) (ok : BlkOk X.N X.env.scope scope own)
    (hg : ∀ sh H C cl fp, PG (blkC' X scope sh H C cl fp) tg (t.g X.K)) (hz : xs.length < 16000000)
    (hk : ∀ a ∈ xs, ∀ sh H C cl fp, EV (blkC' X scope sh H C cl fp) kx (t.bind (wipeE (own.map (·.2)) 0 env1) (g a)) (Rk a) (t.bind (wipeE (own.map (·.2)) 0 env1) (g a))) (hkf : ∀ a, Pd.fz (Rk a) = .val (kd a)) (hkk : ∀ a, keyD (kd a) = some (kf a))
    (hv : ∀ a ∈ xs, ∀ sh H C cl fp, EV (blkC' X scope sh H C cl fp) vx (t.bind (wipeE (own.map (·.2)) 0 env1) (g a)) (Rv a) (t.bind (wipeE (own.map (·.2)) 0 env1) (g a))) (hvf : ∀ a, Pd.fz (Rv a) = .val (vf a))
    (hok : ∀ a, t.okB env1.length (g a) = true) (k : ES X ea W rest (env1.set i (.dk none (mergeD [] (xs.map fun a => (kf a, vf a))))) Post) (hts : (t.slots.all fun i => (own.map (·.2)).elem i) = true := by rfl) (hno : ((own.map (·.2)).all fun i => !(ge env1 i).own) = true := by rfl)
    (hy : X.N[i]? = some y := by rfl) (hyl : X.env.scope.names.lookup y = some .local := by rfl) (hl : Nat.blt i env1.length = true := by rfl)
    (hsw : swapsWith (.DictComp kx vx [⟨tg, iter, [], 0⟩] scope pos) (some (.Name y py)) spos.line X.env = pure true := by exact sw_trueD rfl rfl rfl (by decide +kernel)) (hs : ∀ x, foldedSetIterable iter X.env x = pure x := by intro _; rfl) :
    ES X ea W (.Assign [.Name y py] (.DictComp kx vx [⟨tg, iter, [], 0⟩] scope pos) spos :: rest) env Post := by
  refine PSs.wk (pss_seq (ps_setDc (tt := fun σ H Q => Q true H) (tk := fun σ H Q => ∃ e R e', (∀ sh H C cl fp, EV (blkC' X scope sh H C cl fp) kx e R e') ∧ tV X.K e R e' σ H Q) (tv := fun σ H Q => ∃ e R e', (∀ sh H C cl fp, EV (blkC' X scope sh H C cl fp) vx e R e') ∧ tV X.K e R e' σ H Q) hc hN hy hyl hsw hi ok hg (fun sh H C cl fp => ⟨fun pins s σ H' Q I q => pts_nil.run pins s σ H' Q I q⟩)
    (fun sh H C cl fp => ⟨fun pins s σ H' Q I ⟨e, R, e', h, q⟩ => (h sh H C cl fp).run pins s σ H' Q I q⟩) (fun sh H C cl fp => ⟨fun pins s σ H' Q I ⟨e, R, e', h, q⟩ => (h sh H C cl fp).run pins s σ H' Q I q⟩) hs) k) fun D σ H ⟨G, F, S, q'⟩ => dc_go (Q := fun x H1 => tX X.K ea W _ Post D (σ.set i (some x)) H1) own t hc hN hi ok hg hz hk hkf hkk hv hvf hok hts hno ⟨G, F, S, fun F1 v H1 x1 r1 => ⟨G, F1, St.store r1 (blt_lt hl), fun o p F2 x2 => q' o p F2 (x1.trans x2)⟩⟩
end
theorem es_cg {X : Cx} {ea : Str → Addr} {W : WX} {sts : List Stmt} {e e' : Ev} {Post : Out → Prop} (h : e = e') (k : ES X ea W sts e Post) : ES X ea W sts e' Post := h ▸ k
/-! a, b, c = x, y, z -/
theorem ars3v {K : Frag} {F : Hp} {σ : L2.St} {x y z : D} : ∀ {vs : List V}, ARs K F σ vs [.val x, .val y, .val z] → ∃ u v w, vs = [u, v, w] ∧ DR K F u x ∧ DR K F v y ∧ DR K F w z
  | [u, v, w], ⟨a, b, c, _⟩ => ⟨u, v, w, rfl, a, b, c⟩
  | [], h => by cases h
  | [_], h => by cases h.2
  | [_, _], h => by cases h.2.2
  | _ :: _ :: _ :: _ :: _, h => by cases h.2.2.2
theorem es_par3 {X : Cx} {ea : Str → Addr} {W : WX} {rest : List Stmt} {Post : Out → Prop} {env env1 : Ev} {a b c : Expr} {x y z : D} {pos : Pos} {nx ny nz : Str} {px py pz pt pt2 : Pos} {kt k2} (i j l : Nat) (hc : X.calm = true) (hN : X.N.Nodup) (ha : EA X [a, b, c] env [.val x, .val y, .val z] env1) (k : ES X ea W rest (((env1.set i (.val x)).set j (.val y)).set l (.val z)) Post) (hi : X.N[i]? = some nx := by rfl) (hj : X.N[j]? = some ny := by rfl) (hl : X.N[l]? = some nz := by rfl) (hij : i ≠ j := by decide) (hil : i ≠ l := by decide) (hjl : j ≠ l := by decide)
    (hx : X.env.scope.names.lookup nx = some .local := by rfl) (hy : X.env.scope.names.lookup ny = some .local := by rfl) (hz : X.env.scope.names.lookup nz = some .local := by rfl) (hli : Nat.blt i env1.length = true := by rfl) (hlj : Nat.blt j env1.length = true := by rfl) (hll : Nat.blt l env1.length = true := by rfl)
    (hw : swappedStores [.Tuple [.Name nx px, .Name ny py, .Name nz pz] kt pt] (.Tuple [a, b, c] k2 pt2) X.env = pure (some [nx, ny, nz]) := by rfl) (hs : swapsWithSole [.Tuple [.Name nx px, .Name ny py, .Name nz pz] kt pt] (.Tuple [a, b, c] k2 pt2) pos.line X.env = pure false := by rfl) :
    ES X ea W (.Assign [.Tuple [.Name nx px, .Name ny py, .Name nz pz] kt pt] (.Tuple [a, b, c] k2 pt2) pos :: rest) env Post :=
  PSs.wk (pss_seq (ps_par3 hc hN hi hj hl hij hil hjl hx hy hz ha hw hs) k) fun D σ H ⟨G, F, S, q⟩ => ⟨G, F, S, fun F1 vs H1 x1 r1 S1 => by
    obtain ⟨u, v, w, e, r2, r3, r4⟩ := ars3v r1
    refine ⟨u, v, w, e, G, F1, ?_, fun o p F2 x2 => q o p F2 (x1.trans x2)⟩
    have S2 := (S1.consVal r2).store (blt_lt hli)
    have S3 := (S2.consVal r3).store (by rw [List.length_set]; exact blt_lt hlj)
    exact (S3.consVal r4).store (by rw [List.length_set, List.length_set]; exact blt_lt hll)⟩
end Pd
set_option Elab.async false
set_option linter.all false
set_option maxRecDepth 100000
set_option maxHeartbeats 4000000
/-! sorted of a tuple of ints -/
namespace Pd
open PySem PySem.Spec PyProof.Rows L2 Srt SrtO
section
variable {prog : Program} {w : World} {A : Around} {E : Value → Shared → Prop} {s : Shared}
theorem collect_tup {l : Addr} {vs : List Value} {Q : List Value → Shared → Prop} (hl : s.heap.IsTuple l vs.toArray)
    (h : Q vs { s with heap := (s.heap.push (seqObj "list" #[] 0)).update s.heap.objs.size (Obj.mapSeq (· ++ vs.toArray)) }) (hsz : vs.length ≤ sizeLine) :
    wpAny (model prog w) A (collect (.ref l)) Q E s := by
  obtain ⟨o, ho, hc, n, hd⟩ := id hl
  unfold collect
  refine wpAny_bind (wpAny_runValue (codeAny_builtin entry_proto_collect' ?_))
  show wpAny _ _ (do again (.builtin "list.__iadd__" ⟨[← newList [], .ref l], []⟩)) _ _ s
  refine wpAny_bind (wpAny_newList (wpAny_pure ⟨Code.quiet_builtin _ (by decide +kernel), codeAny_builtin entry_list_iadd' ?_⟩))
  show wpAny _ _ (Builtin.List.listExtendWith (.ref s.heap.objs.size) (.ref l) (.ref s.heap.objs.size)) _ _ { s with heap := s.heap.push (seqObj "list" #[] 0) }
  unfold Builtin.List.listExtendWith
  have ho' : (s.heap.push (seqObj "list" #[] 0)).get? l = some o := Heap.get?_push_of_some _ ho
  refine wpAny_bind (wpAny_typeOf (T := "tuple") ⟨o, ho', hc⟩ ?_)
  have ht : (Value.type "tuple" == Value.type "tuple") = true := by rfl
  rw [if_pos (by rw [ht]; simp)]
  refine wpAny_bind (listItems_at ho' hd ?_)
  refine wpAny_bind (listItems_at (xs := #[]) (n := 0) (Heap.get?_push_size _ rfl) rfl ?_)
  rw [if_neg (by simp)]
  refine wpAny_bind (listUpdate_at (xs := #[]) (n := 0) (Heap.get?_push_size _ rfl) rfl ?_ (Nat.zero_le _) (by show (#[] ++ vs.toArray).size ≤ sizeLine + 1; simp only [Array.size_append, List.size_toArray, List.length_nil]; omega))
  refine wpAny_pure ?_
  show wpAny (model prog w) A (do
      let o ← load s.heap.objs.size
      match o.data with
      | .seq xs _ => pure xs.toList
      | _ => unsupported "internal:collect") Q E { s with heap := (s.heap.push (seqObj "list" #[] 0)).update s.heap.objs.size (Obj.mapSeq (· ++ vs.toArray)) }
  refine wpAny_bind (wpAny_load (get?_update_seq (Heap.get?_push_size _ rfl) _) ?_)
  show wpAny _ _ (pure ((#[] : Array Value) ++ vs.toArray).toList) Q E _
  rw [show ((#[] : Array Value) ++ vs.toArray).toList = vs by simp]
  exact wpAny_pure h
theorem sorted_ordT {l : Addr} {vs : List Value} {ltv : Value → Value → Bool} {Q : Value → Shared → Prop} (O : Swo ltv) (hl : s.heap.IsTuple l vs.toArray) (hz : vs.length ≤ sizeLine)
    (hS : 2 ≤ vs.length → ∀ (h₁ : Heap) (a : Addr), h₁.get? a = some (seqObj "list" vs.toArray 0) → (∀ b o, s.heap.get? b = some o → b ≠ a ∧ h₁.get? b = some o) → SortableO prog w A.in1.in1 { s with heap := h₁ } a vs ltv)
    (h : ∀ out : List Value, Srtd ltv out → Stb ltv out vs → Q (.ref (s.heap.objs.size + 1)) { s with heap := sortedAll s.heap vs out.toArray }) :
    wpAny (model prog w) A (call (.builtin "sorted") [.ref l]) Q E s := by
  refine Calls.call_function_entry kind_sorted plain_sorted entry_sorted (args_sorted1 _) ?_
  unfold Builtin.«sorted»
  refine wpAny_bind (m := checkCount "sorted" 1 1 _) (wpAny_pure ?_)
  refine wpAny_bind (collect_tup hl ?_ hz)
  refine wpAny_bind (wpAny_newList ?_ hz)
  have hsz : ((s.heap.push (seqObj "list" #[] 0)).update s.heap.objs.size (Obj.mapSeq (· ++ vs.toArray))).objs.size = s.heap.objs.size + 1 := by
    rw [Heap.size_update, size_push']
  have hoL : (((s.heap.push (seqObj "list" #[] 0)).update s.heap.objs.size (Obj.mapSeq (· ++ vs.toArray))).push (seqObj "list" vs.toArray 0)).get? (s.heap.objs.size + 1) = some (seqObj "list" vs.toArray 0) := by
    rw [← hsz]; exact Heap.get?_push_size _ rfl
  have keep : ∀ b o, s.heap.get? b = some o → b ≠ s.heap.objs.size + 1 ∧ (((s.heap.push (seqObj "list" #[] 0)).update s.heap.objs.size (Obj.mapSeq (· ++ vs.toArray))).push (seqObj "list" vs.toArray 0)).get? b = some o := fun b o q => by
    have hlt : b < s.heap.objs.size := Heap.lt_size q
    refine ⟨Nat.ne_of_lt (Nat.lt_succ_of_lt hlt), Heap.get?_push_of_some _ ?_⟩
    rw [Heap.get?_update_ne _ _ _ _ (Nat.ne_of_lt hlt)]
    exact Heap.get?_push_of_some _ q
  show wpAny _ _ _ _ _ { s with heap := ((s.heap.push (seqObj "list" #[] 0)).update s.heap.objs.size (Obj.mapSeq (· ++ vs.toArray))).push (seqObj "list" vs.toArray 0) }
  rw [hsz]
  refine wpAny_bind (wpAny_holding (wpAny_call_entry slot_list_sort ⟨_, hoL, rfl⟩ entry_list_sort (list_sort_ord O hoL hz (fun h2 => hS h2 _ _ hoL keep) fun out hs hb => ⟨_, rfl, ?_⟩) (args_list_sort _)))
  exact wpAny_pure ⟨_, rfl, h out hs hb⟩
end
def rSortedIT (K : PySem.W.Frag) : List V → Hp → VK → Prop := fun vs H Q => ∃ (a : Addr) (ns : List Int), vs = [V.ref a] ∧ SqT K H a (ns.map V.int) ∧
  ∀ (ns' : List Int) (p : Addr), ns'.Perm ns → ns'.Pairwise (· ≤ ·) → H p = none → Q (.ref p) (upd H p (.lst (ns'.map V.int)))
section
variable {X : Cx}
theorem cr_sortedIT : CallR X (.builtin "sorted") (rSortedIT X.K) := by
  intro pins s σ H vs us Q I r h
  obtain ⟨a, ns, rfl, hs, q⟩ := h
  obtain ⟨its, rv, hl, hz⟩ := I.tuple hs
  rw [Vals.ref1 r]
  have hi := rv.ints
  refine sorted_ordT SrtO.swo_int hl (by rw [← rv.length]; exact hz) (fun h2 h₁ a' _ _ => SrtO.ints_sortable hi h2) fun out h1 h2 => ?_
  obtain ⟨k1, k2, k3⟩ := SrtO.ints_out hi h1 h2
  obtain ⟨ep, he'⟩ := PyProof.Rows.sortedAll_at s.heap its out.toArray
  have hlen : ((out.map SrtO.iv).map V.int).length ≤ sizeLine := by
    rw [List.length_map, k2.length_eq]
    rw [List.length_map] at hz
    exact hz
  exact ⟨.ref _, upd H (s.heap.objs.size + 1) (.lst ((out.map SrtO.iv).map V.int)), I.laid (t' := s.toks) (fun _ _ => PyProof.Rows.sortedAll_old) (Nat.le_succ _) ⟨hlen, out, ep, vals_of_ints k1, he'⟩, rfl, q _ _ k2 k3 (I.hok.fresh (Nat.le_succ _))⟩
end
theorem c1_sortedT {K : Frag} {ns : List Int} : C1 K (rSortedIT K) (.tuple (ns.map .int)) (.new (.lst none ((isort ns).map .int))) := by
  intro G F σ H env v Q S hv q
  obtain ⟨a, vs, rfl, ha, za, ra⟩ := hv.tup S.kf
  have e := ra.ints
  rw [e] at ha za
  refine ⟨a, ns, rfl, ha, fun ns' p hp hs hn => ?_⟩
  rw [isort_of hp hs]
  refine q F _ _ (Ext.refl G F) (S.consNew hn fun f g => ⟨p, _, rfl, (fun _ z => nomatch z), upd_same, ?_, DRs.of_ints _, f, g⟩)
  rw [List.length_map, (isort_perm ns).length_eq]
  rw [List.length_map] at za
  exact za
section
variable {X : Cx} {env env1 : Ev} {e : Expr} {p pos : Pos} {R : Rs}
theorem ev_sortedT {ns : List Int} (B : Blt X.mg) (h : EV X e env R env1) (w : vw (Pd.fz R) env1 = some (.tuple (ns.map .int))) (hg : Gl X "sorted" := by rfl) (he : starEach (e :: []) X.env = (false, eval e X.env) :: starEach [] X.env := by rfl) (hpl : (backTo pos (starEach [] X.env)).any (·.1) = false := by rfl) :
    EV X (.Call (.Name "sorted" p) [e] [] pos) env (.new (.lst none ((isort ns).map .int))) env1 := ev_b1 cr_sortedIT B.sorted_ bt_sorted h c1_sortedT w hg (by decide) (by decide) he hpl
end
end Pd
set_option Elab.async false
set_option linter.all false
set_option maxRecDepth 100000
set_option maxHeartbeats 4000000
/-! enumerate of a tuple -/
namespace Pd
open PySem PySem.Spec PyProof.Rows L2
section
theorem meets_enumerate_new1 {v : Value} {o : Obj} {H : Heap → Prop} (B : Begins v o H) :
    Meets (Builtin.«enumerate.__new__» ⟨[.type "enumerate", v], []⟩) (fun _ R s => H s.heap ∧
      R (.ok (.ret (.ref (s.heap.push o).objs.size))) { s with heap := (s.heap.push o).push { cls := .type "enumerate", data := .fields #[.none, .bool false, .ref s.heap.objs.size, rawInt 0, .none, .none] } }) :=
  .of_wp fun prog w A R s h => by
    obtain ⟨hp, g, d, tk, os⟩ := s; obtain ⟨h1, h⟩ := h
    have hsub := sub_enumerate
    have q1 : ∀ {A' : Around} {E : Value → Shared → Prop} {Q : Value → Shared → Prop}, Q (.ref hp.objs.size) ⟨hp.push o, g, d, tk, os⟩ → wpAny (model prog w) A' (pyIter v) Q E ⟨hp, g, d, tk, os⟩ :=
      fun q => B.iter prog w _ _ ⟨hp, g, d, tk, os⟩ _ h1 q
    wp_walk using q1
    refine wpAny_stack_any fun st => wpAny_pure ?_
    split
    · rename_i c _ _ _ _ _
      cases (c == Value.type "enumerate")
      · wp_walk using q1
        exact ⟨_, rfl, h⟩
      · wp_walk using q1
        exact ⟨_, rfl, h⟩
    · wp_walk using q1
      exact ⟨_, rfl, h⟩
variable {prog : Program} {w : World} {A : Around} {E : Value → Shared → Prop} {s : Shared}
theorem enum_begins1 {v : Value} {o : Obj} {H : Heap → Prop} {Q : Value → Shared → Prop} (B : Begins v o H) (h1 : H s.heap)
    (h : ∀ h', IsEnum h' (s.heap.objs.size + 1) s.heap.objs.size 0 .none → h'.get? s.heap.objs.size = some o → h'.objs.size = s.heap.objs.size + 2 →
      (∀ b o, s.heap.get? b = some o → h'.get? b = some o) → Q (.ref (s.heap.objs.size + 1)) { s with heap := h' }) :
    wpAny (model prog w) A (call (.type "enumerate") [v]) Q E s := by
  refine callType_new F.called_enumerate (by decide) (F.typeCall_enumerate_1 _) (F.newCall_enumerate_1 _) (fun obj => F.args_object_init_2 obj _) F.entry_enumerate_new
    (meets_enumerate_new1 B) ⟨h1, ?_⟩
  have hz : (s.heap.push o).objs.size = s.heap.objs.size + 1 := Heap.size_push ..
  show _ ∧ _
  rw [hz]
  have he : IsEnum ((s.heap.push o).push { cls := .type "enumerate", data := .fields #[.none, .bool false, .ref s.heap.objs.size, rawInt 0, .none, .none] }) (s.heap.objs.size + 1) s.heap.objs.size 0 .none := by
    have := Heap.get?_push_size (s.heap.push o) (o := { cls := .type "enumerate", data := .fields #[.none, .bool false, .ref s.heap.objs.size, rawInt 0, .none, .none] }) rfl
    rw [hz] at this; exact this
  refine ⟨⟨_, he, rfl⟩, h _ he (Heap.get?_push_of_some _ (Heap.get?_push_size _ B.free)) (by rw [Heap.size_push, hz]) fun b o x => Heap.get?_push_of_some _ (Heap.get?_push_of_some _ x)⟩
theorem enum_end_tup {e it l : Addr} {i : Nat} {items : Array Value} {old : Value} {Q : Option Value → Shared → Prop} (hh : A.handled = none)
    (he : IsEnum s.heap e it i old) (hit : s.heap.IsTupleIter it l i) (hl : s.heap.IsTuple l items) (hx : items[i]? = none)
    (hQ : ∀ h', Heap.ExtBut it s.heap h' → Q none { s with heap := h' }) : wpAny (model prog w) A (pyNext (.ref e)) Q E s := by
  have hT : s.TypeIs (.ref e) "enumerate" := ⟨_, he, rfl⟩
  unfold pyNext
  refine wpAny_bind (wpAny_attempt (wpAny_callSpecial?_slot (name := Str.ofString "__next__") hT F.slot_enumerate_next
    (wpAny_call_entry F.slot_enumerate_next hT F.entry_enumerate_next ?_ (F.args_enumerate_next_1 _))))
  show wpAny _ _ (field (.ref e) 2 >>= _) _ _ _
  refine wpAny_bind (wpAny_field he rfl (x := .ref it) rfl ?_)
  refine wpAny_bind (wpAny_nextOf_tuple_end hh hit hl hx fun h' x he' hx' => ?_)
  obtain ⟨o, ho, hc⟩ := hx'
  refine wpAny_bind (wpAny_isInstance (T := "StopIteration") (b := true) ⟨o, ho, hc⟩ isSubtype_stop ?_)
  exact wpAny_pure (hQ _ he')
end
/-- the tuple at a, each item in a new pair -/
def IteT (K : PySem.W.Frag) (a : Addr) : It :=
  ⟨fun i H => ∃ (xs : List V) (x : V), SqT K H a xs ∧ xs[i]? = some x, fun i H v H' => ∃ T x, v = .ref T ∧ H T = none ∧ H' = upd H T (.tup [.int (i : Nat), x]) ∧ ∀ xs, SqT K H a xs → xs[i]? = some x, fun i H => ∃ xs : List V, SqT K H a xs ∧ xs.length ≤ i⟩
theorem turn_enumT {P : Program} {w : World} {K : PySem.W.Frag} {elts : List Expr} {kk : Nat} {tpos : Pos} (a e it : Addr) :
    Turn P w K (.Tuple elts kk tpos) (IteT K a) [e, it] e (fun i h => (∃ old, IsEnum h e it ((i : Nat) : Int) old) ∧ h.IsTupleIter it a i ∧ e ≠ it ∧ a ≠ it ∧ e ≠ a) where
  mem := by simp
  obj := fun i h st b hb => by
    obtain ⟨⟨old, he⟩, ⟨o, ho, hc, hd⟩, _⟩ := st
    have e' : b = e ∨ b = it := by simpa using hb
    rcases e' with z | z
    · rw [z]; exact ⟨_, he, fun v q => nomatch q⟩
    · rw [z]; exact ⟨o, ho, fun v q => by rw [hd] at q; cases q⟩
  keep := fun i h h' st k => let ⟨⟨old, he⟩, hi, hne⟩ := st; ⟨⟨old, k e (by simp) _ he⟩, hi.at fun o q => k it (by simp) o q, hne⟩
  item := by
    intro X hP hw hK hc i pins s σ H E I hf st hg
    subst hP hw hK
    obtain ⟨⟨old, he⟩, hit, hne, hai, hea⟩ := st
    obtain ⟨xs, x, hq, hx⟩ := hg
    obtain ⟨its, rv, p, hz⟩ := I.tuple hq
    have p' : s.heap.IsTuple a its.toArray := p
    obtain ⟨u, hu, ru⟩ := rv.get hx
    have hel : e < s.heap.objs.size := Heap.lt_size he
    have hil : it < s.heap.objs.size := by obtain ⟨_, q, _⟩ := hit; exact Heap.lt_size q
    have hlt : i < its.toArray.size := by
      have := (List.getElem?_eq_some_iff.mp hu).1
      simpa using this
    refine wpAny_pyNext_enum_itemD (Draws.tuple (show X.A.in1.handled = none from I.ok.hd hc) it a hai its.toArray) he ⟨hit, p'⟩ hlt hne (by simp [hne, hea]) fun y h' tk hP ho hst hT hsz hk => ?_
    have hy : y = u := by
      have h2 : its.toArray[i]? = some y := hP
      have h3 : its.toArray[i]? = some u := by simpa using hu
      rw [h2] at h3
      exact Option.some.inj h3
    subst hy
    have hit' := hst.1
    refine ⟨_, rfl, wpAny_letOwnedTupleGo_enum (s := { s with heap := h', toks := tk + 1 }) ho fun h'' he' sb => ?_⟩
    have hT2 : h''.get? s.heap.objs.size = some { cls := .type "tuple", data := .seq #[.int i tk, y] } := (sb.2 _ (Nat.ne_of_gt hel)).trans hT
    have new : ObjOk X.prog X.w (upd H s.heap.objs.size (.tup [.int (i : Nat), x])) h'' s.heap.objs.size (.tup [.int (i : Nat), x]) :=
      ⟨by show 2 ≤ sizeLine; decide, [.int i tk, y], .cons ⟨_, rfl⟩ (.cons ru .nil), ⟨_, hT2, rfl, _, rfl⟩⟩
    have I1 : Inv X pins σ (upd H s.heap.objs.size (.tup [.int (i : Nat), x])) { s with heap := h'', toks := tk + 1 } :=
      I.turnedNew (ch := [e, it]) (fun b ob hb q => (sb.2 b (fun z => hb (by simp [z]))).trans (hk b ob (fun z => hb (by simp [z])) (fun z => hb (by simp [z])) q)) hf (Nat.le_refl _) new
    refine ⟨.ref s.heap.objs.size, _, I1, rfl, ⟨_, x, rfl, I.hok.fresh (Nat.le_refl _), rfl, fun ys hy => by rw [I.tuple_inj hy hq]; exact hx⟩, ⟨⟨y, ?_⟩, hit'.at fun o q => (sb.2 it (Ne.symm hne)).trans q, hne, hai, hea⟩, fun b hb => ?_⟩
    · have e1 : ((i + 1 : Nat) : Int) = (i : Int) + 1 := by omega
      rw [e1]; exact he'
    · have hb' : b < s.heap.objs.size := by
        have e' : b = e ∨ b = it := by simpa using hb
        rcases e' with z | z
        · rw [z]; exact hel
        · rw [z]; exact hil
      rw [upd_ne (Nat.ne_of_lt hb')]
      exact (hf b hb).1
  done := by
    intro X hP hw hK hc i pins s σ H E I hf st hg
    subst hP hw hK
    obtain ⟨⟨old, he⟩, hit, hne, hai, hea⟩ := st
    obtain ⟨xs, hq, hx⟩ := hg
    obtain ⟨its, rv, p, hz⟩ := I.tuple hq
    have p' : s.heap.IsTuple a its.toArray := p
    obtain ⟨f0, f1, f2, f3, f4, f5⟩ := hf it (by simp)
    have hl := rv.length
    exact enum_end_tup (I.ok.hd hc) he hit p' (by simp; omega) fun h' eb => ⟨rfl, I.turned (t' := s.toks) (fun b o hb q => eb b o hb q) f0 f1 f3 f4 f5⟩
  self := fun A i s Q E st h => let ⟨⟨_, he⟩, _⟩ := st; wpAny_pyIter_enum he h
def iEnumT (K : PySem.W.Frag) (ta : TA) : TI := fun σ H R => ta σ H fun vs H1 => ∃ a xs, vs = [.ref a] ∧ SqT K H1 a xs ∧ R (IteT K a) H1
theorem pi_enumT {X : Cx} {e : Expr} {ta : TA} {p pos tpos : Pos} {elts : List Expr} {kk : Nat} (hg : Gl X "enumerate") (hm : X.mg "enumerate" = none) (ha : PA X [e] ta) (hs : starEach [e] X.env = [(false, eval e X.env)] := by rfl) :
    PI X (.Tuple elts kk tpos) (.Call (.Name "enumerate" p) [e] [] pos) (iEnumT X.K ta) := by
  refine ⟨fun pins s σ H R I h => ?_⟩
  refine Call_ (ld_blt I hg hm boot_enumerate (PyProof.Rows.callWith_type1 (thn (ha.run pos pins s σ H _ I h) fun us s1 ⟨vs, H1, I1, r1, q1⟩ => ?_) hs rfl))
  obtain ⟨a, xs, ex, hq, q⟩ := q1
  subst ex
  cases r1 with
  | cons r rr =>
    cases rr
    cases r
    obtain ⟨its, rv, p', hz⟩ := I1.tuple hq
    have p2 : s1.heap.IsTuple a its.toArray := p'
    have hal : a < s1.heap.objs.size := by obtain ⟨_, q, _⟩ := p2; exact Heap.lt_size q
    refine enum_begins1 (begins_tuple a its.toArray) p2 fun h' he hit hsz hk => wpAny_pyIter_enum he ?_
    have I2 : Inv X pins σ H1 { s1 with heap := h' } := I1.kept (t' := s1.toks) hk
    refine ⟨s1.heap.objs.size + 1, [s1.heap.objs.size + 1, s1.heap.objs.size], _, _, H1, rfl, I2, turn_enumT a (s1.heap.objs.size + 1) s1.heap.objs.size, ⟨⟨.none, he⟩, ⟨_, hit, rfl, rfl⟩, Nat.succ_ne_self _, Nat.ne_of_lt hal, Nat.ne_of_gt (Nat.lt_succ_of_lt hal)⟩, fun b hb => ?_, q⟩
    have e' : b = s1.heap.objs.size + 1 ∨ b = s1.heap.objs.size := by simpa using hb
    have hle : s1.heap.objs.size ≤ b := by
      rcases e' with z | z
      · rw [z]; exact Nat.le_add_right _ _
      · rw [z]; exact Nat.le_refl _
    exact I1.fpOk hle (I1.hok.fresh hle)
def enumD (ds : List D) : List D := (List.range ds.length).map fun i => .tuple [.int (i : Nat), ds.getD i .none]
theorem itOk_enumT {K : Frag} {F : Hp} {a : Addr} {vs : List V} {ds : List D} (h : SqT K F a vs) (r : DRs K F vs ds) : ItOk K F (IteT K a) (enumD ds) := fun i H l => by
  have hT := le_t l h
  have rl := r.length
  refine ⟨fun d ed => ?_, fun z => ⟨vs, hT, ?_⟩⟩
  · unfold enumD at ed
    rw [List.getElem?_map] at ed
    by_cases hi : i < ds.length
    · rw [List.getElem?_range hi] at ed
      have ed := Option.some.inj ed
      obtain ⟨v, hv, rv⟩ := r.get (List.getElem?_eq_getElem hi)
      refine ⟨⟨vs, v, hT, hv⟩, fun x H' y => ?_⟩
      obtain ⟨T, x0, e1, hn, e2, hx⟩ := y
      have hx0 := hx vs hT
      rw [hv] at hx0
      have e3 := Option.some.inj hx0
      subst e3
      refine .inr ⟨T, _, _, hn, e2, e1, ed.symm, by show 2 ≤ sizeLine; decide, .cons (.int _) (.cons ?_ .nil)⟩
      rw [List.getD_eq_getElem?_getD, List.getElem?_eq_getElem hi]
      exact rv
    · rw [List.getElem?_eq_none (by rw [List.length_range]; omega)] at ed
      cases ed
  · unfold enumD at z
    rw [List.length_map, List.length_range] at z
    omega
theorem ei_enumT {X : Cx} {e : Expr} {R : Rs} {ds : List D} {env env1 : Ev} {p pos tpos : Pos} {elts : List Expr} {kk : Nat} (hm : X.mg "enumerate" = none) (h : EV X e env R env1) (w : Pd.fz R = .val (.tuple ds)) (hg : Gl X "enumerate" := by rfl) (hs : starEach [e] X.env = [(false, eval e X.env)] := by rfl) :
    EI X (.Tuple elts kk tpos) (.Call (.Name "enumerate" p) [e] [] pos) env (enumD ds) env1 :=
  PI.wk (pi_enumT hg hm (pa_cons h pa_nil hs) hs) fun σ H Q ⟨G, F, S, q⟩ => ⟨G, F, S, fun F1 v H1 x1 r1 => by
    obtain ⟨F2, x2, r2⟩ := r1.fz
    rw [w] at r2
    obtain ⟨r, S2⟩ := r2
    cases r with
    | tup a b c => exact ⟨_, _, rfl, le_t S2.kf a, q F2 _ H1 (x1.trans x2) (itOk_enumT a c) S2⟩⟩
end Pd
set_option Elab.async false
set_option linter.all false
set_option maxRecDepth 100000
set_option maxHeartbeats 4000000
/-! what raises within `and`, a call of a built-in, a comprehension -/
namespace Pd
open PySem PySem.Spec PyProof.Rows L2
section
variable {X : Cx} {ea : Str → Addr} {W : WX} {env env1 env2 : Ev} {a b e tg iter elt : Expr} {rest : List Expr} {p pos : Pos} {fn x : Str} {scope : Scope}
theorem ex_one {op} (h : EX X ea W a env x env1) : EX X ea W (.BoolOp op [a] pos) env x env1 := pe_one h
theorem ex_and (h : EV X a env (.val (.bool true)) env1) (h2 : EX X ea W (.BoolOp .And (b :: rest) pos) env1 x env2) : EX X ea W (.BoolOp .And (a :: b :: rest) pos) env x env2 :=
  PE.wk (pe_and h h2) fun σ H Q ⟨G, F, S, q⟩ => ⟨G, F, S, fun F1 v H1 x1 r1 => ⟨true, r1.1.bool_iff, iteT ⟨G, F1, r1.2, fun F2 H2 x2 S2 => q F2 H2 (x1.trans x2) S2⟩⟩⟩
theorem ex_b1 {id : String} (hm : X.mg fn = none) (hv : bootBuiltins fn = some (.builtin id)) (h : EX X ea W e env x env1) (hg : Gl X fn := by rfl)
    (hn : fn ≠ "__name__" := by decide) (hdb : (fn == ("__debug__" : Str)) = false := by decide) (he : starEach (e :: []) X.env = (false, eval e X.env) :: starEach [] X.env := by rfl) (hpl : (backTo pos (starEach [] X.env)).any (·.1) = false := by rfl) :
    EX X ea W (.Call (.Name fn p) [e] [] pos) env x env1 :=
  PE.wk (pe_callB (r := fun _ _ _ => False) (fun _ _ _ _ _ _ _ _ _ z => z.elim) hg hm hv (pa_cons h pa_nil he) hn hdb he hpl) fun σ H Q h => h
theorem ex_t1 {id : String} (hm : X.mg fn = none) (hv : bootBuiltins fn = some (.type id)) (h : EX X ea W e env x env1) (hg : Gl X fn := by rfl)
    (hn : fn ≠ "__name__" := by decide) (hdb : (fn == ("__debug__" : Str)) = false := by decide) (he : starEach (e :: []) X.env = (false, eval e X.env) :: starEach [] X.env := by rfl) (hpl : (backTo pos (starEach [] X.env)).any (·.1) = false := by rfl) :
    EX X ea W (.Call (.Name fn p) [e] [] pos) env x env1 :=
  PE.wk (pe_callTy (r := fun _ _ _ => False) (fun _ _ _ _ _ _ _ _ _ z => z.elim) hg hm hv (pa_cons h pa_nil he) hn hdb he hpl) fun σ H Q h => h
theorem ex_all (B : Blt X.mg) (h : EX X ea W e env x env1) (hg : Gl X "all" := by rfl) (he : starEach (e :: []) X.env = (false, eval e X.env) :: starEach [] X.env := by rfl) (hpl : (backTo pos (starEach [] X.env)).any (·.1) = false := by rfl) : EX X ea W (.Call (.Name "all" p) [e] [] pos) env x env1 := ex_b1 B.all_ bt_all h hg (by decide) (by decide) he hpl
/-- what is walked raises -/
theorem ex_lcI (own : List (Str × Nat)) (hc : X.calm = true) (hN : X.N.Nodup) (h : EX X ea W iter env x env1) (ok : BlkOk X.N X.env.scope scope own) (hs : ∀ x, foldedSetIterable iter X.env x = pure x := by intro _; rfl) : EX X ea W (.ListComp elt [⟨tg, iter, [], 0⟩] scope pos) env x env1 :=
  PE.wk (pe_lc (g := fun _ _ _ _ => False) (tt := fun _ _ _ => False) (te := fun _ _ _ => False) hc hN (pi_list (tg := tg) h) ok (fun _ _ _ _ _ => ⟨fun _ _ _ _ _ _ _ _ _ z => z.elim⟩) (fun _ _ _ _ _ => ⟨fun _ _ _ _ _ _ z => z.elim⟩) (fun _ _ _ _ _ => ⟨fun _ _ _ _ _ _ z => z.elim⟩) hs) fun σ H Q h => h
end
end Pd
set_option Elab.async false
set_option linter.all false
set_option maxRecDepth 100000
set_option maxHeartbeats 4000000
/-! (..) * k, k at least 1 -/
namespace Pd
open PySem PySem.Spec PyProof.Rows L2
theorem tuple_mul1 (l : Addr) (items : Array Value) (n : Nat) (dd : Option Addr) (sl : Array (Option Value)) (u : Tok) :
    Meets (Builtin.«tuple.__mul__» ⟨[.ref l, .int 1 u], []⟩) (fun _ R s => s.heap.get? l = some { cls := .type "tuple", dict := dd, data := .seq items n, slots := sl } ∧ R (.ok (.ret (Value.ref l))) s) :=
  .of_wp fun prog w A R s h => by
    obtain ⟨hp, g, d, tk, os⟩ := s
    obtain ⟨hl, h⟩ := h
    have f1 := AutoSeq1.idx_int
    have c1 : (items.isEmpty || (1 : Int) == 1) = true := by rw [Bool.or_eq_true]; exact .inr rfl
    wp_walk using wpAny_loadPart' hl
    repeat (first
      | (refine wpAny_ite_false (by decide) ?_; wp_walk using wpAny_loadPart' hl)
      | (refine wpAny_ite_true (by rw [c1]; rfl) ?_; wp_walk using wpAny_loadPart' hl))
    exact ⟨_, rfl, h⟩
def rRepT1 (K : PySem.W.Frag) : R2 := fun x y H Q => ∃ l xs, x = .ref l ∧ y = .int 1 ∧ SqT K H l xs ∧ Q (.ref l) H
section
variable {X : Cx}
theorem op_repT1 : OpR X (binaryOp .Mult) (rRepT1 X.K) := by
  intro pins s σ H x y v u Q I rx ry h
  obtain ⟨l, xs, rfl, rfl, hT, q⟩ := h
  cases rx
  obtain ⟨t, rfl⟩ := ry
  obtain ⟨its, r, ⟨⟨cls, dd, data, sl⟩, ho, hc, n, hd⟩, hs⟩ := I.tuple hT
  simp only at hc hd
  subst hc hd
  refine wpAny_binaryOp_repeat_ref (T := "tuple") (U := "int") (by decide) ⟨_, ho, rfl⟩ (fun s' => typeIs_int s' 1 t) noFill_tuple_mul F.fills_int_mul F.slot_int_rmul repeat_tuple F.slot_int_index.lookup
    (call_meets F.slot_int_rmul (typeIs_int s 1 t) F.entry_int_rmul (F.args_int_rmul_2 _ _) (int_rmul_tuple 1 t l its.toArray n dd sl)
      ⟨ho, rfl, ⟨_, ho, rfl⟩, call_meets F.slot_tuple_mul ⟨_, ho, rfl⟩ F.entry_tuple_mul (F.args_tuple_mul_2 _ _) (tuple_mul1 l its.toArray n dd sl t) ⟨ho, ?_⟩⟩)
  exact ⟨.ref l, H, I, rfl, q⟩
end
theorem opd_repT1 {K : Frag} {xs : List D} : OpD K (rRepT1 K) (.tuple xs) (.int 1) (.val (.tuple xs)) := by
  intro G F σ H env v u Q S hv hu q
  have hv2 := hv
  obtain ⟨a, vs, rfl, ha, za, ra⟩ := hv.tup S.kf
  rw [hu.int]
  have hd : DR K F (.ref a) (.tuple xs) := by
    rcases hv2 with z | ⟨_, _, _, e, _⟩
    · exact z
    · cases e
  exact ⟨a, vs, rfl, rfl, ha, q F _ _ (Ext.refl G F) ⟨hd, S⟩⟩
theorem opd_repT {K : Frag} {xs : List D} {k : Int} (h0 : 2 ≤ k ∧ k ≤ 1000) (hne : xs ≠ []) (h : xs.length ≤ 1000) : OpD K (rRepT K) (.tuple xs) (.int k) (.val (.tuple (List.replicate k.toNat xs).flatten)) := by
  intro G F σ H env v u Q S hv hu q
  obtain ⟨a, vs, rfl, ha, za, ra⟩ := hv.tup S.kf
  rw [hu.int]
  have hl := ra.length
  refine ⟨a, k, vs, rfl, rfl, ha, fun z => hne (by rw [z] at hl; exact List.eq_nil_of_length_eq_zero hl.symm), h0.1, h0.2, by omega, fun p hp => ?_⟩
  have r2 := ra.rep k.toNat
  have hz : (List.replicate k.toNat vs).flatten.length ≤ sizeLine := by
    have e : (List.replicate k.toNat vs).flatten.length = k.toNat * vs.length := PyProof.Rows.lm_len_rep_flat _ _
    rw [e, sizeLine_eq]
    have a1 : k.toNat * vs.length ≤ 1000 * 1000 := Nat.mul_le_mul (by omega) (by omega)
    omega
  obtain ⟨x2, r3, S3⟩ := S.newTup hp hz r2
  exact q _ _ _ x2 ⟨r3, S3⟩
section
variable {X : Cx} {env env1 env2 : Ev} {a b : Expr} {Ra Rb : Rs} {xs : List D} {j : Int} {pos : Pos}
theorem ev_repT (h : EV X a env Ra env1) (h2 : EV X b env1 Rb env2) (wx : vw (Pd.fz Ra) env2 = some (.tuple xs)) (wy : vw (Pd.fz Rb) env2 = some (.int j)) (h0 : 1 ≤ j ∧ j ≤ 1000) (hne : xs ≠ []) (hl : xs.length ≤ 1000) (fl : (Pd.fz Ra).flat = true := by rfl) : EV X (.BinOp a .Mult b pos) env (.val (.tuple (List.replicate j.toNat xs).flatten)) env2 := by
  by_cases e : j = 1
  · subst e
    have q : (List.replicate (1 : Int).toNat xs).flatten = xs := by
      show (List.replicate 1 xs).flatten = xs
      simp
    rw [q]
    exact ev_bin op_repT1 h h2 opd_repT1 wx wy fl
  · exact ev_bin op_repT h h2 (opd_repT (by omega) hne hl) wx wy fl
end
end Pd
set_option Elab.async false
set_option linter.all false
set_option maxRecDepth 100000
set_option maxHeartbeats 4000000
/-! dict([(tuple of ints, ..), ..]): what is asked of it at once -/
namespace Pd
open PySem PySem.Spec PyProof.Rows L2
/-- the different ones, as they come -/
def ddT : List (List Int) → List (List Int) → List (List Int)
  | acc, [] => acc
  | acc, x :: r => ddT (if x ∈ acc then acc else acc ++ [x]) r
theorem stored_keys (xs : List (List Int × Addr × Value)) (k : List Int) (a : Addr) (v : Value) : (PySem.storedH xs k a v).map (·.1) = if k ∈ xs.map (·.1) then xs.map (·.1) else xs.map (·.1) ++ [k] := by
  have e : (PySem.atKey xs k).isSome = decide (k ∈ xs.map (·.1)) := by
    unfold PySem.atKey
    rw [Option.isSome_map, Bool.eq_iff_iff, List.find?_isSome, decide_eq_true_iff, List.mem_map]
    exact ⟨fun ⟨x, hx, e⟩ => ⟨x, hx, of_decide_eq_true e⟩, fun ⟨x, hx, e⟩ => ⟨x, hx, decide_eq_true e⟩⟩
  unfold PySem.storedH
  rw [e]
  by_cases h : k ∈ xs.map (·.1)
  · rw [if_pos (decide_eq_true h), if_pos h, List.map_map]
    refine List.map_congr_left fun x _ => ?_
    show (PySem.putAt k v x).1 = x.1
    unfold PySem.putAt
    split <;> rfl
  · rw [if_neg (by rw [decide_eq_false h]; decide), if_neg h, List.map_append]
    rfl
theorem storedAll_keys : ∀ (ps xs : List (List Int × Addr × Value)), (PySem.storedAllH xs ps).map (·.1) = ddT (xs.map (·.1)) (ps.map (·.1))
  | [], xs => rfl
  | p :: ps, xs => by
    have e : PySem.storedAllH xs (p :: ps) = PySem.storedAllH (PySem.storedH xs p.1 p.2.1 p.2.2) ps := rfl
    rw [e, storedAll_keys ps, stored_keys, List.map_cons]
    rfl
/-- a dict of so many keys, no more is told -/
def szO (n : Nat) (p : Addr) : HO := .ext fun h => (p == sysModules) = false ∧ ∃ o es ep, h.get? p = some o ∧ o.ExactDict ∧ o.data = .dict es ep ∧ es.size = n
theorem items_ints {prog : Program} {w : World} : ∀ {ns : List Int} {us : List Value}, Vals (ns.map V.int) us → PySem.ItemsAre (PySem.intKind prog w) ns us
  | [], _, h => by cases h; exact .nil
  | n :: ns, _, h => by
    rw [List.map_cons] at h
    cases h with
    | cons r t =>
      obtain ⟨tk, e⟩ := (show ∃ t, _ = Value.int n t from r)
      subst e
      exact .cons (by show Value.isInt n (Value.int n tk) = true; unfold Value.isInt; simp) (items_ints t)
/-- a pair in a list: its place, the key's place, the key, what stands by it -/
structure Pr where
  t : Addr
  q : Addr
  ks : List Int
  x : V
def rDictT (K : PySem.W.Frag) : List V → Hp → VK → Prop := fun xs H Q => ∃ (a : Addr) (L : List Pr), xs = [.ref a] ∧ SqL K H a (L.map fun r => V.ref r.t) ∧ (∀ r ∈ L, SqT K H r.t [.ref r.q, r.x] ∧ SqT K H r.q (r.ks.map V.int)) ∧
  ∀ p, H p = none → Q (.ref p) (upd H p (szO (ddT [] (L.map (·.ks))).length p))
theorem prs_of {X : Cx} {pins : List (Addr × Obj)} {σ : L2.St} {H : Hp} {s : Shared} (I : Inv X pins σ H s) : ∀ L : List Pr, (∀ r ∈ L, SqT X.K H r.t [.ref r.q, r.x] ∧ SqT X.K H r.q (r.ks.map V.int)) →
    ∃ ps : List (List Int × Addr × Value), ps.map (·.1) = L.map (·.ks) ∧ ps.length = L.length ∧ ∀ (j : Nat) (y : List Int × Addr × Value), ps[j]? = some y → ∃ r, L[j]? = some r ∧ IsTup s.heap r.t #[.ref y.2.1, y.2.2] ∧ y.2.1 = r.q ∧ y.1 = r.ks ∧ (PySem.tupleKind (PySem.intKind X.prog X.w)).is s.heap y.1 y.2.1 ∧ ∃ o, s.heap.get? r.q = some o
  | [], _ => ⟨[], rfl, rfl, fun j y e => by simp at e⟩
  | r :: L, h => by
    obtain ⟨ps, h1, h2, h3⟩ := prs_of I L fun x hx => h x (List.mem_cons_of_mem _ hx)
    obtain ⟨a1, a2⟩ := h r List.mem_cons_self
    obtain ⟨its, rv, ht, _⟩ := I.tuple a1
    obtain ⟨u, y, ei, ru, ry⟩ := vals2 rv
    subst ei
    cases (show u = Value.ref r.q from ru)
    obtain ⟨jts, rw2, ht2, _⟩ := I.tuple a2
    obtain ⟨o2, g2, c2, n2, d2⟩ := (show s.heap.IsTuple r.q jts.toArray from ht2)
    refine ⟨(r.ks, r.q, y) :: ps, by rw [List.map_cons, List.map_cons, h1], by rw [List.length_cons, List.length_cons, h2], fun j z e => ?_⟩
    cases j with
    | zero =>
      have e' : (r.ks, r.q, y) = z := Option.some.inj e
      subst e'
      exact ⟨r, rfl, ht, rfl, rfl, ⟨o2, jts.toArray, n2, g2, c2, d2, items_ints rw2⟩, o2, g2⟩
    | succ j =>
      obtain ⟨r', e1, e2⟩ := h3 j z (by simpa using e)
      exact ⟨r', by simpa using e1, e2⟩
theorem call_dictT {X : Cx} (hcalm : X.calm = true) (hu : X.A.units + 2 < cLine) : CallR X (.type "dict") (rDictT X.K) := by
  intro pins s σ H xs us Q I r q
  obtain ⟨a, L, ex, hq, hL, q⟩ := q
  subst ex
  obtain ⟨u, eu, rx⟩ := vals1 r
  subst eu
  cases rx
  obtain ⟨its, rv, pl, hz⟩ := I.list hq
  obtain ⟨ps, k1, k2, k3⟩ := prs_of I L hL
  obtain ⟨o, n, ho, hc, hd, hdat⟩ := pl
  have eits : its = L.map fun r => Value.ref r.t := by
    have rv2 : Vals ((L.map (·.t)).map V.ref) its := by rw [List.map_map]; exact rv
    rw [refs_at rv2, List.map_map]
    rfl
  have lp : (ps.map fun y => (Value.ref y.2.1, y.2.2)).length = L.length := by rw [List.length_map, k2]
  have Ts : Nat → Addr := fun j => 0
  have P := PySem.PairArg.list (prog := X.prog) (w := X.w) a its.toArray (fun j => ((L[j]?).map (·.t)).getD 0) (ps.map fun y => (Value.ref y.2.1, y.2.2))
  have ok : PySem.PlainSeq "list" s.heap a its.toArray ∧ PySem.PairItems s.heap its.toArray (fun j => ((L[j]?).map (·.t)).getD 0) (ps.map fun y => (Value.ref y.2.1, y.2.2)) := by
    refine ⟨⟨o, n, ho, hc, hd, hdat⟩, ?_, fun j k v hj => ?_⟩
    · rw [lp, eits, List.size_toArray, List.length_map]
    · rw [List.getElem?_map] at hj
      cases hy : ps[j]? with
      | none => rw [hy] at hj; cases hj
      | some y =>
        rw [hy] at hj
        have hj := Option.some.inj hj
        obtain ⟨r, hr, h1, _⟩ := k3 j y hy
        have e1 := (Prod.mk.inj hj).1
        have e2 := (Prod.mk.inj hj).2
        subst e1 e2
        have et : (fun j => ((L[j]?).map (·.t)).getD 0) j = r.t := by
          show ((L[j]?).map (·.t)).getD 0 = r.t
          rw [hr]
          rfl
        rw [et]
        refine ⟨?_, .inl h1⟩
        rw [eits, List.getElem?_toArray, List.getElem?_map, hr]
        rfl
  have hhave : PySem.PairsHaveH (PySem.tupleKind (PySem.intKind X.prog X.w)) (ps.map fun y => (Value.ref y.2.1, y.2.2)).length (PySem.PairRel (ps.map fun y => (Value.ref y.2.1, y.2.2))) ps := by
    refine ⟨by rw [List.length_map], fun i k v h => ?_⟩
    have h : (ps.map fun y => (Value.ref y.2.1, y.2.2))[i]? = some (k, v) := h
    rw [List.getElem?_map] at h
    cases hy : ps[i]? with
    | none => rw [hy] at h; cases h
    | some y =>
      rw [hy] at h
      have h := Option.some.inj h
      exact ⟨y.1, y.2.1, by rw [← (Prod.mk.inj h).2], (Prod.mk.inj h).1.symm⟩
  have hstay : PySem.KeysStay (PySem.tupleKind (PySem.intKind X.prog X.w)) s.heap s.heap.objs.size [] ps := fun h' hk x hx => by
    obtain ⟨j, hj⟩ := List.getElem?_of_mem hx
    obtain ⟨r, _, _, _, _, ⟨o2, it2, n2, g2, rest⟩, _⟩ := k3 j x hj
    exact ⟨o2, it2, n2, hk _ _ (Nat.ne_of_lt (Heap.lt_size g2)) (by simp) g2, rest⟩
  refine PySem.call_dict_pairsH (knd := PySem.tupleKind (PySem.intKind X.prog X.w)) (ps := ps) P (I.ok.hd hcalm) (by show X.A.in1.in1.units < cLine; have : X.A.in1.in1.units = X.A.units + 2 := rfl; omega) ok hhave hstay (by rw [lp]; rw [List.length_map] at hz; exact hz) fun h' tk hd' hk => ?_
  have hm : (s.heap.objs.size == sysModules) = false := beq_eq_false_iff_ne.mpr (Nat.ne_of_gt I.big)
  have hk2 : ∀ b o, s.heap.get? b = some o → h'.get? b = some o := fun b o e => hk b o (by simp) e
  obtain ⟨o3, es, ep, g3, c3, d3, e3, _, _⟩ := hd'
  have hsz : es.size = (ddT [] (L.map (·.ks))).length := by
    rw [← Array.length_toList, e3, List.length_map]
    have := congrArg List.length (storedAll_keys ps [])
    rw [List.length_map, k1] at this
    exact this
  refine ⟨.ref s.heap.objs.size, upd H s.heap.objs.size (szO (ddT [] (L.map (·.ks))).length s.heap.objs.size), I.laid (t' := tk) hk2 (Nat.le_refl _) ?_, rfl, q _ (I.hok.fresh (Nat.le_refl _))⟩
  exact ⟨⟨hm, o3, es, ep, g3, c3, d3, hsz⟩, ⟨o3, g3⟩, fun h1 h2 ⟨z1, o4, es4, ep4, g4, r4⟩ st => ⟨z1, o4, es4, ep4, st _ g4, r4⟩⟩
/-! its len -/
section
variable {prog : Program} {w : World} {A : Around} {E : Value → Shared → Prop} {s : Shared}
theorem meets_len_raw (d : Addr) (hd : (d == sysModules) = false) (n : Nat) :
    PySem.MeetsIn prog w (Builtin.«dict.__len__» ⟨[.ref d], []⟩) (fun _ R s => (∃ o es ep, s.heap.get? d = some o ∧ o.ExactDict ∧ o.data = .dict es ep ∧ es.size = n) ∧ R (.ok (.ret (.int n s.toks))) { s with toks := s.toks + 1 }) :=
  .of_wp fun A R s ⟨⟨o, es, ep, ho, hc, hdat, hn⟩, h⟩ => by
    show wpAny _ _ (dictSize d >>= _) _ _ s
    unfold dictSize
    refine wpAny_bind (wpAny_bind (wpAny_dictEntries ho hdat (wpAny_pure ?_)))
    show wpAny _ _ (Builtin.Dict.pendingCount d >>= _) _ _ s
    refine wpAny_bind (wpAny_pendingCount_other hd ?_)
    refine wpAny_ret_mkInt ?_
    rw [Nat.add_zero, hn]; exact h
theorem len_body_raw {d : Addr} {n : Nat} {Q : Value → Shared → Prop} (hd : (d == sysModules) = false) (hm : ∃ o es ep, s.heap.get? d = some o ∧ o.ExactDict ∧ o.data = .dict es ep ∧ es.size = n) (hfit : (n : Int) < 2 ^ 63)
    (h : Q (.int n (s.toks + 1)) { s with toks := s.toks + 1 + 1 }) : wpAny (model prog w) A (Builtin.«len» ⟨[.ref d], []⟩) (fun fin s' => ∃ r, fin = .done (.ret r) ∧ Q r s') E s := by
  have hT : s.TypeIs (.ref d) "dict" := by
    obtain ⟨o, es, ep, g, c, _⟩ := hm
    exact ⟨o, g, c.1⟩
  unfold Builtin.«len»
  refine wpAny_bind (m := oneArg "len" _) (wpAny_pure ?_)
  refine wpAny_bind (m := callSpecial? (.ref d) (Str.ofString "__len__")) (wpAny_callSpecial?_slot (name := Str.ofString "__len__") hT PySem.F.slot_dict_len
    (PySem.call_meetsIn PySem.F.slot_dict_len hT PySem.F.entry_dict_len (PySem.F.args_dict_len_1 _) (meets_len_raw d hd n) ⟨hm, ?_⟩))
  show wpAny _ _ _ _ _ { s with toks := s.toks + 1 }
  refine wpAny_bind (wpAny_holding (wpAny_pure ?_))
  refine wpAny_bind (wpAny_letGo ?_)
  show wpAny _ _ (if ((n : Nat) : Int) < 0 then _ else _) _ _ _
  rw [if_neg (by omega)]
  show wpAny _ _ (if ((n : Nat) : Int) ≥ 2 ^ 63 then _ else _) _ _ _
  rw [if_neg (by omega)]
  exact wpAny_bind (wpAny_mkInt (wpAny_pure ⟨_, rfl, h⟩))
end
def rLenO : List V → Hp → VK → Prop := fun xs H Q => ∃ (p : Addr) (n : Nat), xs = [.ref p] ∧ H p = some (szO n p) ∧ n < 2 ^ 62 ∧ Q (.int (n : Nat)) H
theorem call_lenO {X : Cx} : CallR X (.builtin "len") rLenO := by
  intro pins s σ H xs us Q I r h
  obtain ⟨p, n, rfl, hp, hn, q⟩ := h
  obtain ⟨u, rfl, rx⟩ := vals1 r
  obtain rfl : u = .ref p := rx
  obtain ⟨⟨hm, hsz⟩, _, _⟩ := (show ObjOk X.prog X.w H s.heap p (szO n p) from I.hok p _ hp)
  exact PySem.Calls.call_function_entry kind_len plain_len entry_len (args_len1 _) (len_body_raw hm hsz (by omega) ⟨.int ((n : Nat) : Int), H, I.tok _, ⟨_, rfl⟩, q⟩)
theorem prs_dr {K : Frag} {F H : Hp} (l : Le F H) : ∀ {vs : List V} {prs : List (List Int × D)}, DRs K F vs (prs.map fun y => PyData.tuple [.tuple (y.1.map .int), y.2]) →
    ∃ L : List Pr, vs = L.map (fun r => V.ref r.t) ∧ L.map (·.ks) = prs.map (·.1) ∧ ∀ r ∈ L, SqT K H r.t [.ref r.q, r.x] ∧ SqT K H r.q (r.ks.map V.int)
  | _, [], h => by
    cases h
    exact ⟨[], rfl, rfl, fun r hr => nomatch hr⟩
  | _, y :: prs, h => by
    rw [List.map_cons] at h
    cases h with
    | cons hv ht =>
      obtain ⟨L, e1, e2, e3⟩ := prs_dr l ht
      cases hv with
      | tup h1 z1 r1 =>
        cases r1 with
        | cons ra rb =>
          cases rb with
          | cons rb rc =>
            cases rc
            cases ra with
            | tup h2 z2 r2 =>
              have ei := r2.ints
              subst ei
              exact ⟨⟨_, _, y.1, _⟩ :: L, by rw [List.map_cons, ← e1], by rw [List.map_cons, List.map_cons, e2], fun r hr => by
                rcases List.mem_cons.mp hr with q | q
                · rw [q]
                  exact ⟨le_t l h1, le_t l h2⟩
                · exact e3 r q⟩
section
variable {X : Cx} {env env1 : Ev} {e : Expr} {p p2 pos pos2 : Pos} {R : Rs} {prs : List (List Int × D)}
/-- len(dict(xs)), xs pairs of a tuple of ints and something -/
theorem ev_lenDT (B : Blt X.mg) (hcalm : X.calm = true) (hu : X.A.units + 2 < cLine) (h : EV X e env R env1) (w : Pd.fz R = .val (.list (prs.map fun y => PyData.tuple [.tuple (y.1.map .int), y.2]))) (hsz : (ddT [] (prs.map (·.1))).length < 2 ^ 62)
    (hg : Gl X "len" := by rfl) (hg2 : Gl X "dict" := by rfl) (he : starEach (e :: []) X.env = (false, eval e X.env) :: starEach [] X.env := by rfl) (hpl : (backTo pos2 (starEach [] X.env)).any (·.1) = false := by rfl)
    (he2 : starEach [.Call (.Name "dict" p2) [e] [] pos2] X.env = (false, eval (.Call (.Name "dict" p2) [e] [] pos2) X.env) :: starEach [] X.env := by rfl) (hpl2 : (backTo pos (starEach [] X.env)).any (·.1) = false := by rfl) :
    EV X (.Call (.Name "len" p) [.Call (.Name "dict" p2) [e] [] pos2] [] pos) env (.val (.int (ddT [] (prs.map (·.1))).length)) env1 :=
  PE.wk (pe_callB call_lenO hg B.len_ bt_len (pa_cons (pe_callTy (call_dictT hcalm hu) hg2 B.dict_ bt_dict (pa_cons h pa_nil he) (by decide) (by decide) he hpl) pa_nil he2) (by decide) (by decide) he2 hpl2) fun σ H Q ⟨G, F, S, q⟩ => ⟨G, F, S, fun F1 v H1 x1 r1 => by
    obtain ⟨F2, x2, r2⟩ := r1.fz
    rw [w] at r2
    obtain ⟨r, S2⟩ := r2
    cases r with
    | lst a b c =>
      obtain ⟨L, e1, e2, e3⟩ := prs_dr S2.kf c
      subst e1
      refine ⟨_, L, rfl, .of (S2.kf _ _ a), e3, fun p hp => ?_⟩
      rw [e2]
      obtain ⟨x3, S3⟩ := S2.new (o := szO (ddT [] (prs.map (·.1))).length p) hp
      exact ⟨p, _, rfl, upd_same, hsz, q _ _ _ ((x1.trans x2).trans x3) ⟨.int _, S3⟩⟩⟩
end
end Pd
set_option Elab.async false
set_option linter.all false
set_option maxRecDepth 100000
set_option maxHeartbeats 4000000
/-! min(a, b); xs.extend(a tuple); enumerate of a list -/
namespace Pd
open PySem PySem.Spec PyProof.Rows L2
theorem extend_tupW (l : Addr) (items : Array Value) (n : Nat) (b : Addr) (items2 : Array Value) (n2 : Nat) (dd : Option Addr) (sl : Array (Option Value)) (hs0 : ¬(!items.isEmpty && Builtin.List.listTooLong (items.size + items2.size)) = true) (hs1 : items.size ≤ sizeLine) (hs2 : items.size + items2.size ≤ sizeLine + 1) :
    Meets (Builtin.«list.extend» ⟨[.ref l, .ref b], []⟩) (fun _ R s => s.heap.get? l = some { cls := .type "list", dict := none, data := .seq items n, slots := #[] } ∧ s.heap.get? b = some { cls := .type "tuple", dict := dd, data := .seq items2 n2, slots := sl } ∧ R (.ok (.ret Value.none)) { s with heap := s.heap.update l (Obj.mapSeq fun x => x ++ items2), toks := s.toks }) :=
  .of_wp fun prog w A R s h => by
    obtain ⟨hp, g, d, tk, os⟩ := s; obtain ⟨hl, hb, h⟩ := h; have f1 := AutoSeq1.idx_int; have f2 := AutoSeq1.sub_tuple_tuple; have f3 := AutoSeq1.sub_list_list; have f4 := AutoSeq1.sub_tuple_list; have f5 := AutoSeq1.sub_list_tuple;
    have hz' : (items ++ items2).size ≤ sizeLine + 1 := by rw [Array.size_append]; exact hs2
    wp_walk using (wpAny_updateSeq hl rfl (hz := hs1) (_hz' := hz')), AutoSeq1.wpAny_loadPart' hl, AutoSeq1.wpAny_loadPart' hb; exact ⟨_, rfl, h⟩
def rExtendT (K : PySem.W.Frag) : V → List V → Hp → VK → Prop := fun x vs H Q => ∃ l b xs zs, x = .ref l ∧ vs = [.ref b] ∧ H l = some (.lst xs) ∧ SqT K H b zs ∧ xs.length + zs.length ≤ sizeLine ∧ Q .non (upd H l (.lst (xs ++ zs)))
theorem mt_extendT {X : Cx} : MtR X "list.extend" (rExtendT X.K) := by
  intro pins s σ H x vs v us Q I rx rv h
  obtain ⟨l, b, xs, zs, rfl, rfl, hH, hB, hz, q⟩ := h
  cases rx
  obtain ⟨u, rfl, ru⟩ := rv.one
  cases ru
  obtain ⟨z, its, n, r, hl, e⟩ := I.lstM hH
  obtain ⟨its2, r2, ⟨⟨cls, dd, data, sl⟩, ho, hc, n2, hd⟩, hz2⟩ := I.tuple hB
  simp only at hc hd
  subst hc hd
  have hl2 := r2.length
  have hsz : its.toArray.size + its2.toArray.size ≤ sizeLine := by rw [List.size_toArray, List.size_toArray]; omega
  have hlong : ¬ (!its.toArray.isEmpty && Builtin.List.listTooLong (its.toArray.size + its2.toArray.size)) = true := by
    rw [notLongL hsz, Bool.and_false]
    exact Bool.false_ne_true
  refine call_meets PySem.F.slot_list_extend ⟨_, e, rfl⟩ PySem.F.entry_list_extend (PySem.F.args_list_extend_2 _ _)
    (extend_tupW l its.toArray n b its2.toArray n2 dd sl hlong (by rw [List.size_toArray]; omega) (by omega)) ⟨e, ho, ?_⟩
  refine ⟨.non, _, I.lset (its' := its ++ its2) hH e (by simp) (r.append r2) ?_, rfl, q⟩
  rw [List.length_append]
  omega
section
variable {X : Cx} {env env1 env2 : Ev} {a b o e : Expr} {R Ra Rb : Rs} {pos p apos cpos tpos : Pos} {i : Nat} {x y : Int} {ds xs : List D} {elts : List Expr} {kk : Nat}
theorem ev_extendT {pin pin0 : Option Addr} {ds0 : List D} (ho : EV X o env (.ptr i) env) (g0 : ge env i = .lst pin0 ds0) (h : EV X e env R env1) (hf : Pd.fz R = .val (.tuple xs)) (g : ge env1 i = .lst pin ds) (hz : ds.length + xs.length < 16000000) (hbase : attributeBase o "extend" X.env (eval o X.env) = eval o X.env := by rfl)
    (hfew : ((backTo cpos (starEach (e :: []) X.env)).all (fun x => !x.1) && (backToKw cpos (keywordEach [] X.env)).all (fun x => x.1.isSome) && decide ((e :: []).length + ([] : List Keyword).length + (if ([] : List Keyword).isEmpty then 0 else 1) < 30)) = true := by rfl)
    (hline : (apos.endLine == cpos.line) = true := by rfl) (hs : starEach (e :: []) X.env = (false, eval e X.env) :: starEach [] X.env := by rfl) (hplain : (backTo cpos (starEach [] X.env)).any (·.1) = false := by rfl) :
    EV X (.Call (.Attribute o "extend" apos) [e] [] cpos) env (.val .none) (env1.set i (.lst pin (ds ++ xs))) :=
  PE.wk (pe_bm PySem.F.plainAttrs_list PySem.F.slot_list_extend PySem.F.type_list_extend mt_extendT ho (pa_cons h pa_nil hs) hbase hfew hline hs hplain) fun σ H Q ⟨G, F, S, q⟩ => ⟨G, F, S, fun F1 v H1 x1 r1 => by
    obtain ⟨e1, S1⟩ := r1
    refine ⟨ptr_ty S1 g0 e1, G, F1, S1, fun F2 u H2 x2 r2 => ?_⟩
    obtain ⟨F3, x3, r3⟩ := r2.fz
    rw [hf] at r3
    obtain ⟨r3, S3⟩ := r3
    obtain ⟨p, vs, e2, _, hp, z, r, f, g'⟩ := S3.lstS g
    rw [e1] at e2
    cases e2
    cases r3 with
    | tup a b c =>
      have hle : vs.length + xs.length ≤ sizeLine := by rw [r.length, sizeLine_eq]; omega
      have hle' := hle
      rw [← c.length] at hle'
      exact ⟨p, _, vs, _, rfl, rfl, hp, le_t S3.kf a, hle', q F3 _ _ (x1.trans (x2.trans x3)) ⟨.non, S3.write g e1 (by rw [List.length_append]; exact hle') (r.append c)⟩⟩⟩
/-- min of two ints -/
theorem ev_min2 (B : Blt X.mg) (hc : X.calm = true) (h : EV X a env (.val (.int x)) env1) (h2 : EV X b env1 (.val (.int y)) env2) (hg : Gl X "min" := by rfl) (hs : starEach [a, b] X.env = (false, eval a X.env) :: starEach [b] X.env := by rfl) (hs2 : starEach (b :: []) X.env = (false, eval b X.env) :: starEach [] X.env := by rfl) (hpl : (backTo pos (starEach [b] X.env)).any (·.1) = false := by rfl) :
    EV X (.Call (.Name "min" p) [a, b] [] pos) env (.val (.int (if y < x then y else x))) env2 :=
  PE.wk (pe_callB (call_min2 hc) hg B.min_ bt_min (ea_cons h (ea_cons h2 ea_nil rfl hs2) rfl hs) (by decide) (by decide) hs hpl) fun σ H Q ⟨G, F, S, q⟩ => ⟨G, F, S, fun F1 vs H1 x1 r1 S1 => by
    obtain ⟨u, v, e, r2, r3⟩ := ars2v r1
    have e2 := r2.int_iff
    have e3 := r3.int_iff
    subst e e2 e3
    exact ⟨x, y, rfl, q F1 _ H1 x1 ⟨.int _, S1⟩⟩⟩
theorem itOk_enumL {K : Frag} {F : Hp} {a : Addr} {vs : List V} {ds : List D} (h : F a = some (.lst vs)) (r : DRs K F vs ds) : ItOk K F (Ite K a) (enumD ds) := fun i H l => by
  have hT : SqL K H a vs := .of (l _ _ h)
  have rl := r.length
  refine ⟨fun d ed => ?_, fun z => ⟨vs, hT, ?_⟩⟩
  · unfold enumD at ed
    rw [List.getElem?_map] at ed
    by_cases hi : i < ds.length
    · rw [List.getElem?_range hi] at ed
      have ed := Option.some.inj ed
      obtain ⟨v, hv, rv⟩ := r.get (List.getElem?_eq_getElem hi)
      refine ⟨⟨vs, v, hT, hv⟩, fun x H' y => ?_⟩
      obtain ⟨T, x0, e1, hn, e2, hx⟩ := y
      have hx0 := hx vs hT
      rw [hv] at hx0
      have e3 := Option.some.inj hx0
      subst e3
      refine .inr ⟨T, _, _, hn, e2, e1, ed.symm, by show 2 ≤ sizeLine; decide, .cons (.int _) (.cons ?_ .nil)⟩
      rw [List.getD_eq_getElem?_getD, List.getElem?_eq_getElem hi]
      exact rv
    · rw [List.getElem?_eq_none (by rw [List.length_range]; omega)] at ed
      cases ed
  · unfold enumD at z
    rw [List.length_map, List.length_range] at z
    omega
theorem ei_enumL (hm : X.mg "enumerate" = none) (h : EV X e env R env1) (w : Pd.fz R = .val (.list ds)) (hg : Gl X "enumerate" := by rfl) (hs : starEach [e] X.env = [(false, eval e X.env)] := by rfl) :
    EI X (.Tuple elts kk tpos) (.Call (.Name "enumerate" p) [e] [] pos) env (enumD ds) env1 :=
  PI.wk (pi_enum hg hm (pa_cons h pa_nil hs) hs) fun σ H Q ⟨G, F, S, q⟩ => ⟨G, F, S, fun F1 v H1 x1 r1 => by
    obtain ⟨F2, x2, r2⟩ := r1.fz
    rw [w] at r2
    obtain ⟨r, S2⟩ := r2
    cases r with
    | lst a b c => exact ⟨_, _, rfl, .of (S2.kf _ _ a), q F2 _ H1 (x1.trans x2) (itOk_enumL a c) S2⟩⟩
end
end Pd
set_option Elab.async false
set_option linter.all false
set_option maxRecDepth 100000
set_option maxHeartbeats 4000000
/-! rules whose results are lists of the form xs.map g -/
namespace Pd
open PySem PySem.Spec PyProof.Rows L2
section
variable {α β : Type}
theorem mm (xs : List α) (h : α → β) (g : β → D) : (xs.map fun a => g (h a)) = (xs.map h).map g := (List.map_map ..).symm
def lstI (l : List Int) : D := .list (l.map .int)
def prG (g : α → D) (h : β → D) (p : α × β) : D := .tuple [g p.1, h p.2]
def lisG (g : α → D) (l : List α) : D := .list (l.map g)
def tupG (g : α → D) (l : List α) : D := .tuple (l.map g)
def idD (d : D) : D := d
/-- data that == tells apart as they stand -/
structure GE [DecidableEq α] (g : α → D) (k : Nat) : Prop where
  eqv : ∀ a b, PyData.eqv (g a) (g b) = decide (a = b)
  lay : ∀ a, PyData.canLay0 (g a) = true
  dp : ∀ a, PyData.depth (g a) ≤ k
variable [DecidableEq α] [DecidableEq β] {g : α → D} {h : β → D} {k j : Nat}
theorem GE.sh (G : GE g k) (hk : k ≤ 64) (a : α) : SeqAt.shaped (g a) = true := by
  unfold SeqAt.shaped
  rw [G.lay a, decide_eq_true (Nat.le_trans (G.dp a) hk)]
  rfl
theorem ge_int : GE PyData.int 0 := ⟨fun a b => by
  have e : PyData.eqv (.int a) (.int b) = (a == b) := by rfl
  rw [e, Bool.eq_iff_iff, beq_iff_eq, decide_eq_true_iff], fun _ => rfl, fun _ => by rw [PyData.depth]; exact Nat.le_refl _⟩
theorem ge_bool : GE PyData.bool 0 := ⟨fun a b => by
  have e : PyData.eqv (.bool a) (.bool b) = (a == b) := by cases a <;> cases b <;> rfl
  rw [e, Bool.eq_iff_iff, beq_iff_eq, decide_eq_true_iff], fun _ => rfl, fun _ => by rw [PyData.depth]; exact Nat.le_refl _⟩
theorem GE.all (G : GE g k) : ∀ a b : List α, PyData.eqvAll (a.map g) (b.map g) = decide (a = b)
  | [], [] => by rfl
  | [], _ :: _ => by rfl
  | _ :: _, [] => by rfl
  | x :: a, y :: b => by
    rw [List.map_cons, List.map_cons, PySem.W.eqv_all_cons, G.all a b, G.eqv, Bool.eq_iff_iff, Bool.and_eq_true, decide_eq_true_iff, decide_eq_true_iff, decide_eq_true_iff, List.cons.injEq]
theorem depthAll_le {l : List D} {k : Nat} (h : ∀ x ∈ l, PyData.depth x ≤ k) : PyData.depthAll l ≤ k := by
  induction l with
  | nil => rw [PyData.depthAll]; exact Nat.zero_le _
  | cons x r ih =>
    rw [PyData.depthAll]
    exact Nat.max_le.mpr ⟨h x List.mem_cons_self, ih fun y hy => h y (List.mem_cons_of_mem _ hy)⟩
theorem GE.canAll (G : GE g k) (l : List α) : PyData.canLayAll0 (l.map g) = true := all_lay fun x hx => by
  obtain ⟨a, _, rfl⟩ := List.mem_map.mp hx
  exact G.lay a
theorem GE.dpAll (G : GE g k) (l : List α) : PyData.depthAll (l.map g) ≤ k := depthAll_le fun x hx => by
  obtain ⟨a, _, rfl⟩ := List.mem_map.mp hx
  exact G.dp a
theorem GE.tup (G : GE g k) : GE (tupG g) (k + 1) := ⟨fun a b => by rw [← G.all]; rfl, fun a => by unfold tupG PyData.canLay0; exact G.canAll a, fun a => by
  have := G.dpAll a
  unfold tupG
  rw [PyData.depth]
  omega⟩
theorem GE.lst (G : GE g k) : GE (lisG g) (k + 1) := ⟨fun a b => by rw [← G.all]; rfl, fun a => by unfold lisG PyData.canLay0; exact G.canAll a, fun a => by
  have := G.dpAll a
  unfold lisG
  rw [PyData.depth]
  omega⟩
theorem ge_tupI : GE tupI 1 := ge_int.tup
theorem ge_lstI : GE lstI 1 := ge_int.lst
theorem GE.pr (G : GE g k) (H : GE h j) : GE (prG g h) (max k j + 1) := by
  refine ⟨fun a b => ?_, fun a => ?_, fun a => ?_⟩
  · have e : PyData.eqv (prG g h a) (prG g h b) = PyData.eqvAll [g a.1, h a.2] [g b.1, h b.2] := by rfl
    rw [e, PySem.W.eqv_all_cons, PySem.W.eqv_all_cons, G.eqv, H.eqv, Bool.eq_iff_iff, Bool.and_eq_true, Bool.and_eq_true, decide_eq_true_iff, decide_eq_true_iff, decide_eq_true_iff]
    constructor
    · rintro ⟨a1, a2, _⟩
      exact Prod.ext a1 a2
    · intro z
      exact ⟨congrArg _ z, congrArg _ z, rfl⟩
  · unfold prG PyData.canLay0
    exact all_lay fun x hx => by
      simp only [List.mem_cons, List.not_mem_nil, or_false] at hx
      rcases hx with e | e <;> subst e
      · exact G.lay _
      · exact H.lay _
  · have h1 := G.dp a.1
    have h2 := H.dp a.2
    have := depthAll_le (l := [g a.1, h a.2]) (k := max k j) fun x hx => by
      simp only [List.mem_cons, List.not_mem_nil, or_false] at hx
      rcases hx with e | e <;> subst e <;> omega
    unfold prG
    rw [PyData.depth]
    omega
theorem GE.in (G : GE g k) (xs : List α) (a : α) : ((xs.map g).any fun z => PyData.eqv z (g a)) = decide (a ∈ xs) := by
  rw [List.any_map, Bool.eq_iff_iff, List.any_eq_true, decide_eq_true_iff]
  constructor
  · rintro ⟨x, hx, e⟩
    have e : PyData.eqv (g x) (g a) = true := e
    rw [G.eqv, decide_eq_true_iff] at e
    exact e ▸ hx
  · intro hx
    exact ⟨a, hx, by show PyData.eqv (g a) (g a) = true; rw [G.eqv, decide_eq_true_iff]⟩
end
section
variable {X : Cx} {env env1 env2 env3 : Ev} {a b e c : Expr} {R Ra Rb : Rs} {pos p : Pos} {α β : Type}
theorem cv_lc1 {tg iter elt c : Expr} {scope : Scope} {xs : List α} {g : α → D} {q : α → Bool} {R : α → Rs} {h : α → β} {g2 : β → D} (own : List (Str × Nat)) (t : Tgt) (hc : X.calm = true) (hN : X.N.Nodup) (hi : EI X tg iter env (xs.map g) env1) (ok : BlkOk X.N X.env.scope scope own)
    (hg : ∀ sh H C cl fp, PG (blkC' X scope sh H C cl fp) tg (t.g X.K)) (hz : xs.length ≤ sizeLine)
    (ht : ∀ a ∈ xs, ∀ sh H C cl fp, ET (blkC' X scope sh H C cl fp) c (t.bind (wipeE (own.map (·.2)) 0 env1) (g a)) (q a) (t.bind (wipeE (own.map (·.2)) 0 env1) (g a)))
    (he : ∀ a ∈ xs, q a = true → ∀ sh H C cl fp, EV (blkC' X scope sh H C cl fp) elt (t.bind (wipeE (own.map (·.2)) 0 env1) (g a)) (R a) (t.bind (wipeE (own.map (·.2)) 0 env1) (g a))) (hf : ∀ a, Pd.fz (R a) = .val (g2 (h a))) (hok : ∀ a, t.okB env1.length (g a) = true) (hts : (t.slots.all fun i => (own.map (·.2)).elem i) = true := by rfl) (hno : ((own.map (·.2)).all fun i => !(ge env1 i).own) = true := by rfl)
    (hs : ∀ x, foldedSetIterable iter X.env x = pure x := by intro _; rfl) : EV X (.ListComp elt [⟨tg, iter, [c], 0⟩] scope pos) env (.new (.lst none (((xs.filter q).map h).map g2))) env1 := by
  have r := ev_lc1 (pos := pos) (f := fun a => g2 (h a)) own t hc hN hi ok hg hz ht he hf hok hts hno hs
  rwa [mm] at r
theorem cv_lc0 {tg iter elt : Expr} {scope : Scope} {xs : List α} {g : α → D} {R : α → Rs} {h : α → β} {g2 : β → D} (own : List (Str × Nat)) (t : Tgt) (hc : X.calm = true) (hN : X.N.Nodup) (hi : EI X tg iter env (xs.map g) env1) (ok : BlkOk X.N X.env.scope scope own)
    (hg : ∀ sh H C cl fp, PG (blkC' X scope sh H C cl fp) tg (t.g X.K)) (hz : xs.length ≤ sizeLine)
    (he : ∀ a ∈ xs, ∀ sh H C cl fp, EV (blkC' X scope sh H C cl fp) elt (t.bind (wipeE (own.map (·.2)) 0 env1) (g a)) (R a) (t.bind (wipeE (own.map (·.2)) 0 env1) (g a))) (hf : ∀ a, Pd.fz (R a) = .val (g2 (h a))) (hok : ∀ a, t.okB env1.length (g a) = true) (hts : (t.slots.all fun i => (own.map (·.2)).elem i) = true := by rfl) (hno : ((own.map (·.2)).all fun i => !(ge env1 i).own) = true := by rfl)
    (hs : ∀ x, foldedSetIterable iter X.env x = pure x := by intro _; rfl) : EV X (.ListComp elt [⟨tg, iter, [], 0⟩] scope pos) env (.new (.lst none ((xs.map h).map g2))) env1 := by
  have r := ev_lc0 (pos := pos) (f := fun a => g2 (h a)) own t hc hN hi ok hg hz he hf hok hts hno hs
  rwa [mm] at r
/-- the value of an index -/
theorem atI_get {xs : List α} {g : α → D} {i : Int} (d0 : α) (h : 0 ≤ i ∧ i < xs.length) : atI (xs.map g) i = some (g (xs.getD i.toNat d0)) := by
  unfold atI
  rw [ixN_pos h.1 (by rw [List.length_map]; omega)]
  show (xs.map g)[i.toNat]? = _
  have hl : i.toNat < xs.length := by omega
  rw [List.getElem?_map, List.getD_eq_getElem?_getD, List.getElem?_eq_getElem hl]
  rfl
theorem lenR_map {xs : List α} {g : α → D} : ((xs.map g).length : Int) = xs.length := by rw [List.length_map]
theorem cv_len {xs : List α} {g : α → D} {x : D} (B : Blt X.mg) (h : EV X e env R env1) (w : vw (Pd.fz R) env1 = some x) (q : seqD x = some (xs.map g)) (hg : Gl X "len" := by rfl) (he : starEach (e :: []) X.env = (false, eval e X.env) :: starEach [] X.env := by rfl) (hpl : (backTo pos (starEach [] X.env)).any (·.1) = false := by rfl) :
    EV X (.Call (.Name "len" p) [e] [] pos) env (.val (.int xs.length)) env1 := by
  rcases seqD_or q with z | z <;> subst z
  · have r := ev_len (pos := pos) (p := p) B h w trivial hg he hpl
    have e2 : lenR (.list (xs.map g)) = .int xs.length := by
      show PyData.int ((xs.map g).length : Nat) = _
      rw [List.length_map]
    rwa [e2] at r
  · have r := ev_len (pos := pos) (p := p) B h w trivial hg he hpl
    have e2 : lenR (.tuple (xs.map g)) = .int xs.length := by
      show PyData.int ((xs.map g).length : Nat) = _
      rw [List.length_map]
    rwa [e2] at r
theorem cv_sliceT {l u : Option Expr} {lo hi : Option Int} {p2 : Pos} {xs : List α} {g : α → D} (h : EV X a env Ra env1) (hl : EO X l env1 lo env2) (hu : EO X u env2 hi env3) (w : vw (Pd.fz Ra) env3 = some (.tuple (xs.map g))) (fl : (Pd.fz Ra).flat = true := by rfl) : EV X (.Subscript a (.Slice l u none p2) pos) env (.val (.tuple ((cut xs lo hi).map g))) env3 := by
  have r := ev_slice (pos := pos) (p2 := p2) h hl hu w trivial fl
  have e2 : cutR (.tuple (xs.map g)) lo hi = .val (.tuple ((cut xs lo hi).map g)) := by
    show Rs.val (.tuple (cut (xs.map g) lo hi)) = _
    rw [cut_map]
  rwa [e2] at r
theorem cv_sliceL {l u : Option Expr} {lo hi : Option Int} {p2 : Pos} {xs : List α} {g : α → D} (h : EV X a env Ra env1) (hl : EO X l env1 lo env2) (hu : EO X u env2 hi env3) (w : vw (Pd.fz Ra) env3 = some (.list (xs.map g))) (fl : (Pd.fz Ra).flat = true := by rfl) : EV X (.Subscript a (.Slice l u none p2) pos) env (.new (.lst none ((cut xs lo hi).map g))) env3 := by
  have r := ev_slice (pos := pos) (p2 := p2) h hl hu w trivial fl
  have e2 : cutR (.list (xs.map g)) lo hi = .new (.lst none ((cut xs lo hi).map g)) := by
    show Rs.new (.lst none (cut (xs.map g) lo hi)) = _
    rw [cut_map]
  rwa [e2] at r
theorem cv_addT {xs ys : List α} {g : α → D} (h : EV X a env Ra env1) (h2 : EV X b env1 Rb env2) (wx : vw (Pd.fz Ra) env2 = some (.tuple (xs.map g))) (wy : vw (Pd.fz Rb) env2 = some (.tuple (ys.map g))) (ok : xs.length + ys.length ≤ sizeLine) (fl : (Pd.fz Ra).flat = true := by rfl) : EV X (.BinOp a .Add b pos) env (.val (.tuple ((xs ++ ys).map g))) env2 := by
  have r := ev_add (pos := pos) h h2 wx wy (by show _ + _ ≤ sizeLine; rw [List.length_map, List.length_map]; exact ok) fl
  have e2 : addR (.tuple (xs.map g)) (.tuple (ys.map g)) = .val (.tuple ((xs ++ ys).map g)) := by
    show Rs.val (.tuple (xs.map g ++ ys.map g)) = _
    rw [List.map_append]
  rwa [e2] at r
theorem cv_addL {xs ys : List α} {g : α → D} (h : EV X a env Ra env1) (h2 : EV X b env1 Rb env2) (wx : vw (Pd.fz Ra) env2 = some (.list (xs.map g))) (wy : vw (Pd.fz Rb) env2 = some (.list (ys.map g))) (ok : xs.length + ys.length ≤ sizeLine) (fl : (Pd.fz Ra).flat = true := by rfl) : EV X (.BinOp a .Add b pos) env (.new (.lst none ((xs ++ ys).map g))) env2 := by
  have r := ev_add (pos := pos) h h2 wx wy (by show _ + _ ≤ sizeLine; rw [List.length_map, List.length_map]; exact ok) fl
  have e2 : addR (.list (xs.map g)) (.list (ys.map g)) = .new (.lst none ((xs ++ ys).map g)) := by
    show Rs.new (.lst none (xs.map g ++ ys.map g)) = _
    rw [List.map_append]
  rwa [e2] at r
theorem flat_one {α : Type} (x : α) : ∀ k : Nat, (List.replicate k [x]).flatten = List.replicate k x
  | 0 => rfl
  | k + 1 => by rw [List.replicate_succ, List.flatten_cons, flat_one x k]; rfl
theorem cv_rep {x : α} {g : α → D} {j : Int} (h : EV X a env Ra env1) (h2 : EV X b env1 Rb env2) (wx : vw (Pd.fz Ra) env2 = some (.list [g x])) (wy : vw (Pd.fz Rb) env2 = some (.int j)) (h0 : j ≤ 16000000) (h1 : -16000000 ≤ j) (fl : (Pd.fz Ra).flat = true := by rfl) : EV X (.BinOp a .Mult b pos) env (.new (.lst none ((List.replicate j.toNat x).map g))) env2 := by
  have r := ev_rep (pos := pos) h h2 wx wy (by omega) (by show 1 * j.toNat ≤ sizeLine; rw [sizeLine_eq]; omega) fl
  rwa [flat_one, ← List.map_replicate] at r
theorem zip_mapG {xs : List α} {ys : List β} {g : α → D} {h : β → D} : zipD (xs.map g) (ys.map h) = (xs.zip ys).map (prG g h) := by
  unfold zipD
  rw [List.zip_map, List.map_map]
  rfl
theorem enum_mapG {xs : List α} {g : α → D} (d0 : α) : enumD (xs.map g) = (irange 0 xs.length).map fun i => PyData.tuple [.int i, g (xs.getD i.toNat d0)] := by
  unfold enumD
  refine List.ext_getElem (by rw [List.length_map, List.length_map, List.length_range, List.length_map, irange_len]; omega) fun i h1 h2 => ?_
  rw [List.length_map, List.length_range, List.length_map] at h1
  have hi : (irange 0 (xs.length : Int))[i]? = some (0 + (i : Int)) := irange_get (by omega)
  have hi2 : i < (irange 0 (xs.length : Int)).length := by rw [irange_len]; omega
  have hi3 : (irange 0 (xs.length : Int))[i] = (i : Int) := by
    rw [List.getElem?_eq_getElem hi2] at hi
    have := Option.some.inj hi
    omega
  simp only [List.getElem_map, List.getElem_range, hi3]
  rw [List.getD_eq_getElem?_getD, List.getElem?_map, List.getD_eq_getElem?_getD, show ((i : Int)).toNat = i by omega, List.getElem?_eq_getElem h1]
  rfl
variable [DecidableEq α] {g : α → D} {k : Nat} {x y : α} {xs : List α}
theorem cv_eq (G : GE g k) (hk : Nat.ble k 64 = true) (hu : X.A.units + 64 < cLine) (h : EV X a env Ra env1) (h2 : EV X b env1 Rb env2) (wx : vw (Pd.fz Ra) env2 = some (g x)) (wy : vw (Pd.fz Rb) env2 = some (g y)) (fl : (Pd.fz Ra).flat = true := by rfl) : EV X (.Compare a [.Eq] [b] pos) env (.val (.bool (decide (x = y)))) env2 := by
  have r := ev_eq (pos := pos) hu h h2 wx wy (G.sh (Nat.le_of_ble_eq_true hk) x) (G.sh (Nat.le_of_ble_eq_true hk) y) fl
  rwa [G.eqv] at r
theorem cv_ne (G : GE g k) (hk : Nat.ble k 64 = true) (hu : X.A.units + 64 < cLine) (h : EV X a env Ra env1) (h2 : EV X b env1 Rb env2) (wx : vw (Pd.fz Ra) env2 = some (g x)) (wy : vw (Pd.fz Rb) env2 = some (g y)) (fl : (Pd.fz Ra).flat = true := by rfl) : EV X (.Compare a [.NotEq] [b] pos) env (.val (.bool (!decide (x = y)))) env2 := by
  have r := ev_ne (pos := pos) hu h h2 wx wy (G.sh (Nat.le_of_ble_eq_true hk) x) (G.sh (Nat.le_of_ble_eq_true hk) y) fl
  rwa [G.eqv] at r
theorem ct_eq (G : GE g k) (hk : Nat.ble k 64 = true) (hu : X.A.units + 64 < cLine) (h : EV X a env Ra env1) (h2 : EV X b env1 Rb env2) (wx : vw (Pd.fz Ra) env2 = some (g x)) (wy : vw (Pd.fz Rb) env2 = some (g y)) (fl : (Pd.fz Ra).flat = true := by rfl) : ET X (.Compare a [.Eq] [b] pos) env (decide (x = y)) env2 := by
  have r := et_eq (pos := pos) hu h h2 wx wy (G.sh (Nat.le_of_ble_eq_true hk) x) (G.sh (Nat.le_of_ble_eq_true hk) y) fl
  rwa [G.eqv] at r
theorem ct_ne (G : GE g k) (hk : Nat.ble k 64 = true) (hu : X.A.units + 64 < cLine) (h : EV X a env Ra env1) (h2 : EV X b env1 Rb env2) (wx : vw (Pd.fz Ra) env2 = some (g x)) (wy : vw (Pd.fz Rb) env2 = some (g y)) (fl : (Pd.fz Ra).flat = true := by rfl) : ET X (.Compare a [.NotEq] [b] pos) env (!decide (x = y)) env2 := by
  have r := et_ne (pos := pos) hu h h2 wx wy (G.sh (Nat.le_of_ble_eq_true hk) x) (G.sh (Nat.le_of_ble_eq_true hk) y) fl
  rwa [G.eqv] at r
theorem cv_in (G : GE g k) (hk : Nat.ble k 63 = true) (hu : X.A.units + 65 < cLine) (h : EV X a env Ra env1) (h2 : EV X b env1 Rb env2) (wx : vw (Pd.fz Ra) env2 = some (g x)) (wy : vw (Pd.fz Rb) env2 = some (.list (xs.map g))) (hm : behindInMarks .In b = false := by rfl) (fl : (Pd.fz Ra).flat = true := by rfl) : EV X (.Compare a [.In] [b] pos) env (.val (.bool (decide (x ∈ xs)))) env2 := by
  have hk := Nat.le_of_ble_eq_true hk
  have r := ev_inD (pos := pos) hu h h2 wx wy (G.sh (by omega) x) (G.lst.sh (by omega) xs) hm fl
  rwa [G.in] at r
theorem ct_in (G : GE g k) (hk : Nat.ble k 63 = true) (hu : X.A.units + 65 < cLine) (h : EV X a env Ra env1) (h2 : EV X b env1 Rb env2) (wx : vw (Pd.fz Ra) env2 = some (g x)) (wy : vw (Pd.fz Rb) env2 = some (.list (xs.map g))) (hm : behindInMarks .In b = false := by rfl) (fl : (Pd.fz Ra).flat = true := by rfl) : ET X (.Compare a [.In] [b] pos) env (decide (x ∈ xs)) env2 := by
  have hk := Nat.le_of_ble_eq_true hk
  have r := et_inD (pos := pos) hu h h2 wx wy (G.sh (by omega) x) (G.lst.sh (by omega) xs) hm fl
  rwa [G.in] at r
end
section
variable {X : Cx} {ea : Str → Addr} {W : WX} {rest : List Stmt} {Post : Out → Prop} {env env1 : Ev} {y : Str} {py spos pos : Pos}
theorem cs_setLc1 {α β : Type} {tg iter elt c : Expr} {scope : Scope} {xs : List α} {g : α → D} {q : α → Bool} {R : α → Rs} {h : α → β} {g2 : β → D} (i : Nat) (own : List (Str × Nat)) (t : Tgt) (hc : X.calm = true) (hN : X.N.Nodup) (hi : EI X tg iter env (xs.map g) env1) (ok : BlkOk X.N X.env.scope scope own)
    (hg : ∀ sh H C cl fp, PG (blkC' X scope sh H C cl fp) tg (t.g X.K)) (hz : xs.length ≤ sizeLine)
    (ht : ∀ a ∈ xs, ∀ sh H C cl fp, ET (blkC' X scope sh H C cl fp) c (t.bind (wipeE (own.map (·.2)) 0 env1) (g a)) (q a) (t.bind (wipeE (own.map (·.2)) 0 env1) (g a)))
    (he : ∀ a ∈ xs, q a = true → ∀ sh H C cl fp, EV (blkC' X scope sh H C cl fp) elt (t.bind (wipeE (own.map (·.2)) 0 env1) (g a)) (R a) (t.bind (wipeE (own.map (·.2)) 0 env1) (g a))) (hf : ∀ a, Pd.fz (R a) = .val (g2 (h a))) (hok : ∀ a, t.okB env1.length (g a) = true)
    (k : ES X ea W rest (env1.set i (.lst none (((xs.filter q).map h).map g2))) Post) (hts : (t.slots.all fun i => (own.map (·.2)).elem i) = true := by rfl) (hno : ((own.map (·.2)).all fun i => !(ge env1 i).own) = true := by rfl) (hy : X.N[i]? = some y := by rfl) (hyl : X.env.scope.names.lookup y = some .local := by rfl) (hl : Nat.blt i env1.length = true := by rfl)
    (hsw : swapsWith (.ListComp elt [⟨tg, iter, [c], 0⟩] scope pos) (some (.Name y py)) spos.line X.env = pure true := by exact sw_true rfl rfl rfl (by decide +kernel)) (hs : ∀ x, foldedSetIterable iter X.env x = pure x := by intro _; rfl) :
    ES X ea W (.Assign [.Name y py] (.ListComp elt [⟨tg, iter, [c], 0⟩] scope pos) spos :: rest) env Post :=
  es_setLc1 (f := fun a => g2 (h a)) i own t hc hN hi ok hg hz ht he hf hok (by rw [mm]; exact k) hts hno hy hyl hl hsw hs
theorem cs_setLc0 {α β : Type} {tg iter elt : Expr} {scope : Scope} {xs : List α} {g : α → D} {R : α → Rs} {h : α → β} {g2 : β → D} (i : Nat) (own : List (Str × Nat)) (t : Tgt) (hc : X.calm = true) (hN : X.N.Nodup) (hi : EI X tg iter env (xs.map g) env1) (ok : BlkOk X.N X.env.scope scope own)
    (hg : ∀ sh H C cl fp, PG (blkC' X scope sh H C cl fp) tg (t.g X.K)) (hz : xs.length ≤ sizeLine)
    (he : ∀ a ∈ xs, ∀ sh H C cl fp, EV (blkC' X scope sh H C cl fp) elt (t.bind (wipeE (own.map (·.2)) 0 env1) (g a)) (R a) (t.bind (wipeE (own.map (·.2)) 0 env1) (g a))) (hf : ∀ a, Pd.fz (R a) = .val (g2 (h a))) (hok : ∀ a, t.okB env1.length (g a) = true)
    (k : ES X ea W rest (env1.set i (.lst none ((xs.map h).map g2))) Post) (hts : (t.slots.all fun i => (own.map (·.2)).elem i) = true := by rfl) (hno : ((own.map (·.2)).all fun i => !(ge env1 i).own) = true := by rfl) (hy : X.N[i]? = some y := by rfl) (hyl : X.env.scope.names.lookup y = some .local := by rfl) (hl : Nat.blt i env1.length = true := by rfl)
    (hsw : swapsWith (.ListComp elt [⟨tg, iter, [], 0⟩] scope pos) (some (.Name y py)) spos.line X.env = pure true := by exact sw_true rfl rfl rfl (by decide +kernel)) (hs : ∀ x, foldedSetIterable iter X.env x = pure x := by intro _; rfl) :
    ES X ea W (.Assign [.Name y py] (.ListComp elt [⟨tg, iter, [], 0⟩] scope pos) spos :: rest) env Post :=
  es_setLc0 (f := fun a => g2 (h a)) i own t hc hN hi ok hg hz he hf hok (by rw [mm]; exact k) hts hno hy hyl hl hsw hs
theorem tru_map {α : Type} (xs : List α) (g : α → D) : some (!(xs.map g).isEmpty) = some (!xs.isEmpty) := by cases xs <;> rfl
theorem tru_map' {α : Type} (xs : List α) (g : α → D) : (!(xs.map g).isEmpty) = !xs.isEmpty := by cases xs <;> rfl
end
section
variable {X : Cx} {env env1 env2 : Ev} {a b c e : Expr} {pos p pos2 p2 : Pos} {R : Rs} {α β : Type}
theorem cv_if {F : α → Rs} {x y : α} {k : Bool} (h : ET X c env k env1) (h1 : k = true → EV X a env1 (F x) env2) (h2 : k = false → EV X b env1 (F y) env2) : EV X (.IfExp c a b pos) env (F (bif k then x else y)) env2 := by
  cases k with
  | true => exact ev_ifT h (h1 rfl)
  | false => exact ev_ifF h (h2 rfl)
theorem ddT_le : ∀ (acc l : List (List Int)), (ddT acc l).length ≤ acc.length + l.length
  | acc, [] => by rw [ddT]; exact Nat.le_add_right _ _
  | acc, y :: l => by
    rw [ddT]
    have := ddT_le (if y ∈ acc then acc else acc ++ [y]) l
    by_cases q : y ∈ acc
    · rw [if_pos q] at this ⊢
      rw [List.length_cons]
      omega
    · rw [if_neg q] at this ⊢
      rw [List.length_append, List.length_cons, List.length_nil] at this
      rw [List.length_cons]
      omega
theorem cv_lenDT {xs : List (List Int × β)} {g : β → D} (B : Blt X.mg) (hcalm : X.calm = true) (hu : X.A.units + 2 < cLine) (h : EV X e env R env1) (w : Pd.fz R = .val (.list (xs.map (prG tupI g)))) (hz : xs.length ≤ 16000000) (hg : Gl X "len" := by rfl) (hg2 : Gl X "dict" := by rfl) (he : starEach (e :: []) X.env = (false, eval e X.env) :: starEach [] X.env := by rfl)
    (he2 : starEach (Expr.Call (.Name "dict" p2) [e] [] pos2 :: []) X.env = (false, eval (Expr.Call (.Name "dict" p2) [e] [] pos2) X.env) :: starEach [] X.env := by rfl) (hpl : (backTo pos2 (starEach [] X.env)).any (·.1) = false := by rfl) (hpl2 : (backTo pos (starEach [] X.env)).any (·.1) = false := by rfl) :
    EV X (.Call (.Name "len" p) [.Call (.Name "dict" p2) [e] [] pos2] [] pos) env (.val (.int (ddT [] (xs.map (·.1))).length)) env1 := by
  have e1 : xs.map (prG tupI g) = (xs.map fun q => (q.1, g q.2)).map fun y => PyData.tuple [.tuple (y.1.map .int), y.2] := by
    rw [List.map_map]
    rfl
  have e2 : (xs.map fun q => (q.1, g q.2)).map (·.1) = xs.map (·.1) := by
    rw [List.map_map]
    rfl
  have hsz : (ddT [] ((xs.map fun q => (q.1, g q.2)).map (·.1))).length < 2 ^ 62 := by
    have := ddT_le [] ((xs.map fun q => (q.1, g q.2)).map (·.1))
    rw [List.length_map, List.length_map, List.length_nil] at this
    omega
  rw [e1] at w
  rw [← e2]
  exact ev_lenDT B hcalm hu h w hsz hg hg2 he hpl he2 hpl2
end
end Pd
set_option Elab.async false
set_option linter.all false
set_option maxRecDepth 100000
set_option maxHeartbeats 4000000
/-! dicts whose keys are tuples of ints: {}, d[k] = v, k in d, d.get(k, x), d[k], dict(pairs), len; sorted of them and of lists of tuples of ints -/
namespace Pd
open PySem PySem.Spec PyProof.Rows L2
abbrev KX := List Int × Addr × V
def zipX (xs : List KX) (its : List Value) : List (List Int × Addr × Value) := (xs.zip its).map fun q => (q.1.1, q.1.2.1, q.2)
def valX (xs : List KX) (k : List Int) : Option V := (xs.find? fun x => decide (x.1 = k)).map (·.2.2)
def putX (xs : List KX) (k : List Int) (a : Addr) (v : V) : List KX := if (valX xs k).isSome then xs.map (fun x => if x.1 = k then (x.1, x.2.1, v) else x) else xs ++ [(k, a, v)]
theorem zipX_len : ∀ {xs : List KX} {its : List Value}, Vals (xs.map (·.2.2)) its → (zipX xs its).length = xs.length := fun {xs its} r => by
  have e := r.length
  rw [List.length_map] at e
  unfold zipX
  rw [List.length_map, List.length_zip, e, Nat.min_self]
theorem zipX_keys : ∀ {xs : List KX} {its : List Value}, Vals (xs.map (·.2.2)) its → (zipX xs its).map (·.1) = xs.map (·.1)
  | [], _, _ => rfl
  | x :: xs, _, r => by
    rw [List.map_cons] at r
    cases r with
    | cons h t =>
      show x.1 :: (zipX xs _).map (·.1) = x.1 :: xs.map (·.1)
      rw [zipX_keys t]
theorem zipX_mem : ∀ {xs : List KX} {its : List Value} {y : List Int × Addr × Value}, y ∈ zipX xs its → ∃ x ∈ xs, y.1 = x.1 ∧ y.2.1 = x.2.1 := fun {xs its y} h => by
  obtain ⟨q, hq, rfl⟩ := List.mem_map.mp h
  exact ⟨q.1, (List.of_mem_zip hq).1, rfl, rfl⟩
theorem at_zip (k : List Int) : ∀ {xs : List KX} {its : List Value}, Vals (xs.map (·.2.2)) its → (atKey (zipX xs its) k = none ∧ valX xs k = none) ∨ ∃ a u v, atKey (zipX xs its) k = some (a, u) ∧ valX xs k = some v ∧ RelV v u
  | [], _, _ => .inl ⟨rfl, rfl⟩
  | x :: xs, _, r => by
    rw [List.map_cons] at r
    cases r with
    | @cons v u vs us h t =>
      by_cases e : x.1 = k
      · refine .inr ⟨x.2.1, u, x.2.2, ?_, ?_, h⟩
        · show (List.find? (fun y => decide (y.1 = k)) ((x.1, x.2.1, u) :: zipX xs us)).map (·.2) = _
          rw [List.find?_cons, decide_eq_true e]
          rfl
        · show (List.find? (fun y => decide (y.1 = k)) (x :: xs)).map (·.2.2) = _
          rw [List.find?_cons, decide_eq_true e]
          rfl
      · have e1 : atKey (zipX (x :: xs) (u :: us)) k = atKey (zipX xs us) k := by
          show (List.find? (fun y => decide (y.1 = k)) ((x.1, x.2.1, u) :: zipX xs us)).map (·.2) = _
          rw [List.find?_cons, decide_eq_false e]
          rfl
        have e2 : valX (x :: xs) k = valX xs k := by
          show (List.find? (fun y => decide (y.1 = k)) (x :: xs)).map (·.2.2) = _
          rw [List.find?_cons, decide_eq_false e]
          rfl
        rw [e1, e2]
        exact at_zip k t
theorem put_zip (k : List Int) (v : V) (u : Value) (h : RelV v u) : ∀ {xs : List KX} {its : List Value}, Vals (xs.map (·.2.2)) its → ∃ its', Vals ((xs.map fun x => if x.1 = k then (x.1, x.2.1, v) else x).map (·.2.2)) its' ∧ (zipX xs its).map (putAt k u) = zipX (xs.map fun x => if x.1 = k then (x.1, x.2.1, v) else x) its'
  | [], _, _ => ⟨[], .nil, rfl⟩
  | x :: xs, _, r => by
    rw [List.map_cons] at r
    cases r with
    | @cons v0 u0 vs us h0 t =>
      obtain ⟨its', r', e'⟩ := put_zip k v u h t
      by_cases e : x.1 = k
      · refine ⟨u :: its', ?_, ?_⟩
        · rw [List.map_cons, List.map_cons, if_pos e]
          exact .cons h r'
        · show putAt k u (x.1, x.2.1, u0) :: (zipX xs us).map (putAt k u) = _
          rw [e', List.map_cons, if_pos e]
          unfold putAt
          rw [if_pos e]
          rfl
      · refine ⟨u0 :: its', ?_, ?_⟩
        · rw [List.map_cons, List.map_cons, if_neg e]
          exact .cons h0 r'
        · show putAt k u (x.1, x.2.1, u0) :: (zipX xs us).map (putAt k u) = _
          rw [e', List.map_cons, if_neg e]
          unfold putAt
          rw [if_neg e]
          rfl
theorem vals_app : ∀ {xs : List V} {us : List Value} {v : V} {u : Value}, Vals xs us → RelV v u → Vals (xs ++ [v]) (us ++ [u])
  | [], _, _, _, .nil, h => .cons h .nil
  | _ :: _, _, _, _, .cons r t, h => .cons r (vals_app t h)
theorem stored_zip {xs : List KX} {its : List Value} (r : Vals (xs.map (·.2.2)) its) (k : List Int) (a : Addr) {v : V} {u : Value} (h : RelV v u) : ∃ its', Vals ((putX xs k a v).map (·.2.2)) its' ∧ storedH (zipX xs its) k a u = zipX (putX xs k a v) its' := by
  rcases at_zip k r with ⟨h1, h2⟩ | ⟨a', u', v', h1, h2, _⟩
  · refine ⟨its ++ [u], ?_, ?_⟩
    · unfold putX
      rw [h2, if_neg (by decide), List.map_append]
      exact vals_app r h
    · rw [storedH_new h1]
      unfold putX zipX
      rw [h2, if_neg (by decide), List.zip_append (by rw [← r.length, List.length_map]), List.map_append]
      rfl
  · obtain ⟨its', r', e'⟩ := put_zip k v u h r
    unfold putX
    rw [h2, if_pos (show (some v').isSome = true from rfl)]
    exact ⟨its', r', by rw [storedH_old h1]; exact e'⟩
theorem putX_len (xs : List KX) (k : List Int) (a : Addr) (v : V) : (putX xs k a v).length ≤ xs.length + 1 := by
  unfold putX
  split
  · rw [List.length_map]; omega
  · rw [List.length_append]; exact Nat.le_refl _
theorem putX_mem {xs : List KX} {k : List Int} {a : Addr} {v : V} {x : KX} (h : x ∈ putX xs k a v) : (∃ y ∈ xs, x.1 = y.1 ∧ x.2.1 = y.2.1) ∨ (x.1 = k ∧ x.2.1 = a) := by
  unfold putX at h
  split at h
  · obtain ⟨y, hy, e⟩ := List.mem_map.mp h
    refine .inl ⟨y, hy, ?_⟩
    split at e <;> subst e <;> exact ⟨rfl, rfl⟩
  · rcases List.mem_append.mp h with h | h
    · exact .inl ⟨x, h, rfl, rfl⟩
    · rw [List.mem_singleton] at h
      subst h
      exact .inr ⟨rfl, rfl⟩
/-! reading and writing -/
section
variable {X : Cx} {pins : List (Addr × Obj)} {σ : L2.St} {H : Hp} {s : Shared} {A : Around} {E : Value → Shared → Prop} {p b : Addr} {xs : List KX} {k : List Int}
theorem key_ints (I : Inv X pins σ H s) (h : SqT X.K H b (k.map V.int)) : (tupleKind (intKind X.prog X.w)).is s.heap k b := by
  obtain ⟨jts, rw2, ht2, _⟩ := I.tuple h
  obtain ⟨o2, g2, c2, n2, d2⟩ := (show s.heap.IsTuple b jts.toArray from ht2)
  exact ⟨o2, jts.toArray, n2, g2, c2, d2, items_ints rw2⟩
def KeysOk (K : Frag) (H : Hp) (xs : List KX) : Prop := ∀ x ∈ xs, SqT K H x.2.1 (x.1.map V.int)
theorem tk_rd (I : Inv X pins σ H s) (e : H p = some (tkO p xs)) (hk : KeysOk X.K H xs) : (p == sysModules) = false ∧ ∃ its, Vals (xs.map (·.2.2)) its ∧ s.heap.DictOfH (tupleKind (intKind X.prog X.w)) p (zipX xs its) := by
  obtain ⟨⟨h1, h2, P, w, its, o, es, ep, r, g, c, d, q⟩, _, _⟩ := (show ObjOk X.prog X.w H s.heap p (tkO p xs) from I.hok p _ e)
  refine ⟨h1, its, r, o, es, ep, g, c, d, ?_, fun y hy => ?_, by rw [zipX_keys r]; exact h2⟩
  · rw [q]
    unfold zipX
    rw [List.map_map]
    rfl
  · obtain ⟨x, hx, e1, e2⟩ := zipX_mem hy
    rw [e1, e2]
    exact key_ints I (hk x hx)
theorem tk_ok {P : Program} {w : World} {H' : Hp} {h' : Heap} {its : List Value} (h1 : (p == sysModules) = false) (r : Vals (xs.map (·.2.2)) its) (dd : h'.DictOfH (tupleKind (intKind P w)) p (zipX xs its)) : ObjOk P w H' h' p (tkO p xs) := by
  obtain ⟨o, es, ep, g, c, d, q, _, n⟩ := dd
  refine ⟨⟨h1, by rw [zipX_keys r] at n; exact n, P, w, its, o, es, ep, r, g, c, d, ?_⟩, ⟨o, g⟩, ?_⟩
  · rw [q]
    unfold zipX
    rw [List.map_map]
    rfl
  · rintro h1 h2 ⟨a1, a2, P', w', its', o', es', ep', r', g', rest⟩ st
    exact ⟨a1, a2, P', w', its', o', es', ep', r', st _ g', rest⟩
theorem tk_set {Q : Unit → Shared → Prop} {v : V} {u : Value} (hu : A.units + 1 < cLine) (I : Inv X pins σ H s) (e : H p = some (tkO p xs)) (hz : xs.length ≤ sizeLine) (hk : KeysOk X.K H xs) (kb : SqT X.K H b (k.map V.int)) (rv : RelV v u)
    (h : ∀ s', Inv X pins σ (upd H p (tkO p (putX xs k b v))) s' → Q () s') : wpAny (model X.prog X.w) A (setItem (.ref p) (.ref b) u) Q E s := by
  obtain ⟨h1, its, r, dd⟩ := tk_rd I e hk
  refine wpAny_setItem_heap (hsz := by rw [zipX_len r]; exact hz) (tupleKind_room_in1 hu) (key_ints I kb) dd fun h' dd' hs => h _ ?_
  obtain ⟨its', r', e'⟩ := stored_zip r k b rv
  rw [e'] at dd'
  have he : ∃ q, h'.get? p = some q := let ⟨q, _, _, hq, _⟩ := dd'; ⟨q, hq⟩
  exact d_write I (by rw [e]; exact True.intro) hs he (tk_ok h1 r' dd')
theorem tk_in {Q : Value → Shared → Prop} (hu : A.units + 1 < cLine) (I : Inv X pins σ H s) (e : H p = some (tkO p xs)) (hk : KeysOk X.K H xs) (kb : SqT X.K H b (k.map V.int))
    (h : ∀ s', Inv X pins σ H s' → Q (.bool (valX xs k).isSome) s') : wpAny (model X.prog X.w) A (compareOp .In (.ref b) (.ref p)) Q E s := by
  obtain ⟨h1, its, r, dd⟩ := tk_rd I e hk
  refine wpAny_in_heap (tupleKind_room_in1 hu) (key_ints I kb) h1 dd ?_
  have eq : (atKey (zipX xs its) k).isSome = (valX xs k).isSome := by
    rcases at_zip k r with ⟨h1, h2⟩ | ⟨a', u', v', h1, h2, _⟩ <;> rw [h1, h2] <;> rfl
  rw [eq]
  exact h _ (I.tok _)
theorem tk_notin {Q : Value → Shared → Prop} (hu : A.units + 1 < cLine) (I : Inv X pins σ H s) (e : H p = some (tkO p xs)) (hk : KeysOk X.K H xs) (kb : SqT X.K H b (k.map V.int))
    (h : ∀ s', Inv X pins σ H s' → Q (.bool (!(valX xs k).isSome)) s') : wpAny (model X.prog X.w) A (compareOp .NotIn (.ref b) (.ref p)) Q E s := by
  obtain ⟨h1, its, r, dd⟩ := tk_rd I e hk
  refine wpAny_notIn_heap (tupleKind_room_in1 hu) (key_ints I kb) h1 dd ?_
  have eq : (atKey (zipX xs its) k).isSome = (valX xs k).isSome := by
    rcases at_zip k r with ⟨h1, h2⟩ | ⟨a', u', v', h1, h2, _⟩ <;> rw [h1, h2] <;> rfl
  rw [eq]
  exact h _ (I.tok _)
theorem tk_get {Q : Value → Shared → Prop} {v : V} (hu : A.units + 1 < cLine) (I : Inv X pins σ H s) (e : H p = some (tkO p xs)) (hk : KeysOk X.K H xs) (kb : SqT X.K H b (k.map V.int)) (hv : valX xs k = some v)
    (h : ∀ w' s', Inv X pins σ H s' → RelV v w' → Q w' s') : wpAny (model X.prog X.w) A (getItem (.ref p) (.ref b)) Q E s := by
  obtain ⟨h1, its, r, dd⟩ := tk_rd I e hk
  rcases at_zip k r with ⟨_, h2⟩ | ⟨a', u', v', h2, h3, h4⟩
  · rw [hv] at h2; cases h2
  · rw [hv] at h3
    cases h3
    exact wpAny_getItem_heap (tupleKind_room_in1 hu) (key_ints I kb) dd h2 (h u' _ (I.tok _) h4)
theorem tk_get2 {Q : Value → Shared → Prop} {d : V} {ud : Value} (hu : A.units + 1 < cLine) (I : Inv X pins σ H s) (e : H p = some (tkO p xs)) (hk : KeysOk X.K H xs) (kb : SqT X.K H b (k.map V.int)) (rd : RelV d ud)
    (h : ∀ w' s', Inv X pins σ H s' → RelV ((valX xs k).getD d) w' → Q w' s') : wpAny (model X.prog X.w) A (call (.builtin "dict.get") [.ref p, .ref b, ud]) Q E s := by
  obtain ⟨h1, its, r, dd⟩ := tk_rd I e hk
  refine call_meetsIn PySem.F.slot_dict_get dd.typeIs PySem.F.entry_dict_get (PySem.F.args_dict_get_3 _ _ _) (meetsH_dict_get_default (tupleKind (intKind X.prog X.w)) p b h1 ud) ⟨tupleKind_room_in1 hu, k, zipX xs its, key_ints I kb, dd, h _ _ (I.tok _) ?_⟩
  rcases at_zip k r with ⟨h2, h3⟩ | ⟨a', u', v', h2, h3, h4⟩
  · rw [h2, h3]; exact rd
  · rw [h2, h3]; exact h4
end
/-! judgements -/
def tTNew : TE := fun _ H Q => ∀ p, H p = none → Q (.ref p) (upd H p (tkO p []))
theorem pe_tnew {X : Cx} {pos : Pos} : PE X (.Dict [] [] pos) tTNew := ⟨fun pins s σ H Q I h =>
  wpAny_Dict_empty ⟨.ref s.heap.objs.size, _, I.laid (a := s.heap.objs.size) (o := tkO s.heap.objs.size []) (t' := s.toks) (fun _ _ q => Heap.get?_push_of_some _ q) (Nat.le_refl _)
    (tk_ok (its := []) (beq_eq_false_iff_ne.mpr (Ne.symm (Nat.ne_of_lt I.big))) .nil (Heap.DictOfH.new s.heap)), rfl, h _ (I.hok.fresh (Nat.le_refl _))⟩⟩
def TkAt (K : Frag) (H : Hp) (x y : V) (p : Addr) (xs : List KX) (k : List Int) (b : Addr) : Prop := x = .ref p ∧ y = .ref b ∧ H p = some (tkO p xs) ∧ xs.length ≤ sizeLine ∧ KeysOk K H xs ∧ SqT K H b (k.map V.int)
def sTPut (K : Frag) (td ty tv : TE) : TS := fun D σ H => tv σ H fun v H1 => td σ H1 fun x H2 => ty σ H2 fun y H3 => ∃ p xs k b, TkAt K H3 x y p xs k b ∧ D.nx σ (upd H3 p (tkO p (putX xs k b v)))
def tTIn (K : Frag) (ty td : TE) : TE := fun σ H Q => ty σ H fun y H1 => td σ H1 fun x H2 => ∃ p xs k b, TkAt K H2 x y p xs k b ∧ Q (.bl (valX xs k).isSome) H2
def tTNot (K : Frag) (ty td : TE) : TE := fun σ H Q => ty σ H fun y H1 => td σ H1 fun x H2 => ∃ p xs k b, TkAt K H2 x y p xs k b ∧ Q (.bl (!(valX xs k).isSome)) H2
def tTGet (K : Frag) (td ty : TE) : TE := fun σ H Q => td σ H fun x H1 => ty σ H1 fun y H2 => ∃ p xs k b v, TkAt K H2 x y p xs k b ∧ valX xs k = some v ∧ Q v H2
def tTGet2 (K : Frag) (td ty tx : TE) : TE := fun σ H Q => td σ H fun x H1 => (∃ p xs, x = .ref p ∧ H1 p = some (tkO p xs) ∧ KeysOk K H1 xs) ∧ ty σ H1 fun y H2 => tx σ H2 fun z H3 => ∃ p xs k b, TkAt K H3 x y p xs k b ∧ Q ((valX xs k).getD z) H3
section
variable {X : Cx} {o i e f value : Expr} {pos pos' apos cpos : Pos} {td ty tv tx : TE}
theorem ps_tput (hu : X.A.units + 1 < cLine) (ho : PE X o td) (hi : PE X i ty) (hv : PE X value tv) (hs : swapsWith value (some (.Subscript o i pos')) pos.line X.env = pure false) : PS X (.Assign [.Subscript o i pos'] value pos) (sTPut X.K td ty tv) := by
  refine ⟨fun pins s σ H D I h => ?_⟩
  refine wpAny_Assign_Subscript (thn (hv.run pins s σ H _ I h) fun r s1 ⟨v, H1, I1, rv, q1⟩ => thn (ho.run pins s1 σ H1 _ I1 q1) fun u s2 ⟨x, H2, I2, rx, q2⟩ => thn (hi.run pins s2 σ H2 _ I2 q2) fun iv s3 ⟨y, H3, I3, ry, p, xs, k, b, ⟨ex, ey, e, hz, hk, kb⟩, q3⟩ => ?_) hs
  subst ex ey
  obtain rfl : u = Value.ref p := rx
  obtain rfl : iv = Value.ref b := ry
  exact tk_set hu I3 e hz hk kb rv fun s4 I4 => ⟨σ, _, I4, q3⟩
theorem pc_tin (hu : X.A.units + 1 < cLine) (hi : PE X i ty) (ho : PE X o td) : PC X .In i o (tTIn X.K ty td) := by
  refine ⟨fun pins s σ H Q I h => ?_⟩
  refine thn (hi.run pins s σ H _ I h) fun iv s1 ⟨y, H1, I1, ry, q1⟩ => thn (ho.run pins s1 σ H1 _ I1 q1) fun u s2 ⟨x, H2, I2, rx, p, xs, k, b, ⟨ex, ey, e, hz, hk, kb⟩, q2⟩ => ?_
  subst ex ey
  obtain rfl : u = Value.ref p := rx
  obtain rfl : iv = Value.ref b := ry
  exact tk_in hu I2 e hk kb fun s3 I3 => ⟨.bl (valX xs k).isSome, H2, I3, rfl, q2⟩
theorem pc_tnot (hu : X.A.units + 1 < cLine) (hi : PE X i ty) (ho : PE X o td) : PC X .NotIn i o (tTNot X.K ty td) := by
  refine ⟨fun pins s σ H Q I h => ?_⟩
  refine thn (hi.run pins s σ H _ I h) fun iv s1 ⟨y, H1, I1, ry, q1⟩ => thn (ho.run pins s1 σ H1 _ I1 q1) fun u s2 ⟨x, H2, I2, rx, p, xs, k, b, ⟨ex, ey, e, hz, hk, kb⟩, q2⟩ => ?_
  subst ex ey
  obtain rfl : u = Value.ref p := rx
  obtain rfl : iv = Value.ref b := ry
  exact tk_notin hu I2 e hk kb fun s3 I3 => ⟨.bl (!(valX xs k).isSome), H2, I3, rfl, q2⟩
theorem tk_type {pins : List (Addr × Obj)} {σ : L2.St} {H : Hp} {s : Shared} {p : Addr} {xs : List KX} (I : Inv X pins σ H s) (e : H p = some (tkO p xs)) (hk : KeysOk X.K H xs) :
    s.TypeIs (.ref p) "dict" ∧ (∀ b, Value.ref p = .ref b → ∃ ob, s.heap.get? b = some ob ∧ ob.dict = none) ∧ (p == sysModules) = false := by
  obtain ⟨h1, its, r, dd⟩ := tk_rd I e hk
  refine ⟨dd.typeIs, fun b q => ?_, h1⟩
  cases q
  obtain ⟨ob, _, _, h1, h2, _⟩ := dd
  exact ⟨ob, h1, h2.2.1⟩
theorem pe_tget (hu : X.A.units + 1 < cLine) (ho : PE X o td) (hi : PE X i ty) (hs : NoSl i) : PE X (.Subscript o i pos) (tTGet X.K td ty) := by
  refine ⟨fun pins s σ H Q I h => ?_⟩
  refine subD_of PySem.F.slot_dict_getitem.lookup hs (thn (ho.run pins s σ H _ I h) fun u s1 ⟨x, H1, I1, rx, q1⟩ => thn (hi.run pins s1 σ H1 _ I1 q1) fun iv s2 ⟨y, H2, I2, ry, p, xs, k, b, v, ⟨ex, ey, e, hz, hk, kb⟩, hv, q2⟩ => ?_)
  subst ex ey
  obtain rfl : u = Value.ref p := rx
  obtain rfl : iv = Value.ref b := ry
  exact ⟨(tk_type I2 e hk).1, tk_get hu I2 e hk kb hv fun w' s3 I3 rw' => ⟨v, H2, I3, rw', q2⟩⟩
theorem pe_tget2 (hu : X.A.units + 1 < cLine) (ho : PE X o td) (he : PE X e ty) (hf : PE X f tx) (m : M2 X o "get" apos e f cpos) : PE X (.Call (.Attribute o "get" apos) [e, f] [] cpos) (tTGet2 X.K td ty tx) := by
  refine ⟨fun pins s σ H Q I h => ?_⟩
  refine wpAny_Call_method m.base m.few m.line PySem.F.plainAttrs_dict PySem.F.slot_dict_get PySem.F.type_dict_get (thn (ho.run pins s σ H _ I h) fun u s1 ⟨x, H1, I1, rx, ⟨p, xs, ex, e1, k1⟩, q1⟩ => ?_)
  subst ex
  obtain rfl : u = Value.ref p := rx
  obtain ⟨t1, t2, _⟩ := tk_type I1 e1 k1
  refine ⟨t1, t2, ?_⟩
  rw [m.trees]
  refine Calls.callWith_builtin rfl (Calls.evalArgs_plain (Calls.spliced_cons (thn (he.run pins s1 σ H1 _ I1 q1) fun iv s2 ⟨y, H2, I2, ry, q2⟩ =>
    Calls.spliced_cons (thn (hf.run pins s2 σ H2 _ I2 q2) fun fv s3 ⟨z, H3, I3, rz, p', xs', k, b, ⟨ex, ey, e, hz, hk, kb⟩, q3⟩ => Calls.spliced_nil ?_))))
  cases ex
  subst ey
  obtain rfl : iv = Value.ref b := ry
  exact tk_get2 hu I3 e hk kb rz fun w' s4 I4 rw' => ⟨_, H3, I4, rw', q3⟩
end
/-! of data -/
def keysT (kvs : List (List Int × D)) : List (List Int) := kvs.map (·.1)
section
variable {K : Frag} {F F' H : Hp}
theorem TD.keys {xs : List KX} {kvs : List (List Int × D)} (h : TD K F xs kvs) : xs.map (·.1) = keysT kvs := by
  unfold TD at h
  induction h with
  | nil => rfl
  | cons a t ih => unfold keysT at ih ⊢; rw [List.map_cons, List.map_cons, a.1, ih]
theorem TD.ok {xs : List KX} {kvs : List (List Int × D)} (h : TD K F xs kvs) (l : Le F H) : KeysOk K H xs := by
  unfold TD at h
  induction h with
  | nil => intro x hx; cases hx
  | cons a t ih =>
    intro x hx
    rcases List.mem_cons.mp hx with e | hx
    · subst e; exact le_t l a.2.1
    · exact ih x hx
theorem TD.val {xs : List KX} {kvs : List (List Int × D)} (h : TD K F xs kvs) (k : List Int) : (valX xs k = none ∧ valD kvs k = none) ∨ ∃ v d, valX xs k = some v ∧ valD kvs k = some d ∧ DR K F v d := by
  unfold TD at h
  induction h with
  | nil => exact .inl ⟨rfl, rfl⟩
  | @cons x q xs kvs a t ih =>
    by_cases e : x.1 = k
    · refine .inr ⟨x.2.2, q.2, ?_, ?_, a.2.2⟩
      · unfold valX; rw [List.find?_cons, decide_eq_true e]; rfl
      · unfold valD; rw [List.find?_cons, decide_eq_true (a.1 ▸ e)]; rfl
    · have e1 : valX (x :: xs) k = valX xs k := by unfold valX; rw [List.find?_cons, decide_eq_false e]
      have e2 : valD (q :: kvs) k = valD kvs k := by unfold valD; rw [List.find?_cons, decide_eq_false (a.1 ▸ e)]
      rw [e1, e2]
      exact ih
theorem TD.some {xs : List KX} {kvs : List (List Int × D)} (h : TD K F xs kvs) (k : List Int) : (valX xs k).isSome = (valD kvs k).isSome := by
  rcases h.val k with ⟨a, b⟩ | ⟨v, d, a, b, _⟩ <;> rw [a, b] <;> rfl
theorem valD_some {kvs : List (List Int × D)} {k : List Int} : (valD kvs k).isSome = decide (k ∈ keysT kvs) := by
  unfold valD keysT
  rw [Option.isSome_map, Bool.eq_iff_iff, List.find?_isSome, decide_eq_true_iff, List.mem_map]
  exact ⟨fun ⟨x, hx, e⟩ => ⟨x, hx, of_decide_eq_true e⟩, fun ⟨x, hx, e⟩ => ⟨x, hx, decide_eq_true e⟩⟩
theorem TD.map_put {k : List Int} {v : V} {d : D} (r : DR K F v d) : ∀ {xs : List KX} {kvs : List (List Int × D)}, TD K F xs kvs → TD K F (xs.map fun x => if x.1 = k then (x.1, x.2.1, v) else x) (kvs.map fun kv => if kv.1 = k then (kv.1, d) else kv)
  | [], [], _ => .nil
  | x :: xs, q :: kvs, .cons a t => by
    rw [List.map_cons, List.map_cons]
    refine .cons ?_ (TD.map_put r t)
    by_cases z : x.1 = k
    · rw [if_pos z, if_pos (a.1 ▸ z)]
      exact ⟨a.1, a.2.1, r⟩
    · rw [if_neg z, if_neg (a.1 ▸ z)]
      exact a
theorem TD.put {xs : List KX} {kvs : List (List Int × D)} (h : TD K F xs kvs) {k : List Int} {b : Addr} {v : V} {d : D} (hb : SqT K F b (k.map V.int)) (r : DR K F v d) : TD K F (putX xs k b v) (putD kvs k d) := by
  have e : (valX xs k).isSome = (kvs.any fun kv => decide (kv.1 = k)) := by
    rw [h.some, valD_some, Bool.eq_iff_iff, decide_eq_true_iff, List.any_eq_true]
    unfold keysT
    rw [List.mem_map]
    exact ⟨fun ⟨x, hx, e⟩ => ⟨x, hx, decide_eq_true e⟩, fun ⟨x, hx, e⟩ => ⟨x, hx, of_decide_eq_true e⟩⟩
  unfold putX putD
  rw [e]
  split
  · exact TD.map_put r h
  · exact Paired.snoc h ⟨rfl, hb, r⟩
end
section
variable {X : Cx} {env env1 env2 env3 : Ev} {a b e e2 o : Expr} {es : List Expr} {R Ra Rb Rx : Rs} {d x y : D} {pos p pos' apos cpos : Pos} {i : Nat} {kvs : List (List Int × D)} {k : List Int} {pin : Option Addr}
theorem ev_tnew : EV X (.Dict [] [] pos) env (.new (.dt none [])) env :=
  PE.wk pe_tnew fun σ H Q ⟨G, F, S, q⟩ p hp => q F _ _ (Ext.refl G F) (S.consNew hp fun f g => ⟨p, [], rfl, (fun _ z => nomatch z), upd_same, Nat.zero_le _, .nil, f, g⟩)
theorem St.dtS {K : Frag} {G F H : Hp} {σ : L2.St} (S : St K G F σ H env) (h : ge env i = .dt pin kvs) : ∃ p xs, gs σ i = some (.ref p) ∧ (∀ q, pin = some q → p = q) ∧ H p = some (tkO p xs) ∧ xs.length ≤ sizeLine ∧ TD K F xs kvs ∧ F p = none ∧ G p = none := by
  have q := S.sl i
  rw [h] at q
  exact q
theorem drT {K : Frag} {F : Hp} {v : V} (h : DR K F v (tupI k)) : ∃ b, v = .ref b ∧ SqT K F b (k.map V.int) := by
  cases h with
  | tup ha hz hr =>
    have e := hr.ints
    rw [e] at ha
    exact ⟨_, rfl, ha⟩
theorem tin_core {neg : Bool} (ha : EV X a env Ra env1) (hb : EV X b env1 (.ptr i) env2) (g : ge env2 i = .dt pin kvs) (hk : Pd.fz Ra = .val (tupI k)) {σ : L2.St} {H : Hp} {Q : VK} {ta tb : TE} (ea : tV X.K env Ra env1 = ta) (eb : tV X.K env1 (.ptr i) env2 = tb)
    (h : ∃ G F, St X.K G F σ H env ∧ ∀ F' H', Ext G F F' → St X.K G F' σ H' env2 → Q (.bl (neg ^^ (valD kvs k).isSome)) H') :
    ta σ H fun y H1 => tb σ H1 fun x H2 => ∃ p xs k b, TkAt X.K H2 x y p xs k b ∧ Q (.bl (neg ^^ (valX xs k).isSome)) H2 := by
  subst ea eb
  obtain ⟨G, F, S, q⟩ := h
  refine ⟨G, F, S, fun F1 v H1 x1 r1 => ?_⟩
  obtain ⟨F1', x1', r1'⟩ := r1.fz
  rw [hk] at r1'
  refine ⟨G, F1', r1'.2, fun F2 u H2 x2 r2 => ?_⟩
  obtain ⟨bq, eb, hs⟩ := drT (r1'.1.mono x2.le)
  obtain ⟨p, xs, e1, _, hp, z, kd, _⟩ := r2.2.dtS g
  have e2 := r2.1
  rw [e2] at e1
  cases e1
  refine ⟨p, xs, k, bq, ⟨rfl, eb, hp, z, kd.ok r2.2.kf, le_t r2.2.kf hs⟩, ?_⟩
  rw [kd.some]
  exact q F2 H2 ((x1.trans x1').trans x2) r2.2
theorem et_tin (hu : X.A.units + 1 < cLine) (ha : EV X a env Ra env1) (hb : EV X b env1 (.ptr i) env2) (g : ge env2 i = .dt pin kvs) (hk : Pd.fz Ra = .val (tupI k)) (hm : behindInMarks .In b = false := by rfl) :
    ET X (.Compare a [.In] [b] pos) env (decide (k ∈ keysT kvs)) env2 :=
  PT.wk (pt_cmp (pc_tin hu ha hb) hm) fun σ H Q ⟨G, F, S, q⟩ => by
    have h := tin_core (neg := false) (Q := fun v H' => ∃ k, v = .bl k ∧ Q k H') ha hb g hk rfl rfl ⟨G, F, S, fun F' H' x' S' => ⟨_, rfl, by rw [Bool.false_xor, valD_some]; exact q F' H' x' S'⟩⟩
    simp only [Bool.false_xor] at h
    exact h
theorem ev_tin (hu : X.A.units + 1 < cLine) (ha : EV X a env Ra env1) (hb : EV X b env1 (.ptr i) env2) (g : ge env2 i = .dt pin kvs) (hk : Pd.fz Ra = .val (tupI k)) (hm : behindInMarks .In b = false := by rfl) :
    EV X (.Compare a [.In] [b] pos) env (.val (.bool (decide (k ∈ keysT kvs)))) env2 :=
  PE.wk (pe_cmp (pc_tin hu ha hb) hm) fun σ H Q ⟨G, F, S, q⟩ => by
    have h := tin_core (neg := false) (Q := Q) ha hb g hk rfl rfl ⟨G, F, S, fun F' H' x' S' => by rw [Bool.false_xor, valD_some]; exact q F' _ H' x' ⟨.bl _, S'⟩⟩
    simp only [Bool.false_xor] at h
    exact h
theorem et_tnin (hu : X.A.units + 1 < cLine) (ha : EV X a env Ra env1) (hb : EV X b env1 (.ptr i) env2) (g : ge env2 i = .dt pin kvs) (hk : Pd.fz Ra = .val (tupI k)) (hm : behindInMarks .NotIn b = false := by rfl) :
    ET X (.Compare a [.NotIn] [b] pos) env (!decide (k ∈ keysT kvs)) env2 :=
  PT.wk (pt_cmp (pc_tnot hu ha hb) hm) fun σ H Q ⟨G, F, S, q⟩ => by
    have h := tin_core (neg := true) (Q := fun v H' => ∃ k, v = .bl k ∧ Q k H') ha hb g hk rfl rfl ⟨G, F, S, fun F' H' x' S' => ⟨_, rfl, by rw [Bool.true_xor, valD_some]; exact q F' H' x' S'⟩⟩
    simp only [Bool.true_xor] at h
    exact h
theorem ev_tnin (hu : X.A.units + 1 < cLine) (ha : EV X a env Ra env1) (hb : EV X b env1 (.ptr i) env2) (g : ge env2 i = .dt pin kvs) (hk : Pd.fz Ra = .val (tupI k)) (hm : behindInMarks .NotIn b = false := by rfl) :
    EV X (.Compare a [.NotIn] [b] pos) env (.val (.bool (!decide (k ∈ keysT kvs)))) env2 :=
  PE.wk (pe_cmp (pc_tnot hu ha hb) hm) fun σ H Q ⟨G, F, S, q⟩ => by
    have h := tin_core (neg := true) (Q := Q) ha hb g hk rfl rfl ⟨G, F, S, fun F' H' x' S' => by rw [Bool.true_xor, valD_some]; exact q F' _ H' x' ⟨.bl _, S'⟩⟩
    simp only [Bool.true_xor] at h
    exact h
/-- d[k] = e -/
theorem es_tput {ea : Str → Addr} {W : WX} {rest : List Stmt} {Post : Out → Prop} {value : Expr} {Rv : Rs} (i : Nat) (hu : X.A.units + 1 < cLine) (hv : EV X value env Rv env1) (ho : EV X o env1 (.ptr i) env2) (hi : EV X e env2 Ra env3) (hf : Pd.fz Rv = .val d) (g : ge env3 i = .dt pin kvs) (hk : Pd.fz Ra = .val (tupI k)) (hz : kvs.length < 16000000)
    (kk : ES X ea W rest (env3.set i (.dt pin (putD kvs k d))) Post) (hs : swapsWith value (some (.Subscript o e pos')) pos.line X.env = pure false := by rfl) : ES X ea W (.Assign [.Subscript o e pos'] value pos :: rest) env Post :=
  PSs.wk (pss_seq (ps_tput hu ho hi hv hs) kk) fun D σ H ⟨G, F, S, q⟩ => ⟨G, F, S, fun F1 v H1 x1 r1 => by
    obtain ⟨F1', x1', r1'⟩ := r1.fz
    rw [hf] at r1'
    refine ⟨G, F1', r1'.2, fun F2 u H2 x2 r2 => ⟨G, F2, r2.2, fun F3 w H3 x3 r3 => ?_⟩⟩
    obtain ⟨F4, x4, r4⟩ := r3.fz
    rw [hk] at r4
    obtain ⟨p, xs, e1, hpin, hp, z, kd, f, g'⟩ := r4.2.dtS g
    rw [r2.1] at e1
    cases e1
    have rv : DR X.K F4 v d := r1'.1.mono (x2.trans (x3.trans x4)).le
    obtain ⟨bq, eb, hsb⟩ := drT r4.1
    have hl : xs.length = kvs.length := Paired.length kd
    refine ⟨p, xs, k, bq, ⟨rfl, eb, hp, z, kd.ok r4.2.kf, le_t r4.2.kf hsb⟩, G, F4, ?_, fun o p F5 x5 => q o p F5 (((x1.trans x1').trans (x2.trans (x3.trans x4))).trans x5)⟩
    refine r4.2.writeS (by rw [g]; rfl) r2.1 rfl fun f g' => ⟨p, _, rfl, hpin, upd_same, ?_, kd.put hsb rv, f, g'⟩
    have := putX_len xs k bq v
    rw [sizeLine_eq]
    omega⟩
/-- d.get(k, x) -/
theorem ev_tgetD {dx : D} (hu : X.A.units + 1 < cLine) (ho : EV X o env (.ptr i) env1) (g1 : ge env1 i = .dt pin kvs) (hi : EV X e env1 Ra env2) (hx : EV X e2 env2 Rx env3) (g : ge env3 i = .dt pin kvs) (hk : Pd.fz Ra = .val (tupI k)) (hf : Pd.fz Rx = .val dx)
    (m : M2 X o "get" apos e e2 cpos := by exact ⟨by rfl, by rfl, by rfl, by rfl⟩) : EV X (.Call (.Attribute o "get" apos) [e, e2] [] cpos) env (.val ((valD kvs k).getD dx)) env3 :=
  PE.wk (pe_tget2 hu ho hi hx m) fun σ H Q ⟨G, F, S, q⟩ => ⟨G, F, S, fun F1 u H1 x1 r1 => by
    obtain ⟨p, xs, e1, _, hp, z, kd, _⟩ := r1.2.dtS g1
    have e2 := r1.1
    rw [e2] at e1
    cases e1
    refine ⟨⟨p, xs, rfl, hp, kd.ok r1.2.kf⟩, G, F1, r1.2, fun F2 v H2 x2 r2 => ?_⟩
    obtain ⟨F2', x2', r2'⟩ := r2.fz
    rw [hk] at r2'
    refine ⟨G, F2', r2'.2, fun F3 w H3 x3 r3 => ?_⟩
    obtain ⟨F4, x4, r4⟩ := r3.fz
    rw [hf] at r4
    obtain ⟨bq, eb, hsb⟩ := drT (r2'.1.mono (x3.trans x4).le)
    obtain ⟨p', xs', e1', _, hp', z', kd', _⟩ := r4.2.dtS g
    rw [e2] at e1'
    cases e1'
    refine ⟨p, xs', k, bq, ⟨rfl, eb, hp', z', kd'.ok r4.2.kf, le_t r4.2.kf hsb⟩, q F4 _ _ (((x1.trans x2).trans x2').trans (x3.trans x4)) ⟨?_, r4.2⟩⟩
    rcases kd'.val k with ⟨a1, a2⟩ | ⟨v1, d1, a1, a2, a3⟩
    · rw [a1, a2]; exact r4.1
    · rw [a1, a2]; exact a3⟩
/-- d[k] -/
theorem ev_tix (hu : X.A.units + 1 < cLine) (ho : EV X o env (.ptr i) env1) (hi : EV X e env1 Ra env2) (g : ge env2 i = .dt pin kvs) (hk : Pd.fz Ra = .val (tupI k)) (hd : valD kvs k = some d) (hs : NoSl e := by exact fun _ _ => rfl) : EV X (.Subscript o e pos) env (.val d) env2 :=
  PE.wk (pe_tget hu ho hi hs) fun σ H Q ⟨G, F, S, q⟩ => ⟨G, F, S, fun F1 u H1 x1 r1 => ⟨G, F1, r1.2, fun F2 v H2 x2 r2 => by
    obtain ⟨F2', x2', r2'⟩ := r2.fz
    rw [hk] at r2'
    obtain ⟨bq, eb, hsb⟩ := drT r2'.1
    obtain ⟨p, xs, e1, _, hp, z, kd, _⟩ := r2'.2.dtS g
    rw [r1.1] at e1
    cases e1
    rcases kd.val k with ⟨a1, a2⟩ | ⟨v1, d1, a1, a2, a3⟩
    · rw [hd] at a2; cases a2
    · rw [hd] at a2
      cases a2
      exact ⟨p, xs, k, bq, v1, ⟨rfl, eb, hp, z, kd.ok r2'.2.kf, le_t r2'.2.kf hsb⟩, a1, q F2' _ _ ((x1.trans x2).trans x2') ⟨a3, r2'.2⟩⟩⟩⟩
end
end Pd
set_option Elab.async false
set_option linter.all false
set_option maxRecDepth 100000
set_option maxHeartbeats 4000000
/-! sorted: lists and dicts of tuples of ints -/
namespace Pd
open PySem PySem.Spec PyProof.Rows L2 Srt SrtO PySem.W
/-- v is a plain tuple of these ints -/
def IsTI (h : Heap) (v : Value) (ns : List Int) : Prop := ∃ (a : Addr) (items : Array Value), v = .ref a ∧ h.IsTuple a items ∧ IntsAre items.toList ns
theorem IsTI.keeps {h h' : Heap} {v : Value} {ns : List Int} (x : IsTI h v ns) (k : ∀ b o, v = .ref b → h.get? b = some o → h'.get? b = some o) : IsTI h' v ns := by
  obtain ⟨a, items, e, ⟨o, g, c, n, d⟩, i⟩ := x
  exact ⟨a, items, e, ⟨o, k _ _ e g, c, n, d⟩, i⟩
section
variable {prog : Program} {w : World} {A : Around} {E : Value → Shared → Prop} {s : Shared}
theorem eq_ints {p q : Int} {t u : Tok} {Q : Bool → Shared → Prop} (h : Q (decide (p = q)) s) : wpAny (model prog w) A (eqBool (.int p t) (.int q u)) Q E s := wpAny_eqBool_int h
theorem lex_katT {b : Bool} {Q : Bool → Shared → Prop} : ∀ {xs ys : List Value} {ns ms : List Int} (i : Nat) (fin : Bool), IntsAre xs ns → IntsAre ys ms → (xs.zip ys = [] ∨ True) → (∀ r : Bool, r = HT.lexLt ns ms → Q r s) → (fin = HT.lexLt (ns.drop (min ns.length ms.length)) (ms.drop (min ns.length ms.length))) → KatLex prog w A b fin Q (xs.zip ys) i s
  | [], ys, _, ms, i, fin, .nil, hy, _, h, hf => by
    rw [List.zip_nil_left]
    refine kat_nil (h _ ?_)
    rw [hf]
    simp
  | _ :: xs, [], _, _, i, fin, .cons n t hx, .nil, _, h, hf => by
    rw [List.zip_nil_right]
    refine kat_nil (h _ ?_)
    rw [hf]
    simp
  | _ :: xs, _ :: ys, _, _, i, fin, .cons (ns := ns) n t hx, .cons (ns := ms) m u hy, _, h, hf => by
    rw [List.zip_cons_cons]
    refine kat_cons (eq_ints ?_)
    refine kat_go (fun e => ?_) (fun e => ?_)
    · have e : n = m := of_decide_eq_true e
      refine kat_yes (lex_katT (i + 1) fin hx hy (.inr trivial) (fun r hr => h r ?_) ?_)
      · rw [HT.lexLt_cons, if_pos e, hr]
      · rw [hf]
        simp only [List.length_cons, Nat.succ_min_succ, List.drop_succ_cons]
    · have e : ¬ n = m := of_decide_eq_false e
      refine kat_no (TS.oneLt_ints _ (h _ ?_))
      rw [HT.lexLt_cons, if_neg e]
theorem lex_end : ∀ ns ms : List Int, HT.lexLt (ns.drop (min ns.length ms.length)) (ms.drop (min ns.length ms.length)) = decide (ns.length < ms.length)
  | [], [] => by rw [List.length_nil, Nat.min_self, List.drop_nil, HT.lexLt_nil_nil]; rfl
  | [], m :: ms => by
    rw [List.length_nil, Nat.zero_min, List.drop_zero, List.drop_zero, HT.lexLt_nil_cons, List.length_cons, decide_eq_true (by omega)]
  | n :: ns, [] => by
    rw [List.length_nil, Nat.min_zero, List.drop_zero, List.drop_zero, HT.lexLt_cons_nil, decide_eq_false (by omega)]
  | n :: ns, m :: ms => by
    rw [List.length_cons, List.length_cons, Nat.succ_min_succ, List.drop_succ_cons, List.drop_succ_cons, lex_end ns ms, Bool.eq_iff_iff, decide_eq_true_iff, decide_eq_true_iff]
    omega
def ltK (k : Value → List Int) (v u : Value) : Bool := HT.lexLt (k v) (k u)
theorem cmp_tuples {b : Bool} {vs : List Value} {k : Value → List Int} (hp : ∀ v ∈ vs, IsTI s.heap v (k v)) : Cmp prog w A s (tuples' b) (fun p => p.1 ∈ vs) (lt2 (ltK k)) := by
  intro p q hm hm'
  obtain ⟨a, items, e, ⟨o, g, c, n, d⟩, i⟩ := hp _ hm
  obtain ⟨a', items', e', ⟨o', g', c', n', d'⟩, i'⟩ := hp _ hm'
  show wpAny (model prog w) A (keyLt' (tuples' b) p.1 q.1) (fun r s' => s' = s ∧ r = HT.lexLt (k p.1) (k q.1)) (fun _ _ => False) s
  rw [e, e'] at *
  refine kat_lt g d g' d' (lex_katT 0 _ i i' (.inr trivial) (fun r hr => ⟨rfl, hr⟩) ?_)
  rw [lex_end, ← i.length, ← i'.length, Array.length_toList, Array.length_toList]
theorem cmp_one {vs : List Value} {k : Value → List Int} (hu : A.units < cLine) (hp : ∀ v ∈ vs, IsTI s.heap v (k v)) : Cmp prog w A s oneType' (fun p => p.1 ∈ vs) (lt2 (ltK k)) := by
  intro p q hm hm'
  obtain ⟨a, items, e, h1, i⟩ := hp _ hm
  obtain ⟨a', items', e', h2, i'⟩ := hp _ hm'
  obtain ⟨⟨cls, dd, data, sl⟩, ho, hc, n, hd⟩ := id h1
  obtain ⟨⟨cls2, dd2, data2, sl2⟩, ho2, hc2, n2, hd2⟩ := id h2
  simp only at hc hd hc2 hd2
  subst hc hd hc2 hd2
  show wpAny (model prog w) A (keyLt' oneType' p.1 q.1) (fun r s' => s' = s ∧ r = HT.lexLt (k p.1) (k q.1)) (fun _ _ => False) s
  rw [e, e'] at *
  rw [keyLt'_oneType, oneLt'_eq]
  simp only [if_true]
  refine wpAny_bind (wpAny_cRoomFor hu ?_)
  refine wpAny_bind (wpAny_callSpecialIfBound?_slot (T := "tuple") ⟨_, ho, rfl⟩ PySem.F.slot_tuple_lt (call_meets PySem.F.slot_tuple_lt ⟨_, ho, rfl⟩ PySem.F.entry_tuple_lt (PySem.F.args_tuple_lt_2 _ _) (HT.tuple_lt_ints a a' items items' n n2 dd dd2 sl sl2 (k (.ref a)) (k (.ref a')) i i') ⟨ho, ho2, ?_⟩))
  exact wpAny_truthy_bool ⟨rfl, rfl⟩
theorem cmp_general {vs : List Value} {k : Value → List Int} (hu : A.units < cLine) (hp : ∀ v ∈ vs, IsTI s.heap v (k v)) : Cmp prog w A s general' (fun p => p.1 ∈ vs) (lt2 (ltK k)) := by
  intro p q hm hm'
  obtain ⟨a, items, e, h1, i⟩ := hp _ hm
  obtain ⟨a', items', e', h2, i'⟩ := hp _ hm'
  show wpAny (model prog w) A (oneLt' false p.1 q.1) (fun r s' => s' = s ∧ r = HT.lexLt (k p.1) (k q.1)) (fun _ _ => False) s
  rw [e, e'] at *
  exact kat_one _ _ (HT.lt_tupInts (Q := PySem.W.BoolBack _) h1 h2 i i' hu ⟨rfl, rfl⟩)
theorem firsts_all : ∀ {vs : List Value} {k : Value → List Int}, (∀ v ∈ vs, IsTI s.heap v (k v)) → ∃ fs : List (Option Value), fs.length = vs.length ∧ (∀ f ∈ fs, ∀ v, f = some v → ∃ i t, v = Value.int i t) ∧ ∀ {Q : List (Option Value) → Shared → Prop} {E : Value → Shared → Prop}, Q fs s → wpAny (model prog w) A (vs.mapM firstOfTuple') Q E s
  | [], k, _ => ⟨[], rfl, (fun _ z => nomatch z), fun h => by rw [List.mapM_nil]; exact wpAny_pure h⟩
  | v :: vs, k, hp => by
    obtain ⟨fs, hl, hi, hw⟩ := firsts_all (vs := vs) (k := k) fun v hv => hp v (List.mem_cons_of_mem _ hv)
    obtain ⟨a, items, e, ⟨o, g, c, n, d⟩, i⟩ := hp v List.mem_cons_self
    refine ⟨items[0]? :: fs, by rw [List.length_cons, List.length_cons, hl], fun f hf v hv => ?_, fun h => ?_⟩
    · rcases List.mem_cons.mp hf with z | z
      · subst z
        have : v ∈ items.toList := by
          rw [← Array.getElem?_toList] at hv
          exact List.mem_of_getElem? hv
        exact ints_mem i v this
      · exact hi f z v hv
    · rw [List.mapM_cons, e]
      refine wpAny_bind ?_
      rw [kas_first_eq]
      refine wpAny_bind (Looks.here (show Looks (model prog w) s.heap (typeOf (.ref a)) o.cls from (Looks.ld g).andThen .now) ?_)
      rw [c, if_neg (by first | decide | simp)]
      refine wpAny_bind (listItems_at g d (wpAny_pure ?_))
      exact wpAny_bind (hw (wpAny_pure h))
theorem kind_any {vs : List Value} {k : Value → List Int} (h2 : 2 ≤ vs.length) (hp : ∀ v ∈ vs, IsTI s.heap v (k v)) : ∃ κ, (κ = tuples' true ∨ κ = general' ∨ κ = oneType') ∧ ∀ (Q : SortKind → Shared → Prop) (E : Value → Shared → Prop), Q κ s → wpAny (model prog w) A (keyKind' vs.toArray) Q E s := by
  obtain ⟨fs, hl, hi, hw⟩ := firsts_all (prog := prog) (w := w) (A := A) (s := s) (k := k) hp
  by_cases hall : (fs.toArray.all (·.isSome)) = true
  · refine ⟨tuples' true, .inl rfl, fun Q E h => ?_⟩
    rw [keyKind'_eq, List.mapM_toArray, map_eq_pure_bind]
    refine wpAny_bind (wpAny_bind (hw (wpAny_pure ?_)))
    rw [if_pos hall]
    refine wpAny_bind (wpAny_rule ?_)
    obtain ⟨f1, fr, rfl⟩ : ∃ f1 fr, fs = f1 :: fr := by
      match fs, hl with
      | f1 :: fr, _ => exact ⟨f1, fr, rfl⟩
      | [], hl => rw [List.length_nil] at hl; omega
    have hsm : ∀ f ∈ f1 :: fr, ∃ i t, f = some (Value.int i t) := fun f hf => by
      rw [List.all_toArray, List.all_eq_true] at hall
      obtain ⟨v, rfl⟩ := Option.isSome_iff_exists.mp (hall f hf)
      obtain ⟨i, t, rfl⟩ := hi _ hf v rfl
      exact ⟨i, t, rfl⟩
    have hfm : ((f1 :: fr).toArray.filterMap id) = ((f1 :: fr).filterMap id).toArray := by simp
    have hgs : ∀ v ∈ (f1 :: fr).filterMap id, ∃ i t, v = Value.int i t := fun v hv => by
      obtain ⟨f, hf, e⟩ := List.mem_filterMap.mp hv
      exact hi f hf v e
    obtain ⟨g1, gr, hg⟩ : ∃ g1 gr, (f1 :: fr).filterMap id = g1 :: gr := by
      obtain ⟨i, t, rfl⟩ := hsm f1 List.mem_cons_self
      exact ⟨_, _, rfl⟩
    rw [hfm, hg, oneTypeOnly'_eq, List.mapM_toArray, map_eq_pure_bind]
    rw [hg] at hgs
    refine wpAny_bind (wpAny_bind (wpAny_bind (kas_mapM (r := Value.type "int") _ (fun v hv Q' hq => ?_) (wpAny_pure ?_))))
    · obtain ⟨i, t, rfl⟩ := hgs v hv
      exact (show Looks (model prog w) s.heap (typeOf (.int i t)) (.type "int") from Looks.now).here hq
    · have hall2 : ((List.map (fun _ => Value.type "int") (g1 :: gr)).toArray.all fun x => x == Value.type "int") = true := by
        simp only [List.all_toArray, List.all_map, List.all_eq_true]
        intro _ _
        rfl
      have h0 : (List.map (fun _ => Value.type "int") (g1 :: gr)).toArray[0]? = some (Value.type "int") := by simp
      rw [h0]
      simp only [hall2, if_true]
      refine wpAny_pure (wpAny_pure ?_)
      have e : (Value.type "int" != Value.type "tuple") = true := by first | decide +kernel | rfl | decide
      show Q (tuples' (Value.type "int" != Value.type "tuple")) s
      rw [e]
      exact h
  · by_cases h0 : ((fs.toArray)[0]?.bind id).isSome = true
    · refine ⟨general', .inr (.inl rfl), fun Q E h => ?_⟩
      rw [keyKind'_eq, List.mapM_toArray, map_eq_pure_bind]
      refine wpAny_bind (wpAny_bind (hw (wpAny_pure ?_)))
      rw [if_neg hall, if_pos h0]
      exact wpAny_pure h
    · refine ⟨oneType', .inr (.inr rfl), fun Q E h => ?_⟩
      rw [keyKind'_eq, List.mapM_toArray, map_eq_pure_bind]
      refine wpAny_bind (wpAny_bind (hw (wpAny_pure ?_)))
      rw [if_neg hall, if_neg h0, oneTypeOnly'_eq, List.mapM_toArray, map_eq_pure_bind]
      refine wpAny_bind (wpAny_bind (wpAny_bind (kas_mapM (r := Value.type "tuple") _ (fun v hv Q' hq => ?_) (wpAny_pure ?_))))
      · obtain ⟨a, items, e, ⟨o, g, c, n, d⟩, i⟩ := hp v hv
        rw [e]
        exact (show Looks (model prog w) s.heap (typeOf (.ref a)) (.type "tuple") from c ▸ (Looks.ld g).andThen .now).here hq
      · obtain ⟨v1, vr, rfl⟩ : ∃ v1 vr, vs = v1 :: vr := by
          match vs, h2 with
          | v1 :: vr, _ => exact ⟨v1, vr, rfl⟩
        have hall2 : ((List.map (fun _ => Value.type "tuple") (v1 :: vr)).toArray.all fun x => x == Value.type "tuple") = true := by
          simp only [List.all_toArray, List.all_map, List.all_eq_true]
          intro _ _
          rfl
        have h0 : (List.map (fun _ => Value.type "tuple") (v1 :: vr)).toArray[0]? = some (Value.type "tuple") := by simp
        rw [h0]
        simp only [hall2, if_true]
        exact wpAny_pure (wpAny_pure h)
theorem tups_sortable {a : Addr} {vs : List Value} {k : Value → List Int} (h2 : 2 ≤ vs.length) (hu : A.units < cLine) (hv : ∀ v ∈ vs, IsTI s.heap v (k v)) (ha : ∀ v ∈ vs, v ≠ .ref a) : SortableO prog w A s a vs (ltK k) := by
  intro h' keep
  have hv' : ∀ v ∈ vs, IsTI h' v (k v) := fun v hm => (hv v hm).keeps fun b o e g => keep b o (fun z => ha v hm (by rw [e, z])) g
  obtain ⟨κ, h3, h1⟩ := kind_any (prog := prog) (w := w) (A := A) (s := { s with heap := h' }) h2 hv'
  refine ⟨κ, h1, ?_⟩
  rcases h3 with e | e | e <;> subst e
  · exact cmp_tuples (s := { s with heap := h' }) hv'
  · exact cmp_general (s := { s with heap := h' }) hu hv'
  · exact cmp_one (s := { s with heap := h' }) hu hv'
theorem sorted_src {r : Value} {vs : List Value} {ltv : Value → Value → Bool} {Q : Value → Shared → Prop} (O : Swo ltv) (hz : vs.length ≤ sizeLine)
    (hc : ∀ (R : List Value → Shared → Prop) (E' : Value → Shared → Prop), (∀ h' tk, (∀ b o, s.heap.get? b = some o → h'.get? b = some o) → s.heap.objs.size ≤ h'.objs.size → R vs { s with heap := h', toks := tk }) → wpAny (model prog w) A.in1 (collect r) R E' s)
    (hS : 2 ≤ vs.length → ∀ (h₁ : Heap) (tk : Nat) (a : Addr), h₁.get? a = some (seqObj "list" vs.toArray 0) → (∀ b o, s.heap.get? b = some o → b ≠ a ∧ h₁.get? b = some o) → SortableO prog w A.in1.in1 { s with heap := h₁, toks := tk } a vs ltv)
    (h : ∀ (out : List Value) (d : Addr) (h' : Heap) (tk : Nat), Srtd ltv out → Stb ltv out vs → (∀ b o, s.heap.get? b = some o → h'.get? b = some o) → s.heap.objs.size ≤ d → (∃ n, h'.get? d = some (seqObj "list" out.toArray n)) → Q (.ref d) { s with heap := h', toks := tk }) :
    wpAny (model prog w) A (call (.builtin "sorted") [r]) Q E s := by
  refine Calls.call_function_entry kind_sorted plain_sorted entry_sorted (args_sorted1 _) ?_
  unfold Builtin.«sorted»
  refine wpAny_bind (m := checkCount "sorted" 1 1 _) (wpAny_pure ?_)
  refine wpAny_bind (hc _ _ fun h' tk keep hsz => ?_)
  refine wpAny_bind (wpAny_newList ?_ hz)
  have hoL : (h'.push (seqObj "list" vs.toArray 0)).get? h'.objs.size = some (seqObj "list" vs.toArray 0) := Heap.get?_push_size _ rfl
  have hle : ∀ b o, s.heap.get? b = some o → b < h'.objs.size := fun b o q => Heap.lt_size (keep b o q)
  have keep2 : ∀ b o, s.heap.get? b = some o → b ≠ h'.objs.size ∧ (h'.push (seqObj "list" vs.toArray 0)).get? b = some o := fun b o q => ⟨Nat.ne_of_lt (hle b o q), Heap.get?_push_of_some _ (keep b o q)⟩
  show wpAny _ _ _ _ _ { s with heap := h'.push (seqObj "list" vs.toArray 0), toks := tk }
  refine wpAny_bind (wpAny_holding (wpAny_call_entry (s := { s with heap := h'.push (seqObj "list" vs.toArray 0), toks := tk }) slot_list_sort ⟨_, hoL, rfl⟩ entry_list_sort (list_sort_ord (s := { s with heap := h'.push (seqObj "list" vs.toArray 0), toks := tk }) O hoL hz (fun h2 => hS h2 _ tk _ hoL keep2) fun out hs hb => ⟨_, rfl, ?_⟩) (args_list_sort _)))
  refine wpAny_pure ⟨_, rfl, h out _ _ tk hs hb (fun b o q => ?_) ?_ (sortedHeap_at hoL)⟩
  · rw [sortedHeap_old (keep2 b o q).1 (by rw [size_push']; exact Nat.lt_succ_of_lt (hle b o q))]
    exact (keep2 b o q).2
  · exact hsz
end
/-! the order of tuples -/
def leT (a b : List Int) : Bool := !HT.lexLt b a
def isortT (l : List (List Int)) : List (List Int) := l.mergeSort leT
theorem lex_total : ∀ a b : List Int, HT.lexLt a b = false → HT.lexLt b a = false → a = b
  | [], [], _, _ => rfl
  | [], y :: b, h, _ => by rw [HT.lexLt_nil_cons] at h; cases h
  | x :: a, [], _, h => by rw [HT.lexLt_nil_cons] at h; cases h
  | x :: a, y :: b, h1, h2 => by
    rw [HT.lexLt_cons] at h1 h2
    by_cases e : x = y
    · rw [if_pos e] at h1
      rw [if_pos e.symm] at h2
      rw [e, lex_total a b h1 h2]
    · rw [if_neg e] at h1
      rw [if_neg (Ne.symm e)] at h2
      have := of_decide_eq_false h1
      have := of_decide_eq_false h2
      omega
theorem leT_trans (a b c : List Int) (h1 : leT a b = true) (h2 : leT b c = true) : leT a c = true := by
  unfold leT at *
  rw [Bool.not_eq_true'] at *
  exact NtL.lex_tr a b c h1 h2
theorem leT_total (a b : List Int) : (leT a b || leT b a) = true := by
  unfold leT
  rw [Bool.or_eq_true, Bool.not_eq_true', Bool.not_eq_true']
  by_cases h : HT.lexLt b a = true
  · exact .inr (NtL.lex_asym _ _ h)
  · exact .inl (by simpa using h)
theorem isortT_perm (l : List (List Int)) : (isortT l).Perm l := List.mergeSort_perm _ _
theorem isortT_sorted (l : List (List Int)) : (isortT l).Pairwise fun a b => HT.lexLt b a = false := by
  have h := List.pairwise_mergeSort leT_trans leT_total l
  exact h.imp fun {a b} q => by unfold leT at q; simpa using q
theorem sortedT_unique : ∀ {l l' : List (List Int)}, l.Pairwise (fun a b => HT.lexLt b a = false) → l'.Pairwise (fun a b => HT.lexLt b a = false) → l.Perm l' → l = l'
  | [], l', _, _, p => (List.nil_perm.mp p).symm
  | x :: l, [], _, _, p => absurd p.symm (by simp)
  | x :: l, y :: l', h1, h2, p => by
    obtain ⟨a1, b1⟩ := List.pairwise_cons.mp h1
    obtain ⟨a2, b2⟩ := List.pairwise_cons.mp h2
    have e : x = y := by
      have hx := p.mem_iff.mp (List.mem_cons_self (a := x) (l := l))
      have hy := p.mem_iff.mpr (List.mem_cons_self (a := y) (l := l'))
      rcases List.mem_cons.mp hx with q | q
      · exact q
      · rcases List.mem_cons.mp hy with q' | q'
        · exact q'.symm
        · exact lex_total _ _ (a2 x q) (a1 y q')
    subst e
    rw [sortedT_unique b1 b2 (List.Perm.cons_inv p)]
theorem isortT_of {l m : List (List Int)} (p : l.Perm m) (h : l.Pairwise fun a b => HT.lexLt b a = false) : l = isortT m := sortedT_unique h (isortT_sorted m) (p.trans (isortT_perm m).symm)
theorem isortT_len (l : List (List Int)) : (isortT l).length = l.length := (isortT_perm l).length_eq
theorem isortT_mem {l : List (List Int)} {x : List Int} : x ∈ isortT l ↔ x ∈ l := (isortT_perm l).mem_iff
theorem swoK (k : Value → List Int) : Swo (ltK k) := NtL.swo_lexL k
/-! sorted of values that are tuples -/
/-- what the values vs are: places and tuples -/
def TupsAt (K : Frag) (H : Hp) (ps : List (Addr × List Int)) : Prop := ∀ x ∈ ps, SqT K H x.1 (x.2.map V.int)
section
variable {X : Cx} {pins : List (Addr × Obj)} {σ : L2.St} {H : Hp} {s : Shared}
theorem ti_of (I : Inv X pins σ H s) {b : Addr} {k : List Int} (h : SqT X.K H b (k.map V.int)) : IsTI s.heap (.ref b) k := by
  obtain ⟨jts, rw2, ht2, _⟩ := I.tuple h
  exact ⟨b, jts.toArray, rfl, ht2, by simpa using intsAre_of rw2⟩
/-- the key of a place -/
def keyAt (ps : List (Addr × List Int)) (v : Value) : List Int := match v with
  | .ref a => ((ps.find? fun x => decide (x.1 = a)).map (·.2)).getD []
  | _ => []
theorem keyAt_is (I : Inv X pins σ H s) : ∀ {ps : List (Addr × List Int)}, TupsAt X.K H ps → ∀ x ∈ ps, keyAt ps (.ref x.1) = x.2 := fun {ps} h x hx => by
  unfold keyAt
  have hs : (ps.find? fun y : Addr × List Int => decide (y.1 = x.1)).isSome = true := List.find?_isSome.mpr ⟨x, hx, decide_eq_true rfl⟩
  obtain ⟨y, hy⟩ := Option.isSome_iff_exists.mp hs
  have h1 := h y (List.mem_of_find?_eq_some hy)
  have h2 := h x hx
  have e : y.1 = x.1 := of_decide_eq_true (List.find?_some (p := fun y : Addr × List Int => decide (y.1 = x.1)) hy)
  show ((ps.find? fun y : Addr × List Int => decide (y.1 = x.1)).map (·.2)).getD [] = x.2
  rw [hy]
  show y.2 = x.2
  rw [e] at h1
  have := I.tuple_inj h1 h2
  exact List.map_inj_right (fun a b q => by cases q; rfl) |>.mp this
def SortQ (K : Frag) (H : Hp) (ps : List (Addr × List Int)) (Q : VK) : Prop := ∀ (qs : List (Addr × List Int)) (p : Addr), qs.Perm ps → qs.map (·.2) = isortT (ps.map (·.2)) → (∀ x ∈ qs, x.2.length ≤ sizeLine) → H p = none → Q (.ref p) (upd H p (.lst (qs.map fun x => V.ref x.1)))
theorem refs_vals : ∀ ps : List (Addr × List Int), Vals (ps.map fun x => V.ref x.1) (ps.map fun x => Value.ref x.1)
  | [] => .nil
  | _ :: r => .cons rfl (refs_vals r)
theorem map_perm0 {α β : Type} {f : α → β} {l l' : List β} (p : l.Perm l') : ∀ m : List α, l' = m.map f → ∃ m' : List α, List.Perm m' m ∧ m'.map f = l := by
  induction p with
  | nil => intro m e; cases m with | nil => exact ⟨[], .refl _, rfl⟩ | cons => cases e
  | cons x p ih =>
    intro m e
    cases m with
    | nil => cases e
    | cons a m =>
      injection e with e1 e2
      obtain ⟨m', h1, h2⟩ := ih m e2
      exact ⟨a :: m', h1.cons a, by rw [List.map_cons, h2, e1]⟩
  | swap x y l =>
    intro m e
    match m, e with
    | a :: b :: m, e =>
      injection e with e1 e2
      injection e2 with e2 e3
      exact ⟨b :: a :: m, .swap _ _ _, by rw [List.map_cons, List.map_cons, ← e1, ← e2, ← e3]⟩
  | trans p1 p2 ih1 ih2 =>
    intro m e
    obtain ⟨m2, h1, h2⟩ := ih2 m e
    obtain ⟨m3, h3, h4⟩ := ih1 m2 h2.symm
    exact ⟨m3, h3.trans h1, h4⟩
theorem map_perm {α β : Type} {f : α → β} {l : List β} {m : List α} (p : l.Perm (m.map f)) : ∃ m' : List α, List.Perm m' m ∧ m'.map f = l := map_perm0 p m rfl
/-- the walk: any source whose items are these places -/
theorem sorted_run {r : Value} {ps : List (Addr × List Int)} {Q : VK} (hu : X.A.units + 2 < cLine) (I : Inv X pins σ H s) (ht : TupsAt X.K H ps) (hz : ps.length ≤ sizeLine)
    (hc : ∀ (R : List Value → Shared → Prop) (E' : Value → Shared → Prop), (∀ h' tk, (∀ b o, s.heap.get? b = some o → h'.get? b = some o) → s.heap.objs.size ≤ h'.objs.size → R (ps.map fun x => Value.ref x.1) { s with heap := h', toks := tk }) → wpAny (model X.prog X.w) X.A.in1 (collect r) R E' s)
    (h : SortQ X.K H ps Q) : wpAny (model X.prog X.w) X.A (call (.builtin "sorted") [r]) (EP X pins σ Q) X.xe s := by
  refine sorted_src (swoK (keyAt ps)) (by rw [List.length_map]; exact hz) hc (fun h2 h₁ tk a _ keep => ?_) fun out d h' tk hs hb keep hd he => ?_
  · refine tups_sortable h2 (by show X.A.in1.in1.units < cLine; have : X.A.in1.in1.units = X.A.units + 2 := rfl; omega) (fun v hv => ?_) fun v hv e => ?_
    · obtain ⟨x, hx, rfl⟩ := List.mem_map.mp hv
      rw [keyAt_is I ht x hx]
      exact (ti_of I (ht x hx)).keeps fun b o _ e => (keep b o e).2
    · obtain ⟨x, hx, rfl⟩ := List.mem_map.mp hv
      obtain ⟨a', items, e', ⟨o, g, _⟩, _⟩ := ti_of I (ht x hx)
      cases e'
      cases e
      exact (keep _ _ g).1 rfl
  · obtain ⟨qs, hq1, hq2⟩ := map_perm hb.perm
    have hk : ∀ x ∈ qs, keyAt ps (.ref x.1) = x.2 := fun x hx => keyAt_is I ht x (hq1.mem_iff.mp hx)
    have hsrt : (qs.map (·.2)).Pairwise fun a b => HT.lexLt b a = false := by
      rw [← hq2] at hs
      have hs := List.pairwise_map.mp hs
      rw [List.pairwise_map]
      refine hs.imp_of_mem fun {a b} ha hb q => ?_
      have q : HT.lexLt (keyAt ps (.ref b.1)) (keyAt ps (.ref a.1)) = false := q
      rw [hk a ha, hk b hb] at q
      exact q
    have hlen : (qs.map fun x => V.ref x.1).length ≤ sizeLine := by rw [List.length_map, hq1.length_eq]; exact hz
    obtain ⟨n, he⟩ := he
    refine ⟨.ref d, _, I.laid (t' := tk) (o := .lst (qs.map fun x => V.ref x.1)) keep hd ⟨hlen, _, n, refs_vals qs, ?_⟩, rfl, h qs d hq1 (isortT_of (hq1.map _) hsrt) (fun x hx => by
      obtain ⟨_, _, _, hz⟩ := I.tuple (ht x (hq1.mem_iff.mp hx))
      rwa [List.length_map] at hz) (I.hok.fresh hd)⟩
    rw [hq2]
    exact he
end
/-! the items of a source -/
section
variable {prog : Program} {w : World} {A : Around} {E : Value → Shared → Prop} {s : Shared}
theorem collect_dct {r d : Addr} {T : String} {n : Nat} {P : Nat → Value → Prop} {OK : Heap → Prop} {R : List Value → Shared → Prop} (K : KdlSrc prog w T r d n P OK) (hh : A.handled = none) (hok : OK s.heap) (hn : n ≤ sizeLine)
    (h : ∀ (h' : Heap) (tk : Nat) (acc : Array Value), (∀ b o, s.heap.get? b = some o → h'.get? b = some o) → s.heap.objs.size ≤ h'.objs.size → ItemsOf P acc n → R acc.toList { s with heap := h', toks := tk }) : wpAny (model prog w) A (collect (.ref r)) R E s := by
  have hlt := K.there _ hok
  have push : ∀ b o, s.heap.get? b = some o → (s.heap.push { cls := .type "list", data := .seq ([] : List Value).toArray }).get? b = some o := fun b o e => Heap.get?_push_of_some _ e
  have last : (s.heap.push { cls := .type "list", data := .seq ([] : List Value).toArray }).get? s.heap.objs.size = some { cls := .type "list", data := .seq #[] } := Heap.get?_push_size _ rfl
  have done : ∀ (h' : Heap) (tk : Nat) (acc : Array Value) (c : Nat), (∀ b o, b ≠ s.heap.objs.size → (s.heap.push { cls := .type "list", data := .seq ([] : List Value).toArray }).get? b = some o → h'.get? b = some o) →
      h'.get? s.heap.objs.size = some { cls := .type "list", dict := none, data := .seq acc c, slots := #[] } → ItemsOf P acc n → wpAny (model prog w) A (load s.heap.objs.size >>= fun o => match o.data with
        | .seq xs _ => pure xs.toList
        | _ => unsupported "internal:collect") R E { s with heap := h', toks := tk } := fun h' tk acc c k g it =>
    wpAny_bind (wpAny_load g (wpAny_pure (h h' tk acc (fun b o e => k b o (Nat.ne_of_lt (Heap.lt_size e)) (push b o e)) (Nat.le_of_lt (Heap.lt_size g)) it)))
  unfold collect
  refine wpAny_bind (wpAny_runValue (codeAny_builtin entry_proto_collect' ?_))
  rw [Around.under_plainId PySem.F.plain_proto_collect _]
  refine wpAny_bind (m := newList []) (wpAny_newObj_type ?_)
  refine wpAny_pure ⟨plainId_quiet PySem.F.plain_list_iadd _, codeAny_builtin entry_list_iadd' ?_⟩
  rw [Around.under_plainId PySem.F.plain_list_iadd _]
  have key := kdl_extend (A := A) (s := { s with heap := s.heap.push { cls := .type "list", data := .seq ([] : List Value).toArray } })
    (R := fun (q : Result) (s' : Shared) => q = .ok (.ret (.ref s.heap.objs.size)) ∧ wpAny (model prog w) A (load s.heap.objs.size >>= fun o => match o.data with
        | .seq xs _ => pure xs.toList
        | _ => unsupported "internal:collect") R E s') K hh (K.keep _ _ hok fun b _ o e => push b o e) s.heap.objs.size (Nat.ne_of_gt hlt.1) (Nat.ne_of_gt hlt.2) (.ref s.heap.objs.size) 0 last
    (fun h' tk acc c k g it => ⟨rfl, done h' tk acc c k g it⟩) hn
  refine wpAny_mono (t := Builtin.List.listExtendWith (.ref s.heap.objs.size) (.ref r) (.ref s.heap.objs.size)) key (fun fin s' x => ?_) fun e s' x => ?_
  · cases fin with
    | done f =>
      obtain ⟨e, x⟩ := x
      cases e
      exact x
    | again c₁ => exact ⟨x.1, codeAny_mono x.2 fun q s₂ ⟨e, y⟩ => by
        subst e
        exact y⟩
  · cases x.1
end
/-! the calls -/
section
variable {X : Cx}
theorem cr_sortedTs (hu : X.A.units + 2 < cLine) : CallR X (.builtin "sorted") (fun vs H Q => ∃ a ps, vs = [V.ref a] ∧ (SqL X.K H a (ps.map fun x => V.ref x.1) ∨ SqT X.K H a (ps.map fun x => V.ref x.1)) ∧ TupsAt X.K H ps ∧ SortQ X.K H ps Q) := by
  intro pins s σ H vs us Q I r h
  obtain ⟨a, ps, rfl, hs, ht, q⟩ := h
  rw [Vals.ref1 r]
  rcases hs with hs | hs
  · obtain ⟨its, rv, hl, hz⟩ := I.list hs
    have e : its = ps.map fun x => Value.ref x.1 := by
      have rv2 : Vals ((ps.map (·.1)).map V.ref) its := by rw [List.map_map]; exact rv
      rw [refs_at rv2, List.map_map]
      rfl
    subst e
    rw [List.length_map] at hz
    refine sorted_run hu I ht hz (fun R E' k => ?_) q
    refine collect_list hl.isList (k _ _ (fun b o g => ?_) ?_) (by rw [List.length_map]; exact hz)
    · rw [Heap.get?_update_ne _ _ _ _ (Nat.ne_of_lt (Heap.lt_size g))]
      exact Heap.get?_push_of_some _ g
    · rw [Heap.size_update, size_push']; exact Nat.le_succ _
  · obtain ⟨its, rv, hl, hz⟩ := I.tuple hs
    have e : its = ps.map fun x => Value.ref x.1 := by
      have rv2 : Vals ((ps.map (·.1)).map V.ref) its := by rw [List.map_map]; exact rv
      rw [refs_at rv2, List.map_map]
      rfl
    subst e
    rw [List.length_map] at hz
    refine sorted_run hu I ht hz (fun R E' k => ?_) q
    refine collect_tup hl (k _ _ (fun b o g => ?_) ?_) (by rw [List.length_map]; exact hz)
    · rw [Heap.get?_update_ne _ _ _ _ (Nat.ne_of_lt (Heap.lt_size g))]
      exact Heap.get?_push_of_some _ g
    · rw [Heap.size_update, size_push']; exact Nat.le_succ _
theorem zip_refs : ∀ {xs : List KX} {its : List Value}, Vals (xs.map (·.2.2)) its → (zipX xs its).map (fun y => Value.ref y.2.1) = xs.map fun x => Value.ref x.2.1
  | [], _, _ => rfl
  | x :: xs, _, r => by
    rw [List.map_cons] at r
    cases r with
    | cons h t =>
      show Value.ref x.2.1 :: (zipX xs _).map _ = Value.ref x.2.1 :: xs.map _
      rw [zip_refs t]
theorem cr_sortedTk (hc : X.calm = true) (hu : X.A.units + 2 < cLine) : CallR X (.builtin "sorted") (fun vs H Q => ∃ p xs, vs = [V.ref p] ∧ H p = some (tkO p xs) ∧ xs.length ≤ sizeLine ∧ KeysOk X.K H xs ∧ SortQ X.K H (xs.map fun x => (x.2.1, x.1)) Q) := by
  intro pins s σ H vs us Q I r h
  obtain ⟨p, xs, rfl, e, hz, hk, q⟩ := h
  rw [Vals.ref1 r]
  obtain ⟨lo, its, rv, o, es, ep, g, c, dd, hes, _, _⟩ := tk_rd I e hk
  have hl : es.size = xs.length := by rw [← Array.length_toList, hes, List.length_map, zipX_len rv]
  refine sorted_run hu I (fun y hy => ?_) (by rw [List.length_map]; exact hz) (fun R E' k => ?_) q
  · obtain ⟨x, hx, rfl⟩ := List.mem_map.mp hy
    exact hk x hx
  · refine collect_dct (A := X.A.in1) (kdl_raw lo c dd) (I.ok.hd hc) g (by rw [hl]; exact hz) fun h' tk acc keep hs it => ?_
    have ea : acc.toList = (xs.map fun x => (x.2.1, x.1)).map fun y : Addr × List Int => Value.ref y.1 := by
      rw [List.map_map]
      show acc.toList = xs.map fun x => Value.ref x.2.1
      rw [← zip_refs rv]
      have ll : acc.toList.length = (zipX xs its).length := by rw [Array.length_toList, it.1, hl, zipX_len rv]
      refine List.ext_getElem (by rw [ll, List.length_map]) fun i h1 h2 => ?_
      obtain ⟨en, hen, hv⟩ := it.2 i acc.toList[i] (by rw [← Array.getElem?_toList]; exact List.getElem?_eq_getElem h1)
      have h3 : i < (zipX xs its).length := by rw [← ll]; exact h1
      rw [← Array.getElem?_toList, hes, List.getElem?_map, List.getElem?_eq_getElem h3] at hen
      have hen := Option.some.inj hen
      rw [List.getElem_map, hv, ← hen]
      rfl
    rw [ea]
    exact k h' tk keep hs
end
/-! of data -/
theorem drs_tups {K : Frag} {F : Hp} : ∀ {xs : List (List Int)} {vs : List V}, DRs K F vs (xs.map tupI) → ∃ ps : List (Addr × List Int), vs = ps.map (fun x => V.ref x.1) ∧ ps.map (·.2) = xs ∧ TupsAt K F ps
  | [], _, .nil => ⟨[], rfl, rfl, fun _ z => nomatch z⟩
  | x :: xs, _, .cons h t => by
    obtain ⟨ps, e1, e2, e3⟩ := drs_tups t
    obtain ⟨b, e, hb⟩ := drT h
    subst e1 e
    refine ⟨(b, x) :: ps, rfl, by rw [List.map_cons, e2], fun y hy => ?_⟩
    rcases List.mem_cons.mp hy with z | z
    · subst z; exact hb
    · exact e3 y z
theorem tups_drs {K : Frag} {F : Hp} : ∀ {qs : List (Addr × List Int)}, TupsAt K F qs → (∀ x ∈ qs, x.2.length ≤ sizeLine) → DRs K F (qs.map fun x => V.ref x.1) ((qs.map (·.2)).map tupI)
  | [], _, _ => .nil
  | q :: qs, h, hz => .cons (.tup (h q List.mem_cons_self) (by rw [List.length_map]; exact hz q List.mem_cons_self) (DRs.of_ints q.2)) (tups_drs (fun x hx => h x (List.mem_cons_of_mem _ hx)) fun x hx => hz x (List.mem_cons_of_mem _ hx))
theorem TupsAt.mono {K : Frag} {F F' : Hp} (l : Le F F') {ps : List (Addr × List Int)} (h : TupsAt K F ps) : TupsAt K F' ps := fun x hx => le_t l (h x hx)
theorem sortq_of {K : Frag} {G F H : Hp} {σ : L2.St} {env : Ev} {ps : List (Addr × List Int)} {Q : VK} (S : St K G F σ H env) (ht : TupsAt K F ps) (hz : ps.length ≤ sizeLine) (q : ∀ v H', RR K G F σ H' v (.new (.lst none ((isortT (ps.map (·.2))).map tupI))) env → Q v H') : SortQ K H ps Q := fun qs p hq e hl hn => by
  refine q _ _ (S.consNew hn fun f g => ⟨p, _, rfl, (fun _ z => nomatch z), upd_same, by rw [List.length_map, hq.length_eq]; exact hz, ?_, f, g⟩)
  rw [← e]
  exact tups_drs (fun x hx => ht x (hq.mem_iff.mp hx)) hl
section
variable {X : Cx} {env env1 : Ev} {e : Expr} {p pos : Pos} {R : Rs} {i : Nat} {pin : Option Addr} {kvs : List (List Int × D)} {xs : List (List Int)} {y : D}
/-- sorted of a list or a tuple of tuples of ints -/
theorem ev_sortedTs (B : Blt X.mg) (hu : X.A.units + 2 < cLine) (h : EV X e env R env1) (w : vw (Pd.fz R) env1 = some y) (hy : seqD y = some (xs.map tupI)) (hg : Gl X "sorted" := by rfl) (he : starEach (e :: []) X.env = (false, eval e X.env) :: starEach [] X.env := by rfl) (hpl : (backTo pos (starEach [] X.env)).any (·.1) = false := by rfl) :
    EV X (.Call (.Name "sorted" p) [e] [] pos) env (.new (.lst none ((isortT xs).map tupI))) env1 :=
  ev_b1 (cr_sortedTs hu) B.sorted_ bt_sorted h (fun G F σ H env v Q S hv q => by
    rcases seqD_or hy with e | e <;> subst e
    · obtain ⟨a, vs, rfl, ha, hz, hr⟩ := hv.lst S.kf
      obtain ⟨ps, e1, e2, e3⟩ := drs_tups hr
      subst e1 e2
      rw [List.length_map] at hz
      exact ⟨a, ps, rfl, .inl (.of ha), e3.mono S.kf, sortq_of S e3 hz fun v H' r => q F v H' (Ext.refl G F) r⟩
    · obtain ⟨a, vs, rfl, ha, hz, hr⟩ := hv.tup S.kf
      obtain ⟨ps, e1, e2, e3⟩ := drs_tups hr
      subst e1 e2
      rw [List.length_map] at hz
      exact ⟨a, ps, rfl, .inr ha, e3.mono S.kf, sortq_of S e3 hz fun v H' r => q F v H' (Ext.refl G F) r⟩) w hg (by decide) (by decide) he hpl
theorem td_tups {K : Frag} {F : Hp} {xs : List KX} {kvs : List (List Int × D)} (h : TD K F xs kvs) : TupsAt K F (xs.map fun x => (x.2.1, x.1)) ∧ (xs.map fun x => ((x.2.1, x.1) : Addr × List Int)).map (·.2) = keysT kvs := by
  refine ⟨fun y hy => ?_, by rw [List.map_map, ← h.keys]; rfl⟩
  obtain ⟨x, hx, rfl⟩ := List.mem_map.mp hy
  exact h.ok (Le.refl F) x hx
/-- sorted(d) -/
theorem ev_sortedTp (B : Blt X.mg) (hc : X.calm = true) (hu : X.A.units + 2 < cLine) (h : EV X e env (.ptr i) env1) (g : ge env1 i = .dt pin kvs) (hg : Gl X "sorted" := by rfl) (he : starEach (e :: []) X.env = (false, eval e X.env) :: starEach [] X.env := by rfl) (hpl : (backTo pos (starEach [] X.env)).any (·.1) = false := by rfl) :
    EV X (.Call (.Name "sorted" p) [e] [] pos) env (.new (.lst none ((isortT (keysT kvs)).map tupI))) env1 :=
  PE.wk (pe_callB (cr_sortedTk hc hu) hg B.sorted_ bt_sorted (pa_cons h pa_nil he) (by decide) (by decide) he hpl) fun σ H Q ⟨G, F, S, q⟩ => ⟨G, F, S, fun F1 v H1 x1 r1 => by
    obtain ⟨p, xs, e1, hpin, hp, z, kd, f, g'⟩ := r1.2.dtS g
    rw [r1.1] at e1
    cases e1
    obtain ⟨t1, t2⟩ := td_tups kd
    refine ⟨p, xs, rfl, hp, z, kd.ok r1.2.kf, sortq_of r1.2 t1 (by rw [List.length_map]; exact z) fun v H' r => ?_⟩
    rw [t2] at r
    exact q F1 v H' x1 r⟩
theorem ev_sortedTn (B : Blt X.mg) (hc : X.calm = true) (hu : X.A.units + 2 < cLine) (h : EV X e env (.new (.dt pin kvs)) env1) (hg : Gl X "sorted" := by rfl) (he : starEach (e :: []) X.env = (false, eval e X.env) :: starEach [] X.env := by rfl) (hpl : (backTo pos (starEach [] X.env)).any (·.1) = false := by rfl) :
    EV X (.Call (.Name "sorted" p) [e] [] pos) env (.new (.lst none ((isortT (keysT kvs)).map tupI))) env1 :=
  PE.wk (pe_callB (cr_sortedTk hc hu) hg B.sorted_ bt_sorted (pa_cons h pa_nil he) (by decide) (by decide) he hpl) fun σ H Q ⟨G, F, S, q⟩ => ⟨G, F, S, fun F1 v H1 x1 r1 => by
    obtain ⟨p, xs, e1, hpin, hp, z, kd, f, g'⟩ := St.dtS (i := 0) r1 rfl
    have e1' : some v = some (V.ref p) := e1
    cases e1'
    obtain ⟨t1, t2⟩ := td_tups kd
    refine ⟨p, xs, rfl, hp, z, kd.ok (St.kf r1), sortq_of (St.tail r1) t1 (by rw [List.length_map]; exact z) fun v H' r => ?_⟩
    rw [t2] at r
    exact q F1 v H' x1 r⟩
end
end Pd
set_option Elab.async false
set_option linter.all false
set_option maxRecDepth 100000
set_option maxHeartbeats 4000000
/-! dict(pairs) with keys that are tuples of ints; sorted(d), keys ints, any number of them -/
namespace Pd
open PySem PySem.Spec PyProof.Rows L2
def mergeX (xs more : List KX) : List KX := more.foldl (fun acc x => putX acc x.1 x.2.1 x.2.2) xs
def mergeT (kvs more : List (List Int × D)) : List (List Int × D) := more.foldl (fun acc x => putD acc x.1 x.2) kvs
theorem all_zip : ∀ {more : List KX} {its : List Value}, Vals (more.map (·.2.2)) its → ∀ {acc : List KX} {ita : List Value}, Vals (acc.map (·.2.2)) ita → ∃ its', Vals ((mergeX acc more).map (·.2.2)) its' ∧ PySem.storedAllH (zipX acc ita) (zipX more its) = zipX (mergeX acc more) its'
  | [], _, _, acc, ita, ra => ⟨ita, ra, rfl⟩
  | x :: more, _, r, acc, ita, ra => by
    rw [List.map_cons] at r
    cases r with
    | @cons v u vs us h t =>
      obtain ⟨i1, r1, e1⟩ := stored_zip ra x.1 x.2.1 h
      obtain ⟨i2, r2, e2⟩ := all_zip t r1
      refine ⟨i2, r2, ?_⟩
      have e : PySem.storedAllH (zipX acc ita) (zipX (x :: more) (u :: us)) = PySem.storedAllH (PySem.storedH (zipX acc ita) x.1 x.2.1 u) (zipX more us) := rfl
      rw [e, e1, e2]
      rfl
theorem mergeX_len : ∀ more acc : List KX, (mergeX acc more).length ≤ acc.length + more.length
  | [], acc => Nat.le_refl _
  | x :: more, acc => by
    have h1 := mergeX_len more (putX acc x.1 x.2.1 x.2.2)
    have h2 := putX_len acc x.1 x.2.1 x.2.2
    have e : mergeX acc (x :: more) = mergeX (putX acc x.1 x.2.1 x.2.2) more := rfl
    rw [e, List.length_cons]
    omega
theorem TD.merge {K : Frag} {F : Hp} : ∀ {more : List KX} {md : List (List Int × D)}, TD K F more md → ∀ {acc : List KX} {ad : List (List Int × D)}, TD K F acc ad → TD K F (mergeX acc more) (mergeT ad md)
  | [], [], _, _, _, ha => ha
  | x :: more, q :: md, .cons h t, acc, ad, ha => by
    have e1 : mergeX acc (x :: more) = mergeX (putX acc x.1 x.2.1 x.2.2) more := rfl
    have e2 : mergeT ad (q :: md) = mergeT (putD ad q.1 q.2) md := rfl
    rw [e1, e2, ← h.1]
    exact TD.merge t (ha.put h.2.1 h.2.2)
def prX (r : Pr) : KX := (r.ks, r.q, r.x)
def PrOk (K : Frag) (H : Hp) (L : List Pr) : Prop := ∀ r ∈ L, SqT K H r.t [.ref r.q, r.x] ∧ SqT K H r.q (r.ks.map V.int)
theorem prs_at {X : Cx} {pins : List (Addr × Obj)} {σ : L2.St} {H : Hp} {s : Shared} (I : Inv X pins σ H s) : ∀ L : List Pr, PrOk X.K H L →
    ∃ its : List Value, Vals ((L.map prX).map (·.2.2)) its ∧ its.length = L.length ∧ ∀ (j : Nat) (y : List Int × Addr × Value), (zipX (L.map prX) its)[j]? = some y → ∃ r, L[j]? = some r ∧ IsTup s.heap r.t #[.ref y.2.1, y.2.2] ∧ y.1 = r.ks ∧ y.2.1 = r.q
  | [], _ => ⟨[], .nil, rfl, fun j y e => by simp [zipX] at e⟩
  | r :: L, h => by
    obtain ⟨its, h1, h2, h3⟩ := prs_at I L fun x hx => h x (List.mem_cons_of_mem _ hx)
    obtain ⟨a1, a2⟩ := h r List.mem_cons_self
    obtain ⟨jts, rv, ht, _⟩ := I.tuple a1
    obtain ⟨u, y, ei, ru, ry⟩ := vals2 rv
    subst ei
    cases (show u = Value.ref r.q from ru)
    refine ⟨y :: its, .cons ry h1, by rw [List.length_cons, List.length_cons, h2], fun j z e => ?_⟩
    cases j with
    | zero =>
      have e' : (r.ks, r.q, y) = z := Option.some.inj e
      subst e'
      exact ⟨r, rfl, ht, rfl, rfl⟩
    | succ j =>
      obtain ⟨r', e1, e2⟩ := h3 j z e
      exact ⟨r', by simpa using e1, e2⟩
def rDictK (K : PySem.W.Frag) : List V → Hp → VK → Prop := fun xs H Q => ∃ (a : Addr) (L : List Pr), xs = [.ref a] ∧ SqL K H a (L.map fun r => V.ref r.t) ∧ PrOk K H L ∧ ∀ p, H p = none → L.length ≤ sizeLine → Q (.ref p) (upd H p (tkO p (mergeX [] (L.map prX))))
theorem call_dictK {X : Cx} (hcalm : X.calm = true) (hu : X.A.units + 2 < cLine) : CallR X (.type "dict") (rDictK X.K) := by
  intro pins s σ H xs us Q I r q
  obtain ⟨a, L, ex, hq, hL, q⟩ := q
  subst ex
  obtain ⟨u, eu, rx⟩ := vals1 r
  subst eu
  cases rx
  obtain ⟨its, rv, pl, hz⟩ := I.list hq
  obtain ⟨vs, k1, k2, k3⟩ := prs_at I L hL
  obtain ⟨o, n, ho, hc, hd, hdat⟩ := pl
  have eits : its = L.map fun r => Value.ref r.t := by
    have rv2 : Vals ((L.map (·.t)).map V.ref) its := by rw [List.map_map]; exact rv
    rw [refs_at rv2, List.map_map]
    rfl
  have lz : (zipX (L.map prX) vs).length = L.length := by rw [zipX_len k1, List.length_map]
  have lp : ((zipX (L.map prX) vs).map fun y => (Value.ref y.2.1, y.2.2)).length = L.length := by rw [List.length_map, lz]
  have P := PySem.PairArg.list (prog := X.prog) (w := X.w) a its.toArray (fun j => ((L[j]?).map (·.t)).getD 0) ((zipX (L.map prX) vs).map fun y => (Value.ref y.2.1, y.2.2))
  have ok : PySem.PlainSeq "list" s.heap a its.toArray ∧ PySem.PairItems s.heap its.toArray (fun j => ((L[j]?).map (·.t)).getD 0) ((zipX (L.map prX) vs).map fun y => (Value.ref y.2.1, y.2.2)) := by
    refine ⟨⟨o, n, ho, hc, hd, hdat⟩, ?_, fun j k v hj => ?_⟩
    · rw [lp, eits, List.size_toArray, List.length_map]
    · rw [List.getElem?_map] at hj
      cases hy : (zipX (L.map prX) vs)[j]? with
      | none => rw [hy] at hj; cases hj
      | some y =>
        rw [hy] at hj
        have hj := Option.some.inj hj
        obtain ⟨r, hr, h1, _, _⟩ := k3 j y hy
        have e1 := (Prod.mk.inj hj).1
        have e2 := (Prod.mk.inj hj).2
        subst e1 e2
        have et : (fun j => ((L[j]?).map (·.t)).getD 0) j = r.t := by
          show ((L[j]?).map (·.t)).getD 0 = r.t
          rw [hr]
          rfl
        rw [et]
        refine ⟨?_, .inl h1⟩
        rw [eits, List.getElem?_toArray, List.getElem?_map, hr]
        rfl
  have keys : ∀ (j : Nat) (y : List Int × Addr × Value), (zipX (L.map prX) vs)[j]? = some y → (PySem.tupleKind (PySem.intKind X.prog X.w)).is s.heap y.1 y.2.1 := fun j y hy => by
    obtain ⟨r, hr, _, e1, e2⟩ := k3 j y hy
    rw [e1, e2]
    exact key_ints I (hL r (List.mem_of_getElem? hr)).2
  have hhave : PySem.PairsHaveH (PySem.tupleKind (PySem.intKind X.prog X.w)) ((zipX (L.map prX) vs).map fun y => (Value.ref y.2.1, y.2.2)).length (PySem.PairRel ((zipX (L.map prX) vs).map fun y => (Value.ref y.2.1, y.2.2))) (zipX (L.map prX) vs) := by
    refine ⟨by rw [List.length_map], fun i k v h => ?_⟩
    have h : ((zipX (L.map prX) vs).map fun y => (Value.ref y.2.1, y.2.2))[i]? = some (k, v) := h
    rw [List.getElem?_map] at h
    cases hy : (zipX (L.map prX) vs)[i]? with
    | none => rw [hy] at h; cases h
    | some y =>
      rw [hy] at h
      have h := Option.some.inj h
      exact ⟨y.1, y.2.1, by rw [← (Prod.mk.inj h).2], (Prod.mk.inj h).1.symm⟩
  have hstay : PySem.KeysStay (PySem.tupleKind (PySem.intKind X.prog X.w)) s.heap s.heap.objs.size [] (zipX (L.map prX) vs) := fun h' hk x hx => by
    obtain ⟨j, hj⟩ := List.getElem?_of_mem hx
    obtain ⟨o2, it2, n2, g2, rest⟩ := keys j x hj
    exact ⟨o2, it2, n2, hk _ _ (Nat.ne_of_lt (Heap.lt_size g2)) (by simp) g2, rest⟩
  have hz2 : L.length ≤ sizeLine := by rw [List.length_map] at hz; exact hz
  refine PySem.call_dict_pairsH (knd := PySem.tupleKind (PySem.intKind X.prog X.w)) (ps := zipX (L.map prX) vs) P (I.ok.hd hcalm) (by show X.A.in1.in1.units < cLine; have : X.A.in1.in1.units = X.A.units + 2 := rfl; omega) ok hhave hstay (by rw [lp]; exact hz2) fun h' tk hd' hk => ?_
  have hm : (s.heap.objs.size == sysModules) = false := beq_eq_false_iff_ne.mpr (Nat.ne_of_gt I.big)
  have hk2 : ∀ b o, s.heap.get? b = some o → h'.get? b = some o := fun b o e => hk b o (by simp) e
  obtain ⟨i2, r2, e2⟩ := all_zip k1 (acc := []) (ita := []) .nil
  have hd2 : h'.DictOfH (PySem.tupleKind (PySem.intKind X.prog X.w)) s.heap.objs.size (zipX (mergeX [] (L.map prX)) i2) := by
    rw [← e2]
    exact hd'
  exact ⟨.ref s.heap.objs.size, _, I.laid (t' := tk) hk2 (Nat.le_refl _) (tk_ok hm r2 hd2), rfl, q _ (I.hok.fresh (Nat.le_refl _)) hz2⟩
theorem drs_prs {K : Frag} {F : Hp} : ∀ {vs : List V} {kvs : List (List Int × D)}, DRs K F vs (kvs.map fun y => PyData.tuple [tupI y.1, y.2]) → ∃ L : List Pr, vs = L.map (fun r => V.ref r.t) ∧ TD K F (L.map prX) kvs ∧ PrOk K F L
  | _, [], .nil => ⟨[], rfl, .nil, fun _ z => nomatch z⟩
  | _, y :: kvs, .cons h t => by
    obtain ⟨L, e1, e2, e3⟩ := drs_prs t
    subst e1
    cases h with
    | tup ha hz hr =>
      rename_i p xs
      cases hr with
      | cons h1 hr =>
        cases hr with
        | cons h2 hr =>
          cases hr
          rename_i v1 v2
          obtain ⟨b, eb, hb⟩ := drT h1
          subst eb
          refine ⟨⟨p, b, y.1, v2⟩ :: L, rfl, .cons ⟨rfl, hb, h2⟩ e2, fun r hr => ?_⟩
          rcases List.mem_cons.mp hr with z | z
          · subst z; exact ⟨ha, hb⟩
          · exact e3 r z
section
variable {X : Cx} {env env1 : Ev} {e : Expr} {p pos : Pos} {R : Rs} {i : Nat} {pin : Option Addr} {β : Type} {xs : List (List Int × β)} {g : β → D}
/-- dict([(k, v), ..]), keys tuples of ints -/
theorem ev_dictT (B : Blt X.mg) (hc : X.calm = true) (hu : X.A.units + 2 < cLine) (h : EV X e env R env1) (w : Pd.fz R = .val (.list (xs.map (prG tupI g)))) (hg : Gl X "dict" := by rfl) (he : starEach (e :: []) X.env = (false, eval e X.env) :: starEach [] X.env := by rfl) (hpl : (backTo pos (starEach [] X.env)).any (·.1) = false := by rfl) :
    EV X (.Call (.Name "dict" p) [e] [] pos) env (.new (.dt none (mergeT [] (xs.map fun q => (q.1, g q.2))))) env1 :=
  PE.wk (pe_callTy (call_dictK hc hu) hg B.dict_ bt_dict (pa_cons h pa_nil he) (by decide) (by decide) he hpl) fun σ H Q ⟨G, F, S, q⟩ => ⟨G, F, S, fun F1 v H1 x1 r1 => by
    obtain ⟨F2, x2, r2⟩ := r1.fz
    rw [w] at r2
    obtain ⟨r2, S2⟩ := r2
    have e0 : xs.map (prG tupI g) = (xs.map fun q => (q.1, g q.2)).map fun y => PyData.tuple [tupI y.1, y.2] := by
      rw [List.map_map]
      rfl
    rw [e0] at r2
    cases r2 with
    | lst ha hz hr =>
      rename_i a vs
      obtain ⟨L, e1, e2, e3⟩ := drs_prs hr
      subst e1
      refine ⟨a, L, rfl, .of (S2.kf _ _ ha), fun r hr => ⟨le_t S2.kf (e3 r hr).1, le_t S2.kf (e3 r hr).2⟩, fun l hl hz2 => ?_⟩
      have m := TD.merge e2 (acc := []) (ad := []) (.nil : TD X.K F2 [] [])
      refine q F2 _ _ (x1.trans x2) (S2.consNew hl fun f g => ⟨l, _, rfl, (fun _ z => nomatch z), upd_same, ?_, m, f, g⟩)
      have := mergeX_len (L.map prX) []
      rw [List.length_nil, List.length_map] at this
      omega⟩
end
/-- the keys of what is merged: the different ones -/
theorem keys_merge {β : Type} (g : β → D) : ∀ (xs : List (List Int × β)) (acc : List (List Int × D)), keysT (mergeT acc (xs.map fun q => (q.1, g q.2))) = ddT (keysT acc) (xs.map (·.1))
  | [], acc => rfl
  | x :: xs, acc => by
    have e1 : mergeT acc ((x :: xs).map fun q => (q.1, g q.2)) = mergeT (putD acc x.1 (g x.2)) (xs.map fun q => (q.1, g q.2)) := rfl
    rw [e1, keys_merge g xs, List.map_cons, ddT]
    congr 1
    have e : (acc.any fun kv => decide (kv.1 = x.1)) = decide (x.1 ∈ keysT acc) := by
      unfold keysT
      rw [Bool.eq_iff_iff, decide_eq_true_iff, List.any_eq_true, List.mem_map]
      exact ⟨fun ⟨y, hy, e⟩ => ⟨y, hy, of_decide_eq_true e⟩, fun ⟨y, hy, e⟩ => ⟨y, hy, decide_eq_true e⟩⟩
    unfold putD
    rw [e]
    by_cases q : x.1 ∈ keysT acc
    · rw [decide_eq_true q, if_pos rfl, if_pos q]
      unfold keysT
      rw [List.map_map]
      refine List.map_congr_left fun y _ => ?_
      show (if y.1 = x.1 then (y.1, g x.2) else y).1 = y.1
      split <;> rfl
    · rw [decide_eq_false q, if_neg (by decide), if_neg q]
      unfold keysT
      rw [List.map_append]
      rfl
/-- what sorted(dict([(k, ..) for ..])) gives -/
def kindT (l : List (List Int)) : List (List Int) := isortT (ddT [] l)
section
variable {X : Cx} {env env1 : Ev} {e : Expr} {p p2 pos pos2 : Pos} {R : Rs} {β : Type} {xs : List (List Int × β)} {g : β → D}
/-- sorted(dict([(k, v), ..])) -/
theorem cv_sortDT (B : Blt X.mg) (hc : X.calm = true) (hu : X.A.units + 2 < cLine) (h : EV X e env R env1) (w : Pd.fz R = .val (.list (xs.map (prG tupI g)))) (hg : Gl X "sorted" := by rfl) (hg2 : Gl X "dict" := by rfl) (he : starEach (e :: []) X.env = (false, eval e X.env) :: starEach [] X.env := by rfl) (hpl : (backTo pos2 (starEach [] X.env)).any (·.1) = false := by rfl)
    (he2 : starEach (Expr.Call (.Name "dict" p2) [e] [] pos2 :: []) X.env = (false, eval (Expr.Call (.Name "dict" p2) [e] [] pos2) X.env) :: starEach [] X.env := by rfl) (hpl2 : (backTo pos (starEach [] X.env)).any (·.1) = false := by rfl) :
    EV X (.Call (.Name "sorted" p) [.Call (.Name "dict" p2) [e] [] pos2] [] pos) env (.new (.lst none ((kindT (xs.map (·.1))).map tupI))) env1 := by
  have r := ev_sortedTn (pos := pos) (p := p) B hc hu (ev_dictT (pos := pos2) (p := p2) B hc hu h w hg2 he hpl) hg he2 hpl2
  rw [keys_merge] at r
  exact r
end
end Pd
set_option Elab.async false
set_option linter.all false
set_option maxRecDepth 100000
set_option maxHeartbeats 4000000
/-! sorted(d), keys ints, any number of them -/
namespace Pd
open PySem PySem.Spec PyProof.Rows L2 Srt SrtO
theorem kv_ints : ∀ {vs : List (Key × V)} {us : List (Key × Value)} {ks : List Int}, KV vs us → vs.map (·.1) = ks.map Sum.inl → us.map (·.1) = ks.map Sum.inl
  | [], _, ks, .nil, h => h
  | p :: vs, _, [], .cons h t, e => by cases e
  | p :: vs, _, k :: ks, .cons h t, e => by
    injection e with e1 e2
    rw [List.map_cons, List.map_cons, kv_ints t e2, ← h.1]
    exact congrArg (· :: _) e1
theorem int_keys {prog : Program} {w : World} : ∀ {es : List DictEntry} {us : List (Key × Value)} {ks : List Int}, Pairs (mixKind prog w) es us → us.map (·.1) = ks.map Sum.inl → IntsAre (es.map (·.key)) ks
  | _, _, [], .nil, _ => .nil
  | _, _, _ :: _, .nil, h => by cases h
  | _, _, [], .cons _ _ _, h => by cases h
  | en :: es, u :: us, k :: ks, .cons h1 h2 t, e => by
    injection e with e1 e2
    have e1 : u.1 = Sum.inl k := e1
    rw [e1] at h1
    obtain ⟨t', et⟩ : ∃ t, en.key = Value.int k t := by
      rcases keyIs_shape (show keyIs (Sum.inl k) en.key = true from h1) with ⟨i, t, a, b⟩ | ⟨x, t, a, b⟩
      · cases a; exact ⟨t, b⟩
      · cases a
    rw [List.map_cons, et]
    exact .cons k t' (int_keys t e2)
section
variable {X : Cx}
theorem cr_sortedIk (hc : X.calm = true) : CallR X (.builtin "sorted") (fun vs H Q => ∃ p kv ks, vs = [V.ref p] ∧ Rd H p (.dK kv) ∧ kv.map (·.1) = ks.map Sum.inl ∧ ∀ (ns' : List Int) (l : Addr), ns'.Perm ks → ns'.Pairwise (· ≤ ·) → ks.length ≤ sizeLine → H l = none → Q (.ref l) (upd H l (.lst (ns'.map V.int)))) := by
  intro pins s σ H vs us Q I r h
  obtain ⟨p, kv, ks, rfl, e, hk, q⟩ := h
  rw [Vals.ref1 r]
  obtain ⟨hz, lo, us2, rel, o, es, ep, g, c, dd, _, pr, _⟩ := dk_rd I.hok e
  have hi := int_keys pr (kv_ints rel hk)
  have hl : es.size = ks.length := by rw [← Array.length_toList, ← hi.length, List.length_map]
  have hl2 : ks.length = kv.length := by
    have := congrArg List.length hk
    rw [List.length_map, List.length_map] at this
    exact this.symm
  refine sorted_src (vs := es.toList.map (·.key)) swo_int (by rw [hi.length]; omega) (fun R E' k => ?_) (fun h2 h₁ tk a' _ _ => ints_sortable hi h2) fun out d h' tk h1 h2 keep hd he => ?_
  · refine collect_dct (A := X.A.in1) (kdl_raw lo c dd) (I.ok.hd hc) g (by omega) fun h' tk acc keep hs it => ?_
    have ea : acc.toList = es.toList.map (·.key) := by
      have ll : acc.toList.length = es.toList.length := by rw [Array.length_toList, it.1, Array.length_toList]
      refine List.ext_getElem (by rw [ll, List.length_map]) fun i h1 h2 => ?_
      obtain ⟨en, hen, hv⟩ := it.2 i acc.toList[i] (by rw [← Array.getElem?_toList]; exact List.getElem?_eq_getElem h1)
      have h3 : i < es.toList.length := by rw [← ll]; exact h1
      rw [← Array.getElem?_toList, List.getElem?_eq_getElem h3] at hen
      have hen := Option.some.inj hen
      rw [List.getElem_map, hv, ← hen]
    rw [ea]
    exact k h' tk keep hs
  · obtain ⟨k1, k2, k3⟩ := ints_out hi h1 h2
    obtain ⟨n, he⟩ := he
    have hlen : ((out.map iv).map V.int).length ≤ sizeLine := by
      rw [List.length_map, k2.length_eq]
      omega
    exact ⟨.ref d, _, I.laid (t' := tk) (o := .lst ((out.map iv).map V.int)) keep hd ⟨hlen, out, n, vals_of_ints k1, he⟩, rfl, q _ _ k2 k3 (by omega) (I.hok.fresh hd)⟩
end
section
variable {X : Cx} {env env1 : Ev} {e : Expr} {p pos : Pos} {i : Nat} {kvs : List (Key × D)} {pin : Option Addr}
theorem ev_sortedKp {ks : List Int} (B : Blt X.mg) (hc : X.calm = true) (h : EV X e env (.ptr i) env1) (g : ge env1 i = .dk pin kvs) (hks : kvs.map (·.1) = ks.map Sum.inl) (hg : Gl X "sorted" := by rfl) (he : starEach (e :: []) X.env = (false, eval e X.env) :: starEach [] X.env := by rfl) (hpl : (backTo pos (starEach [] X.env)).any (·.1) = false := by rfl) :
    EV X (.Call (.Name "sorted" p) [e] [] pos) env (.new (.lst none ((isort ks).map .int))) env1 :=
  PE.wk (pe_callB (cr_sortedIk hc) hg B.sorted_ bt_sorted (pa_cons h pa_nil he) (by decide) (by decide) he hpl) fun σ H Q ⟨G, F, S, q⟩ => ⟨G, F, S, fun F1 v H1 x1 r1 => by
    obtain ⟨p, vs, e1, hpin, hp, z, kd, f, g'⟩ := r1.2.dkS g
    rw [r1.1] at e1
    cases e1
    refine ⟨p, vs, ks, rfl, .inl hp, kd.keys.trans hks, fun ys l hperm hsort hz hl => ?_⟩
    rw [isort_of hperm hsort]
    refine q F1 _ _ x1 (r1.2.consNew hl fun f g => ⟨l, _, rfl, (fun _ z => nomatch z), upd_same, ?_, DRs.of_ints _, f, g⟩)
    rw [List.length_map, (isort_perm ks).length_eq]
    exact hz⟩
theorem ev_sortedKn {ks : List Int} (B : Blt X.mg) (hc : X.calm = true) (h : EV X e env (.new (.dk pin kvs)) env1) (hks : kvs.map (·.1) = ks.map Sum.inl) (hg : Gl X "sorted" := by rfl) (he : starEach (e :: []) X.env = (false, eval e X.env) :: starEach [] X.env := by rfl) (hpl : (backTo pos (starEach [] X.env)).any (·.1) = false := by rfl) :
    EV X (.Call (.Name "sorted" p) [e] [] pos) env (.new (.lst none ((isort ks).map .int))) env1 :=
  PE.wk (pe_callB (cr_sortedIk hc) hg B.sorted_ bt_sorted (pa_cons h pa_nil he) (by decide) (by decide) he hpl) fun σ H Q ⟨G, F, S, q⟩ => ⟨G, F, S, fun F1 v H1 x1 r1 => by
    obtain ⟨p, vs, e1, hpin, hp, z, kd, f, g'⟩ := St.dkS (i := 0) r1 rfl
    have e1' : some v = some (V.ref p) := e1
    cases e1'
    refine ⟨p, vs, ks, rfl, .inl hp, kd.keys.trans hks, fun ys l hperm hsort hz hl => ?_⟩
    rw [isort_of hperm hsort]
    refine q F1 _ _ x1 ((St.tail r1).consNew hl fun f g => ⟨l, _, rfl, (fun _ z => nomatch z), upd_same, ?_, DRs.of_ints _, f, g⟩)
    rw [List.length_map, (isort_perm ks).length_eq]
    exact hz⟩
theorem keysP {β : Type} {g : β → D} (xs : List (Int × β)) : xs.map (prG PyData.int g) = (xs.map fun q => ((Sum.inl q.1 : Key), g q.2)).map fun q => PyData.tuple [(match q.1 with | .inl i => PyData.int i | .inr x => PyData.str x), q.2] := by
  rw [List.map_map]
  rfl
end
end Pd
set_option Elab.async false
set_option linter.all false
set_option maxRecDepth 100000
set_option maxHeartbeats 1000000
namespace Pd
open PySem PySem.Spec PyProof.Rows L2
/-! ### a dict display with keys all ints, whose parts change nothing -/
section
variable {X : Cx} {env : Ev} {pos : Pos}
inductive EDs (X : Cx) (env : Ev) (pos : Pos) : List (Option Expr) → List Expr → List (Key × D) → Prop
  | nil : EDs X env pos [] [] []
  | cons {k v : Expr} {ks : List (Option Expr)} {vs : List Expr} {Rk Rv : Rs} {kd d : D} {kf : Key} {r : List (Key × D)} (hk : EV X k env Rk env) (fk : Pd.fz Rk = .val kd) (kk : keyD kd = some kf) (hv : EV X v env Rv env) (fv : Pd.fz Rv = .val d) (hr : EDs X env pos ks vs r) : EDs X env pos (some k :: ks) (v :: vs) ((kf, d) :: r)
def tK (X : Cx) (e : Expr) : TE := fun σ H Q => ∃ env R env', EV X e env R env' ∧ tV X.K env R env' σ H Q
theorem EDs.trs {ks : List (Option Expr)} {vs : List Expr} {r : List (Key × D)} (h : EDs X env pos ks vs r) : ∃ trs : List (TE × TE), PPs X pos ks vs trs ∧ ks.length = vs.length ∧ ks.length = r.length ∧ ks.all (·.isSome) = true ∧
    ∀ (G F : Hp) (σ : L2.St) (H : Hp) (Q : List (V × V) → Hp → Prop), St X.K G F σ H env → (∀ F' H' kvs, Ext G F F' → St X.K G F' σ H' env → KD X.K F' kvs r → Q (kvs.map fun kv => (kV kv.1, kv.2)) H') → tPairs trs σ H Q := by
  induction h with
  | nil => exact ⟨[], pps_nil, rfl, rfl, rfl, fun G F σ H Q S q => q F H [] (Ext.refl G F) S .nil⟩
  | @cons k v ks vs Rk Rv kd d kf r hk fk kk hv fv hr ih =>
    obtain ⟨trs, pp, l1, l2, al, ih⟩ := ih
    refine ⟨(_, _) :: trs, pps_cons hk hv pp, congrArg (· + 1) l1, congrArg (· + 1) l2, by rw [List.all_cons, al]; rfl, fun G F σ H Q S q => ?_⟩
    refine ⟨G, F, S, fun F1 u H1 x1 r1 => ?_⟩
    obtain ⟨F2, x2, r2⟩ := r1.fz
    rw [fk] at r2
    refine ⟨G, F2, r2.2, fun F3 y H3 x3 r3 => ?_⟩
    obtain ⟨F4, x4, r4⟩ := r3.fz
    rw [fv] at r4
    refine ih G F4 σ H3 _ r4.2 fun F' H' kvs x S' kd' => ?_
    have e : u = kV kf := keyD_dr kk r2.1
    subst e
    exact q F' H' ((kf, y) :: kvs) (((x1.trans x2).trans (x3.trans x4)).trans x) S' (.cons ⟨rfl, r4.1.mono x.le⟩ kd')
theorem ev_disp {ks : List (Option Expr)} {vs : List Expr} {r : List (Key × D)} (h : EDs X env pos ks vs r) (h0 : ks ≠ []) (h15 : ks.length ≤ 15) : EV X (.Dict ks vs pos) env (.new (.dk none (mergeD [] r))) env := by
  obtain ⟨trs, pp, l1, l2, al, run⟩ := h.trs
  refine PE.wk (pe_disp pp al l1 h0 h15) fun σ H Q ⟨G, F, S, q⟩ p hp => ?_
  have gD : G p = none := S.kg.fresh hp
  refine run (upd G p (.dK [])) F σ _ _ (S.keepNew hp) fun F' H' kvs x S' kd => ?_
  have fD : F' p = none := x.noneAt (S.kf.fresh hp)
  refine ⟨S'.kg p _ upd_same, kvs, rfl, by rw [kd.length]; omega, ?_⟩
  have m := KD.merge kd (.nil : KD X.K F' [] [])
  have S2 : St X.K (upd G p (.dK (mergeK [] kvs))) F' σ (upd H' p (.dK (mergeK [] kvs))) env := S'.rewrite fD
  have ownW : ∀ k, (ge env k).own = true → gs σ k ≠ some (.ref p) := fun k w ek => by
    obtain ⟨p', u, e', hp, f, g⟩ := (S2.sl k).own_at w
    rw [ek] at e'
    cases e'
    rw [upd_same] at g
    cases g
  have B : St X.K G F' σ (upd H' p (.dK (mergeK [] kvs))) env := by
    refine ⟨(Le.new gD).trans S2.kg, S2.kf, S2.ln, fun k => ?_, S2.ap⟩
    refine (S2.sl k).otherG fun a ea w => ?_
    obtain ⟨p', u, e', hp', f, g⟩ := (S.sl k).own_at w
    rw [ea] at e'
    cases e'
    exact g
  refine q F' _ _ (Ext.lessAt gD x) ⟨B.kg, B.kf, Nat.succ_le_succ B.ln, fun k => ?_, fun a b c ne ha hb ea eb => ?_⟩
  · cases k with
    | zero =>
      refine ⟨p, _, rfl, (fun _ z => nomatch z), upd_same, ?_, m, fD, gD⟩
      have q1 := mergeD_len r []
      have q2 := m.length
      rw [List.length_nil, Nat.zero_add] at q1
      rw [sizeLine_eq]
      omega
    | succ k => exact B.sl k
  · cases a with
    | zero =>
      cases b with
      | zero => exact absurd rfl ne
      | succ b =>
        have e1 : p = c := V.ref.inj (Option.some.inj ea)
        exact absurd eb (e1 ▸ ownW b hb)
    | succ a =>
      cases b with
      | zero =>
        have e1 : p = c := V.ref.inj (Option.some.inj eb)
        exact absurd ea (e1 ▸ ownW a ha)
      | succ b => exact B.ap a b c (fun z => ne (congrArg _ z)) ha hb ea eb
end
/-! ### two fors in one comprehension -/
theorem gs_ext {σ τ : L2.St} (l : σ.length = τ.length) (h : ∀ j, gs σ j = gs τ j) : σ = τ := by
  refine List.ext_getElem? fun j => ?_
  by_cases hj : j < τ.length
  · have g1 := h j
    unfold gs at g1
    rw [List.getD_eq_getElem?_getD, List.getD_eq_getElem?_getD] at g1
    rw [List.getElem?_eq_getElem (by omega), List.getElem?_eq_getElem hj] at g1 ⊢
    exact congrArg some g1
  · rw [getElem?_of_le (by omega), getElem?_of_le (by omega)]
theorem wipe_wipe {σ : L2.St} {vs vs1 : List Nat} (hv : ∀ i ∈ vs1, i ∈ vs) : wipe (wipe σ vs1) vs = wipe σ vs := gs_ext (by rw [wipe_length, wipe_length, wipe_length]) fun j => by
  rw [gs_wipe, gs_wipe, gs_wipe]
  by_cases h : j ∈ vs
  · rw [if_pos h, if_pos h]
  · rw [if_neg h, if_neg h, if_neg fun z => h (hv j z)]
theorem St.unturn2 {K : Frag} {G F H : Hp} {σ σ2 : L2.St} {vs vs1 : List Nat} {t : Tgt} {e : Ev} {d : D} (S : St K G F (L2.wipe σ2 vs1) H (wipeE vs1 0 (t.bind (wipeE vs 0 e) d))) (hts : ∀ i ∈ t.slots, i ∈ vs) (hv : ∀ i ∈ vs1, i ∈ vs) (back : L2.wipe σ2 vs = L2.wipe σ vs) : St K G F (L2.wipe σ vs) H (wipeE vs 0 e) := by
  have S4 := S.wipe vs
  rw [wipe_wipe hv, back] at S4
  refine S4.weak ⟨by rw [wipeE_len, wipeE_len, wipeE_len, Tgt.bind_len, wipeE_len]; exact Nat.le_refl _, fun k => ?_⟩
  by_cases hm : k ∈ vs
  · exact .inr (by rw [ge_wipeE, Nat.zero_add, if_pos hm])
  · refine .inl ?_
    have e1 : ge (wipeE vs 0 (wipeE vs1 0 (t.bind (wipeE vs 0 e) d))) k = ge (t.bind (wipeE vs 0 e) d) k := by
      rw [ge_wipeE, Nat.zero_add, if_neg hm, ge_wipeE, Nat.zero_add, if_neg fun z => hm (hv k z)]
    rw [e1]
    exact (bind_other fun z => hm (hts k z)).symm
section
variable {X : Cx} {env env1 : Ev} {tg iter tg1 iter1 elt : Expr} {pos : Pos} {scope : Scope}
theorem ev_lc2 {α β : Type} {xs : List α} {g : α → D} {ys : α → List β} {g1 : β → D} {R : α → β → Rs} {f : α → β → D} (own : List (Str × Nat)) (t t1 : Tgt) (vs1 : List Nat) (hc : X.calm = true) (hN : X.N.Nodup) (hi : EI X tg iter env (xs.map g) env1) (ok : BlkOk X.N X.env.scope scope own)
    (hg : ∀ sh H C cl fp, PG (blkC' X scope sh H C cl fp) tg (t.g X.K)) (hg1 : ∀ sh H C cl fp, PG (blkC' X scope sh H C cl fp) tg1 (t1.g X.K)) (hz : (xs.flatMap fun a => (ys a).map (f a)).length < 16000000)
    (hi1 : ∀ a ∈ xs, ∀ sh H C cl fp, EI (blkC' X scope sh H C cl fp) tg1 iter1 (t.bind (wipeE (own.map (·.2)) 0 env1) (g a)) ((ys a).map g1) (t.bind (wipeE (own.map (·.2)) 0 env1) (g a)))
    (he : ∀ a ∈ xs, ∀ b ∈ ys a, ∀ sh H C cl fp, EV (blkC' X scope sh H C cl fp) elt (t1.bind (wipeE vs1 0 (t.bind (wipeE (own.map (·.2)) 0 env1) (g a))) (g1 b)) (R a b) (t1.bind (wipeE vs1 0 (t.bind (wipeE (own.map (·.2)) 0 env1) (g a))) (g1 b))) (hf : ∀ a b, Pd.fz (R a b) = .val (f a b))
    (hok : ∀ a, t.okB env1.length (g a) = true) (hok1 : ∀ b, t1.okB env1.length (g1 b) = true) (hts : (t.slots.all fun i => (own.map (·.2)).elem i) = true := by rfl) (hts1 : (t1.slots.all fun i => vs1.elem i) = true := by rfl) (hv : (vs1.all fun i => (own.map (·.2)).elem i) = true := by rfl) (hno : ((own.map (·.2)).all fun i => !(ge env1 i).own) = true := by rfl)
    (hs : ∀ x, foldedSetIterable iter X.env x = pure x := by intro _; rfl) (hs1 : ∀ env x, foldedSetIterable iter1 env x = pure x := by intro _ _; rfl) : EV X (.ListComp elt [⟨tg, iter, [], 0⟩, ⟨tg1, iter1, [], 0⟩] scope pos) env (.new (.lst none (xs.flatMap fun a => (ys a).map (f a)))) env1 := by
  have hv' : ∀ i ∈ vs1, i ∈ own.map (·.2) := hts_of hv
  have hts1' : ∀ i ∈ t1.slots, i ∈ vs1 := hts_of hts1
  refine PE.wk (pe_lc2 (vs1 := vs1) (wi1 := fun σ H Q => ∃ e ds e', (∀ sh H C cl fp, EI (blkC' X scope sh H C cl fp) tg1 iter1 e ds e') ∧ tI X.K e ds e' σ H Q) (te := fun σ H Q => ∃ e R e', (∀ sh H C cl fp, EV (blkC' X scope sh H C cl fp) elt e R e') ∧ tV X.K e R e' σ H Q) (tt := fun σ H Q => Q true H) (tt1 := fun σ H Q => Q true H) hc hN hi ok hv' hg (fun sh H C cl fp => ⟨fun pins s σ H' Q I q => pts_nil.run pins s σ H' Q I q⟩)
    (fun sh H C cl fp => ⟨fun pins s σ H' Q I ⟨e, ds, e', h, q⟩ => (h sh H C cl fp).run pins s σ H' Q I q⟩) hg1 (fun sh H C cl fp => ⟨fun pins s σ H' Q I q => pts_nil.run pins s σ H' Q I q⟩) (fun sh H C cl fp => ⟨fun pins s σ H' Q I ⟨e, R, e', h, q⟩ => (h sh H C cl fp).run pins s σ H' Q I q⟩) hs hs1) fun σ H Q ⟨G, F, S, q⟩ => ⟨G, F, S, fun F1 Jt H1 x1 it S1 Dl hD => ?_⟩
  generalize hvs : own.map (·.2) = vs at *
  have gD : G Dl = none := S1.kg.fresh hD
  have hts' : ∀ j ∈ t.slots, j ∈ vs := hts_of hts
  refine ⟨fun i m H' => m = xs.length - i ∧ i ≤ xs.length ∧ ∃ F' acc, Ext G F1 F' ∧ H' Dl = some (.lst acc) ∧ F' Dl = none ∧ DRs X.K F' acc ((xs.take i).flatMap fun a => (ys a).map (f a)) ∧ St X.K (upd G Dl (.lst acc)) F' (wipe σ vs) H' (wipeE vs 0 env1),
    ⟨xs.length, by omega, by omega, F1, [], Ext.refl G F1, upd_same, S1.kf.fresh hD, .nil, (S1.wipe vs).keepNew hD⟩, ?_⟩
  rintro i m H' ⟨rfl, hle, F', acc, x', hDl, fD, rs, S'⟩
  have it' := it.mono x'.le
  by_cases hlt : i < xs.length
  · refine .inr ?_
    have ha : xs[i]? = some xs[i] := List.getElem?_eq_getElem hlt
    have hd' : (xs.map g)[i]? = some (g xs[i]) := by rw [List.getElem?_map, ha]; rfl
    have hm : xs[i] ∈ xs := List.getElem_mem hlt
    obtain ⟨h1, _⟩ := it' i H' S'.kf
    have etk : (xs.take (i + 1)).flatMap (fun a => (ys a).map (f a)) = (xs.take i).flatMap (fun a => (ys a).map (f a)) ++ (ys xs[i]).map (f xs[i]) := by
      rw [take_succ_get ha, List.flatMap_append]
      simp
    have hbig : ((xs.take (i + 1)).flatMap fun a => (ys a).map (f a)).length ≤ (xs.flatMap fun a => (ys a).map (f a)).length := by
      have e : xs.flatMap (fun a => (ys a).map (f a)) = (xs.take (i + 1)).flatMap (fun a => (ys a).map (f a)) ++ (xs.drop (i + 1)).flatMap (fun a => (ys a).map (f a)) := by
        rw [← List.flatMap_append, List.take_append_drop]
      rw [e, List.length_append]
      omega
    rw [etk, List.length_append, List.length_map] at hbig
    generalize xs[i] = a at *
    refine ⟨(h1 _ hd').1, fun H2 => ∃ F' acc, Ext G F1 F' ∧ H2 Dl = some (.lst acc) ∧ F' Dl = none ∧ DRs X.K F' acc ((xs.take (i + 1)).flatMap fun a => (ys a).map (f a)) ∧ St X.K (upd G Dl (.lst acc)) F' (wipe σ vs) H2 (wipeE vs 0 env1),
      fun H2 n => ⟨xs.length - (i + 1), by omega, rfl, by omega, n⟩, fun x H2 y => ?_⟩
    have okT : t.ok (wipeE vs 0 env1).length (g a) := by rw [wipeE_len]; exact Tgt.ok_of (hok _)
    refine yld_run it' S' hd' y okT fun F2 σ2 x2 sm ln2 S2 => ?_
    have back := wipe_same (t := t) hts' sm ln2
    refine ⟨back, iteT ?_⟩
    refine ⟨_, _, _, hi1 a hm, upd G Dl (.lst acc), F2, S2, fun F3 J1 H3 x3 it1 S3 => ?_⟩
    have x13 : Ext G F1 F3 := x'.trans (Ext.lessAt gD (x2.trans x3))
    have fD3 : F3 Dl = none := (x2.trans x3).noneAt fD
    refine ⟨fun j k H' => k = (ys a).length - j ∧ j ≤ (ys a).length ∧ ∃ F' acc, Ext G F3 F' ∧ H' Dl = some (.lst acc) ∧ F' Dl = none ∧ DRs X.K F' acc ((xs.take i).flatMap (fun a => (ys a).map (f a)) ++ ((ys a).take j).map (f a)) ∧ St X.K (upd G Dl (.lst acc)) F' (wipe σ2 vs1) H' (wipeE vs1 0 (t.bind (wipeE vs 0 env1) (g a))),
      ⟨(ys a).length, by omega, by omega, F3, acc, Ext.refl G F3, S3.kg Dl _ upd_same, fD3, by rw [List.take_zero, List.map_nil, List.append_nil]; exact rs.mono (x2.trans x3).le, S3.wipe vs1⟩, ?_⟩
    rintro j k H4 ⟨rfl, hlej, F4, acc4, x4, hDl4, fD4, rs4, S4⟩
    have it1' := it1.mono x4.le
    by_cases hltj : j < (ys a).length
    · refine .inr ?_
      have hb : (ys a)[j]? = some (ys a)[j] := List.getElem?_eq_getElem hltj
      have hdb : ((ys a).map g1)[j]? = some (g1 (ys a)[j]) := by rw [List.getElem?_map, hb]; rfl
      have hmb : (ys a)[j] ∈ ys a := List.getElem_mem hltj
      obtain ⟨h11, _⟩ := it1' j H4 S4.kf
      refine ⟨(h11 _ hdb).1, fun H2 => ∃ F' acc, Ext G F3 F' ∧ H2 Dl = some (.lst acc) ∧ F' Dl = none ∧ DRs X.K F' acc ((xs.take i).flatMap (fun a => (ys a).map (f a)) ++ ((ys a).take (j + 1)).map (f a)) ∧ St X.K (upd G Dl (.lst acc)) F' (wipe σ2 vs1) H2 (wipeE vs1 0 (t.bind (wipeE vs 0 env1) (g a))),
        fun H2 n => ⟨(ys a).length - (j + 1), by omega, rfl, by omega, n⟩, fun x H5 y1 => ?_⟩
      have okT1 : t1.ok (wipeE vs1 0 (t.bind (wipeE vs 0 env1) (g a))).length (g1 (ys a)[j]) := by rw [wipeE_len, Tgt.bind_len, wipeE_len]; exact Tgt.ok_of (hok1 _)
      refine yld_run it1' S4 hdb y1 okT1 fun F5 σ3 x5 sm1 ln3 S5 => ?_
      have back1 := wipe_same (t := t1) hts1' sm1 ln3
      refine ⟨back1, iteT ?_⟩
      refine ⟨_, _, _, he a hm _ hmb, upd G Dl (.lst acc4), F5, S5, fun F6 v6 H6 x6 r6 => ?_⟩
      obtain ⟨F7, x7, r7⟩ := r6.fz
      rw [hf] at r7
      have xa := x5.trans (x6.trans x7)
      have fD7 : F7 Dl = none := xa.noneAt fD4
      have kDl : H6 Dl = some (.lst acc4) := r7.2.kg Dl _ upd_same
      have hl4 := rs4.length
      rw [List.length_append, List.length_map, List.length_take] at hl4
      refine ⟨acc4, kDl, by rw [sizeLine_eq]; omega, F7, acc4 ++ [v6], x4.trans (Ext.lessAt gD xa), upd_same, fD7, ?_, (r7.2.unturn hts1' back1).rewrite fD7⟩
      rw [take_succ_get hb, List.map_append, List.map_cons, List.map_nil, ← List.append_assoc]
      exact (rs4.mono xa.le).append (.cons r7.1 .nil)
    · have hie : j = (ys a).length := by omega
      subst hie
      obtain ⟨_, h2⟩ := it1' (ys a).length H4 S4.kf
      refine .inl ⟨h2 (by rw [List.length_map]; exact Nat.le_refl _), F4, acc4, x13.trans x4, hDl4, fD4, ?_, S4.unturn2 hts' hv' back⟩
      rw [List.take_length] at rs4
      rw [etk]
      exact rs4
  · have hie : i = xs.length := by omega
    subst hie
    obtain ⟨_, h2⟩ := it' xs.length H' S'.kf
    refine .inl ⟨h2 (by rw [List.length_map]; exact Nat.le_refl _), ?_⟩
    rw [List.take_length] at rs
    have ownW : ∀ k, (ge (wipeE vs 0 env1) k).own = true → gs (wipe σ vs) k ≠ some (.ref Dl) := fun k w ek => by
      obtain ⟨p', u, e', hp, f, g⟩ := (S'.sl k).own_at w
      rw [ek] at e'
      cases e'
      rw [upd_same] at g
      cases g
    have no : ∀ k ∈ vs, (ge env1 k).own = false := hno_of hno
    have nv : ∀ k, (ge env1 k).own = true → k ∉ vs := fun k w z => by rw [no k z] at w; cases w
    have sW : ∀ k, k ∉ vs → gs (wipe σ vs) k = gs σ k ∧ ge (wipeE vs 0 env1) k = ge env1 k := fun k h => ⟨by rw [gs_wipe, if_neg h], by rw [ge_wipeE, Nat.zero_add, if_neg h]⟩
    have B : St X.K G F' σ H' env1 := by
      refine ⟨(Le.new gD).trans S'.kg, S'.kf, S1.ln, fun k => ?_, S1.ap⟩
      by_cases hm : k ∈ vs
      · exact (S1.sl k).mono x'.le fun p ep w => by rw [no k hm] at w; cases w
      · have q1 := S'.sl k
        rw [(sW k hm).1, (sW k hm).2] at q1
        refine q1.otherG fun p ep w => ?_
        obtain ⟨p', u, e', hp, f, g⟩ := (S1.sl k).own_at w
        rw [ep] at e'
        cases e'
        exact g
    refine q F' _ H' (x1.trans x') ⟨B.kg, B.kf, Nat.succ_le_succ B.ln, fun k => ?_, fun a b c ne ha hb ea eb => ?_⟩
    · cases k with
      | zero => exact ⟨Dl, acc, rfl, (fun _ z => nomatch z), hDl, by rw [rs.length, sizeLine_eq]; omega, rs, fD, gD⟩
      | succ k => exact B.sl k
    · have other : ∀ k, (ge env1 k).own = true → gs σ k = some (.ref c) → c ≠ Dl := fun k w ek z => by
        have h := sW k (nv k w)
        exact ownW k (by rw [h.2]; exact w) (by rw [h.1, ek, z])
      cases a with
      | zero =>
        cases b with
        | zero => exact absurd rfl ne
        | succ b =>
          have e1 : Dl = c := V.ref.inj (Option.some.inj ea)
          exact absurd e1.symm (other b hb eb)
      | succ a =>
        cases b with
        | zero =>
          have e1 : Dl = c := V.ref.inj (Option.some.inj eb)
          exact absurd e1.symm (other a ha ea)
        | succ b => exact B.ap a b c (fun z => ne (congrArg _ z)) ha hb ea eb
end
/-! ### a text among texts -/
section
variable {K : Frag} {X : Cx} {env env1 env2 : Ev} {a b : Expr} {Ra Rb : Rs} {x : Str} {y : D} {pos : Pos}
theorem inV_strs (i : Str) (ns : List Str) : inV (.str i) (ns.map V.str) = decide (i ∈ ns) := by
  unfold inV
  rw [List.any_map, Bool.eq_iff_iff, List.any_eq_true, decide_eq_true_iff]
  constructor
  · rintro ⟨n, hn, e⟩
    have e' : n = i := by simpa [eqV] using e
    exact e' ▸ hn
  · intro h
    exact ⟨i, h, by simp [eqV]⟩
theorem flat_strs (ns : List Str) : (ns.map V.str).all flatV = true := by
  rw [List.all_map, List.all_eq_true]
  intro n _
  rfl
theorem opd_inS {ns : List Str} (e : y = .tuple (ns.map .str) ∨ y = .list (ns.map .str)) : OpD K (rIn K false) (.str x) y (.val (.bool (decide (x ∈ ns)))) :=
  opd_flat (fun _ => .bl _) fun F H v u Q l hv hu q => by
    rw [hv.str]
    rcases e with e | e
    · subst e
      obtain ⟨b, us, rfl, hb, zb, rb⟩ := hu.tup l
      rw [rb.strs] at hb
      refine ⟨b, _, rfl, .inr hb, rfl, flat_strs ns, ?_⟩
      rw [inV_strs]
      exact q
    · subst e
      obtain ⟨b, us, rfl, hb, zb, rb⟩ := hu.lst l
      rw [rb.strs] at hb
      refine ⟨b, _, rfl, .inl (.of hb), rfl, flat_strs ns, ?_⟩
      rw [inV_strs]
      exact q
theorem opd_niS {ns : List Str} (e : y = .tuple (ns.map .str) ∨ y = .list (ns.map .str)) : OpD K (rIn K true) (.str x) y (.val (.bool (!decide (x ∈ ns)))) :=
  opd_flat (fun _ => .bl _) fun F H v u Q l hv hu q => by
    rw [hv.str]
    rcases e with e | e
    · subst e
      obtain ⟨b, us, rfl, hb, zb, rb⟩ := hu.tup l
      rw [rb.strs] at hb
      refine ⟨b, _, rfl, .inr hb, rfl, flat_strs ns, ?_⟩
      rw [inV_strs]
      exact q
    · subst e
      obtain ⟨b, us, rfl, hb, zb, rb⟩ := hu.lst l
      rw [rb.strs] at hb
      refine ⟨b, _, rfl, .inl (.of hb), rfl, flat_strs ns, ?_⟩
      rw [inV_strs]
      exact q
theorem ev_inS {ns : List Str} (h : EV X a env Ra env1) (h2 : EV X b env1 Rb env2) (wx : vw (Pd.fz Ra) env2 = some (.str x)) (wy : vw (Pd.fz Rb) env2 = some y) (e : y = .tuple (ns.map .str) ∨ y = .list (ns.map .str)) (hm : behindInMarks .In b = false := by rfl) (fl : (Pd.fz Ra).flat = true := by rfl) : EV X (.Compare a [.In] [b] pos) env (.val (.bool (decide (x ∈ ns)))) env2 := ev_cmp op_in_seq h h2 (opd_inS e) wx wy hm fl
theorem et_inS {ns : List Str} (h : EV X a env Ra env1) (h2 : EV X b env1 Rb env2) (wx : vw (Pd.fz Ra) env2 = some (.str x)) (wy : vw (Pd.fz Rb) env2 = some y) (e : y = .tuple (ns.map .str) ∨ y = .list (ns.map .str)) (hm : behindInMarks .In b = false := by rfl) (fl : (Pd.fz Ra).flat = true := by rfl) : ET X (.Compare a [.In] [b] pos) env (decide (x ∈ ns)) env2 := et_cmp op_in_seq h h2 (opd_inS e) wx wy hm fl
theorem et_niS {ns : List Str} (h : EV X a env Ra env1) (h2 : EV X b env1 Rb env2) (wx : vw (Pd.fz Ra) env2 = some (.str x)) (wy : vw (Pd.fz Rb) env2 = some y) (e : y = .tuple (ns.map .str) ∨ y = .list (ns.map .str)) (hm : behindInMarks .NotIn b = false := by rfl) (fl : (Pd.fz Ra).flat = true := by rfl) : ET X (.Compare a [.NotIn] [b] pos) env (!decide (x ∈ ns)) env2 := et_cmp op_notIn_seq h h2 (opd_niS e) wx wy hm fl
end
/-! ### what raises at the start of a for, of a comprehension, of a subscript -/
section
variable {X : Cx} {ea : Str → Addr} {W : WX} {env env1 : Ev} {a b tg iter tg1 iter1 elt : Expr} {ifs ifs1 : List Expr} {body rest : List Stmt} {pos : Pos} {x : Str} {scope : Scope} {Post : Out → Prop}
theorem ex_lcIf (own : List (Str × Nat)) (hc : X.calm = true) (hN : X.N.Nodup) (h : EX X ea W iter env x env1) (ok : BlkOk X.N X.env.scope scope own) (hs : ∀ x, foldedSetIterable iter X.env x = pure x := by intro _; rfl) : EX X ea W (.ListComp elt [⟨tg, iter, ifs, 0⟩] scope pos) env x env1 :=
  PE.wk (pe_lc (g := fun _ _ _ _ => False) (tt := fun _ _ _ => False) (te := fun _ _ _ => False) hc hN (pi_list (tg := tg) h) ok (fun _ _ _ _ _ => ⟨fun _ _ _ _ _ _ _ _ _ z => False.elim z⟩) (fun _ _ _ _ _ => ⟨fun _ _ _ _ _ _ z => False.elim z⟩) (fun _ _ _ _ _ => ⟨fun _ _ _ _ _ _ z => False.elim z⟩) hs) fun σ H Q h => h
theorem ex_lc2I (own : List (Str × Nat)) (hc : X.calm = true) (hN : X.N.Nodup) (h : EX X ea W iter env x env1) (ok : BlkOk X.N X.env.scope scope own) (hs : ∀ x, foldedSetIterable iter X.env x = pure x := by intro _; rfl) (hs1 : ∀ env x, foldedSetIterable iter1 env x = pure x := by intro _ _; rfl) : EX X ea W (.ListComp elt [⟨tg, iter, ifs, 0⟩, ⟨tg1, iter1, ifs1, 0⟩] scope pos) env x env1 :=
  PE.wk (pe_lc2 (vs1 := []) (g := fun _ _ _ _ => False) (tt := fun _ _ _ => False) (g1 := fun _ _ _ _ => False) (tt1 := fun _ _ _ => False) (wi1 := fun _ _ _ => False) (te := fun _ _ _ => False) hc hN (pi_list (tg := tg) h) ok (fun _ z => nomatch z) (fun _ _ _ _ _ => ⟨fun _ _ _ _ _ _ _ _ _ z => False.elim z⟩) (fun _ _ _ _ _ => ⟨fun _ _ _ _ _ _ z => False.elim z⟩) (fun _ _ _ _ _ => ⟨fun _ _ _ _ _ _ z => False.elim z⟩) (fun _ _ _ _ _ => ⟨fun _ _ _ _ _ _ _ _ _ z => False.elim z⟩) (fun _ _ _ _ _ => ⟨fun _ _ _ _ _ _ z => False.elim z⟩) (fun _ _ _ _ _ => ⟨fun _ _ _ _ _ _ z => False.elim z⟩) hs hs1) fun σ H Q h => h
theorem ex_ix1 (h : EX X ea W a env x env1) (hb : PlainIx b := by exact fun _ _ => rfl) : EX X ea W (.Subscript a b pos) env x env1 :=
  PE.wk (pe_ix (r := fun _ _ _ _ => False) (tb := fun _ _ _ => False) (fun _ _ _ _ _ _ _ _ _ _ _ _ _ _ z _ => False.elim z) h ⟨fun _ _ _ _ _ _ z => False.elim z⟩ hb) fun σ H Q ⟨G, F, S, q⟩ => ⟨G, F, S, fun F1 H1 x1 S1 => q F1 H1 x1 S1⟩
theorem es_forE (h : EX X ea W iter env x env1) (k : Post (.ex x env1)) (hp : PassesOwn (model X.prog X.w) X.A X.env X.xe) (hc : X.calm = true) (hf : ∀ x, foldedSetIterable iter X.env x = pure x := by intro _; rfl) : ES X ea W (.For tg iter body [] pos :: rest) env Post :=
  PSs.wk (pss_cons (u := fun _ _ _ => False) (ps_for (g := fun _ _ _ _ => False) (tb := fun _ _ _ => False) hp hc (pi_list (tg := tg) h) ⟨fun _ _ _ _ _ _ _ _ _ z => False.elim z⟩ ⟨fun _ _ _ _ _ _ z => False.elim z⟩ hf) ⟨fun _ _ _ _ _ _ z => False.elim z⟩) fun D σ H ⟨G, F, S, q⟩ => ⟨G, F, S, fun F1 H1 x1 S1 => q _ k F1 x1 σ H1 S1⟩
end
/-! ### a dict with tuple keys, all values True -/
def boolKt (l : List (List Int)) : List (List Int × D) := l.map fun x => (x, .bool true)
theorem keysT_bool (l : List (List Int)) : keysT (boolKt l) = l := by
  unfold keysT boolKt
  rw [List.map_map]
  exact List.map_id l
theorem boolKt_len (l : List (List Int)) : (boolKt l).length = l.length := List.length_map _
theorem boolKt_any (l : List (List Int)) (x : List Int) : ((boolKt l).any fun kv => decide (kv.1 = x)) = decide (x ∈ l) := by
  unfold boolKt
  rw [List.any_map, Bool.eq_iff_iff, List.any_eq_true, decide_eq_true_iff]
  constructor
  · rintro ⟨y, hy, e⟩
    have e' : y = x := of_decide_eq_true e
    exact e' ▸ hy
  · intro h
    exact ⟨x, h, decide_eq_true rfl⟩
theorem boolKt_put (l : List (List Int)) (x : List Int) : putD (boolKt l) x (.bool true) = boolKt (ddT l [x]) := by
  show _ = boolKt (if x ∈ l then l else l ++ [x])
  unfold putD
  rw [boolKt_any]
  by_cases h : x ∈ l
  · rw [decide_eq_true h, if_pos rfl, if_pos h]
    unfold boolKt
    rw [List.map_map]
    refine List.map_congr_left fun y _ => ?_
    show (if y = x then (y, PyData.bool true) else (y, PyData.bool true)) = _
    split <;> rfl
  · rw [decide_eq_false h, if_neg Bool.false_ne_true, if_neg h]
    unfold boolKt
    rw [List.map_append]
    rfl
theorem ddT_app : ∀ (l m acc : List (List Int)), ddT acc (l ++ m) = ddT (ddT acc l) m
  | [], m, acc => rfl
  | x :: l, m, acc => by
    rw [List.cons_append, ddT, ddT_app l m]
    rfl
theorem ddT_snoc (l : List (List Int)) (x : List Int) : ddT (ddT [] l) [x] = ddT [] (l ++ [x]) := (ddT_app l [x] []).symm
theorem flat_le {α β : Type} {row : α → List β} {c : Nat} : ∀ {l : List α}, (∀ x ∈ l, (row x).length ≤ c) → (l.flatMap row).length ≤ l.length * c
  | [], _ => Nat.zero_le _
  | a :: l, h => by
    have h1 := h a List.mem_cons_self
    have h2 := flat_le fun x hx => h x (List.mem_cons_of_mem a hx)
    rw [List.flatMap_cons, List.length_append, List.length_cons, Nat.add_mul, Nat.one_mul]
    omega
theorem flatc_len {α β γ : Type} (f : α → β → γ) (m : List β) : ∀ l : List α, (l.flatMap fun a => m.map (f a)).length = l.length * m.length
  | [] => by simp
  | a :: l => by
    rw [List.flatMap_cons, List.length_append, List.length_map, flatc_len f m l, List.length_cons, Nat.add_mul, Nat.one_mul]
    omega
section
variable {X : Cx} {env env1 env2 env3 : Ev} {e o : Expr} {Ra : Rs} {pos pos' : Pos} {k : List Int} {l : List (List Int)} {pin : Option Addr}
theorem es_tputB {ea : Str → Addr} {W : WX} {rest : List Stmt} {Post : Out → Prop} {value : Expr} {Rv : Rs} (i : Nat) (hu : X.A.units + 1 < cLine) (hv : EV X value env Rv env1) (ho : EV X o env1 (.ptr i) env2) (hi : EV X e env2 Ra env3) (hf : Pd.fz Rv = .val (.bool true)) (g : ge env3 i = .dt pin (boolKt l)) (hk : Pd.fz Ra = .val (tupI k)) (hz : l.length < 16000000)
    (kk : ES X ea W rest (env3.set i (.dt pin (boolKt (ddT l [k])))) Post) (hs : swapsWith value (some (.Subscript o e pos')) pos.line X.env = pure false := by rfl) : ES X ea W (.Assign [.Subscript o e pos'] value pos :: rest) env Post :=
  es_tput i hu hv ho hi hf g hk (by rw [boolKt_len]; exact hz) (by rw [boolKt_put]; exact kk) hs
end
end Pd
set_option Elab.async false
set_option linter.all false
set_option maxRecDepth 100000
set_option maxHeartbeats 1000000
namespace Pd
open PySem PySem.Spec PyProof.Rows L2
/-! ### data that are shown, with a close measure: ints are small -/
structure Gw (k w : Nat) (d : D) : Prop where
  sh : PyData.showable d = true
  nd : PyData.hasDict d = false
  lv : PyData.leavesShort 8 d = true
  ly : PyData.canLay0 d = true
  dp : PyData.depth d ≤ k
  wt : PyData.weight d ≤ w
structure Gws (k w : Nat) (xs : List D) : Prop where
  sh : PyData.showableAll xs = true
  nd : PyData.hasDictAll xs = false
  lv : PyData.leavesShortAll 8 xs = true
  ly : PyData.canLayAll0 xs = true
  dp : PyData.depthAll xs ≤ k
  wt : PyData.weightAll xs ≤ w
theorem Gw.mono {k w k' w' : Nat} {d : D} (h : Gw k w d) (hk : k ≤ k') (hw : w ≤ w') : Gw k' w' d := ⟨h.sh, h.nd, h.lv, h.ly, Nat.le_trans h.dp hk, Nat.le_trans h.wt hw⟩
theorem Gws.mono {k w k' w' : Nat} {d : List D} (h : Gws k w d) (hk : k ≤ k') (hw : w ≤ w') : Gws k' w' d := ⟨h.sh, h.nd, h.lv, h.ly, Nat.le_trans h.dp hk, Nat.le_trans h.wt hw⟩
theorem Gws.nil {k w : Nat} : Gws k w [] := ⟨rfl, rfl, rfl, rfl, Nat.zero_le _, Nat.zero_le _⟩
theorem Gws.cons {k w v : Nat} {x : D} {xs : List D} (h : Gw k w x) (t : Gws k v xs) : Gws k (w + 1 + v) (x :: xs) := by
  refine ⟨?_, ?_, ?_, ?_, ?_, ?_⟩
  · unfold PyData.showableAll; rw [h.sh, t.sh]; rfl
  · unfold PyData.hasDictAll; rw [h.nd, t.nd]; rfl
  · unfold PyData.leavesShortAll; rw [h.lv, t.lv]; rfl
  · unfold PyData.canLayAll0; rw [h.ly, t.ly]; rfl
  · unfold PyData.depthAll; exact Nat.max_le.mpr ⟨h.dp, t.dp⟩
  · unfold PyData.weightAll
    have h1 := h.wt
    have h2 := t.wt
    omega
theorem Gws.all {k w : Nat} : ∀ {xs : List D}, (∀ x ∈ xs, Gw k w x) → Gws k (xs.length * (w + 1)) xs
  | [], _ => .nil
  | x :: r, h => by
    refine (Gws.cons (h x List.mem_cons_self) (Gws.all fun y hy => h y (List.mem_cons_of_mem _ hy))).mono (Nat.le_refl _) ?_
    rw [List.length_cons, Nat.succ_mul]
    omega
theorem Gws.lst {k w : Nat} {xs : List D} (h : Gws k w xs) : Gw (k + 1) w (.list xs) := ⟨h.sh, h.nd, h.lv, h.ly, by unfold PyData.depth; exact Nat.succ_le_succ h.dp, by unfold PyData.weight; exact h.wt⟩
theorem Gws.tup {k w : Nat} {xs : List D} (h : Gws k w xs) : Gw (k + 1) w (.tuple xs) := ⟨h.sh, h.nd, h.lv, h.ly, by unfold PyData.depth; exact Nat.succ_le_succ h.dp, by unfold PyData.weight; exact h.wt⟩
theorem gw_int {i : Int} {j : Nat} (h : i.natAbs < 10 ^ 7) (h2 : i.natAbs < 2 ^ j) : Gw 0 j (.int i) := by
  have hl := log2_small (i := i) (Nat.lt_trans h (by decide))
  refine ⟨?_, rfl, ?_, rfl, Nat.zero_le _, ?_⟩
  · unfold PyData.showable
    exact decide_eq_true (by omega)
  · unfold PyData.leavesShort PyData.shown
    have q := PySem.int_text_length_le10 (k := 7) (by decide) h
    exact decide_eq_true (ofStr_len q)
  · unfold PyData.weight
    split
    · exact Nat.zero_le _
    · rename_i z
      have z' : i.natAbs ≠ 0 := fun e => z (by rw [beq_iff_eq]; omega)
      exact (Nat.log2_lt z').mpr h2
theorem gw_bool {b : Bool} : Gw 0 0 (.bool b) := ⟨rfl, rfl, rfl, rfl, Nat.zero_le _, Nat.zero_le _⟩
theorem gw_none : Gw 0 0 .none := ⟨rfl, rfl, rfl, rfl, Nat.zero_le _, Nat.zero_le _⟩
theorem gw_tupI {c j m : Nat} {l : List Int} (h : ∀ x ∈ l, x.natAbs < 10 ^ 7 ∧ x.natAbs < 2 ^ j) (hl : l.length ≤ m) : Gw 1 (m * (j + 1)) (tupI l) :=
  ((Gws.all (k := 0) (w := j) fun x hx => by
    obtain ⟨a, ha, rfl⟩ := List.mem_map.mp hx
    exact gw_int (h a ha).1 (h a ha).2).tup).mono (Nat.le_refl _) (by rw [List.length_map]; exact Nat.mul_le_mul_right _ hl)
theorem gw_lstI {j m : Nat} {l : List Int} (h : ∀ x ∈ l, x.natAbs < 10 ^ 7 ∧ x.natAbs < 2 ^ j) (hl : l.length ≤ m) : Gw 1 (m * (j + 1)) (.list (l.map .int)) :=
  ((Gws.all (k := 0) (w := j) fun x hx => by
    obtain ⟨a, ha, rfl⟩ := List.mem_map.mp hx
    exact gw_int (h a ha).1 (h a ha).2).lst).mono (Nat.le_refl _) (by rw [List.length_map]; exact Nat.mul_le_mul_right _ hl)
theorem gw_map {α : Type} {g : α → D} {k w m : Nat} {l : List α} (h : ∀ x ∈ l, Gw k w (g x)) (hl : l.length ≤ m) : Gw (k + 1) (m * (w + 1)) (.list (l.map g)) :=
  ((Gws.all (k := k) (w := w) fun x hx => by
    obtain ⟨a, ha, rfl⟩ := List.mem_map.mp hx
    exact h a ha).lst).mono (Nat.le_refl _) (by rw [List.length_map]; exact Nat.mul_le_mul_right _ hl)
theorem gw_mapT {α : Type} {g : α → D} {k w m : Nat} {l : List α} (h : ∀ x ∈ l, Gw k w (g x)) (hl : l.length ≤ m) : Gw (k + 1) (m * (w + 1)) (.tuple (l.map g)) :=
  ((Gws.all (k := k) (w := w) fun x hx => by
    obtain ⟨a, ha, rfl⟩ := List.mem_map.mp hx
    exact h a ha).tup).mono (Nat.le_refl _) (by rw [List.length_map]; exact Nat.mul_le_mul_right _ hl)
section
variable {X : Cx} {env env1 : Ev} {e : Expr} {R : Rs} {d : D} {pos p : Pos} {kk w : Nat}
theorem ev_reprW (B : Blt X.mg) (hgu : X.A.guards = some []) (hu : X.A.units + 80 < cLine) (h : EV X e env R env1) (w1 : vw (Pd.fz R) env1 = some d) (g : Gw kk w d) (hk : kk ≤ 64) (hw : w ≤ 1677000) (hgl : Gl X "repr" := by rfl) (he : starEach (e :: []) X.env = (false, eval e X.env) :: starEach [] X.env := by rfl) (hpl : (backTo pos (starEach [] X.env)).any (·.1) = false := by rfl) :
    EV X (.Call (.Name "repr" p) [e] [] pos) env (.val (.str (PyData.shown d))) env1 :=
  ev_b1 (call_reprA hgu hu) B.repr_ bt_repr h (fun G F σ H env v Q S hv q => by
    have hs := PyData.shown_le 8 (by decide) d g.lv
    have hz : d.shown.length ≤ sizeLine := by
      have := g.wt
      rw [sizeLine_eq]
      omega
    exact ⟨v, d, rfl, hv.dp S.kf, g.sh, g.nd, Nat.le_trans g.dp hk, hz, q F _ H (Ext.refl G F) ⟨.str _, S⟩⟩) w1 hgl (by decide) (by decide) he hpl
end
end Pd
set_option Elab.async false
set_option linter.all false
set_option maxRecDepth 100000
set_option maxHeartbeats 1000000
namespace Pd
open PySem PySem.Spec PyProof.Rows L2
/-! ### isinstance(x, T), T a built-in class, x a datum -/
def tyD : D → String
  | .none => "NoneType"
  | .bool _ => "bool"
  | .int _ => "int"
  | .str _ => "str"
  | .list _ => "list"
  | .tuple _ => "tuple"
  | .dict _ => "dict"
theorem DR.ty {K : Frag} {F H : Hp} {v : V} {d : D} (h : DR K F v d) (l : Le F H) : TyX K H v (.type (tyD d)) := by
  cases h with
  | non => exact .base .non
  | bl b => exact .base (.bl b)
  | int i => exact .base (.int i)
  | str x => exact .base (.str x)
  | lst ha => exact .base (.lst (l _ _ ha))
  | tup ha =>
    rcases ha with h | ⟨o, its, n, h1, h2, _⟩
    · unfold Rd at h
      rcases h with h | ⟨o, h⟩
      · exact .base (.tup (l _ _ h))
      · exact .fTuple (l _ _ h)
    · exact .kTuple h1 h2
section
variable {X : Cx} {env env1 : Ev} {e : Expr} {R : Rs} {d : D} {pos p np : Pos} {T : String} {b : Bool}
theorem ev_isTy (B : Blt X.mg) (hT : X.mg (Str.ofString T) = none) (hbT : bootBuiltins (Str.ofString T) = some (.type T)) (h : EV X e env R env1) (w : Pd.fz R = .val d) (k : kitB (tyD d) T = some b) (hg : Gl X "isinstance" := by rfl) (hgT : Gl X (Str.ofString T) := by rfl) (hn : (Str.ofString T) ≠ "__name__" := by decide) (hd : ((Str.ofString T) == ("__debug__" : Str)) = false := by decide)
    (he : starEach (e :: [.Name (Str.ofString T) np]) X.env = (false, eval e X.env) :: starEach [.Name (Str.ofString T) np] X.env := by rfl) (he2 : starEach (.Name (Str.ofString T) np :: []) X.env = (false, eval (.Name (Str.ofString T) np) X.env) :: starEach [] X.env := by rfl) (hpl : (backTo pos (starEach [.Name (Str.ofString T) np] X.env)).any (·.1) = false := by rfl) :
    EV X (.Call (.Name "isinstance" p) [e, .Name (Str.ofString T) np] [] pos) env (.val (.bool b)) env1 :=
  PE.wk (pe_callB call_isi hg B.isinstance_ bt_isinstance (pa_cons h (pa_cons (pe_bltn (v := .ty T) hgT hT hbT rfl hn hd) pa_nil he2) he) (by decide) (by decide) he hpl) fun σ H Q ⟨G, F, S, q⟩ => ⟨G, F, S, fun F1 v H1 x1 r1 => by
    obtain ⟨F2, x2, r2⟩ := r1.fz
    rw [w] at r2
    exact ⟨v, .ty T, .type (tyD d), .type T, b, rfl, .ty T, r2.1.ty r2.2.kf, kit_ty k, q F2 _ H1 (x1.trans x2) ⟨.bl b, r2.2⟩⟩⟩
end
section
variable {X : Cx} {ea : Str → Addr} {W : WX} {env env1 env2 : Ev} {a b e : Expr} {es : List Expr} {rest : List Expr} {Ra : Rs} {pos : Pos} {x : Str} {kk : Nat}
theorem ex_cmp2 {op : CmpOp} (ha : EV X a env Ra env1) (hb : EX X ea W b env1 x env2) (hm : behindInMarks op b = false) : EX X ea W (.Compare a [op] [b] pos) env x env2 :=
  PE.wk (pe_cmpR (r := fun _ _ _ _ => False) (fun _ _ _ _ _ _ _ _ _ _ _ _ z => False.elim z) ha hb hm) fun σ H Q ⟨G, F, S, q⟩ => ⟨G, F, S, fun F1 v H1 x1 r1 => by
    obtain ⟨F2, x2, r2⟩ := r1.fz
    exact ⟨G, F2, r2.st, fun F3 H3 x3 S3 => q F3 H3 ((x1.trans x2).trans x3) S3⟩⟩
theorem ex_and1 (h : EX X ea W a env x env1) : EX X ea W (.BoolOp .And (a :: b :: rest) pos) env x env1 :=
  PE.wk (pe_and (tb := fun _ _ _ => False) h ⟨fun _ _ _ _ _ _ z => False.elim z⟩) fun σ H Q h => h
theorem ex_tup1 {k : Nat} (h : EX X ea W e env x env1) (hs : starEach (e :: es) X.env = (false, eval e X.env) :: starEach es X.env := by rfl) : EX X ea W (.Tuple (e :: es) k pos) env x env1 :=
  PE.wk (pe_tup (pa_cons h (t := fun _ _ _ => False) ⟨fun _ _ _ _ _ _ _ z => False.elim z⟩ hs)) fun σ H Q h => h
end
end Pd
set_option Elab.async false
set_option linter.all false
set_option maxRecDepth 100000
set_option maxHeartbeats 1000000
namespace Pd
open PySem PySem.Spec PyProof.Rows L2
section
variable {X : Cx} {env env1 env2 : Ev} {a b : Expr} {Ra Rb : Rs} {pos : Pos} {x y : Str}
theorem ev_neS (h : EV X a env Ra env1) (h2 : EV X b env1 Rb env2) (wx : vw (Pd.fz Ra) env2 = some (.str x)) (wy : vw (Pd.fz Rb) env2 = some (.str y)) (fl : (Pd.fz Ra).flat = true := by rfl) : EV X (.Compare a [.NotEq] [b] pos) env (.val (.bool (!decide (x = y)))) env2 := ev_cmp op_ne h h2 opd_neS wx wy (nobehind _ (by decide) (by decide)) fl
theorem ev_eqS (h : EV X a env Ra env1) (h2 : EV X b env1 Rb env2) (wx : vw (Pd.fz Ra) env2 = some (.str x)) (wy : vw (Pd.fz Rb) env2 = some (.str y)) (fl : (Pd.fz Ra).flat = true := by rfl) : EV X (.Compare a [.Eq] [b] pos) env (.val (.bool (decide (x = y)))) env2 := ev_cmp op_eq h h2 opd_eqS wx wy (nobehind _ (by decide) (by decide)) fl
end
theorem shaped_str (x : Str) (h : SeqAt.shaped (.str x) = true := by decide +kernel) : SeqAt.shaped (.str x) = true := h
/-! not of any value; what raises under not -/
section
variable {X : Cx} {ea : Str → Addr} {W : WX} {env env1 env2 : Ev} {a b e : Expr} {R Ra Rb : Rs} {pos p : Pos} {d dx : D} {k : Bool} {c : Str}
theorem ev_notT (h : EV X e env R env1) (w : vw (Pd.fz R) env1 = some d) (t : truD d = some k) : EV X (.UnaryOp .Not e pos) env (.val (.bool (!k))) env1 :=
  PE.wk (pe_notT h) fun σ H Q ⟨G, F, S, q⟩ => one_op (ta := tV X.K env R env1) (Q := fun v H' => ∃ k, TruV X.K v H' k ∧ Q (.bl (!k)) H') S (fun _ _ h => h) w fun F' v H' x1 S1 hv => ⟨k, by
    cases d with
    | none => rw [hv.none]; exact (Option.some.inj t).symm
    | bool b => rw [hv.bool]; exact (Option.some.inj t).symm
    | int i => rw [hv.int]; exact (Option.some.inj t).symm
    | str s => cases t
    | dict s => cases t
    | list ds =>
      obtain ⟨a, vs, rfl, ha, za, ra⟩ := hv.lst S1.kf
      refine .inl ⟨vs, .of ha, ?_⟩
      have t' : (!ds.isEmpty) = k := Option.some.inj t
      rw [← t']
      cases ra <;> rfl
    | tuple ds =>
      obtain ⟨a, vs, rfl, ha, za, ra⟩ := hv.tup S1.kf
      refine .inr (.inl ⟨vs, ha, ?_⟩)
      have t' : (!ds.isEmpty) = k := Option.some.inj t
      rw [← t']
      cases ra <;> rfl, q F' _ H' x1 ⟨.bl _, S1⟩⟩
theorem ex_not (h : EX X ea W e env c env1) : EX X ea W (.UnaryOp .Not e pos) env c env1 := PE.wk (pe_notT h) fun σ H Q q => q
/-! in a tuple of data -/
def rInDT (K : PySem.W.Frag) : R2 := fun x y H Q => ∃ d ds, Dp K H x d ∧ Dp K H y (.tuple ds) ∧ SeqAt.shaped d = true ∧ SeqAt.shaped (.tuple ds) = true ∧ Q (.bl (ds.any fun z => PyData.eqv z d)) H
def rNotInDT (K : PySem.W.Frag) : R2 := fun x y H Q => ∃ d ds, Dp K H x d ∧ Dp K H y (.tuple ds) ∧ SeqAt.shaped d = true ∧ SeqAt.shaped (.tuple ds) = true ∧ Q (.bl (!ds.any fun z => PyData.eqv z d)) H
theorem op_inDT (hu : X.A.units + 65 < cLine) : OpR X (compareOp .In) (rInDT X.K) := by
  intro pins s σ H x y v u Q I rx ry h
  obtain ⟨d, ds, hd, he, sd, se, q⟩ := h
  obtain ⟨as, r1⟩ := Dp.reads I d x v hd rx
  obtain ⟨bs, r2⟩ := Dp.reads I (.tuple ds) y u he ry
  exact SeqAt.in_tuple_reads r2 r1 (SeqAt.canLay_of_shaped se) (SeqAt.canLay_of_shaped sd) (room_in_shaped sd hu) ⟨.bl _, H, I, rfl, q⟩
theorem op_notInDT (hu : X.A.units + 65 < cLine) : OpR X (compareOp .NotIn) (rNotInDT X.K) := by
  intro pins s σ H x y v u Q I rx ry h
  obtain ⟨d, ds, hd, he, sd, se, q⟩ := h
  obtain ⟨as, r1⟩ := Dp.reads I d x v hd rx
  obtain ⟨bs, r2⟩ := Dp.reads I (.tuple ds) y u he ry
  exact SeqAt.notIn_tuple_reads r2 r1 (SeqAt.canLay_of_shaped se) (SeqAt.canLay_of_shaped sd) (room_in_shaped sd hu) ⟨.bl _, H, I, rfl, q⟩
theorem opd_inDT {K : Frag} {ds : List D} (hx : SeqAt.shaped dx = true) (hy : SeqAt.shaped (.tuple ds) = true) : OpD K (rInDT K) dx (.tuple ds) (.val (.bool (ds.any fun z => PyData.eqv z dx))) :=
  opd_flat (fun _ => .bl _) fun F H v u Q l hv hu q => ⟨dx, ds, hv.dp l, hu.dp l, hx, hy, q⟩
theorem opd_niDT {K : Frag} {ds : List D} (hx : SeqAt.shaped dx = true) (hy : SeqAt.shaped (.tuple ds) = true) : OpD K (rNotInDT K) dx (.tuple ds) (.val (.bool (!ds.any fun z => PyData.eqv z dx))) :=
  opd_flat (fun _ => .bl _) fun F H v u Q l hv hu q => ⟨dx, ds, hv.dp l, hu.dp l, hx, hy, q⟩
variable {α : Type} [DecidableEq α] {g : α → D} {n : Nat} {x : α} {xs : List α}
theorem GE.in2 (G : GE g n) (xs : List α) (a : α) [inst : Decidable (a ∈ xs)] : ((xs.map g).any fun z => PyData.eqv z (g a)) = decide (a ∈ xs) := by
  rw [G.in]
  exact decide_eq_decide.mpr Iff.rfl
theorem cv_inL [inst : Decidable (x ∈ xs)] (G : GE g n) (hk : Nat.ble n 63 = true) (hu : X.A.units + 65 < cLine) (h : EV X a env Ra env1) (h2 : EV X b env1 Rb env2) (wx : vw (Pd.fz Ra) env2 = some (g x)) (wy : vw (Pd.fz Rb) env2 = some (.list (xs.map g))) (hm : behindInMarks .In b = false := by rfl) (fl : (Pd.fz Ra).flat = true := by rfl) : EV X (.Compare a [.In] [b] pos) env (.val (.bool (decide (x ∈ xs)))) env2 := by
  have hk := Nat.le_of_ble_eq_true hk
  have r := ev_cmp (pos := pos) (op_inD hu) h h2 (opd_inD (G.sh (by omega) x) (G.lst.sh (by omega) xs)) wx wy hm fl
  rwa [G.in2] at r
theorem ct_inL [inst : Decidable (x ∈ xs)] (G : GE g n) (hk : Nat.ble n 63 = true) (hu : X.A.units + 65 < cLine) (h : EV X a env Ra env1) (h2 : EV X b env1 Rb env2) (wx : vw (Pd.fz Ra) env2 = some (g x)) (wy : vw (Pd.fz Rb) env2 = some (.list (xs.map g))) (hm : behindInMarks .In b = false := by rfl) (fl : (Pd.fz Ra).flat = true := by rfl) : ET X (.Compare a [.In] [b] pos) env (decide (x ∈ xs)) env2 := by
  have hk := Nat.le_of_ble_eq_true hk
  have r := et_cmp (pos := pos) (op_inD hu) h h2 (opd_inD (G.sh (by omega) x) (G.lst.sh (by omega) xs)) wx wy hm fl
  rwa [G.in2] at r
theorem cv_niL [inst : Decidable (x ∈ xs)] (G : GE g n) (hk : Nat.ble n 63 = true) (hu : X.A.units + 65 < cLine) (h : EV X a env Ra env1) (h2 : EV X b env1 Rb env2) (wx : vw (Pd.fz Ra) env2 = some (g x)) (wy : vw (Pd.fz Rb) env2 = some (.list (xs.map g))) (hm : behindInMarks .NotIn b = false := by rfl) (fl : (Pd.fz Ra).flat = true := by rfl) : EV X (.Compare a [.NotIn] [b] pos) env (.val (.bool (!decide (x ∈ xs)))) env2 := by
  have hk := Nat.le_of_ble_eq_true hk
  have r := ev_cmp (pos := pos) (op_notInD hu) h h2 (opd_niD (G.sh (by omega) x) (G.lst.sh (by omega) xs)) wx wy hm fl
  rwa [G.in2] at r
theorem ct_niL [inst : Decidable (x ∈ xs)] (G : GE g n) (hk : Nat.ble n 63 = true) (hu : X.A.units + 65 < cLine) (h : EV X a env Ra env1) (h2 : EV X b env1 Rb env2) (wx : vw (Pd.fz Ra) env2 = some (g x)) (wy : vw (Pd.fz Rb) env2 = some (.list (xs.map g))) (hm : behindInMarks .NotIn b = false := by rfl) (fl : (Pd.fz Ra).flat = true := by rfl) : ET X (.Compare a [.NotIn] [b] pos) env (!decide (x ∈ xs)) env2 := by
  have hk := Nat.le_of_ble_eq_true hk
  have r := et_cmp (pos := pos) (op_notInD hu) h h2 (opd_niD (G.sh (by omega) x) (G.lst.sh (by omega) xs)) wx wy hm fl
  rwa [G.in2] at r
theorem cv_inT [inst : Decidable (x ∈ xs)] (G : GE g n) (hk : Nat.ble n 63 = true) (hu : X.A.units + 65 < cLine) (h : EV X a env Ra env1) (h2 : EV X b env1 Rb env2) (wx : vw (Pd.fz Ra) env2 = some (g x)) (wy : vw (Pd.fz Rb) env2 = some (.tuple (xs.map g))) (hm : behindInMarks .In b = false := by rfl) (fl : (Pd.fz Ra).flat = true := by rfl) : EV X (.Compare a [.In] [b] pos) env (.val (.bool (decide (x ∈ xs)))) env2 := by
  have hk := Nat.le_of_ble_eq_true hk
  have r := ev_cmp (pos := pos) (op_inDT hu) h h2 (opd_inDT (G.sh (by omega) x) (G.tup.sh (by omega) xs)) wx wy hm fl
  rwa [G.in2] at r
theorem ct_inT [inst : Decidable (x ∈ xs)] (G : GE g n) (hk : Nat.ble n 63 = true) (hu : X.A.units + 65 < cLine) (h : EV X a env Ra env1) (h2 : EV X b env1 Rb env2) (wx : vw (Pd.fz Ra) env2 = some (g x)) (wy : vw (Pd.fz Rb) env2 = some (.tuple (xs.map g))) (hm : behindInMarks .In b = false := by rfl) (fl : (Pd.fz Ra).flat = true := by rfl) : ET X (.Compare a [.In] [b] pos) env (decide (x ∈ xs)) env2 := by
  have hk := Nat.le_of_ble_eq_true hk
  have r := et_cmp (pos := pos) (op_inDT hu) h h2 (opd_inDT (G.sh (by omega) x) (G.tup.sh (by omega) xs)) wx wy hm fl
  rwa [G.in2] at r
theorem cv_niT [inst : Decidable (x ∈ xs)] (G : GE g n) (hk : Nat.ble n 63 = true) (hu : X.A.units + 65 < cLine) (h : EV X a env Ra env1) (h2 : EV X b env1 Rb env2) (wx : vw (Pd.fz Ra) env2 = some (g x)) (wy : vw (Pd.fz Rb) env2 = some (.tuple (xs.map g))) (hm : behindInMarks .NotIn b = false := by rfl) (fl : (Pd.fz Ra).flat = true := by rfl) : EV X (.Compare a [.NotIn] [b] pos) env (.val (.bool (!decide (x ∈ xs)))) env2 := by
  have hk := Nat.le_of_ble_eq_true hk
  have r := ev_cmp (pos := pos) (op_notInDT hu) h h2 (opd_niDT (G.sh (by omega) x) (G.tup.sh (by omega) xs)) wx wy hm fl
  rwa [G.in2] at r
theorem ct_niT [inst : Decidable (x ∈ xs)] (G : GE g n) (hk : Nat.ble n 63 = true) (hu : X.A.units + 65 < cLine) (h : EV X a env Ra env1) (h2 : EV X b env1 Rb env2) (wx : vw (Pd.fz Ra) env2 = some (g x)) (wy : vw (Pd.fz Rb) env2 = some (.tuple (xs.map g))) (hm : behindInMarks .NotIn b = false := by rfl) (fl : (Pd.fz Ra).flat = true := by rfl) : ET X (.Compare a [.NotIn] [b] pos) env (!decide (x ∈ xs)) env2 := by
  have hk := Nat.le_of_ble_eq_true hk
  have r := et_cmp (pos := pos) (op_notInDT hu) h h2 (opd_niDT (G.sh (by omega) x) (G.tup.sh (by omega) xs)) wx wy hm fl
  rwa [G.in2] at r
end
/-! list(range(i, j)) -/
section
variable {X : Cx} {env env1 env2 : Ev} {a b : Expr} {pos p pos' cpos : Pos} {i j : Int}
theorem ev_listR2 (B : Blt X.mg) (hc : X.calm = true) (h : EV X a env (.val (.int i)) env1) (h2 : EV X b env1 (.val (.int j)) env2) (hz : -1000000 ≤ i ∧ i ≤ 1000000 ∧ -1000000 ≤ j ∧ j ≤ 1000000) (hg : Gl X "list" := by rfl) (hgr : Gl X "range" := by rfl) (na : starEach [.Call (.Name "range" p) [a, b] [] pos'] X.env = (false, eval (.Call (.Name "range" p) [a, b] [] pos') X.env) :: starEach [] X.env := by rfl)
    (na2 : starEach [a, b] X.env = (false, eval a X.env) :: starEach [b] X.env := by rfl) (nb : starEach [b] X.env = (false, eval b X.env) :: starEach [] X.env := by rfl) (hp : (backTo pos' (starEach [b] X.env)).any (·.1) = false := by rfl) : EV X (.Call (.Name "list" cpos) [.Call (.Name "range" p) [a, b] [] pos'] [] pos) env (.new (.lst none ((irange i j).map .int))) env2 :=
  PE.wk (pe_listRg hc hg B.list_ (prg_2 hgr B.range_ h h2 na2 nb hp) na) fun σ H Q ⟨G, F, S, q⟩ => ⟨G, F, S, fun F1 v H1 x1 r1 => ⟨G, F1, r1.2, fun F2 u H2 x2 r2 => by
    obtain ⟨r2, S2⟩ := r2
    refine ⟨i, j, r1.1.int_iff, r2.int_iff, ⟨by omega, by omega, by omega, by omega, by omega⟩, fun l hl => ?_⟩
    refine q F2 _ _ (x1.trans x2) (S2.consNew hl fun f g => ⟨l, _, rfl, (fun _ z => nomatch z), upd_same, ?_, drs_range i j, f, g⟩)
    rw [rgV_length, sizeLine_eq]
    omega⟩⟩
end
end Pd
set_option Elab.async false
set_option linter.all false
set_option maxRecDepth 100000
set_option maxHeartbeats 1000000
namespace My
open PySem PySem.Spec PyProof.Rows L2 Pd
def topS (i : Nat) : Stmt := PySem.Challenge.pw_tiledtime_k33_rings_that_are_good.main.body.getD i (.Pass ⟨0, 0, 0, 0⟩)
abbrev s_is_ascending : Stmt := topS 12
theorem sc_is_ascending : FnScope ["some", "one", "other"] ["some"] (defScope s_is_ascending) := ⟨rfl, rfl, rfl, by decide +kernel, rfl, by decide +kernel, by decide +kernel⟩
abbrev s_check_ring : Stmt := topS 13
theorem sc_check_ring : FnScope ["n"] ["n"] (defScope s_check_ring) := ⟨rfl, rfl, rfl, by decide +kernel, rfl, by decide +kernel, by decide +kernel⟩
abbrev s_is_of : Stmt := topS 14
theorem sc_is_of : FnScope ["n", "some", "beat"] ["n", "some"] (defScope s_is_of) := ⟨rfl, rfl, rfl, by decide +kernel, rfl, by decide +kernel, by decide +kernel⟩
abbrev s_is_set : Stmt := topS 15
theorem sc_is_set : FnScope ["n", "some"] ["n", "some"] (defScope s_is_set) := ⟨rfl, rfl, rfl, by decide +kernel, rfl, by decide +kernel, by decide +kernel⟩
abbrev s_check_set : Stmt := topS 16
theorem sc_check_set : FnScope ["n", "some"] ["n", "some"] (defScope s_check_set) := ⟨rfl, rfl, rfl, by decide +kernel, rfl, by decide +kernel, by decide +kernel⟩
abbrev s_turn_of : Stmt := topS 17
theorem sc_turn_of : FnScope ["n", "some", "t", "beat"] ["n", "some", "t"] (defScope s_turn_of) := ⟨rfl, rfl, rfl, by decide +kernel, rfl, by decide +kernel, by decide +kernel⟩
abbrev s_period_of : Stmt := topS 18
theorem sc_period_of : FnScope ["n", "some", "p"] ["n", "some"] (defScope s_period_of) := ⟨rfl, rfl, rfl, by decide +kernel, rfl, by decide +kernel, by decide +kernel⟩
abbrev s_sum_of : Stmt := topS 19
theorem sc_sum_of : FnScope ["n", "one", "other", "found", "beat", "more", "here"] ["n", "one", "other"] (defScope s_sum_of) := ⟨rfl, rfl, rfl, by decide +kernel, rfl, by decide +kernel, by decide +kernel⟩
abbrev s_free_sum : Stmt := topS 20
theorem sc_free_sum : FnScope ["n", "one", "other"] ["n", "one", "other"] (defScope s_free_sum) := ⟨rfl, rfl, rfl, by decide +kernel, rfl, by decide +kernel, by decide +kernel⟩
abbrev s_fills : Stmt := topS 21
theorem sc_fills : FnScope ["n", "one", "other", "found"] ["n", "one", "other"] (defScope s_fills) := ⟨rfl, rfl, rfl, by decide +kernel, rfl, by decide +kernel, by decide +kernel⟩
abbrev s_is_plain : Stmt := topS 23
theorem sc_is_plain : FnScope ["n", "one", "other"] ["n", "one", "other"] (defScope s_is_plain) := ⟨rfl, rfl, rfl, by decide +kernel, rfl, by decide +kernel, by decide +kernel⟩
abbrev s_parts_of : Stmt := topS 24
theorem sc_parts_of : FnScope ["n", "first", "second", "left", "third", "fourth", "rest"] ["n"] (defScope s_parts_of) := ⟨rfl, rfl, rfl, by decide +kernel, rfl, by decide +kernel, by decide +kernel⟩
abbrev s_is_good : Stmt := topS 25
theorem sc_is_good : FnScope ["n"] ["n"] (defScope s_is_good) := ⟨rfl, rfl, rfl, by decide +kernel, rfl, by decide +kernel, by decide +kernel⟩
abbrev s_both_rests : Stmt := topS 26
theorem sc_both_rests : FnScope ["one", "other", "x", "y", "number"] ["one", "other", "x", "y"] (defScope s_both_rests) := ⟨rfl, rfl, rfl, by decide +kernel, rfl, by decide +kernel, by decide +kernel⟩
abbrev s_plain_canon : Stmt := topS 27
theorem sc_plain_canon : FnScope ["n", "parts", "a", "p", "b", "q", "rest", "one", "other", "first", "found", "at", "i", "j", "x", "y"] ["n"] (defScope s_plain_canon) := ⟨rfl, rfl, rfl, by decide +kernel, rfl, by decide +kernel, by decide +kernel⟩
abbrev s_law_number : Stmt := topS 29
theorem sc_law_number : FnScope ["cell"] ["cell"] (defScope s_law_number) := ⟨rfl, rfl, rfl, by decide +kernel, rfl, by decide +kernel, by decide +kernel⟩
abbrev s_law_draws : Stmt := topS 30
theorem sc_law_draws : FnScope ["script", "draws", "cell", "rest", "k", "once", "twice"] ["script"] (defScope s_law_draws) := ⟨rfl, rfl, rfl, by decide +kernel, rfl, by decide +kernel, by decide +kernel⟩
abbrev s_law_flat : Stmt := topS 31
theorem sc_law_flat : FnScope ["rows", "found", "row"] ["rows"] (defScope s_law_flat) := ⟨rfl, rfl, rfl, by decide +kernel, rfl, by decide +kernel, by decide +kernel⟩
abbrev s_law_next : Stmt := topS 32
theorem sc_law_next : FnScope ["draws"] ["draws"] (defScope s_law_next) := ⟨rfl, rfl, rfl, by decide +kernel, rfl, by decide +kernel, by decide +kernel⟩
abbrev s_law_more : Stmt := topS 33
theorem sc_law_more : FnScope ["draws", "many", "seed", "more", "k"] ["draws", "many"] (defScope s_law_more) := ⟨rfl, rfl, rfl, by decide +kernel, rfl, by decide +kernel, by decide +kernel⟩
abbrev s_law_kind : Stmt := topS 34
theorem sc_law_kind : FnScope ["error", "names", "found"] ["error"] (defScope s_law_kind) := ⟨rfl, rfl, rfl, by decide +kernel, rfl, by decide +kernel, by decide +kernel⟩
abbrev s_law_turn : Stmt := topS 35
theorem sc_law_turn : FnScope ["n", "some", "t", "beat"] ["n", "some", "t"] (defScope s_law_turn) := ⟨rfl, rfl, rfl, by decide +kernel, rfl, by decide +kernel, by decide +kernel⟩
def asc (ns : List Int) : Bool := (ns.zip (cut ns (some 1) none)).all fun p => decide (p.1 < p.2)
def ringB (n : Int) : Bool := decide (1 ≤ n) && decide (n ≤ 400)
def isOf (n : Int) (ns : List Int) : Bool := asc ns && ns.all fun b => decide (0 ≤ b) && decide (b < n)
def chkO (n : Int) (ns : List Int) (ok : FOut) (ss : List Sl) : FOut := if ringB n = true then if isOf n ns = true then ok else .ex "NotSet" ss else .ex "BadNumber" ss
def turnOf (n : Int) (ns : List Int) (t : Int) : List Int := isort (ns.map fun b => (b + t) % n)
theorem ringB_pos {n : Int} (h : ringB n = true) : 0 < n ∧ n ≤ 400 := by
  unfold ringB at h
  rw [Bool.and_eq_true, decide_eq_true_iff, decide_eq_true_iff] at h
  omega
def stretchOf (n : Int) (ns : List Int) (f : Int) : List Int := isort (ns.map fun b => b * f % n)
/-- residues that differ are few -/
theorem nodup_few {n : Nat} : ∀ {l : List Int}, l.Nodup → (∀ x ∈ l, 0 ≤ x ∧ x < (n : Int)) → l.length ≤ n := fun {l} hn h => by
  have e : (l.map Int.toNat).Nodup := by
    rw [List.Nodup, List.pairwise_map]
    refine List.Pairwise.imp_of_mem (fun {a b} ha hb ne z => ne ?_) hn
    have h1 := h a ha
    have h2 := h b hb
    omega
  have q := List.Nodup.length_le_of_subset (l₁ := l.map Int.toNat) (l₂ := List.range n) e (fun x hx => by
    obtain ⟨a, ha, rfl⟩ := List.mem_map.mp hx
    have := h a ha
    rw [List.mem_range]
    omega)
  rwa [List.length_map, List.length_range] at q
def boolKv (l : List Int) : List (Key × D) := l.map fun x => (Sum.inl x, .bool true)
theorem boolKv_keys (l : List Int) : (boolKv l).map (·.1) = l.map Sum.inl := by
  unfold boolKv
  rw [List.map_map]
  rfl
theorem boolKv_any (l : List Int) (x : Int) : ((boolKv l).any fun kv => decide (kv.1 = Sum.inl x)) = decide (x ∈ l) := by
  unfold boolKv
  rw [List.any_map, Bool.eq_iff_iff, List.any_eq_true, decide_eq_true_iff]
  constructor
  · rintro ⟨y, hy, e⟩
    have e' := of_decide_eq_true e
    have e2 : y = x := Sum.inl.inj e'
    exact e2 ▸ hy
  · intro h
    exact ⟨x, h, decide_eq_true rfl⟩
theorem boolKv_val (l : List Int) (x : Int) : (valD (boolKv l) (Sum.inl x)).isSome = decide (x ∈ l) := by
  rw [← boolKv_any]
  unfold valD
  rw [Option.isSome_map, Bool.eq_iff_iff, List.find?_isSome, List.any_eq_true]
theorem boolKv_put {l : List Int} {x : Int} (h : x ∉ l) : putD (boolKv l) (Sum.inl x) (.bool true) = boolKv (l ++ [x]) := by
  unfold putD
  rw [boolKv_any, decide_eq_false h, if_neg Bool.false_ne_true]
  unfold boolKv
  rw [List.map_append]
  rfl
theorem boolKv_len (l : List Int) : (boolKv l).length = l.length := List.length_map _
theorem map_get {ns : List Int} {i : Nat} {d : D} (h : (ns.map PyData.int)[i]? = some d) : ∃ x, ns[i]? = some x ∧ d = .int x := by
  rw [List.getElem?_map] at h
  cases e : ns[i]? with
  | none => rw [e] at h; cases h
  | some x => rw [e] at h; cases h; exact ⟨x, rfl, rfl⟩
def absI (i : Int) : Int := if i < 0 then 0 - i else i
def digs : Nat → Int → List Int
  | 0, _ => []
  | k + 1, r => if (r == 0) = true then [] else r % 1000 :: digs k (r / 1000)
def onceOf (r : Int) : Int := (r * 48271 + 11) % 2147483647
def twiceOf (r : Int) : Int := (onceOf r * 69621 + r) % 2147483629
def cellD (c : Int) : List Int := if 1000000000000000000 ≤ absI c then digs 60 (absI c) else [absI c % 1000, onceOf (absI c) % 1000, twiceOf (absI c) % 1000]
def drawsOf (ns : List Int) : List Int := (ns.flatMap cellD).reverse
def rngD (l : List Int) : Prop := ∀ x ∈ l, 0 ≤ x ∧ x < 1000
theorem mod_rng (r : Int) : 0 ≤ r % 1000 ∧ r % 1000 < 1000 := ⟨Int.emod_nonneg _ (by decide), Int.emod_lt_of_pos _ (by decide)⟩
theorem digs_rng : ∀ (k : Nat) (r : Int), rngD (digs k r)
  | 0, _ => fun x h => nomatch h
  | k + 1, r => fun x h => by
    unfold digs at h
    split at h
    · exact nomatch h
    · rcases List.mem_cons.mp h with e | e
      · subst e; exact mod_rng _
      · exact digs_rng k _ x e
theorem digs_len : ∀ (k : Nat) (r : Int), (digs k r).length ≤ k
  | 0, _ => Nat.le_refl _
  | k + 1, r => by
    unfold digs
    split
    · exact Nat.zero_le _
    · exact Nat.succ_le_succ (digs_len k _)
theorem cellD_rng (c : Int) : rngD (cellD c) := by
  unfold cellD
  split
  · exact digs_rng _ _
  · intro x h
    simp only [List.mem_cons, List.not_mem_nil, or_false] at h
    rcases h with e | e | e <;> subst e <;> exact mod_rng _
theorem cellD_len (c : Int) : (cellD c).length ≤ 60 := by
  unfold cellD
  split
  · exact digs_len _ _
  · show 3 ≤ 60
    decide
theorem flat_len : ∀ ns : List Int, (ns.flatMap cellD).length ≤ 60 * ns.length
  | [] => Nat.le_refl _
  | c :: r => by
    rw [List.flatMap_cons, List.length_append, List.length_cons]
    have h1 := cellD_len c
    have h2 := flat_len r
    omega
theorem drawsOf_rng (ns : List Int) : rngD (drawsOf ns) := fun x h => by
  unfold drawsOf at h
  rw [List.mem_reverse] at h
  obtain ⟨c, _, hc⟩ := List.mem_flatMap.mp h
  exact cellD_rng c x hc
theorem drawsOf_len (ns : List Int) : (drawsOf ns).length ≤ 60 * ns.length := by
  unfold drawsOf
  rw [List.length_reverse]
  exact flat_len ns
theorem flat_take {ns : List Int} {i : Nat} {c : Int} (h : ns[i]? = some c) : (ns.take (i + 1)).flatMap cellD = (ns.take i).flatMap cellD ++ cellD c := by
  rw [take_succ_get h, List.flatMap_append]
  simp
def lastD (ns : List Int) : Int := ns.getLastD 0
theorem lastD_rng {ns : List Int} (h : rngD ns) : 0 ≤ lastD ns ∧ lastD ns < 1000 := by
  unfold lastD
  cases ns with
  | nil => exact ⟨by decide, by decide⟩
  | cons a r =>
    have e : (a :: r).getLastD 0 = (a :: r).getLast (by simp) := by rw [List.getLastD_eq_getLast?, List.getLast?_eq_getLast (by simp)]; rfl
    rw [e]
    exact h _ (List.getLast_mem _)
theorem rngD_drop {ns : List Int} (h : rngD ns) : rngD ns.dropLast := fun x hx => h x (List.dropLast_subset _ hx)
def seqM : Nat → Int → List Int
  | 0, _ => []
  | k + 1, s => (s * 48271 + 12345) % 2147483647 / 7 % 1000 :: seqM k ((s * 48271 + 12345) % 2147483647)
theorem seqM_rng : ∀ (k : Nat) (s : Int), rngD (seqM k s)
  | 0, _ => fun x h => nomatch h
  | k + 1, s => fun x h => by
    unfold seqM at h
    rcases List.mem_cons.mp h with e | e
    · subst e; exact mod_rng _
    · exact seqM_rng k _ x e
theorem seqM_len : ∀ (k : Nat) (s : Int), (seqM k s).length = k
  | 0, _ => rfl
  | k + 1, s => congrArg (· + 1) (seqM_len k _)
def moreOf (ns : List Int) (many : Nat) : List Int := seqM many (1000 * lastD ns + lastD ns.dropLast + 1) ++ ns.dropLast.dropLast
theorem rngD_app {a b : List Int} (ha : rngD a) (hb : rngD b) : rngD (a ++ b) := fun x h => (List.mem_append.mp h).elim (ha x) (hb x)
theorem moreOf_rng {ns : List Int} (h : rngD ns) (many : Nat) : rngD (moreOf ns many) := rngD_app (seqM_rng _ _) (rngD_drop (rngD_drop h))
def filtS (p : Int → Bool) : List Int → List Int → List Int × List Int
  | [], s => ([], s)
  | a :: r, s => if p (lastD s) = true then (a :: (filtS p r s.dropLast).1, (filtS p r s.dropLast).2) else filtS p r s.dropLast
theorem filtS_lcA (p : Int → Bool) : ∀ (xs s : List Int), lcA (fun (_ : Int) s => (p (lastD s), s.dropLast)) (fun a s => (PyData.int a, s)) xs s = ((filtS p xs s).1.map .int, (filtS p xs s).2)
  | [], s => rfl
  | a :: r, s => by
    rw [lcA_cons]
    unfold filtS
    cases h : p (lastD s) with
    | false =>
      rw [if_neg Bool.false_ne_true]
      exact filtS_lcA p r s.dropLast
    | true =>
      rw [if_pos rfl]
      have ih := filtS_lcA p r s.dropLast
      show (PyData.int a :: (lcA _ _ r s.dropLast).1, (lcA _ _ r s.dropLast).2) = _
      rw [ih]
      rfl
theorem filtS_sub (p : Int → Bool) : ∀ (xs s : List Int), (filtS p xs s).1.Sublist xs
  | [], s => List.Sublist.refl _
  | a :: r, s => by
    unfold filtS
    split
    · exact (filtS_sub p r _).cons₂ a
    · exact (filtS_sub p r _).cons a
theorem filtS_rng (p : Int → Bool) : ∀ (xs s : List Int), rngD s → rngD (filtS p xs s).2
  | [], s, h => h
  | a :: r, s, h => by
    unfold filtS
    split
    · exact filtS_rng p r _ (rngD_drop h)
    · exact filtS_rng p r _ (rngD_drop h)
def oftenOf (s : List Int) : Int := [2, 2, 3, 4].getD (lastD s % 4).toNat 0
theorem oftenOf_pos (s : List Int) : 0 < oftenOf s := by
  unfold oftenOf
  have h1 : 0 ≤ lastD s % 4 := Int.emod_nonneg _ (by decide)
  have h2 : lastD s % 4 < 4 := Int.emod_lt_of_pos _ (by decide)
  obtain ⟨j, hj⟩ := Int.eq_ofNat_of_zero_le h1
  rw [hj] at h2 ⊢
  have h3 : j < 4 := by omega
  match j, h3 with
  | 0, _ => decide
  | 1, _ => decide
  | 2, _ => decide
  | 3, _ => decide
def someF (n : Int) (s : List Int) : List Int × List Int := filtS (fun x => x % oftenOf s == 0) (irange 0 n) s.dropLast
theorem getD_ints {l : List Int} {k : Nat} (h : k < l.length) : (l.map PyData.int).getD k .none = .int (l.getD k 0) := by
  rw [List.getD_eq_getElem?_getD, List.getElem?_map, List.getD_eq_getElem?_getD, List.getElem?_eq_getElem h]
  rfl
theorem pick_ints {l : List Int} (i : Int) (h : 0 < l.length) : (l.map PyData.int).getD (i % (l.map PyData.int).length).toNat .none = .int (l.getD (i % l.length).toNat 0) := by
  rw [List.length_map]
  refine getD_ints ?_
  have h1 : 0 ≤ i % (l.length : Int) := Int.emod_nonneg _ (by omega)
  have h2 : i % (l.length : Int) < l.length := Int.emod_lt_of_pos _ (by omega)
  omega
theorem mergeB : ∀ (l acc : List Int), acc.Nodup → ∃ m, m.Nodup ∧ mergeD (boolKv acc) (boolKv l) = boolKv m ∧ m.length ≤ acc.length + l.length ∧ (m.length = acc.length + l.length ↔ (acc ++ l).Nodup)
  | [], acc, h => ⟨acc, h, rfl, Nat.le_refl _, by rw [List.append_nil]; exact ⟨fun _ => h, fun _ => rfl⟩⟩
  | x :: r, acc, h => by
    have e : mergeD (boolKv acc) (boolKv (x :: r)) = mergeD (putD (boolKv acc) (Sum.inl x) (.bool true)) (boolKv r) := rfl
    by_cases hx : x ∈ acc
    · obtain ⟨m, h1, h2, h3, h4⟩ := mergeB r acc h
      refine ⟨m, h1, ?_, by rw [List.length_cons]; omega, ?_⟩
      · rw [e, ← h2]
        congr 1
        unfold putD
        rw [boolKv_any, decide_eq_true hx, if_pos rfl]
        unfold boolKv
        rw [List.map_map]
        refine List.map_congr_left fun y _ => ?_
        show (if Sum.inl y = Sum.inl x then _ else _) = _
        split <;> rfl
      · constructor
        · intro z
          rw [List.length_cons] at z
          omega
        · intro z
          rw [List.nodup_append] at z
          exact absurd rfl (z.2.2 x hx x List.mem_cons_self)
    · have hn : (acc ++ [x]).Nodup := by
        rw [List.nodup_append]
        refine ⟨h, by simp, fun a ha b hb z => ?_⟩
        rw [List.mem_singleton] at hb
        subst hb z
        exact hx ha
      obtain ⟨m, h1, h2, h3, h4⟩ := mergeB r (acc ++ [x]) hn
      rw [List.length_append, List.length_singleton] at h3 h4
      refine ⟨m, h1, ?_, by rw [List.length_cons]; omega, ?_⟩
      · rw [e, boolKv_put hx]
        exact h2
      · rw [List.length_cons, show acc.length + (r.length + 1) = acc.length + 1 + r.length by omega, h4, List.append_assoc]
        rfl
theorem mergeB_len (l : List Int) : (decide (((mergeD [] (boolKv l)).length : Int) = l.length)) = decide l.Nodup := by
  obtain ⟨m, h1, h2, h3, h4⟩ := mergeB l [] List.nodup_nil
  have e : mergeD [] (boolKv l) = boolKv m := h2
  rw [List.length_nil, Nat.zero_add, List.nil_append] at h4
  rw [e, boolKv_len, Bool.eq_iff_iff, decide_eq_true_iff, decide_eq_true_iff, ← h4]
  omega
theorem cut1 (ns : List Int) : cut ns (some 1) none = ns.tail := by
  unfold cut
  have e : HT.sIx ns.length 0 (some 1) = min 1 ns.length := HT.sIx_nat ns.length 0 1
  rw [e, HT.sIx_none]
  cases ns with
  | nil => rfl
  | cons a r =>
    have h1 : min 1 (a :: r).length = 1 := by rw [List.length_cons]; omega
    rw [h1, List.drop_one, List.tail_cons, List.length_cons]
    exact List.take_of_length_le (by omega)
theorem asc_pw : ∀ ns : List Int, asc ns = true ↔ ns.Pairwise (· < ·)
  | [] => ⟨fun _ => .nil, fun _ => rfl⟩
  | [a] => ⟨fun _ => List.pairwise_singleton _ _, fun _ => by unfold asc; rw [cut1]; rfl⟩
  | a :: b :: r => by
    have ih := asc_pw (b :: r)
    unfold asc at ih ⊢
    rw [cut1] at ih ⊢
    rw [List.tail_cons] at ih ⊢
    rw [List.zip_cons_cons, List.all_cons, Bool.and_eq_true, ih, decide_eq_true_iff]
    constructor
    · rintro ⟨h1, h2⟩
      refine List.pairwise_cons.mpr ⟨fun x hx => ?_, h2⟩
      rcases List.mem_cons.mp hx with e | e
      · rw [e]; exact h1
      · exact Int.lt_trans h1 ((List.pairwise_cons.mp h2).1 x e)
    · intro h
      obtain ⟨h1, h2⟩ := List.pairwise_cons.mp h
      exact ⟨h1 b List.mem_cons_self, h2⟩
theorem isOf_of {n : Int} {ns : List Int} (h : ns.Pairwise (· < ·)) (r : ∀ x ∈ ns, 0 ≤ x ∧ x < n) : isOf n ns = true := by
  unfold isOf
  rw [(asc_pw ns).mpr h, Bool.true_and, List.all_eq_true]
  intro x hx
  rw [Bool.and_eq_true, decide_eq_true_iff, decide_eq_true_iff]
  exact r x hx
theorem isort_lt {l : List Int} (h : l.Nodup) : (isort l).Pairwise (· < ·) := by
  have h1 := isort_sorted l
  have h2 : (isort l).Nodup := (isort_perm l).nodup_iff.mpr h
  exact (h1.and h2).imp fun ⟨a, b⟩ => by omega
theorem isort_mem {l : List Int} {x : Int} : x ∈ isort l ↔ x ∈ l := (isort_perm l).mem_iff
theorem isort_len (l : List Int) : (isort l).length = l.length := (isort_perm l).length_eq
theorem res_inj {n a b t : Int} (ha : 0 ≤ a ∧ a < n) (hb : 0 ≤ b ∧ b < n) (h : (a + t) % n = (b + t) % n) : a = b := by
  have q := (Int.emod_add_cancel_right t).mp h
  rwa [Int.emod_eq_of_lt ha.1 ha.2, Int.emod_eq_of_lt hb.1 hb.2] at q
theorem mod_in {n : Int} (h : 0 < n) (x : Int) : 0 ≤ x % n ∧ x % n < n := ⟨Int.emod_nonneg _ (by omega), Int.emod_lt_of_pos _ h⟩
theorem lt_nodup {l : List Int} (h : l.Pairwise (· < ·)) : l.Nodup := h.imp fun q => by omega
theorem turn_set {n t : Int} {l : List Int} (h0 : 0 < n) (h : l.Pairwise (· < ·)) (r : ∀ x ∈ l, 0 ≤ x ∧ x < n) : (turnOf n l t).Pairwise (· < ·) ∧ (∀ x ∈ turnOf n l t, 0 ≤ x ∧ x < n) := by
  unfold turnOf
  refine ⟨isort_lt ?_, fun x hx => ?_⟩
  · rw [List.Nodup, List.pairwise_map]
    exact List.Pairwise.imp_of_mem (fun {a b} ha hb ne z => by
      have := res_inj (r a ha) (r b hb) z
      omega) h
  · obtain ⟨b, _, rfl⟩ := List.mem_map.mp (isort_mem.mp hx)
    exact mod_in h0 _
theorem turn_len (n t : Int) (l : List Int) : (turnOf n l t).length = l.length := by
  unfold turnOf
  rw [isort_len, List.length_map]
theorem getD_mem {l : List Int} (i : Int) (h : 0 < l.length) : l.getD (i % l.length).toNat 0 ∈ l := by
  have h1 : 0 ≤ i % (l.length : Int) := Int.emod_nonneg _ (by omega)
  have h2 : i % (l.length : Int) < l.length := Int.emod_lt_of_pos _ (by omega)
  have h3 : (i % (l.length : Int)).toNat < l.length := by omega
  rw [List.getD_eq_getElem?_getD, List.getElem?_eq_getElem h3]
  exact List.getElem_mem h3
def divs (n : Int) : List Int := (irange 1 (n + 1)).filter fun x => n % x == 0
theorem divs_mem {n x : Int} (h : x ∈ divs n) : 1 ≤ x ∧ x ≤ n ∧ n % x = 0 := by
  unfold divs at h
  obtain ⟨h1, h2⟩ := List.mem_filter.mp h
  have h3 := mem_irange.mp h1
  exact ⟨h3.1, by omega, by simpa using h2⟩
theorem divs_ne {n : Int} (h : 1 ≤ n) : 0 < (divs n).length := by
  refine List.length_pos_of_mem (a := 1) ?_
  unfold divs
  exact List.mem_filter.mpr ⟨mem_irange.mpr ⟨by omega, by omega⟩, by simp⟩
def divN (n : Int) (s : List Int) : Int := (divs n).getD (lastD s % (divs n).length).toNat 0
theorem divN_in {n : Int} (h : 1 ≤ n) (s : List Int) : 1 ≤ divN n s ∧ divN n s ≤ n ∧ n % divN n s = 0 := divs_mem (getD_mem (lastD s) (divs_ne h))
theorem irange_lt (lo hi : Int) : (irange lo hi).Pairwise (· < ·) := by
  unfold irange
  rw [List.pairwise_map]
  exact List.pairwise_lt_range.imp fun {i j} h => by omega
theorem srange_lt {d : Int} (h : 0 < d) (m : Nat) : (srange 0 d m).Pairwise (· < ·) := by
  unfold srange
  rw [List.pairwise_map]
  refine List.pairwise_lt_range.imp fun {i j} hij => ?_
  have q : (i : Int) * d < (j : Int) * d := Int.mul_lt_mul_of_pos_right (by omega) h
  omega
theorem srange_in {n d : Int} {m : Nat} (h : 0 < d) (hn : n = d * m) : ∀ x ∈ srange 0 d m, 0 ≤ x ∧ x < n := fun x hx => by
  unfold srange at hx
  obtain ⟨k, hk, rfl⟩ := List.mem_map.mp hx
  rw [List.mem_range] at hk
  have h1 := Int.mul_nonneg (Int.natCast_nonneg k) (Int.le_of_lt h)
  have h2 : (k : Int) * d < (m : Int) * d := Int.mul_lt_mul_of_pos_right (by omega) h
  rw [hn, Int.mul_comm d]
  omega
theorem cut_sub (ns : List Int) (lo hi : Option Int) : (cut ns lo hi).Sublist ns := (List.take_sublist _ _).trans (List.drop_sublist _ _)
theorem cut_to1 (ns : List Int) : cut ns none (some 1) = ns.take 1 := by
  unfold cut
  have e : HT.sIx ns.length ns.length (some 1) = min 1 ns.length := HT.sIx_nat ns.length ns.length 1
  rw [e, HT.sIx_none, List.drop_zero, Nat.sub_zero]
  cases ns with
  | nil => rfl
  | cons a r => rw [List.length_cons, show min 1 (r.length + 1) = 1 by omega]
theorem cut_from2 (ns : List Int) : cut ns (some 2) none = ns.drop 2 := by
  unfold cut
  have e : HT.sIx ns.length 0 (some 2) = min 2 ns.length := HT.sIx_nat ns.length 0 2
  rw [e, HT.sIx_none]
  match ns with
  | [] => rfl
  | [_] => rfl
  | a :: b :: r =>
    rw [show min 2 (a :: b :: r).length = 2 by simp only [List.length_cons]; omega]
    exact List.take_of_length_le (by rw [List.length_drop]; exact Nat.le_refl _)
theorem skip_sub (ns : List Int) : (cut ns none (some 1) ++ cut ns (some 2) none).Sublist ns := by
  rw [cut_to1, cut_from2]
  match ns with
  | [] => exact List.Sublist.refl _
  | [_] => exact List.Sublist.refl _
  | a :: b :: r => exact ((List.Sublist.refl r).cons b).cons₂ a
theorem sub_set {n : Int} {l m : List Int} (h : l.Pairwise (· < ·)) (r : ∀ x ∈ l, 0 ≤ x ∧ x < n) (s : m.Sublist l) : m.Pairwise (· < ·) ∧ ∀ x ∈ m, 0 ≤ x ∧ x < n := ⟨h.sublist s, fun x hx => r x (s.subset hx)⟩
/-- a set of the ring -/
def SetR (n : Int) (l : List Int) : Prop := l.Pairwise (· < ·) ∧ ∀ x ∈ l, 0 ≤ x ∧ x < n
theorem SetR.is {n : Int} {l : List Int} (h : SetR n l) : isOf n l = true := isOf_of h.1 h.2
theorem SetR.len {n : Int} {l : List Int} (h : SetR n l) (h0 : n ≤ 60) : l.length ≤ 60 := by
  have := nodup_few (n := n.toNat) (lt_nodup h.1) (fun x hx => by
    have := h.2 x hx
    omega)
  omega
theorem SetR.turn {n t : Int} {l : List Int} (h : SetR n l) (h0 : 0 < n) : SetR n (turnOf n l t) := turn_set h0 h.1 h.2
theorem SetR.sub {n : Int} {l m : List Int} (h : SetR n l) (s : m.Sublist l) : SetR n m := sub_set h.1 h.2 s
theorem someF_set {n : Int} (s : List Int) : SetR n (someF n s).1 := SetR.sub ⟨irange_lt 0 n, fun x hx => mem_irange.mp hx⟩ (filtS_sub _ _ _)
theorem someF_rng {n : Int} {s : List Int} (h : rngD s) : rngD (someF n s).2 := filtS_rng _ _ _ (rngD_drop h)
theorem rgC_fin : ∀ n d : Fin 49, 1 ≤ n.val → 1 ≤ d.val → n.val % d.val = 0 → (Builtin.Range.small 0 (n.val : Int) (d.val : Int) = true ∧ Builtin.Range.rangeSize 0 (n.val : Int) (d.val : Int) = ((n.val / d.val : Nat) : Int)) := by decide +kernel
theorem rgC_div {n d : Int} (hn : 1 ≤ n ∧ n ≤ 48) (hd : 1 ≤ d ∧ d ≤ n) (h : n % d = 0) : RgC 0 n d (n / d).toNat := by
  obtain ⟨n', rfl⟩ := Int.eq_ofNat_of_zero_le (show 0 ≤ n by omega)
  obtain ⟨d', rfl⟩ := Int.eq_ofNat_of_zero_le (show 0 ≤ d by omega)
  have q := rgC_fin ⟨n', by omega⟩ ⟨d', by omega⟩ (by show 1 ≤ n'; omega) (by show 1 ≤ d'; omega) (by show n' % d' = 0; omega)
  have e : ((n' : Int) / (d' : Int)).toNat = n' / d' := by
    rw [← Int.natCast_ediv]
    rfl
  rw [e]
  exact ⟨by omega, by omega, q.1, q.2⟩
theorem div_back {n d : Int} (hn : 1 ≤ n) (hd : 1 ≤ d) (h : n % d = 0) : n = d * ((n / d).toNat : Nat) := by
  have h1 : 0 ≤ n / d := Int.ediv_nonneg (by omega) (by omega)
  rw [Int.toNat_of_nonneg h1]
  exact (Int.mul_ediv_cancel' (Int.dvd_of_emod_eq_zero h)).symm
/-- residues of a row, where no two are alike -/
theorem mod_set {n : Int} {l : List Int} (h0 : 0 < n) (h : SetR n l) (g : Int → Int) (inj : ∀ a b, 0 ≤ a ∧ a < n → 0 ≤ b ∧ b < n → g a % n = g b % n → a = b) : SetR n (isort (l.map fun b => g b % n)) := by
  refine ⟨isort_lt ?_, fun x hx => ?_⟩
  · rw [List.Nodup, List.pairwise_map]
    exact List.Pairwise.imp_of_mem (fun {a b} ha hb ne z => by
      have := inj a b (h.2 a ha) (h.2 b hb) z
      omega) h.1
  · obtain ⟨b, _, rfl⟩ := List.mem_map.mp (isort_mem.mp hx)
    exact mod_in h0 _
theorem dvd_res {n a b : Int} (h0 : 0 < n) (ha : 0 ≤ a ∧ a < n) (hb : 0 ≤ b ∧ b < n) (h : n ∣ a - b) : a = b := by
  obtain ⟨k, hk⟩ := h
  have : k = 0 := by
    by_cases h1 : 1 ≤ k
    · have := Int.mul_le_mul_of_nonneg_left h1 (Int.le_of_lt h0)
      omega
    · by_cases h2 : k ≤ -1
      · have := Int.mul_le_mul_of_nonneg_left h2 (Int.le_of_lt h0)
        omega
      · omega
  subst this
  omega
theorem unit_inj {n f t : Int} (h0 : 0 < n) (hc : Nat.gcd f.natAbs n.natAbs = 1) {a b : Int} (ha : 0 ≤ a ∧ a < n) (hb : 0 ≤ b ∧ b < n) (h : (f * a + t) % n = (f * b + t) % n) : a = b := by
  have h1 := Int.emod_eq_emod_iff_emod_sub_eq_zero.mp h
  have h2 : n ∣ f * (a - b) := by
    rw [Int.mul_sub]
    have : f * a + t - (f * b + t) = f * a - f * b := by omega
    rw [← this]
    exact Int.dvd_of_emod_eq_zero h1
  refine dvd_res h0 ha hb ?_
  have h3 : n.natAbs ∣ f.natAbs * (a - b).natAbs := by
    rw [← Int.natAbs_mul]
    exact Int.natAbs_dvd_natAbs.mpr h2
  have h4 : n.natAbs ∣ (a - b).natAbs := Nat.Coprime.dvd_of_dvd_mul_left (Nat.Coprime.symm hc) h3
  exact Int.natAbs_dvd_natAbs.mp h4
theorem ring400 {n : Int} (hn : 1 ≤ n ∧ n ≤ 400) : ringB n = true := by
  unfold ringB
  rw [decide_eq_true hn.1, decide_eq_true hn.2]
  rfl
theorem chk_in {n : Int} {ss : List Int} {o : FOut} {x : List Sl} (hn : 1 ≤ n ∧ n ≤ 400) (h : SetR n ss) : chkO n ss o x = o := by
  unfold chkO
  rw [if_pos (ring400 hn), if_pos h.is]
def ringO (n : Int) (ok : FOut) (ss : List Sl) : FOut := if ringB n = true then ok else .ex "BadNumber" ss
def dd : List Int → List Int → List Int
  | acc, [] => acc
  | acc, x :: r => dd (if x ∈ acc then acc else acc ++ [x]) r
theorem dd_merge : ∀ (l acc : List Int), mergeD (boolKv acc) (boolKv l) = boolKv (dd acc l)
  | [], acc => rfl
  | x :: r, acc => by
    have e : mergeD (boolKv acc) (boolKv (x :: r)) = mergeD (putD (boolKv acc) (Sum.inl x) (.bool true)) (boolKv r) := rfl
    rw [e]
    unfold dd
    by_cases hx : x ∈ acc
    · rw [if_pos hx, ← dd_merge r acc]
      congr 1
      unfold putD
      rw [boolKv_any, decide_eq_true hx, if_pos rfl]
      unfold boolKv
      rw [List.map_map]
      refine List.map_congr_left fun y _ => ?_
      show (if Sum.inl y = Sum.inl x then _ else _) = _
      split <;> rfl
    · rw [if_neg hx, boolKv_put hx]
      exact dd_merge r _
theorem dd_mem {x : Int} : ∀ (l acc : List Int), x ∈ dd acc l ↔ x ∈ acc ∨ x ∈ l
  | [], acc => by
    unfold dd
    simp
  | y :: r, acc => by
    unfold dd
    rw [dd_mem r]
    by_cases hy : y ∈ acc
    · rw [if_pos hy, List.mem_cons]
      constructor
      · rintro (h | h)
        · exact .inl h
        · exact .inr (.inr h)
      · rintro (h | h | h)
        · exact .inl h
        · exact .inl (h ▸ hy)
        · exact .inr h
    · rw [if_neg hy, List.mem_append, List.mem_singleton, List.mem_cons]
      constructor
      · rintro ((h | h) | h)
        · exact .inl h
        · exact .inr (.inl h)
        · exact .inr (.inr h)
      · rintro (h | h | h)
        · exact .inl (.inl h)
        · exact .inl (.inr h)
        · exact .inr h
theorem dd_len : ∀ (l acc : List Int), (dd acc l).length ≤ acc.length + l.length
  | [], acc => Nat.le_refl _
  | x :: r, acc => by
    unfold dd
    refine Nat.le_trans (dd_len r _) ?_
    rw [List.length_cons]
    split
    · omega
    · rw [List.length_append, List.length_singleton]; omega
theorem isOf_mem {n : Int} {ns : List Int} (h : isOf n ns = true) : ∀ x ∈ ns, 0 ≤ x ∧ x < n := fun x hx => by
  unfold isOf at h
  rw [Bool.and_eq_true, List.all_eq_true] at h
  have q := h.2 x hx
  rw [Bool.and_eq_true, decide_eq_true_iff, decide_eq_true_iff] at q
  exact q
theorem isOf_lt {n : Int} {ns : List Int} (h : isOf n ns = true) : ns.Pairwise (· < ·) := by
  unfold isOf at h
  rw [Bool.and_eq_true] at h
  exact (asc_pw ns).mp h.1
theorem isOf_nodup {n : Int} {ns : List Int} (h : isOf n ns = true) : ns.Nodup := lt_nodup (isOf_lt h)
def optD : Option (List Int) → D
  | some l => .tuple (l.map .int)
  | none => .none
theorem dc_keys {α : Type} (xs : List α) (kv : α → Int) : mergeD [] (xs.map fun a => ((Sum.inl (kv a) : Key), PyData.bool true)) = boolKv (dd [] (xs.map kv)) := by
  have e : (xs.map fun a => ((Sum.inl (kv a) : Key), PyData.bool true)) = boolKv (xs.map kv) := by
    unfold boolKv
    rw [List.map_map]
    rfl
  rw [e]
  exact dd_merge _ []
theorem dd_nodup : ∀ (l acc : List Int), acc.Nodup → (dd acc l).Nodup
  | [], acc, h => h
  | x :: r, acc, h => by
    unfold dd
    refine dd_nodup r _ ?_
    split
    · exact h
    · rename_i hx
      rw [List.nodup_append]
      refine ⟨h, by simp, fun a ha b hb z => ?_⟩
      rw [List.mem_singleton] at hb
      subst hb z
      exact hx ha
theorem dd_full : ∀ (l acc : List Int), acc.Nodup → ((dd acc l).length = acc.length + l.length ↔ (acc ++ l).Nodup)
  | [], acc, h => by
    unfold dd
    rw [List.append_nil]
    exact ⟨fun _ => h, fun _ => rfl⟩
  | x :: r, acc, h => by
    unfold dd
    by_cases hx : x ∈ acc
    · rw [if_pos hx]
      have := dd_len r acc
      constructor
      · intro z
        rw [List.length_cons] at z
        omega
      · intro z
        rw [List.nodup_append] at z
        exact absurd rfl (z.2.2 x hx x List.mem_cons_self)
    · rw [if_neg hx]
      have hn : (acc ++ [x]).Nodup := by
        rw [List.nodup_append]
        refine ⟨h, by simp, fun a ha b hb z => ?_⟩
        rw [List.mem_singleton] at hb
        subst hb z
        exact hx ha
      have ih := dd_full r (acc ++ [x]) hn
      rw [List.length_append, List.length_singleton] at ih
      rw [List.length_cons, show acc.length + (r.length + 1) = acc.length + 1 + r.length by omega, ih, List.append_assoc]
      rfl
theorem dd_all (l : List Int) : (dd [] l).length = l.length ↔ l.Nodup := by
  have := dd_full l [] List.nodup_nil
  rw [List.length_nil, Nat.zero_add, List.nil_append] at this
  exact this
theorem SetR.card {n : Int} {l : List Int} (h : SetR n l) (h0 : 0 ≤ n) : (l.length : Int) ≤ n := by
  have := nodup_few (n := n.toNat) (lt_nodup h.1) (fun x hx => by
    have := h.2 x hx
    omega)
  omega
theorem atI_snoc {l : List D} {d : D} : atI (l ++ [d]) (-1) = some d := by
  unfold atI
  have h : ixN (l ++ [d]).length (-1) = some l.length := by
    rw [List.length_append, List.length_singleton]
    unfold ixN
    rw [if_neg (by decide), if_pos (by omega)]
    congr 1
    omega
  rw [h]
  show (l ++ [d])[l.length]? = _
  rw [List.getElem?_append_right (Nat.le_refl _), Nat.sub_self]
  rfl
theorem atI_lastD {ns : List Int} (h : ns ≠ []) : atI (ns.map PyData.int) (-1) = some (.int (lastD ns)) := by
  obtain ⟨l, d, rfl⟩ : ∃ l d, ns = l ++ [d] := ⟨ns.dropLast, ns.getLast h, (List.dropLast_concat_getLast h).symm⟩
  have q : lastD (l ++ [d]) = d := by
    unfold lastD
    simp
  rw [q, List.map_append]
  exact atI_snoc
def getZ (l : List Int) (i : Int) : Int := l.getD i.toNat 0
theorem atI_getZ {l : List Int} {i : Int} (h : 0 ≤ i ∧ i < l.length) : atI (l.map PyData.int) i = some (.int (getZ l i)) := by
  unfold atI
  rw [ixN_pos h.1 (by rw [List.length_map]; exact h.2)]
  show (l.map PyData.int)[i.toNat]? = _
  have hi : i.toNat < l.length := by omega
  rw [List.getElem?_map, List.getElem?_eq_getElem hi]
  unfold getZ
  rw [List.getD_eq_getElem?_getD, List.getElem?_eq_getElem hi]
  rfl
def countI (n : Int) (ss : List Int) (b L : Int) : Int := ((ss.filter fun x => decide ((x - b) % n < L)).length : Nat)
def spansZ (n : Int) (ss : List Int) (j : Int) : List Int := (irange 0 ss.length).map fun at_ => (getZ ss ((at_ + j) % ss.length) - getZ ss at_) % n
theorem enumD_ints (ns : List Int) : enumD (ns.map .int) = (irange 0 ns.length).map fun i => PyData.tuple [.int i, .int (getZ ns i)] := by
  refine List.ext_getElem? fun k => ?_
  unfold enumD
  rw [List.getElem?_map, List.getElem?_map, List.length_map]
  by_cases hk : k < ns.length
  · rw [List.getElem?_range hk, irange_get (by omega)]
    show some (PyData.tuple [.int (k : Nat), (ns.map PyData.int).getD k .none]) = some (PyData.tuple [.int (0 + (k : Int)), .int (getZ ns (0 + (k : Int)))])
    have e : getZ ns (0 + (k : Int)) = ns[k] := by
      unfold getZ
      rw [show (0 + (k : Int)).toNat = k by omega, List.getD_eq_getElem?_getD, List.getElem?_eq_getElem hk]
      rfl
    rw [e, Int.zero_add, List.getD_eq_getElem?_getD, List.getElem?_map, List.getElem?_eq_getElem hk]
    rfl
  · rw [List.getElem?_eq_none (by rw [List.length_range]; omega), List.getElem?_eq_none (by rw [irange_len]; omega)]
    rfl
theorem find_at {α : Type} {l : List α} {q : α → Bool} {k : Nat} {a : α} (h : (l.take k).find? q = none) (hk : l[k]? = some a) : (q a = true → l.find? q = some a) ∧ (q a = false → (l.take (k + 1)).find? q = none) := by
  have e := take_succ_get hk
  refine ⟨fun hq => ?_, fun hq => ?_⟩
  · have e2 : l = l.take (k + 1) ++ l.drop (k + 1) := (List.take_append_drop _ _).symm
    rw [e2, e, List.find?_append, List.find?_append, h]
    simp [hq]
  · rw [e, List.find?_append, h]
    simp [hq]
theorem len_card {ss : List Int} : Rs.val (.int ((List.length (ss.map PyData.int) : Nat) : Int)) = .val (.int ss.length) := congrArg (fun k : Nat => Rs.val (.int k)) (List.length_map _)
theorem cut_to {α : Type} (l : List α) (k : Nat) : cut l none (some (k : Int)) = l.take k := by
  unfold cut
  have e : HT.sIx l.length l.length (some (k : Int)) = min k l.length := HT.sIx_nat _ _ _
  rw [e, HT.sIx_none, List.drop_zero, Nat.sub_zero]
  by_cases h : k ≤ l.length
  · rw [Nat.min_eq_left h]
  · rw [Nat.min_eq_right (by omega), List.take_length, List.take_of_length_le (by omega)]
theorem cut_from {α : Type} (l : List α) (k : Nat) : cut l (some (k : Int)) none = l.drop k := by
  unfold cut
  have e : HT.sIx l.length 0 (some (k : Int)) = min k l.length := HT.sIx_nat _ _ _
  rw [e, HT.sIx_none]
  by_cases h : k ≤ l.length
  · rw [Nat.min_eq_left h, List.take_of_length_le (by rw [List.length_drop]; omega)]
  · rw [Nat.min_eq_right (by omega), List.drop_length, List.drop_of_length_le (by omega), List.take_nil]
def lawEven (n m r : Int) : List Int := isort ((irange 0 m).map fun k => ((k * n + r) / m) % n)
theorem hu3_of {k : Nat} {A : Around} (h : Room k A) : A.units + 2 < cLine := by
  have := h.un
  omega
theorem hu1_of {k : Nat} {A : Around} (h : Room k A) : A.units + 1 < cLine := by
  have := h.un
  omega
theorem ne_selfS (x : Str) : (!decide (x = x)) = false := by simp
theorem keys_mergeI {β : Type} (g : β → D) : ∀ (xs : List (Int × β)) (acc : List (Key × D)) (l : List Int), acc.map (·.1) = l.map Sum.inl → (mergeD acc (xs.map fun q => ((Sum.inl q.1 : Key), g q.2))).map (·.1) = (dd l (xs.map (·.1))).map Sum.inl
  | [], acc, l, h => h
  | x :: xs, acc, l, h => by
    have e1 : mergeD acc ((x :: xs).map fun q => ((Sum.inl q.1 : Key), g q.2)) = mergeD (putD acc (Sum.inl x.1) (g x.2)) (xs.map fun q => ((Sum.inl q.1 : Key), g q.2)) := rfl
    have e : (acc.any fun kv => decide (kv.1 = Sum.inl x.1)) = decide (x.1 ∈ l) := by
      have e2 : (acc.any fun kv => decide (kv.1 = Sum.inl x.1)) = (acc.map (·.1)).any fun k => decide (k = Sum.inl x.1) := by rw [List.any_map]; rfl
      rw [e2, h, List.any_map, Bool.eq_iff_iff, decide_eq_true_iff, List.any_eq_true]
      constructor
      · rintro ⟨y, hy, q⟩
        have q : (Sum.inl y : Key) = Sum.inl x.1 := of_decide_eq_true q
        cases q
        exact hy
      · intro q
        exact ⟨x.1, q, decide_eq_true rfl⟩
    have k : (putD acc (Sum.inl x.1) (g x.2)).map (·.1) = (if x.1 ∈ l then l else l ++ [x.1]).map Sum.inl := by
      unfold putD
      rw [e]
      by_cases q : x.1 ∈ l
      · rw [decide_eq_true q, if_pos rfl, if_pos q, ← h, List.map_map]
        refine List.map_congr_left fun y _ => ?_
        show (if y.1 = Sum.inl x.1 then (y.1, g x.2) else y).1 = y.1
        split <;> rfl
      · rw [decide_eq_false q, if_neg (by decide), if_neg q, List.map_append, List.map_append, h]
        rfl
    rw [e1, keys_mergeI g xs _ _ k, List.map_cons, dd]
section
variable {X : Cx} {env env1 : Ev} {e : Expr} {p p2 pos pos2 : Pos} {R : Rs} {β : Type} {xs : List (Int × β)} {g : β → D}
theorem cv_sortDI (B : Blt X.mg) (hc : X.calm = true) (h : EV X e env R env1) (w : Pd.fz R = .val (.list (xs.map (prG PyData.int g)))) (hg : Gl X "sorted" := by rfl) (hg2 : Gl X "dict" := by rfl) (he : starEach (e :: []) X.env = (false, eval e X.env) :: starEach [] X.env := by rfl) (hpl : (backTo pos2 (starEach [] X.env)).any (·.1) = false := by rfl)
    (he2 : starEach (Expr.Call (.Name "dict" p2) [e] [] pos2 :: []) X.env = (false, eval (Expr.Call (.Name "dict" p2) [e] [] pos2) X.env) :: starEach [] X.env := by rfl) (hpl2 : (backTo pos (starEach [] X.env)).any (·.1) = false := by rfl) :
    EV X (.Call (.Name "sorted" p) [.Call (.Name "dict" p2) [e] [] pos2] [] pos) env (.new (.lst none ((isort (dd [] (xs.map (·.1)))).map .int))) env1 := by
  rw [keysP] at w
  exact ev_sortedKn (pos := pos) (p := p) B hc (ev_dictP (pos := pos2) (p := p2) B hc h w hg2 he hpl) (keys_mergeI g xs [] [] rfl) hg he2 hpl2
end
def headOf (n : Int) : List Int → List Int
  | [] => []
  | b :: r => minT (turnOf n (b :: r) (-b)) (r.map fun c => turnOf n (b :: r) (-c))
theorem map_getT0 {l : List (List Int)} {i : Nat} {d : D} (h : (l.map tupI)[i]? = some d) : ∃ x, l[i]? = some x ∧ d = tupI x := by
  rw [List.getElem?_map] at h
  cases e : l[i]? with
  | none => rw [e] at h; cases h
  | some x => rw [e] at h; cases h; exact ⟨x, rfl, rfl⟩
def movedOf (n : Int) (ns : List Int) (f t : Int) : List Int := isort (ns.map fun b => (f * b + t) % n)
theorem pins5 {pins : List Addr} {a b c d e : Sl} (h : pins.length = [a, b, c, d, e].length) : ∃ p q r t u, pins = [p, q, r, t, u] := match pins, h with
  | [p, q, r, t, u], _ => ⟨p, q, r, t, u, rfl⟩
theorem pins6 {pins : List Addr} {a b c d e f : Sl} (h : pins.length = [a, b, c, d, e, f].length) : ∃ p q r t u v, pins = [p, q, r, t, u, v] := match pins, h with
  | [p, q, r, t, u, v], _ => ⟨p, q, r, t, u, v, rfl⟩
section
variable {P : Program} {w : World} {K : Pd.Frag} {mg : Str → Option Value} {base : Heap} {ea : Str → Addr}
structure Errs (K : Pd.Frag) (mg : Str → Option Value) (ea : Str → Addr) : Prop where
  g1 : mg "NotRhythm" = some (.ref (ea "NotRhythm"))
  g2 : mg "NotChoir" = some (.ref (ea "NotChoir"))
  g3 : mg "NotSet" = some (.ref (ea "NotSet"))
  g4 : mg "NotPaper" = some (.ref (ea "NotPaper"))
  g5 : mg "BadNumber" = some (.ref (ea "BadNumber"))
  g6 : mg "NoAnswer" = some (.ref (ea "NoAnswer"))
  g7 : mg "TooLarge" = some (.ref (ea "TooLarge"))
  g8 : mg "BeatError" = some (.ref (ea "BeatError"))
  k1 : ErrK K ea "NotRhythm" [("NotRhythm", true), ("NotChoir", false), ("NotSet", false), ("NotPaper", false), ("BadNumber", false), ("NoAnswer", false), ("TooLarge", false)]
  k2 : ErrK K ea "NotChoir" [("NotRhythm", false), ("NotChoir", true), ("NotSet", false), ("NotPaper", false), ("BadNumber", false), ("NoAnswer", false), ("TooLarge", false)]
  k3 : ErrK K ea "NotSet" [("NotRhythm", false), ("NotChoir", false), ("NotSet", true), ("NotPaper", false), ("BadNumber", false), ("NoAnswer", false), ("TooLarge", false)]
  k4 : ErrK K ea "NotPaper" [("NotRhythm", false), ("NotChoir", false), ("NotSet", false), ("NotPaper", true), ("BadNumber", false), ("NoAnswer", false), ("TooLarge", false)]
  k5 : ErrK K ea "BadNumber" [("NotRhythm", false), ("NotChoir", false), ("NotSet", false), ("NotPaper", false), ("BadNumber", true), ("NoAnswer", false), ("TooLarge", false)]
  k6 : ErrK K ea "NoAnswer" [("NotRhythm", false), ("NotChoir", false), ("NotSet", false), ("NotPaper", false), ("BadNumber", false), ("NoAnswer", true), ("TooLarge", false)]
  k7 : ErrK K ea "TooLarge" [("NotRhythm", false), ("NotChoir", false), ("NotSet", false), ("NotPaper", false), ("BadNumber", false), ("NoAnswer", false), ("TooLarge", true)]
def kindNames : List D := [.str "rhythm", .str "choir", .str "set", .str "paper", .str "number", .str "none", .str "large"]
def kindS (c : Str) : Str := if c = "NotRhythm" then "!rhythm" else if c = "NotChoir" then "!choir" else if c = "NotSet" then "!set" else if c = "NotPaper" then "!paper" else if c = "BadNumber" then "!number" else if c = "NoAnswer" then "!none" else "!large"
theorem kind_body {f : Addr} {cdv : Value} {A : Around} {outer : List Env} {s : Shared} {H : Hp} {E : XK} {p : Addr × Obj} {c : Str} {b1 b2 b3 b4 b5 b6 b7 : Bool} {j : Nat} {nm : Str} {pa : Addr} (B : Blt mg) (Er : Errs K mg ea) (hr : L2H.RoomH 0 (cxAt P w K mg base ["error", "names", "found"] "_law_kind" s_law_kind f cdv A outer s H E false [p]).A)
    (k : ErrK K ea c [("NotRhythm", b1), ("NotChoir", b2), ("NotSet", b3), ("NotPaper", b4), ("BadNumber", b5), ("NoAnswer", b6), ("TooLarge", b7)]) (hz : Zc (.ref (ea c)) none p.2) (hf : ∃ vs, p.2.data = .fields vs)
    (h1 : [b1, b2, b3, b4, b5, b6, b7].count true = 1) (h2 : [b1, b2, b3, b4, b5, b6, b7][j]? = some true) (h3 : kindNames[j]? = some (.str nm)) (hno : ∀ (m : Nat) (z' : D), m < j → ([b1, b2, b3, b4, b5, b6, b7].map PyData.bool)[m]? = some z' → PyData.eqv z' (.bool true) = false) (hl : nm.length ≤ 100) :
    ES (cxAt P w K mg base ["error", "names", "found"] "_law_kind" s_law_kind f cdv A outer s H E false [p]) ea (fun cls d _ H => E cls d H) (defBody s_law_kind) [.obj p.1, .un, .un] (finP [pa] [.obj p.1] (.rt (.val (.str ((("!" : Str)) ++ nm))) [.un])) := by
  have hu : A.units + 3 + 65 < cLine := by
    have h2 : A.units + 3 + 16 * 0 + 200 < cLine := hr.un
    omega
  have is (x : Str) (b : Bool) (hx : (x, b) ∈ [(("NotRhythm" : Str), b1), ("NotChoir", b2), ("NotSet", b3), ("NotPaper", b4), ("BadNumber", b5), ("NoAnswer", b6), ("TooLarge", b7)]) := k.kit (x, b) hx
  have h2' : ([b1, b2, b3, b4, b5, b6, b7].map PyData.bool)[j]? = some (.bool true) := by rw [List.getElem?_map, h2]; rfl
  have h3' : atI kindNames (j : Int) = some (.str nm) := atI_nat h3
  refine es_set 1 (ev_lst (ds := kindNames) (ea_cons ev_str (ea_cons ev_str (ea_cons ev_str (ea_cons ev_str (ea_cons ev_str (ea_cons ev_str (ea_cons ev_str ea_nil))))))) rfl) ?_ sc_law_kind.nd
  refine es_set 2 (ev_lst (ds := [.bool b1, .bool b2, .bool b3, .bool b4])
    (ea_cons (ev_isH B k.ex hz hf (List.mem_singleton.mpr rfl) (ev_nm 0 rfl) Er.g1 (is "NotRhythm" b1 (by simp)))
    (ea_cons (ev_isH B k.ex hz hf (List.mem_singleton.mpr rfl) (ev_nm 0 rfl) Er.g2 (is "NotChoir" b2 (by simp)))
    (ea_cons (ev_isH B k.ex hz hf (List.mem_singleton.mpr rfl) (ev_nm 0 rfl) Er.g3 (is "NotSet" b3 (by simp)))
    (ea_cons (ev_isH B k.ex hz hf (List.mem_singleton.mpr rfl) (ev_nm 0 rfl) Er.g4 (is "NotPaper" b4 (by simp))) ea_nil)))) rfl) ?_ sc_law_kind.nd
  refine es_set 2 (ev_add (ev_ptr 2 rfl) (ev_lst (ds := [.bool b5, .bool b6, .bool b7])
    (ea_cons (ev_isH B k.ex hz hf (List.mem_singleton.mpr rfl) (ev_nm 0 rfl) Er.g5 (is "BadNumber" b5 (by simp)))
    (ea_cons (ev_isH B k.ex hz hf (List.mem_singleton.mpr rfl) (ev_nm 0 rfl) Er.g6 (is "NoAnswer" b6 (by simp)))
    (ea_cons (ev_isH B k.ex hz hf (List.mem_singleton.mpr rfl) (ev_nm 0 rfl) Er.g7 (is "TooLarge" b7 (by simp))) ea_nil))) rfl) rfl rfl (by show 4 + 3 ≤ sizeLine; decide)) ?_ sc_law_kind.nd
  refine es_ret (ev_if (et_eqI (by show A.units + 3 + 64 < cLine; omega) (ev_countB (bs := [b1, b2, b3, b4, b5, b6, b7]) (ev_ptr 2 rfl) rfl ev_bool) ev_int rfl rfl)
    (fun _ => ev_add ev_str (ev_idx (ds := kindNames) (d := .str nm) (ev_ptr 1 rfl) (ev_indexD (j := j) hu (ev_ptr 2 rfl) rfl ev_bool rfl rfl h2' rfl hno) rfl rfl rfl h3') rfl rfl (by show 1 + nm.length ≤ sizeLine; rw [sizeLine_eq]; omega))
    (fun z => by rw [h1] at z; cases z)) ?_
  exact ⟨rfl, trivial, trivial⟩
def leafN : List Str := ["NotRhythm", "NotChoir", "NotSet", "NotPaper", "BadNumber", "NoAnswer", "TooLarge"]
def S_law_kind (ea : Str → Addr) (p : Addr × Obj) : FS := fun ss o => ∃ c : Str, c ∈ leafN ∧ Zc (.ref (ea c)) none p.2 ∧ (∃ vs, p.2.data = .fields vs) ∧ ss = [.obj p.1] ∧ o = .rt (.val (.str (kindS c))) [.un]
theorem ok_law_kind {f : Addr} {fd : FuncData} (B : Blt mg) (Er : Errs K mg ea) (Fn : Fun K "_law_kind" "_law_kind" s_law_kind f fd) : FnP P w K mg base 1 f fd ["error"] (fun p => spD K ea (S_law_kind ea p)) := by
  refine fnPD Fn sc_law_kind (fun p ss o ⟨_, _, _, _, e, _⟩ => by subst e; rfl) (fun cdv A outer s H E p hot hr pins ss o hS hl => ?_)
  obtain ⟨c, hc, hz, hf, rfl, rfl⟩ := hS
  obtain ⟨pa, rfl⟩ := pins1 hl
  simp only [leafN, List.mem_cons, List.not_mem_nil, or_false] at hc
  rcases hc with rfl | rfl | rfl | rfl | rfl | rfl | rfl
  · exact kind_body (j := 0) (nm := "rhythm") B Er hr Er.k1 hz hf rfl rfl rfl (fun m z' hm e => (by cases hm)) (by decide)
  · exact kind_body (j := 1) (nm := "choir") B Er hr Er.k2 hz hf rfl rfl rfl (fun m z' hm e => by
      match m, hm with
      | 0, _ => cases e; rfl) (by decide)
  · exact kind_body (j := 2) (nm := "set") B Er hr Er.k3 hz hf rfl rfl rfl (fun m z' hm e => by
      match m, hm with
      | 0, _ => cases e; rfl
      | 1, _ => cases e; rfl) (by decide)
  · exact kind_body (j := 3) (nm := "paper") B Er hr Er.k4 hz hf rfl rfl rfl (fun m z' hm e => by
      match m, hm with
      | 0, _ => cases e; rfl
      | 1, _ => cases e; rfl
      | 2, _ => cases e; rfl) (by decide)
  · exact kind_body (j := 4) (nm := "number") B Er hr Er.k5 hz hf rfl rfl rfl (fun m z' hm e => by
      match m, hm with
      | 0, _ => cases e; rfl
      | 1, _ => cases e; rfl
      | 2, _ => cases e; rfl
      | 3, _ => cases e; rfl) (by decide)
  · exact kind_body (j := 5) (nm := "none") B Er hr Er.k6 hz hf rfl rfl rfl (fun m z' hm e => by
      match m, hm with
      | 0, _ => cases e; rfl
      | 1, _ => cases e; rfl
      | 2, _ => cases e; rfl
      | 3, _ => cases e; rfl
      | 4, _ => cases e; rfl) (by decide)
  · exact kind_body (j := 6) (nm := "large") B Er hr Er.k7 hz hf rfl rfl rfl (fun m z' hm e => by
      match m, hm with
      | 0, _ => cases e; rfl
      | 1, _ => cases e; rfl
      | 2, _ => cases e; rfl
      | 3, _ => cases e; rfl
      | 4, _ => cases e; rfl
      | 5, _ => cases e; rfl) (by decide)
theorem ErrK.ofC (Er : Errs K mg ea) {c : Str} (h : c ∈ leafN) : PySem.W.exmOne K (.ref (ea c)) (.ref (ea "BeatError")) = some true := by
  simp only [leafN, List.mem_cons, List.not_mem_nil, or_false] at h
  rcases h with rfl | rfl | rfl | rfl | rfl | rfl | rfl
  · exact Er.k1.exm
  · exact Er.k2.exm
  · exact Er.k3.exm
  · exact Er.k4.exm
  · exact Er.k5.exm
  · exact Er.k6.exm
  · exact Er.k7.exm
end
/-! a call that answers or raises, what comes of it is told -/
def PBof (a : Str ⊕ D) (e : Ev) : Out → Prop := fun o => match a with
  | .inr d => o = .rt (.val d) e
  | .inl c => o = .ex c e
def ansD : Str ⊕ D → D
  | .inr d => d
  | .inl c => .str (kindS c)
theorem ret_either {X : Cx} {ea : Str → Addr} {W : WX} {rest : List Stmt} {e : Expr} {env env1 : Ev} {pos : Pos} (a : Str ⊕ D) (h1 : ∀ d, a = .inr d → EV X e env (.val d) env1) (h2 : ∀ c, a = .inl c → EX X ea W e env c env1) : ES X ea W (.Return (some e) pos :: rest) env (PBof a env1) := by
  cases a with
  | inr d => exact es_ret (h1 d rfl) rfl
  | inl c => exact es_retE (h2 c rfl) rfl
theorem try_kind {X : Cx} {ea : Str → Addr} {W : WX} {body rest : List Stmt} {env env1 : Ev} {Post : Out → Prop} {f30 : Addr} {fd30 : FuncData} {n : Str} {np pos pos' rp cp p1 p2 : Pos} (a : Str ⊕ D) (i : Nat) (tk : L2N.Takes X W) (Er : Errs X.K X.mg ea) (hr : Room 1 X.A)
    (F30 : FnP X.prog X.w X.K X.mg X.base 1 f30 fd30 ["error"] (fun p => spD X.K ea (S_law_kind ea p))) (m30 : X.mg "_law_kind" = some (.ref f30)) (k30 : PySem.W.keepIn X.K (.ref f30) = true) (b30 : Binds X.K fd30 ["error"] [])
    (hb : ∀ (W' : WX) (pn : List (Addr × Obj)) (xe : Value → Shared → Prop), L2N.Takes (X.tr pn xe) W' → ES (X.tr pn xe) ea W' body env (PBof a env1)) (hin : ∀ c, a = .inl c → c ∈ leafN) (k1 : ∀ d, a = .inr d → Post (.rt (.val d) env1)) (k2 : ∀ c x, a = .inl c → Post (.rt (.val (.str (kindS c))) (env1.set i (.obj x))))
    (hN : X.N.Nodup) (hl : Nat.blt i env1.length = true) (hi : X.N[i]? = some n := by rfl) (hln : X.env.kindOf n = some .local := by rfl) (hs : X.stack = X.env :: X.outer := by rfl) (hf : X.env.frame = some X.env.locals := by rfl) (hg : Gl X "BeatError" := by rfl)
    (hgk : Gl X "_law_kind" := by rfl) (hv : Vis X.env.scope n := by first | exact Or.inl rfl | exact Or.inr (Or.inl rfl) | exact Or.inr (Or.inr rfl)) (hd1 : (n == ("__debug__" : Str)) = false := by decide) (hd2 : (n == ("__classdict__" : Str)) = false := by decide)
    (he : starEach (.Name n p2 :: []) X.env = (false, eval (.Name n p2) X.env) :: starEach [] X.env := by rfl) (hpl : (backTo cp (starEach [] X.env)).any (·.1) = false := by rfl) :
    ES X ea W (.Try body [.ExceptHandler (some (.Name "BeatError" np)) (some n) (.Return (some (.Call (.Name "_law_kind" p1) [.Name n p2] [] cp)) rp :: []) pos'] [] [] pos :: rest) env Post := by
  cases a with
  | inr d =>
    refine es_try (PB := PBof (.inr d) env1) i tk ⟨hg, by decide, .inl Er.g8⟩ (fun W' pn xe tk' _ => hb W' pn xe tk') (fun _ z => nomatch z) (fun _ z => nomatch z) (fun _ z => nomatch z) (fun r e z => ?_) (fun _ _ z => nomatch z) hN hi hln hs hf
    have z' : Out.rt r e = .rt (.val d) env1 := z
    cases z'
    exact k1 d rfl
  | inl c =>
    refine es_try (PB := PBof (.inl c) env1) i tk ⟨hg, by decide, .inl Er.g8⟩ (fun W' pn xe tk' _ => hb W' pn xe tk') (fun _ z => nomatch z) (fun _ z => nomatch z) (fun _ z => nomatch z) (fun r e z => nomatch z) (fun c' e z => ?_) hN hi hln hs hf
    have z' : Out.ex c' e = .ex c env1 := z
    cases z'
    refine ⟨hl, ErrK.ofC Er (hin c rfl), fun a oe pn hz hfl => ?_⟩
    obtain ⟨vs, hvs⟩ := hfl
    have hgi : ge (env1.set i (.obj a)) i = .obj a := ge_set_same (blt_lt hl)
    refine es_ret (EV.is (env2 := env1.set i (.obj a)) (ev_callP F30 ⟨(L2H.roomH_of hr).dp, (L2H.roomH_of hr).un⟩ ⟨rfl, vs, hvs, hz.2.2 vs hvs⟩ List.mem_cons_self m30 k30 b30 (ea_cons (ev_nm i (R := .obj a) (by rw [hgi]; rfl) hi hv hd1 hd2) ea_nil rfl he) ⟨c, hin c rfl, hz.zc, ⟨vs, hvs⟩, rfl, rfl⟩ rfl hgk (by decide) he hpl) rfl (wb_vals rfl)) ?_
    exact ⟨_, _, rfl, k2 c a rfl⟩
theorem thenPB {X : Cx} {ea : Str → Addr} {W : WX} {rest : List Stmt} {a : Str ⊕ D} {e : Ev} {o : Out} (h : PBof a e o) : thenP X ea W rest (PBof a e) o := by
  cases a with
  | inr d =>
    have h' : o = .rt (.val d) e := h
    subst h'
    exact h
  | inl c =>
    have h' : o = .ex c e := h
    subst h'
    exact h
def toO (a : Str ⊕ D) (ss : List Sl) : FOut := match a with
  | .inr d => .rt (.val d) ss
  | .inl c => .ex c ss
def setA (n : Int) (ns : List Int) (a : Str ⊕ D) : Str ⊕ D := if ringB n = true then if isOf n ns = true then a else .inl "NotSet" else .inl "BadNumber"
theorem chk_setA {n : Int} {ns : List Int} {a : Str ⊕ D} {ss : List Sl} : chkO n ns (toO a ss) ss = toO (setA n ns a) ss := by
  unfold chkO setA
  cases ringB n with
  | false => rfl
  | true =>
    cases isOf n ns with
    | false => rfl
    | true => rfl
theorem ret_callAt {X : Cx} {ea : Str → Addr} {W : WX} {rest : List Stmt} {env env0 env1 : Ev} {c e : Expr} {es : List Expr} {rs : List Rs} {ss : List Sl} {cp pos : Pos} {fn : Str} {n : Nat} {ps : List Str} {S : FS} {f : Addr} (a : Str ⊕ D) (hc : EV X c env (.obj f) env0) (F : FnI X.prog X.w X.K X.mg X.base ea n fn ps S) (hf : X.mg fn = some (.ref f)) (hr : Room n X.A) (tk : L2N.Takes X W) (ha : EA X (e :: es) env0 rs env1) (hS : S (rs.map (toS env1)) (toO a ss)) (nd : ptrs rs = [] := by rfl)
    (hcall : eval (.Call c (e :: es) [] cp) X.env = (do callWith cp (← eval c X.env) [] (backTo cp (starEach (e :: es) X.env)) (backToKw cp (keywordEach [] X.env))) := by rfl) (he : starEach (e :: es) X.env = (false, eval e X.env) :: starEach es X.env := by rfl) (hpl : (backTo cp (starEach es X.env)).any (·.1) = false := by rfl) :
    ES X ea W (.Return (some (.Call c (e :: es) [] cp)) pos :: rest) env (PBof a env1) := by
  refine ret_either a (fun d h => ?_) (fun x h => ?_)
  · rw [h] at hS
    exact EV.is (ev_callAt hc F hf hr ha hS (by rw [nd]; rfl) hcall he hpl) rfl (wb_vals nd)
  · rw [h] at hS
    have q := ex_callAt (cp := cp) hc F hf hr tk ha hS (by rw [nd]; rfl) hcall he hpl
    rwa [wb_vals nd] at q
theorem ev_of {X : Cx} {ea : Str → Addr} {env env1 : Ev} {e : Expr} {es : List Expr} {rs : List Rs} {ss : List Sl} {cp p : Pos} {fn : Str} {n : Nat} {ps : List Str} {S : FS} {a : Str ⊕ D} {d : D} (h : a = .inr d) (F : FnI X.prog X.w X.K X.mg X.base ea n fn ps S) (hr : Room n X.A) (ha : EA X (e :: es) env rs env1) (hS : S (rs.map (toS env1)) (toO a ss)) (nd : ptrs rs = [] := by rfl) (hg : Gl X fn := by rfl)
    (hdb : (fn == ("__debug__" : Str)) = false := by decide) (he : starEach (e :: es) X.env = (false, eval e X.env) :: starEach es X.env := by rfl) (hpl : (backTo cp (starEach es X.env)).any (·.1) = false := by rfl) :
    EV X (.Call (.Name fn p) (e :: es) [] cp) env (.val d) env1 := by
  rw [h] at hS
  exact EV.is (ev_callV F hr ha hS nd hg hdb he hpl) rfl rfl
theorem ex_of {X : Cx} {ea : Str → Addr} {W : WX} {env env1 : Ev} {e : Expr} {es : List Expr} {rs : List Rs} {ss : List Sl} {cp p : Pos} {fn c : Str} {n : Nat} {ps : List Str} {S : FS} {a : Str ⊕ D} (h : a = .inl c) (F : FnI X.prog X.w X.K X.mg X.base ea n fn ps S) (hr : Room n X.A) (tk : L2N.Takes X W) (ha : EA X (e :: es) env rs env1) (hS : S (rs.map (toS env1)) (toO a ss)) (nd : ptrs rs = [] := by rfl) (hg : Gl X fn := by rfl)
    (hdb : (fn == ("__debug__" : Str)) = false := by decide) (he : starEach (e :: es) X.env = (false, eval e X.env) :: starEach es X.env := by rfl) (hpl : (backTo cp (starEach es X.env)).any (·.1) = false := by rfl) :
    EX X ea W (.Call (.Name fn p) (e :: es) [] cp) env c env1 := by
  rw [h] at hS
  exact ex_callV F hr tk ha hS nd hg hdb he hpl
theorem ring60 {n : Int} (hn : 1 ≤ n ∧ n ≤ 60) : ringB n = true := by
  unfold ringB
  rw [decide_eq_true (by omega : 1 ≤ n), decide_eq_true (by omega : n ≤ 400)]
  rfl
theorem setA_in {n : Int} {ss : List Int} {a : Str ⊕ D} (hn : 1 ≤ n ∧ n ≤ 60) (hs : isOf n ss = true) : setA n ss a = a := by
  unfold setA
  rw [if_pos (ring60 hn), if_pos hs]
theorem setA_no {n : Int} {ss : List Int} {a : Str ⊕ D} (hn : 1 ≤ n ∧ n ≤ 60) (hs : isOf n ss = false) : setA n ss a = .inl "NotSet" := by
  unfold setA
  rw [if_pos (ring60 hn), if_neg (by rw [hs]; decide)]
theorem setA_num {n : Int} {ss : List Int} {a : Str ⊕ D} (hn : ringB n = false) : setA n ss a = .inl "BadNumber" := by
  unfold setA
  rw [if_neg (by rw [hn]; decide)]
theorem tup_gd {l : List Int} (hl : l.length ≤ 60) (h : ∀ x ∈ l, 0 ≤ x ∧ x < 1000) : Gd 1 2500 (.tuple (l.map .int)) := Gd.tupI (fun x hx => by
  have := h x hx
  omega) (by omega)
theorem setA_ok {n : Int} {ss : List Int} {a : Str ⊕ D} (hn : 1 ≤ n ∧ n ≤ 400) (hs : SetR n ss) : setA n ss a = a := by
  unfold setA
  rw [if_pos (ring400 hn), if_pos hs.is]
theorem setA_not {n : Int} {ss : List Int} {a : Str ⊕ D} (hn : 1 ≤ n ∧ n ≤ 400) (hs : isOf n ss = false) : setA n ss a = .inl "NotSet" := by
  unfold setA
  rw [if_pos (ring400 hn), if_neg (by rw [hs]; decide)]
theorem setA_leaf {n : Int} {ns : List Int} {a : Str ⊕ D} {c : Str} (ha : ∀ x, a = .inl x → x ∈ leafN) (h : setA n ns a = .inl c) : c ∈ leafN := by
  unfold setA at h
  split at h
  · split at h
    · exact ha c h
    · cases h; decide
  · cases h; decide
theorem ad_of {P : Program} {w : World} {K : Pd.Frag} {mg : Str → Option Value} {base : Heap} {ea : Str → Addr} {k : Nat} {fn : Str} {ps : List Str} {S : FS} : FnI P w K mg base ea k fn ps S → ∃ f, mg fn = some (.ref f) := fun ⟨f, _, _, m, _⟩ => ⟨f, m⟩
theorem ev_ofAt {X : Cx} {ea : Str → Addr} {env env0 env1 : Ev} {c e : Expr} {es : List Expr} {rs : List Rs} {ss : List Sl} {cp : Pos} {fn : Str} {n : Nat} {ps : List Str} {S : FS} {f : Addr} {a : Str ⊕ D} {d : D} (h : a = .inr d) (hc : EV X c env (.obj f) env0) (F : FnI X.prog X.w X.K X.mg X.base ea n fn ps S) (hf : X.mg fn = some (.ref f)) (hr : Room n X.A) (ha : EA X (e :: es) env0 rs env1) (hS : S (rs.map (toS env1)) (toO a ss)) (nd : ptrs rs = [] := by rfl)
    (hcall : eval (.Call c (e :: es) [] cp) X.env = (do callWith cp (← eval c X.env) [] (backTo cp (starEach (e :: es) X.env)) (backToKw cp (keywordEach [] X.env))) := by rfl) (he : starEach (e :: es) X.env = (false, eval e X.env) :: starEach es X.env := by rfl) (hpl : (backTo cp (starEach es X.env)).any (·.1) = false := by rfl) :
    EV X (.Call c (e :: es) [] cp) env (.val d) env1 := by
  rw [h] at hS
  exact EV.is (ev_callAt hc F hf hr ha hS (by rw [nd]; rfl) hcall he hpl) rfl (wb_vals nd)
theorem ex_ofAt {X : Cx} {ea : Str → Addr} {W : WX} {env env0 env1 : Ev} {c e : Expr} {es : List Expr} {rs : List Rs} {ss : List Sl} {cp : Pos} {fn x : Str} {n : Nat} {ps : List Str} {S : FS} {f : Addr} {a : Str ⊕ D} (h : a = .inl x) (hc : EV X c env (.obj f) env0) (F : FnI X.prog X.w X.K X.mg X.base ea n fn ps S) (hf : X.mg fn = some (.ref f)) (hr : Room n X.A) (tk : L2N.Takes X W) (ha : EA X (e :: es) env0 rs env1) (hS : S (rs.map (toS env1)) (toO a ss)) (nd : ptrs rs = [] := by rfl)
    (hcall : eval (.Call c (e :: es) [] cp) X.env = (do callWith cp (← eval c X.env) [] (backTo cp (starEach (e :: es) X.env)) (backToKw cp (keywordEach [] X.env))) := by rfl) (he : starEach (e :: es) X.env = (false, eval e X.env) :: starEach es X.env := by rfl) (hpl : (backTo cp (starEach es X.env)).any (·.1) = false := by rfl) :
    EX X ea W (.Call c (e :: es) [] cp) env x env1 := by
  rw [h] at hS
  have q := ex_callAt (cp := cp) hc F hf hr tk ha hS (by rw [nd]; rfl) hcall he hpl
  rwa [wb_vals nd] at q
/-- a def that returns a list: as a datum -/
theorem ev_ofL {X : Cx} {ea : Str → Addr} {env env1 : Ev} {e : Expr} {es : List Expr} {rs : List Rs} {ss : List Sl} {cp p : Pos} {fn : Str} {n : Nat} {ps : List Str} {S : FS} {ds : List D} (F : FnI X.prog X.w X.K X.mg X.base ea n fn ps S) (hr : Room n X.A) (ha : EA X (e :: es) env rs env1) (hS : S (rs.map (toS env1)) (.rt (.lst none ds) ss)) (nd : ptrs rs = [] := by rfl) (hg : Gl X fn := by rfl)
    (hdb : (fn == ("__debug__" : Str)) = false := by decide) (he : starEach (e :: es) X.env = (false, eval e X.env) :: starEach es X.env := by rfl) (hpl : (backTo cp (starEach es X.env)).any (·.1) = false := by rfl) :
    EV X (.Call (.Name fn p) (e :: es) [] cp) env (.val (.list ds)) env1 := EV.is (EV.fz (ev_callV F hr ha hS nd hg hdb he hpl)) rfl rfl
/-- what a def promises, as an answer -/
inductive AnsOf : FOut → Str ⊕ D → List Sl → Prop
  | v (d : D) (ss : List Sl) : AnsOf (.rt (.val d) ss) (.inr d) ss
  | l (ds : List D) (ss : List Sl) : AnsOf (.rt (.lst none ds) ss) (.inr (.list ds)) ss
  | x (c : Str) (ss : List Sl) : AnsOf (.ex c ss) (.inl c) ss
def ringA (n : Int) (a : Str ⊕ D) : Str ⊕ D := if ringB n = true then a else .inl "BadNumber"
theorem AnsOf.chk {n : Int} {ns : List Int} {o : FOut} {a : Str ⊕ D} {ss : List Sl} (h : AnsOf o a ss) : AnsOf (chkO n ns o ss) (setA n ns a) ss := by
  unfold chkO setA
  split
  · split
    · exact h
    · exact .x _ _
  · exact .x _ _
theorem AnsOf.ring {n : Int} {o : FOut} {a : Str ⊕ D} {ss : List Sl} (h : AnsOf o a ss) : AnsOf (ringO n o ss) (ringA n a) ss := by
  unfold ringO ringA
  split
  · exact h
  · exact .x _ _
theorem ringA_leaf {n : Int} {a : Str ⊕ D} {c : Str} (ha : ∀ x, a = .inl x → x ∈ leafN) (h : ringA n a = .inl c) : c ∈ leafN := by
  unfold ringA at h
  split at h
  · exact ha c h
  · cases h; decide
theorem ringA_ok {n : Int} {a : Str ⊕ D} (hn : 1 ≤ n ∧ n ≤ 400) : ringA n a = a := by
  unfold ringA
  rw [if_pos (ring400 hn)]
/-- an expression that gives an answer -/
def RA (X : Cx) (ea : Str → Addr) (W : WX) (e : Expr) (env : Ev) (a : Str ⊕ D) (env1 : Ev) : Prop := match a with
  | .inr d => EV X e env (.val d) env1
  | .inl c => EX X ea W e env c env1
section
variable {X : Cx} {ea : Str → Addr} {W : WX} {env env0 env1 env2 : Ev} {c e e1 e2 : Expr} {es : List Expr} {rs : List Rs} {ss : List Sl} {p cp pos : Pos} {fn : Str} {n : Nat} {ps : List Str} {S : FS} {f : Addr} {a : Str ⊕ D} {o : FOut} {rest : List Stmt}
theorem ra_call (hA : AnsOf o a ss) (F : FnI X.prog X.w X.K X.mg X.base ea n fn ps S) (hr : Room n X.A) (tk : L2N.Takes X W) (ha : EA X (e :: es) env rs env1) (hS : S (rs.map (toS env1)) o) (nd : ptrs rs = [] := by rfl) (hg : Gl X fn := by rfl)
    (hdb : (fn == ("__debug__" : Str)) = false := by decide) (he : starEach (e :: es) X.env = (false, eval e X.env) :: starEach es X.env := by rfl) (hpl : (backTo cp (starEach es X.env)).any (·.1) = false := by rfl) : RA X ea W (.Call (.Name fn p) (e :: es) [] cp) env a env1 := by
  cases hA with
  | v d => exact EV.is (ev_callV F hr ha hS nd hg hdb he hpl) rfl rfl
  | l ds => exact EV.is (EV.fz (ev_callV F hr ha hS nd hg hdb he hpl)) rfl rfl
  | x c => exact ex_callV F hr tk ha hS nd hg hdb he hpl
theorem ra_callAt (hA : AnsOf o a ss) (hc : EV X c env (.obj f) env0) (F : FnI X.prog X.w X.K X.mg X.base ea n fn ps S) (hf : X.mg fn = some (.ref f)) (hr : Room n X.A) (tk : L2N.Takes X W) (ha : EA X (e :: es) env0 rs env1) (hS : S (rs.map (toS env1)) o) (nd : ptrs rs = [] := by rfl)
    (hcall : eval (.Call c (e :: es) [] cp) X.env = (do callWith cp (← eval c X.env) [] (backTo cp (starEach (e :: es) X.env)) (backToKw cp (keywordEach [] X.env))) := by rfl) (he : starEach (e :: es) X.env = (false, eval e X.env) :: starEach es X.env := by rfl) (hpl : (backTo cp (starEach es X.env)).any (·.1) = false := by rfl) :
    RA X ea W (.Call c (e :: es) [] cp) env a env1 := by
  cases hA with
  | v d => exact EV.is (ev_callAt hc F hf hr ha hS (by rw [nd]; rfl) hcall he hpl) rfl (wb_vals nd)
  | l ds => exact EV.is (EV.fz (ev_callAt hc F hf hr ha hS (by rw [nd]; rfl) hcall he hpl)) rfl (wb_vals nd)
  | x c =>
    have q := ex_callAt (cp := cp) hc F hf hr tk ha hS (by rw [nd]; rfl) hcall he hpl
    rwa [wb_vals nd] at q
theorem ra_ifT (h : ET X c env true env1) (h1 : RA X ea W e1 env1 a env2) : RA X ea W (.IfExp c e1 e2 pos) env a env2 := by
  cases a with
  | inr d => exact ev_ifT h h1
  | inl x => exact ex_ifT h h1
theorem ra_ifF (h : ET X c env false env1) (h1 : RA X ea W e2 env1 a env2) : RA X ea W (.IfExp c e1 e2 pos) env a env2 := by
  cases a with
  | inr d => exact ev_ifF h h1
  | inl x => exact ex_ifF h h1
theorem es_ra (h : RA X ea W e env a env1) : ES X ea W (.Return (some e) pos :: rest) env (PBof a env1) := by
  cases a with
  | inr d => exact ret_either _ (fun d' q => by cases q; exact h) (fun c q => nomatch q)
  | inl x => exact ret_either _ (fun d' q => nomatch q) (fun c q => by cases q; exact h)
end
section
variable {P : Program} {w : World} {K : Pd.Frag} {mg : Str → Option Value} {base : Heap} {ea : Str → Addr}
def S_is_ascending : FS := fun ss o => ∃ ns : List Int, ss = [.val (.tuple (ns.map .int))] ∧ o = .rt (.val (.bool (asc ns))) [.un]
theorem ok_is_ascending {f : Addr} {fd : FuncData} (B : Blt mg) (Fn : Fun K "is_ascending" "is_ascending" s_is_ascending f fd) : FnOk P w K mg base (L2N.CX P w) 1 f fd ["some"] (spD K ea S_is_ascending) := by
  refine fnD Fn sc_is_ascending (fun ss o ⟨i, e, _⟩ => by subst e; rfl) (fun cdv A outer s H E hr tk hp pins ss o hS hl => ?_)
  obtain ⟨ns, rfl, rfl⟩ := hS
  obtain ⟨p, rfl⟩ := pins1 hl
  refine es_lenT 0 rfl fun hz => ?_
  rw [List.length_map] at hz
  refine es_ret (ev_all B rfl (ev_lc0 [("one", 1), ("other", 2)] (.tp [1, 2]) rfl sc_is_ascending.nd
    (EI.is (ev_zip B (ev_var 0 rfl) (ev_slice (ev_var 0 rfl) (eo_some ev_int) eo_none rfl (by trivial)) rfl rfl (.inr ⟨rfl, rfl⟩)) (by rw [cut_map]; exact zipD_map _ _ _ _)) (blkOk_by (N := ["some", "one", "other"]) (sc := defScope s_is_ascending) (by decide +kernel))
    (fun _ _ _ _ _ => pg_tup rfl (pgs_cons (pg_name (i := 1) sc_is_ascending.nd rfl (.inl rfl)) (pgs_cons (pg_name (i := 2) sc_is_ascending.nd rfl (.inl rfl)) pgs_nil)))
    (by rw [List.length_zip]; omega) (fun a _ _ _ _ _ _ => ev_lt (ev_var 1 rfl) (ev_var 2 rfl) rfl rfl) (fun _ => rfl) (fun _ => rfl)) rfl) ⟨rfl, trivial, trivial⟩
def S_check_ring : FS := fun ss o => ∃ n : Int, ss = [.val (.int n)] ∧ o = if ringB n = true then .rt (.val .none) [.un] else .ex "BadNumber" [.un]
theorem ok_check_ring {f : Addr} {fd : FuncData} (EB : ErrC K mg ea "BadNumber") (hm : ∃ t, mg "MOST_BEATS" = some (.int 400 t)) (Fn : Fun K "check_ring" "check_ring" s_check_ring f fd) : FnOk P w K mg base (L2N.CX P w) 1 f fd ["n"] (spD K ea S_check_ring) := by
  refine fnD Fn sc_check_ring (fun ss o ⟨i, e, _⟩ => by subst e; rfl) (fun cdv A outer s H E hr tk hp pins ss o hS hl => ?_)
  obtain ⟨n, rfl, rfl⟩ := hS
  obtain ⟨p, rfl⟩ := pins1 hl
  refine es_if (et_not (et_chainI op_le op_le ev_int (ev_var 0 rfl) (ev_globI rfl hm) rfl rfl rfl)) (fun h => ?_) (fun h => ?_)
  · refine es_raiseE EB tk rfl ?_
    have e : ringB n = false := Bool.not_inj h
    rw [e]
    exact ⟨rfl, trivial, trivial⟩
  · refine es_nil (es_nil ?_)
    have e : ringB n = true := Bool.not_inj h
    rw [e]
    exact ⟨rfl, trivial, trivial⟩
theorem es_chkring {X : Cx} {ea : Str → Addr} {W : WX} {rest : List Stmt} {env : Ev} {n : Int} {e1 : Expr} {p pos cp : Pos} {pins : List Addr} {ss0 x : List Sl} {o : FOut} (F_check_ring : FnI X.prog X.w X.K X.mg X.base ea 1 "check_ring" ["n"] S_check_ring) (hr : Room 1 X.A) (tk : L2N.Takes X W) (ha : EA X [e1] env [.val (.int n)] env) (hp : PinOk pins ss0 x env)
    (ok : (1 ≤ n ∧ n ≤ 400) → ES X ea W rest env (finP pins ss0 o)) (hg : Gl X "check_ring" := by rfl) (he : starEach (e1 :: []) X.env = (false, eval e1 X.env) :: starEach [] X.env := by rfl) (hpl : (backTo cp (starEach [] X.env)).any (·.1) = false := by rfl)
    (hs : swapsWith (.Call (.Name "check_ring" p) [e1] [] cp) none pos.line X.env = pure false := by rfl) :
    ES X ea W (.Expr (.Call (.Name "check_ring" p) [e1] [] cp) pos :: rest) env (finP pins ss0 (ringO n o x)) := by
  unfold ringO
  cases hn : ringB n with
  | true => exact es_expr (ev_callV F_check_ring hr ha ⟨n, rfl, by rw [if_pos hn]⟩ rfl hg (by decide) he hpl) (ok (by have := ringB_pos hn; omega)) hs
  | false => exact es_exprE (ex_callV F_check_ring hr tk ha ⟨n, rfl, by rw [hn]; rfl⟩ rfl hg (by decide) he hpl) ⟨rfl, hp⟩ hs
def S_is_of : FS := fun ss o => ∃ (n : Int) (ns : List Int), ss = [.val (.int n), .val (.tuple (ns.map .int))] ∧ o = .rt (.val (.bool (isOf n ns))) [.un, .un]
theorem ok_is_of {f : Addr} {fd : FuncData} (B : Blt mg) (F_is_ascending : FnI P w K mg base ea 1 "is_ascending" ["some"] S_is_ascending) (Fn : Fun K "is_of" "is_of" s_is_of f fd) : FnOk P w K mg base (L2N.CX P w) 2 f fd ["n", "some"] (spD K ea S_is_of) := by
  refine fnD Fn sc_is_of (fun ss o ⟨_, _, e, _⟩ => by subst e; rfl) (fun cdv A outer s H E hr tk hp pins ss o hS hl => ?_)
  obtain ⟨n, ns, rfl, rfl⟩ := hS
  obtain ⟨p, q, rfl⟩ := pins2 hl
  refine es_lenT 1 rfl fun hz => ?_
  rw [List.length_map] at hz
  refine es_ret (ev_and (ev_call F_is_ascending hr (ea_cons (ev_var 1 rfl) ea_nil) ⟨ns, rfl, rfl⟩) fun _ => ev_one (ev_all B rfl (ev_lc0 [("beat", 2)] (.nm 2) rfl sc_is_of.nd
    (ei_tup (ev_var 1 rfl) rfl) (blkOk_by (N := ["n", "some", "beat"]) (sc := defScope s_is_of) (by decide +kernel)) (fun _ _ _ _ _ => pg_name (i := 2) sc_is_of.nd rfl (.inl rfl)) hz
    (fun a _ _ _ _ _ _ => ev_chainI op_le op_lt ev_int (ev_var 2 rfl) (ev_var 0 rfl) rfl rfl rfl) (fun _ => rfl) (fun _ => rfl)) rfl)) ?_
  exact ⟨rfl, trivial, trivial, trivial⟩
def S_is_set : FS := fun ss o => ∃ (n : Int) (ns : List Int), ss = [.val (.int n), .val (.tuple (ns.map .int))] ∧ o = if ringB n = true then .rt (.val (.bool (isOf n ns))) [.un, .un] else .ex "BadNumber" [.un, .un]
theorem ok_is_set {f : Addr} {fd : FuncData} (F_check_ring : FnI P w K mg base ea 1 "check_ring" ["n"] S_check_ring) (F_is_of : FnI P w K mg base ea 2 "is_of" ["n", "some"] S_is_of) (Fn : Fun K "is_set" "is_set" s_is_set f fd) : FnOk P w K mg base (L2N.CX P w) 3 f fd ["n", "some"] (spD K ea S_is_set) := by
  refine fnD Fn sc_is_set (fun ss o ⟨_, _, e, _⟩ => by subst e; rfl) (fun cdv A outer s H E hr tk hp pins ss o hS hl => ?_)
  obtain ⟨n, ns, rfl, rfl⟩ := hS
  obtain ⟨p, q, rfl⟩ := pins2 hl
  cases hn : ringB n with
  | true => exact es_expr (ev_call F_check_ring (hr.mono (by decide)) (ea_cons (ev_var 0 rfl) ea_nil) ⟨n, rfl, by rw [if_pos hn]⟩) (es_ret (ev_call F_is_of hr (ea_cons (ev_var 0 rfl) (ea_cons (ev_var 1 rfl) ea_nil)) ⟨n, ns, rfl, rfl⟩) ⟨rfl, trivial, trivial, trivial⟩)
  | false => exact es_exprX F_check_ring (hr.mono (by decide)) tk (ea_cons (ev_var 0 rfl) ea_nil) ⟨n, rfl, by rw [hn]; rfl⟩ ⟨rfl, trivial, trivial, trivial⟩
def S_check_set : FS := fun ss o => ∃ (n : Int) (ns : List Int), ss = [.val (.int n), .val (.tuple (ns.map .int))] ∧ o = chkO n ns (.rt (.val .none) [.un, .un]) [.un, .un]
theorem ok_check_set {f : Addr} {fd : FuncData} (ES : ErrC K mg ea "NotSet") (F_is_set : FnI P w K mg base ea 3 "is_set" ["n", "some"] S_is_set) (Fn : Fun K "check_set" "check_set" s_check_set f fd) : FnOk P w K mg base (L2N.CX P w) 4 f fd ["n", "some"] (spD K ea S_check_set) := by
  refine fnD Fn sc_check_set (fun ss o ⟨_, _, e, _⟩ => by subst e; rfl) (fun cdv A outer s H E hr tk hp pins ss o hS hl => ?_)
  obtain ⟨n, ns, rfl, rfl⟩ := hS
  obtain ⟨p, q, rfl⟩ := pins2 hl
  unfold chkO
  cases hn : ringB n with
  | true =>
    refine es_if (et_not (et_val (ev_call F_is_set hr (ea_cons (ev_var 0 rfl) (ea_cons (ev_var 1 rfl) ea_nil)) ⟨n, ns, rfl, by rw [if_pos hn]⟩))) (fun h => ?_) (fun h => ?_)
    · refine es_raiseE ES tk rfl ?_
      have e : isOf n ns = false := Bool.not_inj h
      rw [e]
      exact ⟨rfl, trivial, trivial, trivial⟩
    · refine es_nil (es_nil ?_)
      have e : isOf n ns = true := Bool.not_inj h
      rw [e]
      exact ⟨rfl, trivial, trivial, trivial⟩
  | false => exact es_ifnX F_is_set hr tk (ea_cons (ev_var 0 rfl) (ea_cons (ev_var 1 rfl) ea_nil)) ⟨n, ns, rfl, by rw [hn]; rfl⟩ ⟨rfl, trivial, trivial, trivial⟩
theorem es_chkset {X : Cx} {ea : Str → Addr} {W : WX} {rest : List Stmt} {env : Ev} {n : Int} {ns : List Int} {e1 e2 : Expr} {p pos cp : Pos} {pins : List Addr} {ss0 x : List Sl} {o : FOut} (F_check_set : FnI X.prog X.w X.K X.mg X.base ea 4 "check_set" ["n", "some"] S_check_set) (hr : Room 4 X.A) (tk : L2N.Takes X W) (ha : EA X [e1, e2] env [.val (.int n), .val (tupI ns)] env) (hp : PinOk pins ss0 x env)
    (ok : (1 ≤ n ∧ n ≤ 400) → isOf n ns = true → ES X ea W rest env (finP pins ss0 o)) (hg : Gl X "check_set" := by rfl) (he : starEach (e1 :: [e2]) X.env = (false, eval e1 X.env) :: starEach [e2] X.env := by rfl) (hpl : (backTo cp (starEach [e2] X.env)).any (·.1) = false := by rfl)
    (hs : swapsWith (.Call (.Name "check_set" p) [e1, e2] [] cp) none pos.line X.env = pure false := by rfl) :
    ES X ea W (.Expr (.Call (.Name "check_set" p) [e1, e2] [] cp) pos :: rest) env (finP pins ss0 (chkO n ns o x)) := by
  unfold chkO
  cases hn : ringB n with
  | true =>
    cases ho : isOf n ns with
    | true => exact es_expr (ev_callV F_check_set hr ha ⟨n, ns, rfl, by unfold chkO; rw [if_pos hn, if_pos ho]⟩ rfl hg (by decide) he hpl) (ok (by have := ringB_pos hn; omega) ho) hs
    | false => exact es_exprE (ex_callV F_check_set hr tk ha ⟨n, ns, rfl, by unfold chkO; rw [hn, ho]; rfl⟩ rfl hg (by decide) he hpl) ⟨rfl, hp⟩ hs
  | false => exact es_exprE (ex_callV F_check_set hr tk ha ⟨n, ns, rfl, by unfold chkO; rw [hn]; rfl⟩ rfl hg (by decide) he hpl) ⟨rfl, hp⟩ hs
def S_turn_of : FS := fun ss o => ∃ (n : Int) (ns : List Int) (t : Int), 0 < n ∧ ss = [.val (.int n), .val (.tuple (ns.map .int)), .val (.int t)] ∧ o = .rt (.val (.tuple ((turnOf n ns t).map .int))) [.un, .un, .un]
theorem ok_turn_of {f : Addr} {fd : FuncData} (B : Blt mg) (Fn : Fun K "turn_of" "turn_of" s_turn_of f fd) : FnOk P w K mg base (L2N.CX P w) 1 f fd ["n", "some", "t"] (spD K ea S_turn_of) := by
  refine fnD Fn sc_turn_of (fun ss o ⟨_, _, _, _, e, _⟩ => by subst e; rfl) (fun cdv A outer s H E hr tk hp pins ss o hS hl => ?_)
  obtain ⟨n, ns, t, h0, rfl, rfl⟩ := hS
  obtain ⟨p, q, r, rfl⟩ := pins3 hl
  refine es_lenT 1 rfl fun hz => ?_
  rw [List.length_map] at hz
  exact es_ret (ev_tuple B (ev_sortedM B (ev_lc0 [("beat", 3)] (.nm 3) rfl sc_turn_of.nd (ei_tup (ev_var 1 rfl) rfl) (blkOk_by (N := ["n", "some", "t", "beat"]) (sc := defScope s_turn_of) (by decide +kernel)) (fun _ _ _ _ _ => pg_name (i := 3) sc_turn_of.nd rfl (.inl rfl)) hz
    (fun a _ _ _ _ _ _ => ev_mod (ev_add (ev_var 3 rfl) (ev_var 2 rfl) rfl rfl) (ev_var 0 rfl) rfl rfl h0) (fun _ => rfl) (fun _ => rfl)) rfl) rfl) ⟨rfl, trivial, trivial, trivial, trivial⟩
def periodOf (n : Int) (ns : List Int) : Int := ((irange 1 (n + 1)).find? fun p => n % p == 0 && decide (turnOf n ns p = ns)).getD n
theorem period_in {n : Int} (hn : 1 ≤ n) (ns : List Int) : 1 ≤ periodOf n ns ∧ periodOf n ns ≤ n := by
  unfold periodOf
  cases e : (irange 1 (n + 1)).find? fun p => n % p == 0 && decide (turnOf n ns p = ns) with
  | none => exact ⟨hn, Int.le_refl _⟩
  | some p =>
    have := mem_irange.mp (List.mem_of_find?_eq_some e)
    show 1 ≤ p ∧ p ≤ n
    omega
def S_period_of : FS := fun ss o => ∃ (n : Int) (ns : List Int), (1 ≤ n ∧ n ≤ 400) ∧ ss = [.val (.int n), .val (.tuple (ns.map .int))] ∧ o = .rt (.val (.int (periodOf n ns))) [.un, .un]
theorem ok_period_of {f : Addr} {fd : FuncData} (B : Blt mg) (F_turn_of : FnI P w K mg base ea 1 "turn_of" ["n", "some", "t"] S_turn_of) (Fn : Fun K "period_of" "period_of" s_period_of f fd) : FnOk P w K mg base (L2N.CX P w) 2 f fd ["n", "some"] (spD K ea S_period_of) := by
  refine fnD Fn sc_period_of (fun ss o ⟨_, _, _, e, _⟩ => by subst e; rfl) (fun cdv A outer s H E hr tk hp pins ss o hS hl => ?_)
  obtain ⟨n, ns, h0, rfl, rfl⟩ := hS
  obtain ⟨p0, p1, rfl⟩ := pins2 hl
  refine es_for (.nm 2) (fun k e => ((irange 1 (n + 1)).take k).find? (fun p => n % p == 0 && decide (turnOf n ns p = ns)) = none ∧ ∃ c, e = [.val (.int n), .val (.tuple (ns.map .int)), c]) (ev_rng2 B ev_int (ev_addI (ev_var 0 rfl) ev_int rfl rfl) (by omega)) (pg_name (i := 2) sc_period_of.nd rfl (by first | exact .inl rfl | exact .inr rfl))
    ⟨rfl, _, rfl⟩ (fun i d e _ ⟨_, _, he⟩ => by subst he; exact (by decide : 2 < 3)) ?_ ?_ hp rfl
  · rintro k d e hk ⟨hno, c, rfl⟩
    obtain ⟨y, hy, rfl⟩ := map_get hk
    have hy2 := mem_irange.mp (List.mem_of_getElem? hy)
    obtain ⟨q1, q2⟩ := find_at hno hy
    refine es_if (k := n % y == 0 && decide (turnOf n ns y = ns)) (et_w (ew_and (et_eqI (hu_of hr) (ev_mod (ev_var 0 rfl) (ev_var 2 rfl) rfl rfl (by omega)) ev_int rfl rfl) fun hq => (ew_and1 (ct_eq (x := turnOf n ns y) (y := ns) ge_tupI rfl (hu_of hr) (EV.is (Ra := .val (tupI (turnOf n ns y))) (ev_callV F_turn_of (hr.mono (by decide)) (ea_cons (ev_var 0 rfl) (ea_cons (ev_var 1 rfl) (ea_cons (ev_var 2 rfl) ea_nil))) ⟨n, ns, y, by omega, rfl, rfl⟩) rfl rfl) (ev_tuple B (ev_var 1 rfl) rfl) rfl rfl)))) (fun h => ?_) (fun h => ?_)
    · refine es_ret (ev_var 2 rfl) ⟨?_, trivial, trivial, trivial⟩
      have e : periodOf n ns = y := by unfold periodOf; rw [q1 h]; rfl
      rw [e]
      rfl
    · exact es_nil (es_nil ⟨q2 h, _, rfl⟩)
  · rintro e ⟨hno, c, rfl⟩
    rw [List.length_map, List.take_length] at hno
    refine es_ret (ev_var 0 rfl) ⟨?_, trivial, trivial, trivial⟩
    have e : periodOf n ns = n := by unfold periodOf; rw [hno]; rfl
    rw [e]
    rfl
/-- the sums, one by one -/
def rowS (n : Int) (b : Int) (other : List Int) : List Int := other.map fun m => (b + m) % n
def sumsL (n : Int) (one other : List Int) : List Int := one.flatMap fun b => rowS n b other
def sumO (n : Int) (one other : List Int) : Option (List Int) := if (sumsL n one other).Nodup then some (isort (sumsL n one other)) else none
theorem sumsL_mem {n : Int} (h : 0 < n) {one other : List Int} : ∀ x ∈ sumsL n one other, 0 ≤ x ∧ x < n := fun x hx => by
  obtain ⟨b, _, hb⟩ := List.mem_flatMap.mp hx
  obtain ⟨m, _, rfl⟩ := List.mem_map.mp hb
  exact ⟨Int.emod_nonneg _ (by omega), Int.emod_lt_of_pos _ h⟩
theorem sumsL_take {n : Int} {one other : List Int} {i : Nat} {b : Int} (h : one[i]? = some b) : sumsL n (one.take (i + 1)) other = sumsL n (one.take i) other ++ rowS n b other := by
  unfold sumsL
  rw [take_succ_get h, List.flatMap_append]
  simp
theorem rowS_take {n b : Int} {other : List Int} {j : Nat} {m : Int} (h : other[j]? = some m) : rowS n b (other.take (j + 1)) = rowS n b (other.take j) ++ [(b + m) % n] := by
  unfold rowS
  rw [take_succ_get h, List.map_append]
  rfl
theorem sumsL_pre {n : Int} {one other : List Int} {i j : Nat} {b : Int} (h : one[i]? = some b) : (sumsL n (one.take i) other ++ rowS n b (other.take j)) <+: sumsL n one other := by
  have e : one = one.take i ++ b :: one.drop (i + 1) := by
    obtain ⟨h1, h2⟩ := List.getElem?_eq_some_iff.mp h
    rw [← h2, ← List.drop_eq_getElem_cons h1, List.take_append_drop]
  have e2 : sumsL n one other = sumsL n (one.take i) other ++ (rowS n b other ++ sumsL n (one.drop (i + 1)) other) := by
    conv => lhs; rw [e]
    unfold sumsL
    rw [List.flatMap_append, List.flatMap_cons]
  rw [e2]
  refine List.prefix_append_right_inj _ |>.mpr ?_
  have e3 : rowS n b other = rowS n b (other.take j) ++ rowS n b (other.drop j) := by
    unfold rowS
    rw [← List.map_append, List.take_append_drop]
  rw [e3, List.append_assoc]
  exact List.prefix_append _ _
def freeO (n : Int) (one other : List Int) (ok : FOut) (ss : List Sl) : FOut := chkO n one (chkO n other ok ss) ss
def fillB (n : Int) (one other : List Int) : Bool := match sumO n one other with
  | some l => decide ((l.length : Int) = n)
  | none => false
/-- the law's own sum -/
theorem sumsL_len (n : Int) (other : List Int) : ∀ one : List Int, (sumsL n one other).length = one.length * other.length
  | [] => by rw [List.length_nil, Nat.zero_mul]; rfl
  | b :: r => by
    have e : sumsL n (b :: r) other = rowS n b other ++ sumsL n r other := rfl
    have e2 : (rowS n b other).length = other.length := List.length_map _
    rw [e, List.length_append, e2, sumsL_len n other r, List.length_cons, Nat.succ_mul]
    omega
def S_sum_of : FS := fun ss o => ∃ (n : Int) (one other : List Int), 0 < n ∧ n ≤ 400 ∧ ss = [.val (.int n), .val (.tuple (one.map .int)), .val (.tuple (other.map .int))] ∧ o = .rt (.val (optD (sumO n one other))) [.un, .un, .un]
theorem ok_sum_of {f : Addr} {fd : FuncData} (B : Blt mg) (Fn : Fun K "sum_of" "sum_of" s_sum_of f fd) : FnOk P w K mg base (L2N.CX P w) 1 f fd ["n", "one", "other"] (spD K ea S_sum_of) := by
  refine fnD Fn sc_sum_of (fun ss o ⟨_, _, _, _, _, e, _⟩ => by subst e; rfl) (fun cdv A outer s H E hr tk hp pins ss o hS hl => ?_)
  obtain ⟨n, one, other, h0, h60, rfl, rfl⟩ := hS
  obtain ⟨p, q, r, rfl⟩ := pins3 hl
  have few : ∀ {l : List Int}, l.Nodup → l <+: sumsL n one other → l.length ≤ 400 := fun {l} hn hp => by
    have z := nodup_few (n := n.toNat) hn (fun x hx => by
      have := sumsL_mem h0 x (hp.subset hx)
      omega)
    omega
  refine es_set 3 ev_dnew ?_ sc_sum_of.nd
  refine es_for (.nm 4) (fun i e => ∃ a b c, e = [.val (.int n), .val (.tuple (one.map .int)), .val (.tuple (other.map .int)), .dk none (boolKv (sumsL n (one.take i) other)), a, b, c] ∧ (sumsL n (one.take i) other).Nodup)
    (ei_tup (ev_var 1 rfl) rfl) (pg_name (i := 4) sc_sum_of.nd rfl (.inl rfl)) ⟨_, _, _, rfl, List.nodup_nil⟩ (fun i d e _ ⟨_, _, _, he, _⟩ => by subst he; exact (by decide : 4 < 7)) ?_ ?_ hp rfl
  · rintro i d e hd ⟨a, b, c, rfl, hnd⟩
    obtain ⟨x, hx, rfl⟩ := map_get hd
    refine es_for (.nm 5) (fun j e => ∃ b c, e = [.val (.int n), .val (.tuple (one.map .int)), .val (.tuple (other.map .int)), .dk none (boolKv (sumsL n (one.take i) other ++ rowS n x (other.take j))), .val (.int x), b, c] ∧ (sumsL n (one.take i) other ++ rowS n x (other.take j)).Nodup)
      (ei_tup (ev_var 2 rfl) rfl) (pg_name (i := 5) sc_sum_of.nd rfl (.inl rfl)) ⟨_, _, by rw [List.take_zero]; unfold rowS; rw [List.map_nil, List.append_nil]; rfl, by rw [List.take_zero]; unfold rowS; rw [List.map_nil, List.append_nil]; exact hnd⟩ (fun i d e _ ⟨_, _, he, _⟩ => by subst he; exact (by decide : 5 < 7)) ?_ ?_ hp rfl
    · rintro j d e hd ⟨b, c, rfl, hnd⟩
      obtain ⟨y, hy, rfl⟩ := map_get hd
      have hpre := sumsL_pre (n := n) (other := other) (j := j + 1) hx
      rw [rowS_take hy, ← List.append_assoc] at hpre
      have hlen := few hnd ((List.prefix_append _ _).trans hpre)
      refine es_set 6 (ev_mod (ev_add (ev_var 4 rfl) (ev_var 5 rfl) rfl rfl) (ev_var 0 rfl) rfl rfl h0) ?_ sc_sum_of.nd
      refine es_if (et_din (by have := hr.un; omega) (ev_var 6 rfl) (ev_ptr 3 rfl) rfl rfl rfl) (fun h => ?_) (fun h => ?_)
      · rw [boolKv_val] at h
        have hm := of_decide_eq_true h
        refine es_ret ev_none ⟨?_, trivial, trivial, trivial, trivial⟩
        have nn : ¬ (sumsL n one other).Nodup := fun z => by
          have z2 := List.Nodup.sublist hpre.sublist z
          rw [List.nodup_append] at z2
          exact z2.2.2 _ hm _ (List.mem_singleton.mpr rfl) rfl
        unfold sumO
        rw [if_neg nn]
        rfl
      · rw [boolKv_val] at h
        have hm := of_decide_eq_false h
        refine es_nil (es_dput 3 (by have := hr.un; omega) ev_bool (ev_ptr 3 rfl) (ev_var 6 rfl) rfl rfl rfl rfl (by rw [boolKv_len]; omega) (es_nil ?_))
        refine ⟨.val (.int y), .val (.int ((x + y) % n)), ?_, ?_⟩
        · show [_, _, _, Sl.dk none (putD _ (Sum.inl ((x + y) % n)) _), _, _, _] = _
          rw [boolKv_put hm, rowS_take hy, List.append_assoc]
        · rw [rowS_take hy, ← List.append_assoc, List.nodup_append]
          refine ⟨hnd, (by simp), fun a ha b hb z => ?_⟩
          rw [List.mem_singleton] at hb
          subst hb z
          exact hm ha
    · rintro e ⟨b, c, rfl, hnd⟩
      rw [List.length_map, List.take_length, ← sumsL_take hx] at hnd ⊢
      exact es_nil ⟨_, _, _, rfl, hnd⟩
  · rintro e ⟨a, b, c, rfl, hnd⟩
    rw [List.length_map, List.take_length] at hnd ⊢
    have hlen := few hnd (List.prefix_refl _)
    refine es_ret (ev_tuple B (ev_sortedKp B rfl (ev_ptr 3 rfl) rfl (boolKv_keys _)) rfl) ⟨?_, trivial, trivial, trivial, trivial⟩
    unfold sumO
    rw [if_pos hnd]
    rfl
theorem ringB_le {n : Int} (h : ringB n = true) : n ≤ 400 := by
  unfold ringB at h
  rw [Bool.and_eq_true, decide_eq_true_iff, decide_eq_true_iff] at h
  exact h.2
def S_free_sum : FS := fun ss o => ∃ (n : Int) (one other : List Int), ss = [.val (.int n), .val (.tuple (one.map .int)), .val (.tuple (other.map .int))] ∧ o = freeO n one other (.rt (.val (optD (sumO n one other))) [.un, .un, .un]) [.un, .un, .un]
theorem ok_free_sum {f : Addr} {fd : FuncData} (F_check_set : FnI P w K mg base ea 4 "check_set" ["n", "some"] S_check_set) (F_sum_of : FnI P w K mg base ea 1 "sum_of" ["n", "one", "other"] S_sum_of) (Fn : Fun K "free_sum" "free_sum" s_free_sum f fd) : FnOk P w K mg base (L2N.CX P w) 5 f fd ["n", "one", "other"] (spD K ea S_free_sum) := by
  refine fnD Fn sc_free_sum (fun ss o ⟨_, _, _, e, _⟩ => by subst e; rfl) (fun cdv A outer s H E hr tk hp pins ss o hS hl => ?_)
  obtain ⟨n, one, other, rfl, rfl⟩ := hS
  obtain ⟨p, q, r, rfl⟩ := pins3 hl
  unfold freeO chkO
  cases hn : ringB n with
  | false => exact es_exprX F_check_set hr tk (ea_cons (ev_var 0 rfl) (ea_cons (ev_var 1 rfl) ea_nil)) ⟨n, one, rfl, by unfold chkO; rw [hn]; rfl⟩ ⟨rfl, trivial, trivial, trivial, trivial⟩
  | true =>
    cases h1 : isOf n one with
    | false => exact es_exprX F_check_set hr tk (ea_cons (ev_var 0 rfl) (ea_cons (ev_var 1 rfl) ea_nil)) ⟨n, one, rfl, by unfold chkO; rw [hn, h1]; rfl⟩ ⟨rfl, trivial, trivial, trivial, trivial⟩
    | true =>
      refine es_expr (ev_call F_check_set hr (ea_cons (ev_var 0 rfl) (ea_cons (ev_var 1 rfl) ea_nil)) ⟨n, one, rfl, by unfold chkO; rw [if_pos hn, if_pos h1]⟩) ?_
      cases h2 : isOf n other with
      | false => exact es_exprX F_check_set hr tk (ea_cons (ev_var 0 rfl) (ea_cons (ev_var 2 rfl) ea_nil)) ⟨n, other, rfl, by unfold chkO; rw [hn, h2]; rfl⟩ ⟨rfl, trivial, trivial, trivial, trivial⟩
      | true =>
        refine es_expr (ev_call F_check_set hr (ea_cons (ev_var 0 rfl) (ea_cons (ev_var 2 rfl) ea_nil)) ⟨n, other, rfl, by unfold chkO; rw [if_pos hn, if_pos h2]⟩) ?_
        exact es_ret (ev_call F_sum_of (hr.mono (by decide)) (ea_cons (ev_var 0 rfl) (ea_cons (ev_var 1 rfl) (ea_cons (ev_var 2 rfl) ea_nil))) ⟨n, one, other, (ringB_pos hn).1, (ringB_le hn), rfl, rfl⟩) ⟨rfl, trivial, trivial, trivial, trivial⟩
def S_fills : FS := fun ss o => ∃ (n : Int) (one other : List Int), ss = [.val (.int n), .val (.tuple (one.map .int)), .val (.tuple (other.map .int))] ∧ o = freeO n one other (.rt (.val (.bool (fillB n one other))) [.un, .un, .un]) [.un, .un, .un]
theorem ok_fills {f : Addr} {fd : FuncData} (B : Blt mg) (F_free_sum : FnI P w K mg base ea 5 "free_sum" ["n", "one", "other"] S_free_sum) (Fn : Fun K "fills" "fills" s_fills f fd) : FnOk P w K mg base (L2N.CX P w) 6 f fd ["n", "one", "other"] (spD K ea S_fills) := by
  refine fnD Fn sc_fills (fun ss o ⟨_, _, _, e, _⟩ => by subst e; rfl) (fun cdv A outer s H E hr tk hp pins ss o hS hl => ?_)
  obtain ⟨n, one, other, rfl, rfl⟩ := hS
  obtain ⟨p, q, r, rfl⟩ := pins3 hl
  have bad : ∀ x, freeO n one other (.rt (.val (optD (sumO n one other))) [.un, .un, .un]) [.un, .un, .un] = .ex x [.un, .un, .un] → ES (bodyX P w K mg base ["n", "one", "other", "found"] "fills" s_fills f cdv A outer s H E) ea (fun cls d _ H => E cls d H) (defBody s_fills) (pinE [p, q, r] [.val (.int n), .val (.tuple (one.map .int)), .val (.tuple (other.map .int))] ++ List.replicate 1 .un) (finP [p, q, r] [.val (.int n), .val (.tuple (one.map .int)), .val (.tuple (other.map .int))] (.ex x [.un, .un, .un])) := fun x hx =>
    es_setX 3 F_free_sum hr tk (ea_cons (ev_var 0 rfl) (ea_cons (ev_var 1 rfl) (ea_cons (ev_var 2 rfl) ea_nil))) ⟨n, one, other, rfl, hx.symm⟩ ⟨rfl, trivial, trivial, trivial, trivial⟩ sc_fills.nd
  unfold freeO chkO at bad ⊢
  cases hn : ringB n with
  | false => exact bad _ (by rw [hn]; rfl)
  | true =>
    cases h1 : isOf n one with
    | false => exact bad _ (by rw [hn, h1]; rfl)
    | true =>
      cases h2 : isOf n other with
      | false => exact bad _ (by rw [hn, h1, h2]; rfl)
      | true =>
        refine es_set 3 (ev_call F_free_sum hr (ea_cons (ev_var 0 rfl) (ea_cons (ev_var 1 rfl) (ea_cons (ev_var 2 rfl) ea_nil))) ⟨n, one, other, rfl, by unfold freeO chkO; rw [if_pos hn, if_pos h1, if_pos hn, if_pos h2]⟩) ?_ sc_fills.nd
        unfold fillB
        cases hs : sumO n one other with
        | none =>
          refine es_ret (ev_and (k2 := false) (ev_notN (ev_var 3 rfl) rfl) fun z => (by cases z)) ?_
          exact ⟨rfl, trivial, trivial, trivial, trivial⟩
        | some l =>
          refine es_ret (ev_and (ev_notN (ev_var 3 rfl) rfl) fun _ => ev_one (ev_eqI (by have := hr.un; omega) (ev_len B (ev_var 3 rfl) rfl) (ev_var 0 rfl) rfl rfl)) ?_
          refine ⟨?_, trivial, trivial, trivial, trivial⟩
          show Sl.val (.bool (!false && (((l.map PyData.int).length : Int) == n))) = _
          rw [List.length_map]
          rfl
def plainB (n : Int) (xs ys : List Int) : Bool := fillB n xs ys && ((periodOf n xs == n) && (periodOf n ys == n))
def S_is_plain : FS := fun ss o => ∃ (n : Int) (xs : List Int) (ys : List Int), ss = [.val (.int n), .val (.tuple (xs.map .int)), .val (.tuple (ys.map .int))] ∧ o = freeO n xs ys (.rt (.val (.bool (plainB n xs ys))) [.un, .un, .un]) [.un, .un, .un]
theorem ok_is_plain {f : Addr} {fd : FuncData} (B : Blt mg) (F_period_of : FnI P w K mg base ea 2 "period_of" ["n", "some"] S_period_of) (F_fills : FnI P w K mg base ea 6 "fills" ["n", "one", "other"] S_fills) (Fn : Fun K "is_plain" "is_plain" s_is_plain f fd) : FnOk P w K mg base (L2N.CX P w) 7 f fd ["n", "one", "other"] (spD K ea S_is_plain) := by
  refine fnD Fn sc_is_plain (fun ss o ⟨_, _, _, e, _⟩ => by subst e; rfl) (fun cdv A outer s H E hr tk hp pins ss o hS hl => ?_)
  obtain ⟨n, xs, ys, rfl, rfl⟩ := hS
  obtain ⟨p0, p1, p2, rfl⟩ := pins3 hl
  unfold freeO chkO
  cases hr1 : ringB n with
  | false => exact es_retE (ex_and1 (ex_callV F_fills (hr.mono (by decide)) tk (ea_cons (ev_var 0 rfl) (ea_cons (ev_var 1 rfl) (ea_cons (ev_var 2 rfl) ea_nil))) ⟨n, xs, ys, rfl, by unfold freeO chkO; rw [hr1]; rfl⟩)) ⟨rfl, trivial, trivial, trivial, trivial⟩
  | true =>
    rw [if_pos rfl]
    cases h1 : isOf n xs with
    | false => exact es_retE (ex_and1 (ex_callV F_fills (hr.mono (by decide)) tk (ea_cons (ev_var 0 rfl) (ea_cons (ev_var 1 rfl) (ea_cons (ev_var 2 rfl) ea_nil))) ⟨n, xs, ys, rfl, by unfold freeO chkO; rw [hr1, h1]; rfl⟩)) ⟨rfl, trivial, trivial, trivial, trivial⟩
    | true =>
      rw [if_pos rfl, if_pos rfl]
      cases h2 : isOf n ys with
      | false => exact es_retE (ex_and1 (ex_callV F_fills (hr.mono (by decide)) tk (ea_cons (ev_var 0 rfl) (ea_cons (ev_var 1 rfl) (ea_cons (ev_var 2 rfl) ea_nil))) ⟨n, xs, ys, rfl, by unfold freeO chkO; rw [hr1, h1, h2]; rfl⟩)) ⟨rfl, trivial, trivial, trivial, trivial⟩
      | true =>
        rw [if_pos rfl]
        have hn := (ringB_pos hr1).1
        have hn4 := ringB_le hr1
        exact es_ret (R := .val (.bool (plainB n xs ys))) (ev_and (EV.is (Ra := .val (.bool (fillB n xs ys))) (ev_callV F_fills (hr.mono (by decide)) (ea_cons (ev_var 0 rfl) (ea_cons (ev_var 1 rfl) (ea_cons (ev_var 2 rfl) ea_nil))) ⟨n, xs, ys, rfl, by unfold freeO chkO; rw [hr1, h1, h2]; rfl⟩) rfl rfl) fun hq => (ev_and (ev_eqI (hu_of hr) (EV.is (Ra := .val (.int (periodOf n xs))) (ev_callV F_period_of (hr.mono (by decide)) (ea_cons (ev_var 0 rfl) (ea_cons (ev_var 1 rfl) ea_nil)) ⟨n, xs, by omega, rfl, rfl⟩) rfl rfl) (ev_var 0 rfl) rfl rfl) fun hq => (ev_one (ev_eqI (hu_of hr) (EV.is (Ra := .val (.int (periodOf n ys))) (ev_callV F_period_of (hr.mono (by decide)) (ea_cons (ev_var 0 rfl) (ea_cons (ev_var 2 rfl) ea_nil)) ⟨n, ys, by omega, rfl, rfl⟩) rfl rfl) (ev_var 0 rfl) rfl rfl)))) ⟨rfl, trivial, trivial, trivial, trivial⟩
def prt4 (l b q : Int) (a p : Int) : Option (List Int) := if (l % (b * q) == 0 && (decide (l / (b * q) > 1) && ((Nat.gcd (a * p).natAbs (b * q).natAbs : Nat) : Int) == 1)) = true then some [a, p, b, q, l / (b * q)] else none
def prt3 (a p l b : Int) : Option (List Int) := (irange 2 (l / (b * 2) + 1)).findSome? fun q => prt4 l b q a p
def prt2 (n a p : Int) : Option (List Int) := if (decide (n % (a * p) > 0) || decide (n / (a * p) < 8)) = true then none else (irange 2 (n / (a * p) / 4 + 1)).findSome? (prt3 a p (n / (a * p)))
def prt1 (n a : Int) : Option (List Int) := (irange 2 (n / a + 1)).findSome? (prt2 n a)
def partsF (n : Int) : Option (List Int) := (irange 2 (n + 1)).findSome? (prt1 n)
def optT : Option (List Int) → D
  | none => .none
  | some l => tupI l
theorem fsome_at {α β : Type} {l : List α} {f : α → Option β} {k : Nat} {a : α} (h : (l.take k).findSome? f = none) (hk : l[k]? = some a) : (∀ v, f a = some v → l.findSome? f = some v) ∧ (f a = none → (l.take (k + 1)).findSome? f = none) := by
  have e := take_succ_get hk
  refine ⟨fun v hq => ?_, fun hq => ?_⟩
  · have e2 : l = l.take (k + 1) ++ l.drop (k + 1) := (List.take_append_drop _ _).symm
    rw [e2, e, List.findSome?_append, List.findSome?_append, h]
    simp [hq]
  · rw [e, List.findSome?_append, h]
    simp [hq]
theorem cut_in {n a : Int} (hn : 0 ≤ n) (ha : 1 ≤ a) : 0 ≤ n / a ∧ n / a ≤ n := ⟨Int.ediv_nonneg hn (by omega), Int.ediv_le_self a hn⟩
theorem mul_in {n a p : Int} (ha : 1 ≤ a) (hp : 1 ≤ p) (h : p ≤ n / a) : (1 ≤ a * p ∧ a * p ≤ n) ∧ a ≤ a * p ∧ p ≤ a * p := by
  have h1 := Int.mul_le_of_le_ediv (by omega) h
  rw [Int.mul_comm] at h1
  have h2 : a * 1 ≤ a * p := Int.mul_le_mul_of_nonneg_left hp (by omega)
  rw [Int.mul_one] at h2
  have h3 := Int.mul_le_mul_of_nonneg_right ha (show 0 ≤ p by omega)
  rw [Int.one_mul] at h3
  omega
theorem four_in {l b q : Int} (hb : 1 ≤ b) (hq : 1 ≤ q) (h : q ≤ l / (b * 2)) : (1 ≤ b * q ∧ b * q ≤ l) ∧ b ≤ b * q ∧ q ≤ b * q := by
  have h0 := mul_in (n := l) (a := b * 2) (p := q) (by omega) hq h
  rw [Int.mul_assoc, Int.mul_comm 2, ← Int.mul_assoc] at h0
  have h2 : b * 1 ≤ b * q := Int.mul_le_mul_of_nonneg_left hq (by omega)
  rw [Int.mul_one] at h2
  have h3 := Int.mul_le_mul_of_nonneg_right hb (show 0 ≤ q by omega)
  rw [Int.one_mul] at h3
  omega
structure PartsI (n a p b q r : Int) : Prop where
  ha : 2 ≤ a
  hp : 2 ≤ p
  hb : 2 ≤ b
  hq : 2 ≤ q
  hr : 2 ≤ r
  hn : a * p * (b * q * r) = n
theorem partsF_some {n : Int} (hn : 1 ≤ n) {l : List Int} (h : partsF n = some l) : ∃ a p b q r, l = [a, p, b, q, r] ∧ PartsI n a p b q r := by
  obtain ⟨a, ha, h⟩ := List.exists_of_findSome?_eq_some h
  have ha := mem_irange.mp ha
  obtain ⟨p, hp, h⟩ := List.exists_of_findSome?_eq_some h
  have hp := mem_irange.mp hp
  unfold prt2 at h
  split at h
  · cases h
  rename_i hc
  obtain ⟨b, hb, h⟩ := List.exists_of_findSome?_eq_some h
  have hb := mem_irange.mp hb
  obtain ⟨q, hq, h⟩ := List.exists_of_findSome?_eq_some h
  have hq := mem_irange.mp hq
  unfold prt4 at h
  split at h
  · rename_i hd
    have h := Option.some.inj h
    rw [Bool.and_eq_true, Bool.and_eq_true] at hd
    have hd1 := beq_iff_eq.mp hd.1
    have hd2 := of_decide_eq_true hd.2.1
    have hm := mul_in (n := n) (a := a) (p := p) (by omega) (by omega) (by omega)
    simp only [Bool.or_eq_true, decide_eq_true_eq] at hc
    have hz : n % (a * p) = 0 := by
      have := Int.emod_nonneg n (b := a * p) (by omega)
      omega
    refine ⟨a, p, b, q, _, h.symm, by omega, by omega, by omega, by omega, by omega, ?_⟩
    rw [Int.mul_ediv_cancel' (Int.dvd_of_emod_eq_zero hd1), Int.mul_ediv_cancel' (Int.dvd_of_emod_eq_zero hz)]
  · cases h
def S_parts_of : FS := fun ss o => ∃ (n : Int), (1 ≤ n ∧ n ≤ 400) ∧ ss = [.val (.int n)] ∧ o = .rt (.val (optT (partsF n))) [.un]
theorem ok_parts_of {f : Addr} {fd : FuncData} (B : Blt mg) (G_gcd : mg "gcd" = some (.builtin "math.gcd")) (Fn : Fun K "parts_of" "parts_of" s_parts_of f fd) : FnOk P w K mg base (L2N.CX P w) 1 f fd ["n"] (spD K ea S_parts_of) := by
  refine fnD Fn sc_parts_of (fun ss o ⟨_, _, e, _⟩ => by subst e; rfl) (fun cdv A outer s H E hr tk hp pins ss o hS hl => ?_)
  obtain ⟨n, h0, rfl, rfl⟩ := hS
  obtain ⟨p0, rfl⟩ := pins1 hl
  refine es_for (.nm 1) (fun k e => ((irange 2 (n + 1)).take k).findSome? (prt1 n) = none ∧ ∃ a1 a2 a3 a4 a5 a6, e = [.val (.int n), a1, a2, a3, a4, a5, a6]) (ev_rng2 B ev_int (ev_addI (ev_var 0 rfl) ev_int rfl rfl) (by omega)) (pg_name (i := 1) sc_parts_of.nd rfl (by first | exact .inl rfl | exact .inr rfl)) ⟨rfl, _, _, _, _, _, _, rfl⟩ (fun i d e _ ⟨_, _, _, _, _, _, _, he⟩ => by subst he; exact (by decide : 1 < 7)) ?_ ?_ hp rfl
  · rintro k d e hk ⟨hno, a1, a2, a3, a4, a5, a6, rfl⟩
    obtain ⟨a, ha, rfl⟩ := map_get hk
    have ha2 := mem_irange.mp (List.mem_of_getElem? ha)
    obtain ⟨q1, q2⟩ := fsome_at hno ha
    have hna := cut_in (n := n) (a := a) (by omega) (by omega)
    refine es_for (.nm 2) (fun k e => ((irange 2 (n / a + 1)).take k).findSome? (prt2 n a) = none ∧ ∃ a2 a3 a4 a5 a6, e = [.val (.int n), .val (.int a), a2, a3, a4, a5, a6]) (ev_rng2 B ev_int (ev_addI (ev_div (ev_var 0 rfl) (ev_var 1 rfl) rfl rfl (by omega)) ev_int rfl rfl) (by omega)) (pg_name (i := 2) sc_parts_of.nd rfl (by first | exact .inl rfl | exact .inr rfl)) ⟨rfl, _, _, _, _, _, rfl⟩ (fun i d e _ ⟨_, _, _, _, _, _, he⟩ => by subst he; exact (by decide : 2 < 7)) ?_ ?_ hp rfl
    · rintro k d e hk ⟨hno, a2, a3, a4, a5, a6, rfl⟩
      obtain ⟨p, hp2, rfl⟩ := map_get hk
      have hp3 := mem_irange.mp (List.mem_of_getElem? hp2)
      obtain ⟨u1, u2⟩ := fsome_at hno hp2
      have hm := mul_in (n := n) (a := a) (p := p) (by omega) (by omega) (by omega)
      have hl := cut_in (n := n) (a := a * p) (by omega) (by omega)
      refine es_set (env1 := [.val (.int n), .val (.int a), .val (.int p), a3, a4, a5, a6]) (R := .val (.int (n / (a * p)))) 3 (ev_div (ev_var 0 rfl) (ev_mul (ev_var 1 rfl) (ev_var 2 rfl) rfl rfl (.inr (by omega))) rfl rfl (by omega)) ?_ sc_parts_of.nd
      refine es_if (env1 := [.val (.int n), .val (.int a), .val (.int p), .val (.int (n / (a * p))), a4, a5, a6]) (k := decide (n % (a * p) > 0) || decide (n / (a * p) < 8)) (et_w (ew_or (et_gt (ev_mod (ev_var 0 rfl) (ev_mul (ev_var 1 rfl) (ev_var 2 rfl) rfl rfl (.inr (by omega))) rfl rfl (by omega)) ev_int rfl rfl) fun hq => (ew_or1 (et_lt (ev_var 3 rfl) ev_int rfl rfl)))) (fun hq => ?_) (fun hq => es_nil ?_)
      · exact es_cont ⟨u2 (by unfold prt2; rw [if_pos hq]), _, _, _, _, _, rfl⟩
      generalize hle : n / (a * p) = l at hl hq u1 u2 ⊢
      have e2 : prt2 n a p = (irange 2 (l / 4 + 1)).findSome? (prt3 a p l) := by
        unfold prt2
        rw [hle, if_neg (by rw [hq]; exact Bool.false_ne_true)]
      rw [e2] at u1 u2
      refine es_for (.nm 4) (fun k e => ((irange 2 (l / 4 + 1)).take k).findSome? (prt3 a p l) = none ∧ ∃ a4 a5 a6, e = [.val (.int n), .val (.int a), .val (.int p), .val (.int l), a4, a5, a6]) (ev_rng2 B ev_int (ev_addI (ev_div (ev_var 3 rfl) ev_int rfl rfl (by decide)) ev_int rfl rfl) (by omega)) (pg_name (i := 4) sc_parts_of.nd rfl (by first | exact .inl rfl | exact .inr rfl)) ⟨rfl, _, _, _, rfl⟩ (fun i d e _ ⟨_, _, _, _, he⟩ => by subst he; exact (by decide : 4 < 7)) ?_ ?_ hp rfl
      · rintro k d e hk ⟨hno, a4, a5, a6, rfl⟩
        obtain ⟨b, hb, rfl⟩ := map_get hk
        have hb2 := mem_irange.mp (List.mem_of_getElem? hb)
        obtain ⟨w1, w2⟩ := fsome_at hno hb
        have hlb := cut_in (n := l) (a := b * 2) (by omega) (by omega)
        refine es_for (.nm 5) (fun k e => ((irange 2 (l / (b * 2) + 1)).take k).findSome? (fun q => prt4 l b q a p) = none ∧ ∃ a5 a6, e = [.val (.int n), .val (.int a), .val (.int p), .val (.int l), .val (.int b), a5, a6]) (ev_rng2 B ev_int (ev_addI (ev_div (ev_var 3 rfl) (ev_mul (ev_var 4 rfl) ev_int rfl rfl (.inr (by omega))) rfl rfl (by omega)) ev_int rfl rfl) (by omega)) (pg_name (i := 5) sc_parts_of.nd rfl (by first | exact .inl rfl | exact .inr rfl)) ⟨rfl, _, _, rfl⟩ (fun i d e _ ⟨_, _, _, he⟩ => by subst he; exact (by decide : 5 < 7)) ?_ ?_ hp rfl
        · rintro k d e hk ⟨hno, a5, a6, rfl⟩
          obtain ⟨q, hq2, rfl⟩ := map_get hk
          have hq3 := mem_irange.mp (List.mem_of_getElem? hq2)
          obtain ⟨z1, z2⟩ := fsome_at hno hq2
          have hm2 := four_in (l := l) (b := b) (q := q) (by omega) (by omega) (by omega)
          have hl2 := cut_in (n := l) (a := b * q) (by omega) (by omega)
          refine es_set (env1 := [.val (.int n), .val (.int a), .val (.int p), .val (.int l), .val (.int b), .val (.int q), a6]) (R := .val (.int (l / (b * q)))) 6 (ev_div (ev_var 3 rfl) (ev_mul (ev_var 4 rfl) (ev_var 5 rfl) rfl rfl (.inr (by omega))) rfl rfl (by omega)) ?_ sc_parts_of.nd
          refine es_if (env1 := [.val (.int n), .val (.int a), .val (.int p), .val (.int l), .val (.int b), .val (.int q), .val (.int (l / (b * q)))]) (k := l % (b * q) == 0 && (decide (l / (b * q) > 1) && ((Nat.gcd (a * p).natAbs (b * q).natAbs : Nat) : Int) == 1)) (et_w (ew_and (et_eqI (hu_of hr) (ev_mod (ev_var 3 rfl) (ev_mul (ev_var 4 rfl) (ev_var 5 rfl) rfl rfl (.inr (by omega))) rfl rfl (by omega)) ev_int rfl rfl) fun hq => (ew_and (et_gt (ev_var 6 rfl) ev_int rfl rfl) fun hq => (ew_and1 (et_eqI (hu_of hr) (ev_gcd G_gcd (ea_cons (ev_mul (ev_var 1 rfl) (ev_var 2 rfl) rfl rfl (.inr (by omega))) (ea_cons (ev_mul (ev_var 4 rfl) (ev_var 5 rfl) rfl rfl (.inr (by omega))) ea_nil))) ev_int rfl rfl))))) (fun hz => ?_) (fun hz => ?_)
          · have e4 : partsF n = some [a, p, b, q, l / (b * q)] := q1 _ (u1 _ (w1 _ (z1 _ (if_pos hz))))
            refine es_ret (R := .val (tupI [a, p, b, q, l / (b * q)])) (ev_tupV (ea_cons (ev_var 1 rfl) (ea_cons (ev_var 2 rfl) (ea_cons (ev_var 4 rfl) (ea_cons (ev_var 5 rfl) (ea_cons (ev_var 6 rfl) ea_nil))))) rfl) ?_
            rw [e4]
            exact ⟨rfl, trivial, trivial⟩
          · exact es_nil (es_nil ⟨z2 (if_neg (by rw [hz]; exact Bool.false_ne_true)), _, _, rfl⟩)
        · rintro e ⟨hno, a5, a6, rfl⟩
          rw [List.length_map, List.take_length] at hno
          exact es_nil ⟨w2 hno, _, _, _, rfl⟩
      · rintro e ⟨hno, a4, a5, a6, rfl⟩
        rw [List.length_map, List.take_length] at hno
        exact es_nil ⟨u2 hno, _, _, _, _, _, rfl⟩
    · rintro e ⟨hno, a2, a3, a4, a5, a6, rfl⟩
      rw [List.length_map, List.take_length] at hno
      exact es_nil ⟨q2 hno, _, _, _, _, _, _, rfl⟩
  · rintro e ⟨hno, a1, a2, a3, a4, a5, a6, rfl⟩
    rw [List.length_map, List.take_length] at hno
    refine es_ret ev_none ?_
    rw [show partsF n = none from hno]
    exact ⟨rfl, trivial, trivial⟩
def S_is_good : FS := fun ss o => ∃ (n : Int), ss = [.val (.int n)] ∧ o = ringO n (.rt (.val (.bool (isNone (optT (partsF n))))) [.un]) [.un]
theorem ok_is_good {f : Addr} {fd : FuncData} (F_check_ring : FnI P w K mg base ea 1 "check_ring" ["n"] S_check_ring) (F_parts_of : FnI P w K mg base ea 1 "parts_of" ["n"] S_parts_of) (Fn : Fun K "is_good" "is_good" s_is_good f fd) : FnOk P w K mg base (L2N.CX P w) 2 f fd ["n"] (spD K ea S_is_good) := by
  refine fnD Fn sc_is_good (fun ss o ⟨_, e, _⟩ => by subst e; rfl) (fun cdv A outer s H E hr tk hp pins ss o hS hl => ?_)
  obtain ⟨n, rfl, rfl⟩ := hS
  obtain ⟨p0, rfl⟩ := pins1 hl
  refine es_chkring F_check_ring (hr.mono (by decide)) tk (ea_cons (ev_var 0 rfl) ea_nil) ⟨trivial, trivial⟩ fun hn => ?_
  exact es_ret (R := .val (.bool (isNone (optT (partsF n))))) (ev_isN (EV.is (Ra := .val (optT (partsF n))) (ev_callV F_parts_of (hr.mono (by decide)) (ea_cons (ev_var 0 rfl) ea_nil) ⟨n, by omega, rfl, rfl⟩) rfl rfl) rfl) ⟨rfl, trivial, trivial⟩
def stepsR (a b c : Int) : List Int := srange a c (PySem.Builtin.Range.rangeSize a b c).toNat
theorem rgC_pos {a b c : Int} (hc : 1 ≤ c ∧ c ≤ 100000) (ha : 0 ≤ a ∧ a ≤ 1000000) (hb : 0 ≤ b ∧ b ≤ 1000000) : RgC a b c (PySem.Builtin.Range.rangeSize a b c).toNat := by
  have h1 := PyProof.Rows.rangeSize_toNat a b c
  have h2 := PyProof.Rows.rangeSize_toNat_le a b c
  refine ⟨by omega, by omega, ?_, h1⟩
  have p63 : (2 : Int) ^ 63 = 9223372036854775808 := by decide
  unfold PySem.Builtin.Range.small
  rw [if_pos (show c > 0 by omega)]
  generalize PySem.Builtin.Range.rangeSize a b c = z at h1 h2
  simp only [PySem.Builtin.Range.rangeFitsLong, Bool.and_eq_true, Bool.or_eq_true, decide_eq_true_eq, beq_iff_eq]
  rw [p63]
  omega
theorem rgC_len {a b c : Int} (ha : 0 ≤ a ∧ a ≤ 1000000) (hb : 0 ≤ b ∧ b ≤ 1000000) : (PySem.Builtin.Range.rangeSize a b c).toNat ≤ 2 ^ 24 := by
  have h2 := PyProof.Rows.rangeSize_toNat_le a b c
  omega
theorem ei_rng3 {X : Cx} {tg e1 e2 e3 : Expr} {p pos : Pos} {env env1 : Ev} {i j c : Int} (hm : X.mg "range" = none) (h : EA X [e1, e2, e3] env [.val (.int i), .val (.int j), .val (.int c)] env1) (hc : RgC i j c (PySem.Builtin.Range.rangeSize i j c).toNat) (hg : Gl X "range" := by rfl)
    (hs : starEach [e1, e2, e3] X.env = (false, eval e1 X.env) :: starEach [e2, e3] X.env := by rfl) (hpl : (backTo pos (starEach [e2, e3] X.env)).any (·.1) = false := by rfl) : EI X tg (.Call (.Name "range" p) [e1, e2, e3] [] pos) env ((stepsR i j c).map .int) env1 :=
  PI.wk (pi_range3 hg hm h hs hpl) fun σ H Q ⟨G, F, S, q⟩ => ⟨G, F, S, fun F1 vs H1 x1 r1 S1 => by
    obtain ⟨u, v, z, e, a1, a2, a3⟩ := ars3 r1
    exact ⟨i, j, c, _, by rw [e, a1.int_iff, a2.int_iff, a3.int_iff], hc, q F1 _ H1 x1 itOk_srange S1⟩⟩
def restF (one other x y : Int) : Int := ((stepsR x (one * other) one).find? fun z => z % other == y).getD 0
theorem mem_stepsR {a b c z : Int} (hc : 1 ≤ c) (h : z ∈ stepsR a b c) : a ≤ z ∧ z < b := by
  unfold stepsR srange at h
  obtain ⟨k, hk, rfl⟩ := List.mem_map.mp h
  have hk := List.mem_range.mp hk
  have hk0 : 0 ≤ (k : Int) * c := Int.mul_nonneg (by omega) (by omega)
  refine ⟨by omega, ?_⟩
  have h1 := PyProof.Rows.rangeSize_toNat a b c
  have h3 : (k : Int) < PySem.Builtin.Range.rangeSize a b c := by omega
  unfold PySem.Builtin.Range.rangeSize at h3
  rw [if_pos (by omega)] at h3
  split at h3
  · have h4 : (k : Int) ≤ (b - a - 1) / c := by omega
    have h5 := Int.mul_le_of_le_ediv (by omega) h4
    omega
  · omega
theorem restF_in {one other x y : Int} (h1 : 1 ≤ one) (hx : 0 ≤ x) (h2 : 0 < one * other) : 0 ≤ restF one other x y ∧ restF one other x y < one * other := by
  unfold restF
  cases e : (stepsR x (one * other) one).find? fun z => z % other == y with
  | none => exact ⟨by decide, h2⟩
  | some z =>
    have := mem_stepsR h1 (List.mem_of_find?_eq_some e)
    exact ⟨by show 0 ≤ z; omega, this.2⟩
def S_both_rests : FS := fun ss o => ∃ (a : Int) (b : Int) (u : Int) (v : Int), ((1 ≤ a ∧ a ≤ 400) ∧ (1 ≤ b ∧ b ≤ 400) ∧ (0 ≤ u ∧ u ≤ 400)) ∧ ss = [.val (.int a), .val (.int b), .val (.int u), .val (.int v)] ∧ o = .rt (.val (.int (restF a b u v))) [.un, .un, .un, .un]
theorem ok_both_rests {f : Addr} {fd : FuncData} (B : Blt mg) (Fn : Fun K "both_rests" "both_rests" s_both_rests f fd) : FnOk P w K mg base (L2N.CX P w) 1 f fd ["one", "other", "x", "y"] (spD K ea S_both_rests) := by
  refine fnD Fn sc_both_rests (fun ss o ⟨_, _, _, _, _, e, _⟩ => by subst e; rfl) (fun cdv A outer s H E hr tk hp pins ss o hS hl => ?_)
  obtain ⟨a, b, u, v, h0, rfl, rfl⟩ := hS
  obtain ⟨p0, p1, p2, p3, rfl⟩ := pins4 hl
  have hm : a * b ≤ 400 * 400 := Int.mul_le_mul h0.1.2 h0.2.1.2 (by omega) (by decide)
  have hm0 : 0 ≤ a * b := Int.mul_nonneg (by omega) (by omega)
  refine es_for (.nm 4) (fun k e => ((stepsR u (a * b) a).take k).find? (fun z => z % b == v) = none ∧ ∃ c, e = [.val (.int a), .val (.int b), .val (.int u), .val (.int v), c]) (ei_rng3 B.range_ (ea_cons (ev_var 2 rfl) (ea_cons (ev_mul (ev_var 0 rfl) (ev_var 1 rfl) rfl rfl (.inr (by omega))) (ea_cons (ev_var 0 rfl) ea_nil))) (rgC_pos (by omega) (by omega) (by omega))) (pg_name (i := 4) sc_both_rests.nd rfl (by first | exact .inl rfl | exact .inr rfl))
    ⟨rfl, _, rfl⟩ (fun i d e _ ⟨_, _, he⟩ => by subst he; exact (by decide : 4 < 5)) ?_ ?_ hp rfl
  · rintro k d e hk ⟨hno, c, rfl⟩
    obtain ⟨z, hz, rfl⟩ := map_get hk
    obtain ⟨q1, q2⟩ := find_at hno hz
    refine es_if (k := z % b == v) (et_eqI (hu_of hr) (ev_mod (ev_var 4 rfl) (ev_var 1 rfl) rfl rfl (by omega)) (ev_var 3 rfl) rfl rfl) (fun h => ?_) (fun h => ?_)
    · refine es_ret (ev_var 4 rfl) ⟨?_, trivial, trivial, trivial, trivial, trivial⟩
      have e : restF a b u v = z := by unfold restF; rw [q1 h]; rfl
      rw [e]
      rfl
    · exact es_nil (es_nil ⟨q2 h, _, rfl⟩)
  · rintro e ⟨hno, c, rfl⟩
    rw [List.length_map, List.take_length] at hno
    refine es_ret ev_int ⟨?_, trivial, trivial, trivial, trivial, trivial⟩
    have e : restF a b u v = 0 := by unfold restF; rw [hno]; rfl
    rw [e]
    rfl
theorem es_setLc2 {X : Cx} {ea : Str → Addr} {W : WX} {rest : List Stmt} {Post : Out → Prop} {env env1 : Ev} {tg iter tg1 iter1 elt : Expr} {pos py spos : Pos} {y : Str} {scope : Scope} {ds : List D} {α β : Type} {xs : List α} {g : α → D} {ys : α → List β} {g1 : β → D} {R : α → β → Rs} {f : α → β → D} (i : Nat) (own : List (Str × Nat)) (t t1 : Tgt) (vs1 : List Nat) (hc : X.calm = true) (hN : X.N.Nodup) (hi : EI X tg iter env (xs.map g) env1) (ok : BlkOk X.N X.env.scope scope own)
    (hg : ∀ sh H C cl fp, PG (blkC' X scope sh H C cl fp) tg (t.g X.K)) (hg1 : ∀ sh H C cl fp, PG (blkC' X scope sh H C cl fp) tg1 (t1.g X.K)) (hz : (xs.flatMap fun a => (ys a).map (f a)).length < 16000000)
    (hi1 : ∀ a ∈ xs, ∀ sh H C cl fp, EI (blkC' X scope sh H C cl fp) tg1 iter1 (t.bind (wipeE (own.map (·.2)) 0 env1) (g a)) ((ys a).map g1) (t.bind (wipeE (own.map (·.2)) 0 env1) (g a)))
    (he : ∀ a ∈ xs, ∀ b ∈ ys a, ∀ sh H C cl fp, EV (blkC' X scope sh H C cl fp) elt (t1.bind (wipeE vs1 0 (t.bind (wipeE (own.map (·.2)) 0 env1) (g a))) (g1 b)) (R a b) (t1.bind (wipeE vs1 0 (t.bind (wipeE (own.map (·.2)) 0 env1) (g a))) (g1 b))) (hf : ∀ a b, Pd.fz (R a b) = .val (f a b))
    (hok : ∀ a, t.okB env1.length (g a) = true) (hok1 : ∀ b, t1.okB env1.length (g1 b) = true) (he2 : (xs.flatMap fun a => (ys a).map (f a)) = ds) (k : ES X ea W rest (env1.set i (.lst none ds)) Post) (hts : (t.slots.all fun i => (own.map (·.2)).elem i) = true := by rfl) (hts1 : (t1.slots.all fun i => vs1.elem i) = true := by rfl) (hv : (vs1.all fun i => (own.map (·.2)).elem i) = true := by rfl) (hno : ((own.map (·.2)).all fun i => !(ge env1 i).own) = true := by rfl)
    (hs : ∀ x, foldedSetIterable iter X.env x = pure x := by intro _; rfl) (hs1 : ∀ env x, foldedSetIterable iter1 env x = pure x := by intro _ _; rfl) (hy : X.N[i]? = some y := by rfl) (hyl : X.env.scope.names.lookup y = some .local := by rfl) (hl : Nat.blt i env1.length = true := by rfl)
    (hsw : swapsWith (.ListComp elt [⟨tg, iter, [], 0⟩, ⟨tg1, iter1, [], 0⟩] scope pos) (some (.Name y py)) spos.line X.env = pure true := by exact sw_true rfl rfl rfl (by decide +kernel)) : ES X ea W (.Assign [.Name y py] (.ListComp elt [⟨tg, iter, [], 0⟩, ⟨tg1, iter1, [], 0⟩] scope pos) spos :: rest) env Post := by
  have hv' : ∀ i ∈ vs1, i ∈ own.map (·.2) := hts_of hv
  have hts1' : ∀ i ∈ t1.slots, i ∈ vs1 := hts_of hts1
  subst he2
  have core : ∀ σ H Q, tV X.K env (.new (.lst none (xs.flatMap fun a => (ys a).map (f a)))) env1 σ H Q → tLc2 (tI X.K env (xs.map g) env1) (t.g X.K) (fun σ H Q => Q true H) (fun σ H Q => ∃ e ds e', (∀ sh H C cl fp, EI (blkC' X scope sh H C cl fp) tg1 iter1 e ds e') ∧ tI X.K e ds e' σ H Q) (t1.g X.K) (fun σ H Q => Q true H) (fun σ H Q => ∃ e R e', (∀ sh H C cl fp, EV (blkC' X scope sh H C cl fp) elt e R e') ∧ tV X.K e R e' σ H Q) (own.map (·.2)) vs1 σ H Q := by
    rintro σ H Q ⟨G, F, S, q⟩
    refine ⟨G, F, S, fun F1 Jt H1 x1 it S1 Dl hD => ?_⟩
    generalize hvs : own.map (·.2) = vs at *
    have gD : G Dl = none := S1.kg.fresh hD
    have hts' : ∀ j ∈ t.slots, j ∈ vs := hts_of hts
    refine ⟨fun i m H' => m = xs.length - i ∧ i ≤ xs.length ∧ ∃ F' acc, Ext G F1 F' ∧ H' Dl = some (.lst acc) ∧ F' Dl = none ∧ DRs X.K F' acc ((xs.take i).flatMap fun a => (ys a).map (f a)) ∧ St X.K (upd G Dl (.lst acc)) F' (wipe σ vs) H' (wipeE vs 0 env1),
      ⟨xs.length, by omega, by omega, F1, [], Ext.refl G F1, upd_same, S1.kf.fresh hD, .nil, (S1.wipe vs).keepNew hD⟩, ?_⟩
    rintro i m H' ⟨rfl, hle, F', acc, x', hDl, fD, rs, S'⟩
    have it' := it.mono x'.le
    by_cases hlt : i < xs.length
    · refine .inr ?_
      have ha : xs[i]? = some xs[i] := List.getElem?_eq_getElem hlt
      have hd' : (xs.map g)[i]? = some (g xs[i]) := by rw [List.getElem?_map, ha]; rfl
      have hm : xs[i] ∈ xs := List.getElem_mem hlt
      obtain ⟨h1, _⟩ := it' i H' S'.kf
      have etk : (xs.take (i + 1)).flatMap (fun a => (ys a).map (f a)) = (xs.take i).flatMap (fun a => (ys a).map (f a)) ++ (ys xs[i]).map (f xs[i]) := by
        rw [take_succ_get ha, List.flatMap_append]
        simp
      have hbig : ((xs.take (i + 1)).flatMap fun a => (ys a).map (f a)).length ≤ (xs.flatMap fun a => (ys a).map (f a)).length := by
        have e : xs.flatMap (fun a => (ys a).map (f a)) = (xs.take (i + 1)).flatMap (fun a => (ys a).map (f a)) ++ (xs.drop (i + 1)).flatMap (fun a => (ys a).map (f a)) := by
          rw [← List.flatMap_append, List.take_append_drop]
        rw [e, List.length_append]
        omega
      rw [etk, List.length_append, List.length_map] at hbig
      generalize xs[i] = a at *
      refine ⟨(h1 _ hd').1, fun H2 => ∃ F' acc, Ext G F1 F' ∧ H2 Dl = some (.lst acc) ∧ F' Dl = none ∧ DRs X.K F' acc ((xs.take (i + 1)).flatMap fun a => (ys a).map (f a)) ∧ St X.K (upd G Dl (.lst acc)) F' (wipe σ vs) H2 (wipeE vs 0 env1),
        fun H2 n => ⟨xs.length - (i + 1), by omega, rfl, by omega, n⟩, fun x H2 y => ?_⟩
      have okT : t.ok (wipeE vs 0 env1).length (g a) := by rw [wipeE_len]; exact Tgt.ok_of (hok _)
      refine yld_run it' S' hd' y okT fun F2 σ2 x2 sm ln2 S2 => ?_
      have back := wipe_same (t := t) hts' sm ln2
      refine ⟨back, iteT ?_⟩
      refine ⟨_, _, _, hi1 a hm, upd G Dl (.lst acc), F2, S2, fun F3 J1 H3 x3 it1 S3 => ?_⟩
      have x13 : Ext G F1 F3 := x'.trans (Ext.lessAt gD (x2.trans x3))
      have fD3 : F3 Dl = none := (x2.trans x3).noneAt fD
      refine ⟨fun j k H' => k = (ys a).length - j ∧ j ≤ (ys a).length ∧ ∃ F' acc, Ext G F3 F' ∧ H' Dl = some (.lst acc) ∧ F' Dl = none ∧ DRs X.K F' acc ((xs.take i).flatMap (fun a => (ys a).map (f a)) ++ ((ys a).take j).map (f a)) ∧ St X.K (upd G Dl (.lst acc)) F' (wipe σ2 vs1) H' (wipeE vs1 0 (t.bind (wipeE vs 0 env1) (g a))),
        ⟨(ys a).length, by omega, by omega, F3, acc, Ext.refl G F3, S3.kg Dl _ upd_same, fD3, by rw [List.take_zero, List.map_nil, List.append_nil]; exact rs.mono (x2.trans x3).le, S3.wipe vs1⟩, ?_⟩
      rintro j k H4 ⟨rfl, hlej, F4, acc4, x4, hDl4, fD4, rs4, S4⟩
      have it1' := it1.mono x4.le
      by_cases hltj : j < (ys a).length
      · refine .inr ?_
        have hb : (ys a)[j]? = some (ys a)[j] := List.getElem?_eq_getElem hltj
        have hdb : ((ys a).map g1)[j]? = some (g1 (ys a)[j]) := by rw [List.getElem?_map, hb]; rfl
        have hmb : (ys a)[j] ∈ ys a := List.getElem_mem hltj
        obtain ⟨h11, _⟩ := it1' j H4 S4.kf
        refine ⟨(h11 _ hdb).1, fun H2 => ∃ F' acc, Ext G F3 F' ∧ H2 Dl = some (.lst acc) ∧ F' Dl = none ∧ DRs X.K F' acc ((xs.take i).flatMap (fun a => (ys a).map (f a)) ++ ((ys a).take (j + 1)).map (f a)) ∧ St X.K (upd G Dl (.lst acc)) F' (wipe σ2 vs1) H2 (wipeE vs1 0 (t.bind (wipeE vs 0 env1) (g a))),
          fun H2 n => ⟨(ys a).length - (j + 1), by omega, rfl, by omega, n⟩, fun x H5 y1 => ?_⟩
        have okT1 : t1.ok (wipeE vs1 0 (t.bind (wipeE vs 0 env1) (g a))).length (g1 (ys a)[j]) := by rw [wipeE_len, Tgt.bind_len, wipeE_len]; exact Tgt.ok_of (hok1 _)
        refine yld_run it1' S4 hdb y1 okT1 fun F5 σ3 x5 sm1 ln3 S5 => ?_
        have back1 := wipe_same (t := t1) hts1' sm1 ln3
        refine ⟨back1, iteT ?_⟩
        refine ⟨_, _, _, he a hm _ hmb, upd G Dl (.lst acc4), F5, S5, fun F6 v6 H6 x6 r6 => ?_⟩
        obtain ⟨F7, x7, r7⟩ := r6.fz
        rw [hf] at r7
        have xa := x5.trans (x6.trans x7)
        have fD7 : F7 Dl = none := xa.noneAt fD4
        have kDl : H6 Dl = some (.lst acc4) := r7.2.kg Dl _ upd_same
        have hl4 := rs4.length
        rw [List.length_append, List.length_map, List.length_take] at hl4
        refine ⟨acc4, kDl, by rw [sizeLine_eq]; omega, F7, acc4 ++ [v6], x4.trans (Ext.lessAt gD xa), upd_same, fD7, ?_, (r7.2.unturn hts1' back1).rewrite fD7⟩
        rw [take_succ_get hb, List.map_append, List.map_cons, List.map_nil, ← List.append_assoc]
        exact (rs4.mono xa.le).append (.cons r7.1 .nil)
      · have hie : j = (ys a).length := by omega
        subst hie
        obtain ⟨_, h2⟩ := it1' (ys a).length H4 S4.kf
        refine .inl ⟨h2 (by rw [List.length_map]; exact Nat.le_refl _), F4, acc4, x13.trans x4, hDl4, fD4, ?_, S4.unturn2 hts' hv' back⟩
        rw [List.take_length] at rs4
        rw [etk]
        exact rs4
    · have hie : i = xs.length := by omega
      subst hie
      obtain ⟨_, h2⟩ := it' xs.length H' S'.kf
      refine .inl ⟨h2 (by rw [List.length_map]; exact Nat.le_refl _), ?_⟩
      rw [List.take_length] at rs
      have ownW : ∀ k, (ge (wipeE vs 0 env1) k).own = true → gs (wipe σ vs) k ≠ some (.ref Dl) := fun k w ek => by
        obtain ⟨p', u, e', hp, f, g⟩ := (S'.sl k).own_at w
        rw [ek] at e'
        cases e'
        rw [upd_same] at g
        cases g
      have no : ∀ k ∈ vs, (ge env1 k).own = false := hno_of hno
      have nv : ∀ k, (ge env1 k).own = true → k ∉ vs := fun k w z => by rw [no k z] at w; cases w
      have sW : ∀ k, k ∉ vs → gs (wipe σ vs) k = gs σ k ∧ ge (wipeE vs 0 env1) k = ge env1 k := fun k h => ⟨by rw [gs_wipe, if_neg h], by rw [ge_wipeE, Nat.zero_add, if_neg h]⟩
      have B : St X.K G F' σ H' env1 := by
        refine ⟨(Le.new gD).trans S'.kg, S'.kf, S1.ln, fun k => ?_, S1.ap⟩
        by_cases hm : k ∈ vs
        · exact (S1.sl k).mono x'.le fun p ep w => by rw [no k hm] at w; cases w
        · have q1 := S'.sl k
          rw [(sW k hm).1, (sW k hm).2] at q1
          refine q1.otherG fun p ep w => ?_
          obtain ⟨p', u, e', hp, f, g⟩ := (S1.sl k).own_at w
          rw [ep] at e'
          cases e'
          exact g
      refine q F' _ H' (x1.trans x') ⟨B.kg, B.kf, Nat.succ_le_succ B.ln, fun k => ?_, fun a b c ne ha hb ea eb => ?_⟩
      · cases k with
        | zero => exact ⟨Dl, acc, rfl, (fun _ z => nomatch z), hDl, by rw [rs.length, sizeLine_eq]; omega, rs, fD, gD⟩
        | succ k => exact B.sl k
      · have other : ∀ k, (ge env1 k).own = true → gs σ k = some (.ref c) → c ≠ Dl := fun k w ek z => by
          have h := sW k (nv k w)
          exact ownW k (by rw [h.2]; exact w) (by rw [h.1, ek, z])
        cases a with
        | zero =>
          cases b with
          | zero => exact absurd rfl ne
          | succ b =>
            have e1 : Dl = c := V.ref.inj (Option.some.inj ea)
            exact absurd e1.symm (other b hb eb)
        | succ a =>
          cases b with
          | zero =>
            have e1 : Dl = c := V.ref.inj (Option.some.inj eb)
            exact absurd e1.symm (other a ha ea)
          | succ b => exact B.ap a b c (fun z => ne (congrArg _ z)) ha hb ea eb
  exact PSs.wk (pss_seq (ps_setLc2 (i := i) (vs1 := vs1) (wi1 := fun σ H Q => ∃ e ds e', (∀ sh H C cl fp, EI (blkC' X scope sh H C cl fp) tg1 iter1 e ds e') ∧ tI X.K e ds e' σ H Q) (te := fun σ H Q => ∃ e R e', (∀ sh H C cl fp, EV (blkC' X scope sh H C cl fp) elt e R e') ∧ tV X.K e R e' σ H Q) (tt := fun σ H Q => Q true H) (tt1 := fun σ H Q => Q true H) hc hN hy hyl hsw hi ok hv' hg (fun sh H C cl fp => ⟨fun pins s σ H' Q I q => pts_nil.run pins s σ H' Q I q⟩)
    (fun sh H C cl fp => ⟨fun pins s σ H' Q I ⟨e, ds, e', h, q⟩ => (h sh H C cl fp).run pins s σ H' Q I q⟩) hg1 (fun sh H C cl fp => ⟨fun pins s σ H' Q I q => pts_nil.run pins s σ H' Q I q⟩) (fun sh H C cl fp => ⟨fun pins s σ H' Q I ⟨e, R, e', h, q⟩ => (h sh H C cl fp).run pins s σ H' Q I q⟩) hs hs1) k) fun D σ H ⟨G, F, S, q'⟩ => core σ H (fun x H1 => tX X.K ea W _ Post D (σ.set i (some x)) H1) ⟨G, F, S, fun F1 v H1 x1 r1 => ⟨G, F1, St.store r1 (blt_lt hl), fun o p F2 x2 => q' o p F2 (x1.trans x2)⟩⟩
def plX (a p at_ i j : Int) : Int := bif at_ == 1 then (a * i + (bif j == 0 then 1 else 0)) % (a * p) else a * i
def plY (b q at_ i j : Int) : Int := bif at_ == 1 then b * j else (b * j + (bif i == 0 then 1 else 0)) % (b * q)
def plE (a p b q r t i j : Int) : Int := restF (a * p) (b * q) (plX a p t i j) (plY b q t i j) * r + t
def plR2 (a p b q r t i : Int) : List Int := (irange 0 q).map fun j => plE a p b q r t i j
def plR3 (a p b q r t : Int) : List Int := (irange 0 p).flatMap fun i => plR2 a p b q r t i
def plF1 (a p b q r : Int) : List Int := (irange 0 a).flatMap fun x => (irange 0 b).map fun y => restF (a * p) (b * q) x y * r
def plF2 (a p b q r : Int) : List Int := (irange 0 r).flatMap fun t => plR3 a p b q r t
def plainL : Option (List Int) → Option (List Int × List Int)
  | some [a, p, b, q, r] => some (isort (plF1 a p b q r), isort (plF2 a p b q r))
  | _ => none
def plainF (n : Int) : Option (List Int × List Int) := plainL (partsF n)
def plD : Option (List Int × List Int) → D
  | none => .none
  | some p => .tuple [tupI p.1, tupI p.2]
theorem fm_len {α β : Type} {f : α → List β} {m : Nat} : ∀ {l : List α}, (∀ x ∈ l, (f x).length = m) → (l.flatMap f).length = l.length * m
  | [], _ => by simp
  | x :: l, h => by
    rw [List.flatMap_cons, List.length_append, h x (by simp), fm_len (l := l) fun y hy => h y (by simp [hy]), List.length_cons, Nat.add_mul]
    omega
theorem fm_take {α β : Type} {l : List α} {f : α → List β} {k : Nat} {x : α} (h : l[k]? = some x) : (l.take (k + 1)).flatMap f = (l.take k).flatMap f ++ f x := by
  rw [take_succ_get h, List.flatMap_append]
  simp
theorem mp_take {α β : Type} {l : List α} {f : α → β} {k : Nat} {x : α} (h : l[k]? = some x) : (l.take (k + 1)).map f = (l.take k).map f ++ [f x] := by
  rw [take_succ_get h, List.map_append]
  rfl
theorem fm_take_le {α β : Type} (l : List α) (f : α → List β) (k : Nat) : ((l.take k).flatMap f).length ≤ (l.flatMap f).length := by
  have e : l.flatMap f = (l.take k).flatMap f ++ (l.drop k).flatMap f := by rw [← List.flatMap_append, List.take_append_drop]
  rw [e, List.length_append]
  omega
theorem le_both {x y : Int} (hx : 1 ≤ x) (hy : 1 ≤ y) : x ≤ x * y ∧ y ≤ x * y := by
  have h2 : x * 1 ≤ x * y := Int.mul_le_mul_of_nonneg_left hy (by omega)
  rw [Int.mul_one] at h2
  have h3 := Int.mul_le_mul_of_nonneg_right hx (show 0 ≤ y by omega)
  rw [Int.one_mul] at h3
  omega
structure PartsB (n a p b q r : Int) : Prop where
  oneB : 4 ≤ a * p ∧ a * p ≤ 400
  twoB : 4 ≤ b * q ∧ b * q ≤ 400
  rB : 2 ≤ r ∧ r ≤ 400
  aB : 2 ≤ a ∧ a ≤ 400
  bB : 2 ≤ b ∧ b ≤ 400
  pB : 2 ≤ p ∧ p ≤ 400
  qB : 2 ≤ q ∧ q ≤ 400
  l1 : a * b ≤ 400
  l2 : p * q ≤ 400
  l3 : r * (p * q) ≤ 400
theorem PartsI.bounds {n a p b q r : Int} (h : PartsI n a p b q r) (h4 : n ≤ 400) : PartsB n a p b q r := by
  obtain ⟨ha, hp, hb, hq, hr, hn⟩ := h
  have h1 := le_both (x := a) (y := p) (by omega) (by omega)
  have h2 := le_both (x := b) (y := q) (by omega) (by omega)
  have h3 := le_both (x := b * q) (y := r) (by omega) (by omega)
  have h5 := le_both (x := a * p) (y := b * q * r) (by omega) (by omega)
  have m1 : 2 * 2 ≤ a * p := Int.mul_le_mul ha hp (by decide) (by omega)
  have m2 : 2 * 2 ≤ b * q := Int.mul_le_mul hb hq (by decide) (by omega)
  have k1 : a * b ≤ a * p * (b * q * r) := Int.mul_le_mul h1.1 (by omega) (by omega) (by omega)
  have k2 : p * q ≤ a * p * (b * q * r) := Int.mul_le_mul h1.2 (by omega) (by omega) (by omega)
  have k4 : q * r ≤ b * q * r := Int.mul_le_mul_of_nonneg_right h2.2 (by omega)
  have k5 : 0 ≤ q * r := Int.mul_nonneg (by omega) (by omega)
  have k3 : p * (q * r) ≤ a * p * (b * q * r) := Int.mul_le_mul h1.2 k4 k5 (by omega)
  have e : r * (p * q) = p * (q * r) := by rw [Int.mul_comm r, Int.mul_assoc]
  exact ⟨by omega, by omega, by omega, by omega, by omega, by omega, by omega, by omega, by omega, by rw [e]; omega⟩
theorem PartsB.mulR {n a p b q r : Int} (h : PartsB n a p b q r) {x : Int} (hx : 0 ≤ x) (y : Int) : 0 ≤ restF (a * p) (b * q) x y * r ∧ restF (a * p) (b * q) x y * r ≤ 64000000 := by
  have h1 := h.oneB
  have h2 := h.twoB
  have h3 := h.rB
  have m : 4 * 4 ≤ a * p * (b * q) := Int.mul_le_mul h1.1 h2.1 (by decide) (by omega)
  have m2 : a * p * (b * q) ≤ 400 * 400 := Int.mul_le_mul h1.2 h2.2 (by omega) (by decide)
  have := restF_in (one := a * p) (other := b * q) (x := x) (y := y) (by omega) hx (by omega)
  refine ⟨Int.mul_nonneg this.1 (by omega), ?_⟩
  have m3 : restF (a * p) (b * q) x y * r ≤ 160000 * 400 := Int.mul_le_mul (by omega) (by omega) (by omega) (by decide)
  omega
theorem PartsB.len3 {n a p b q r : Int} (h : PartsB n a p b q r) (t : Int) : (plR3 a p b q r t).length = p.toNat * q.toNat := by
  unfold plR3
  rw [fm_len (m := q.toNat) fun x _ => by unfold plR2; rw [List.length_map, irange_len, Int.sub_zero], irange_len, Int.sub_zero]
theorem PartsB.len2 {n a p b q r : Int} (h : PartsB n a p b q r) : (plF2 a p b q r).length ≤ 400 ∧ ∀ t, (plR3 a p b q r t).length ≤ 400 := by
  have h1 := h.pB
  have h2 := h.qB
  have h3 := h.rB
  have c1 : (((p.toNat * q.toNat : Nat)) : Int) = p * q := by rw [Int.natCast_mul, Int.toNat_of_nonneg (by omega), Int.toNat_of_nonneg (by omega)]
  have l2 := h.l2
  have l3 := h.l3
  refine ⟨?_, fun t => by rw [h.len3]; omega⟩
  unfold plF2
  rw [fm_len fun t _ => h.len3 t, irange_len, Int.sub_zero]
  have c2 : (((r.toNat * (p.toNat * q.toNat) : Nat)) : Int) = r * (p * q) := by rw [Int.natCast_mul, c1, Int.toNat_of_nonneg (by omega)]
  omega
theorem PartsB.len1 {n a p b q r : Int} (h : PartsB n a p b q r) : (plF1 a p b q r).length ≤ 400 := by
  have h1 := h.aB
  have h2 := h.bB
  have l1 := h.l1
  have c1 : (((a.toNat * b.toNat : Nat)) : Int) = a * b := by rw [Int.natCast_mul, Int.toNat_of_nonneg (by omega), Int.toNat_of_nonneg (by omega)]
  unfold plF1
  rw [fm_len (m := b.toNat) fun x _ => by rw [List.length_map, irange_len, Int.sub_zero], irange_len, Int.sub_zero]
  omega
theorem mul_to {a i p : Int} (ha : 2 ≤ a) (h : 0 ≤ i ∧ i < p) : 0 ≤ a * i ∧ a * i ≤ a * p := ⟨Int.mul_nonneg (by omega) h.1, Int.mul_le_mul_of_nonneg_left (by omega) (by omega)⟩
theorem plX_in {a p t i j : Int} (ha : 2 ≤ a) (h : 0 ≤ i ∧ i < p) (h4 : 4 ≤ a * p ∧ a * p ≤ 400) : 0 ≤ plX a p t i j ∧ plX a p t i j ≤ 400 := by
  have h0 := mul_to ha h
  unfold plX
  cases t == 1 with
  | true =>
    have := mod_in (n := a * p) (by omega) (a * i + (bif j == 0 then 1 else 0))
    exact ⟨this.1, by show _ % _ ≤ _; omega⟩
  | false => exact ⟨h0.1, by show a * i ≤ 400; omega⟩
def S_plain_canon : FS := fun ss o => ∃ (n : Int), ss = [.val (.int n)] ∧ o = ringO n (.rt (.val (plD (plainF n))) [.un]) [.un]
theorem ok_plain_canon {f : Addr} {fd : FuncData} (B : Blt mg) (F_check_ring : FnI P w K mg base ea 1 "check_ring" ["n"] S_check_ring) (F_parts_of : FnI P w K mg base ea 1 "parts_of" ["n"] S_parts_of) (F_both_rests : FnI P w K mg base ea 1 "both_rests" ["one", "other", "x", "y"] S_both_rests) (Fn : Fun K "plain_canon" "plain_canon" s_plain_canon f fd) : FnOk P w K mg base (L2N.CX P w) 2 f fd ["n"] (spD K ea S_plain_canon) := by
  refine fnD Fn sc_plain_canon (fun ss o ⟨_, e, _⟩ => by subst e; rfl) (fun cdv A outer s H E hr tk hp pins ss o hS hl => ?_)
  obtain ⟨n, rfl, rfl⟩ := hS
  obtain ⟨p0, rfl⟩ := pins1 hl
  refine es_chkring F_check_ring (hr.mono (by decide)) tk (ea_cons (ev_var 0 rfl) ea_nil) ⟨trivial, trivial⟩ fun hn => ?_
  refine es_set (env1 := [.val (.int n), .un, .un, .un, .un, .un, .un, .un, .un, .un, .un, .un, .un, .un, .un, .un]) (R := .val (optT (partsF n))) 1 (EV.is (Ra := .val (optT (partsF n))) (ev_callV F_parts_of (hr.mono (by decide)) (ea_cons (ev_var 0 rfl) ea_nil) ⟨n, by omega, rfl, rfl⟩) rfl rfl) ?_ sc_plain_canon.nd
  cases hp0 : partsF n with
  | none =>
    refine es_if (k := true) (ET.is (et_isN (ev_var 1 rfl) rfl) rfl) (fun _ => ?_) (fun z => nomatch z)
    refine es_ret ev_none ?_
    unfold plainF
    rw [hp0]
    exact ⟨rfl, trivial, trivial⟩
  | some l0 =>
    obtain ⟨ka, kp, kb, kq, kr, rfl, hI⟩ := partsF_some hn.1 hp0
    have hB := hI.bounds hn.2
    have hr1 := hB.oneB
    have hr2 := hB.twoB
    have hrr := hB.rB
    have hra := hB.aB
    have hrb := hB.bB
    have hrp := hB.pB
    have hrq := hB.qB
    have hre : plainF n = some (isort (plF1 ka kp kb kq kr), isort (plF2 ka kp kb kq kr)) := by unfold plainF; rw [hp0]; rfl
    rw [hre]
    refine es_if (k := false) (ET.is (et_isN (ev_var 1 rfl) rfl) rfl) (fun z => nomatch z) (fun _ => es_nil ?_)
    refine es_asg (t := .tp [2, 3, 4, 5, 6]) (env1 := [.val (.int n), .val (tupI [ka, kp, kb, kq, kr]), .un, .un, .un, .un, .un, .un, .un, .un, .un, .un, .un, .un, .un, .un]) (d := tupI [ka, kp, kb, kq, kr]) (ev_var 1 rfl) rfl (pg_tup rfl (pgs_cons (pg_name (i := 2) sc_plain_canon.nd rfl (by first | exact .inl rfl | exact .inr rfl)) (pgs_cons (pg_name (i := 3) sc_plain_canon.nd rfl (by first | exact .inl rfl | exact .inr rfl)) (pgs_cons (pg_name (i := 4) sc_plain_canon.nd rfl (by first | exact .inl rfl | exact .inr rfl)) (pgs_cons (pg_name (i := 5) sc_plain_canon.nd rfl (by first | exact .inl rfl | exact .inr rfl)) (pgs_cons (pg_name (i := 6) sc_plain_canon.nd rfl (by first | exact .inl rfl | exact .inr rfl)) pgs_nil)))))) rfl ?_
    refine es_asg (t := .tp [7, 8]) (env1 := [.val (.int n), .val (tupI [ka, kp, kb, kq, kr]), .val (.int ka), .val (.int kp), .val (.int kb), .val (.int kq), .val (.int kr), .un, .un, .un, .un, .un, .un, .un, .un, .un]) (d := .tuple [.int (ka * kp), .int (kb * kq)]) (ev_tupV (ea_cons (ev_mul (ev_var 2 rfl) (ev_var 3 rfl) rfl rfl (.inr (by omega))) (ea_cons (ev_mul (ev_var 4 rfl) (ev_var 5 rfl) rfl rfl (.inr (by omega))) ea_nil)) rfl) rfl (pg_tup rfl (pgs_cons (pg_name (i := 7) sc_plain_canon.nd rfl (by first | exact .inl rfl | exact .inr rfl)) (pgs_cons (pg_name (i := 8) sc_plain_canon.nd rfl (by first | exact .inl rfl | exact .inr rfl)) pgs_nil))) rfl ?_
    refine (es_setLc2 (xs := irange 0 ka) (g := PyData.int) (ys := fun a => irange 0 kb) (g1 := PyData.int) (R := fun a b => .val (.int ((restF (ka * kp) (kb * kq) a b) * kr))) (f := fun a b => (.int ((restF (ka * kp) (kb * kq) a b) * kr))) 9 [("x", 14), ("y", 15)] (.nm 14) (.nm 15) [15] rfl sc_plain_canon.nd (ev_rng1 B (ev_var 2 rfl) (by omega)) (blkOk_by (N := ["n", "parts", "a", "p", "b", "q", "rest", "one", "other", "first", "found", "at", "i", "j", "x", "y"]) (sc := defScope s_plain_canon) (by decide +kernel)) (fun _ _ _ _ _ => (pg_name (i := 14) sc_plain_canon.nd rfl (by first | exact .inl rfl | exact .inr rfl))) (fun _ _ _ _ _ => (pg_name (i := 15) sc_plain_canon.nd rfl (by first | exact .inl rfl | exact .inr rfl))) (by have := hB.len1; unfold plF1 at this; simp only [List.length_flatMap, List.length_map] at this ⊢; omega) (fun a ha _ _ _ _ _ => (ev_rng1 B (ev_var 4 rfl) (by have := mem_irange.mp ha; omega))) (fun a ha b hb _ _ _ _ _ => (ev_mul (EV.is (Ra := .val (.int (restF (ka * kp) (kb * kq) a b))) (ev_callV F_both_rests (hr.mono (by decide)) (ea_cons (ev_var 7 rfl) (ea_cons (ev_var 8 rfl) (ea_cons (ev_var 14 rfl) (ea_cons (ev_var 15 rfl) ea_nil)))) ⟨ka * kp, kb * kq, a, b, by have := mem_irange.mp ha; omega, rfl, rfl⟩) rfl rfl) (ev_var 6 rfl) rfl rfl (.inr (by have := mem_irange.mp ha; have := hB.mulR this.1 b; omega)))) (fun _ _ => rfl) (fun _ => rfl) (fun _ => rfl) (ds := (((irange 0 ka).flatMap fun a => (irange 0 kb).map fun b => (restF (ka * kp) (kb * kq) a b) * kr).map PyData.int)) (by rw [List.map_flatMap]; simp only [List.map_map]; rfl)) ?_
    refine es_set 10 (ev_lst (ds := []) ea_nil rfl) ?_ sc_plain_canon.nd
    have hl2 := hB.len2
    refine es_for (.nm 11) (fun k0 e => ∃ b11 b12 b13 b14 b15, e = [.val (.int n), .val (tupI [ka, kp, kb, kq, kr]), .val (.int ka), .val (.int kp), .val (.int kb), .val (.int kq), .val (.int kr), .val (.int (ka * kp)), .val (.int (kb * kq)), .lst none ((plF1 ka kp kb kq kr).map PyData.int), .lst none ((((irange 0 kr).take k0).flatMap fun t => plR3 ka kp kb kq kr t).map PyData.int), b11, b12, b13, b14, b15]) (ev_rng1 B (ev_var 6 rfl) (by omega)) (pg_name (i := 11) sc_plain_canon.nd rfl (by first | exact .inl rfl | exact .inr rfl)) ⟨_, _, _, _, _, rfl⟩ (fun i d e _ ⟨_, _, _, _, _, he⟩ => by subst he; exact (by decide : 11 < 16)) ?_ ?_ hp rfl
    · rintro k0 d e hk ⟨b11, b12, b13, b14, b15, rfl⟩
      obtain ⟨t, ht, rfl⟩ := map_get hk
      have ht2 := mem_irange.mp (List.mem_of_getElem? ht)
      have hq1 : (((irange 0 kr).take k0).flatMap fun t => plR3 ka kp kb kq kr t).length ≤ 400 := Nat.le_trans (fm_take_le _ _ _) hl2.1
      generalize hacc : ((irange 0 kr).take k0).flatMap (fun t => plR3 ka kp kb kq kr t) = acc at hq1
      refine es_for (env1 := [.val (.int n), .val (tupI [ka, kp, kb, kq, kr]), .val (.int ka), .val (.int kp), .val (.int kb), .val (.int kq), .val (.int kr), .val (.int (ka * kp)), .val (.int (kb * kq)), .lst none ((plF1 ka kp kb kq kr).map .int), .lst none (acc.map .int), .val (.int t), b12, b13, b14, b15]) (.nm 12) (fun k1 e => ∃ b12 b13 b14 b15, e = [.val (.int n), .val (tupI [ka, kp, kb, kq, kr]), .val (.int ka), .val (.int kp), .val (.int kb), .val (.int kq), .val (.int kr), .val (.int (ka * kp)), .val (.int (kb * kq)), .lst none ((plF1 ka kp kb kq kr).map PyData.int), .lst none ((acc ++ ((irange 0 kp).take k1).flatMap fun i => plR2 ka kp kb kq kr t i).map PyData.int), .val (.int t), b12, b13, b14, b15]) (ev_rng1 B (ev_var 3 rfl) (by omega)) (pg_name (i := 12) sc_plain_canon.nd rfl (by first | exact .inl rfl | exact .inr rfl)) ⟨_, _, _, _, by rw [List.take_zero, List.flatMap_nil, List.append_nil]⟩ (fun i d e _ ⟨_, _, _, _, he⟩ => by subst he; exact (by decide : 12 < 16)) ?_ ?_ hp rfl
      · rintro k1 d e hk ⟨b12, b13, b14, b15, rfl⟩
        obtain ⟨i, hi, rfl⟩ := map_get hk
        have hi2 := mem_irange.mp (List.mem_of_getElem? hi)
        have hq2 : (((irange 0 kp).take k1).flatMap fun i => plR2 ka kp kb kq kr t i).length ≤ 400 := Nat.le_trans (fm_take_le _ _ _) (hl2.2 t)
        rw [fm_take hi, ← List.append_assoc]
        generalize hac2 : acc ++ ((irange 0 kp).take k1).flatMap (fun i => plR2 ka kp kb kq kr t i) = acc2
        have hq3 : acc2.length ≤ 800 := by rw [← hac2, List.length_append]; omega
        refine es_for (env1 := [.val (.int n), .val (tupI [ka, kp, kb, kq, kr]), .val (.int ka), .val (.int kp), .val (.int kb), .val (.int kq), .val (.int kr), .val (.int (ka * kp)), .val (.int (kb * kq)), .lst none ((plF1 ka kp kb kq kr).map .int), .lst none (acc2.map .int), .val (.int t), .val (.int i), b13, b14, b15]) (.nm 13) (fun k2 e => ∃ b13 b14 b15, e = [.val (.int n), .val (tupI [ka, kp, kb, kq, kr]), .val (.int ka), .val (.int kp), .val (.int kb), .val (.int kq), .val (.int kr), .val (.int (ka * kp)), .val (.int (kb * kq)), .lst none ((plF1 ka kp kb kq kr).map PyData.int), .lst none ((acc2 ++ ((irange 0 kq).take k2).map fun j => plE ka kp kb kq kr t i j).map PyData.int), .val (.int t), .val (.int i), b13, b14, b15]) (ev_rng1 B (ev_var 5 rfl) (by omega)) (pg_name (i := 13) sc_plain_canon.nd rfl (by first | exact .inl rfl | exact .inr rfl)) ⟨_, _, _, by rw [List.take_zero, List.map_nil, List.append_nil]⟩ (fun i d e _ ⟨_, _, _, he⟩ => by subst he; exact (by decide : 13 < 16)) ?_ ?_ hp rfl
        · rintro k2 d e hk ⟨b13, b14, b15, rfl⟩
          obtain ⟨j, hj, rfl⟩ := map_get hk
          have hj2 := mem_irange.mp (List.mem_of_getElem? hj)
          have hq4 : (((irange 0 kq).take k2).map fun j => plE ka kp kb kq kr t i j).length ≤ 400 := by rw [List.length_map, List.length_take, irange_len]; omega
          rw [mp_take (f := fun j => plE ka kp kb kq kr t i j) hj, ← List.append_assoc]
          generalize hac3 : acc2 ++ ((irange 0 kq).take k2).map (fun j => plE ka kp kb kq kr t i j) = acc3
          have hq5 : acc3.length ≤ 1200 := by rw [← hac3, List.length_append]; omega
          have hai := mul_to hra.1 hi2
          have hbj := mul_to hrb.1 hj2
          refine es_par (env1 := [.val (.int n), .val (tupI [ka, kp, kb, kq, kr]), .val (.int ka), .val (.int kp), .val (.int kb), .val (.int kq), .val (.int kr), .val (.int (ka * kp)), .val (.int (kb * kq)), .lst none ((plF1 ka kp kb kq kr).map PyData.int), .lst none (acc3.map PyData.int), .val (.int t), .val (.int i), .val (.int j), b14, b15]) (x := .int (ka * i)) (y := .int (kb * j)) 14 15 rfl sc_plain_canon.nd (ea_cons (ev_mul (ev_var 2 rfl) (ev_var 12 rfl) rfl rfl (.inr (by omega))) (ea_cons (ev_mul (ev_var 4 rfl) (ev_var 13 rfl) rfl rfl (.inr (by omega))) ea_nil)) ?_
          have hX := plX_in (t := t) (j := j) hra.1 hi2 hr1
          have hM := hB.mulR hX.1 (plY kb kq t i j)
          have done : ES (bodyX P w K mg base ["n", "parts", "a", "p", "b", "q", "rest", "one", "other", "first", "found", "at", "i", "j", "x", "y"] "plain_canon" s_plain_canon f cdv A outer s H E) ea (fun cls d _ H => E cls d H) ((match defBody s_plain_canon with | _ :: _ :: _ :: _ :: _ :: _ :: _ :: .For _ _ (.For _ _ (.For _ _ b _ _ :: _) _ _ :: _) _ _ :: _ => b | _ => []).drop 2) ([.val (.int n), .val (tupI [ka, kp, kb, kq, kr]), .val (.int ka), .val (.int kp), .val (.int kb), .val (.int kq), .val (.int kr), .val (.int (ka * kp)), .val (.int (kb * kq)), .lst none ((plF1 ka kp kb kq kr).map PyData.int), .lst none (acc3.map PyData.int), .val (.int t), .val (.int i), .val (.int j), .val (.int (plX ka kp t i j)), .val (.int (plY kb kq t i j))]) (turnP (bodyX P w K mg base ["n", "parts", "a", "p", "b", "q", "rest", "one", "other", "first", "found", "at", "i", "j", "x", "y"] "plain_canon" s_plain_canon f cdv A outer s H E) ea (fun cls d _ H => E cls d H) [] (turnP (bodyX P w K mg base ["n", "parts", "a", "p", "b", "q", "rest", "one", "other", "first", "found", "at", "i", "j", "x", "y"] "plain_canon" s_plain_canon f cdv A outer s H E) ea (fun cls d _ H => E cls d H) [] (turnP (bodyX P w K mg base ["n", "parts", "a", "p", "b", "q", "rest", "one", "other", "first", "found", "at", "i", "j", "x", "y"] "plain_canon" s_plain_canon f cdv A outer s H E) ea (fun cls d _ H => E cls d H) ((defBody s_plain_canon).drop 8) (finP [p0] [.val (.int n)] (.rt (.val (plD (some (isort (plF1 ka kp kb kq kr), isort (plF2 ka kp kb kq kr))))) [.un])) (fun e => ∃ b11 b12 b13 b14 b15, e = [.val (.int n), .val (tupI [ka, kp, kb, kq, kr]), .val (.int ka), .val (.int kp), .val (.int kb), .val (.int kq), .val (.int kr), .val (.int (ka * kp)), .val (.int (kb * kq)), .lst none ((plF1 ka kp kb kq kr).map .int), .lst none ((((irange 0 kr).take (k0 + 1)).flatMap fun t => plR3 ka kp kb kq kr t).map .int), b11, b12, b13, b14, b15])) (fun e => ∃ b12 b13 b14 b15, e = [.val (.int n), .val (tupI [ka, kp, kb, kq, kr]), .val (.int ka), .val (.int kp), .val (.int kb), .val (.int kq), .val (.int kr), .val (.int (ka * kp)), .val (.int (kb * kq)), .lst none ((plF1 ka kp kb kq kr).map .int), .lst none ((acc2 ++ plR2 ka kp kb kq kr t i).map .int), .val (.int t), b12, b13, b14, b15])) (fun e => ∃ b13 b14 b15, e = [.val (.int n), .val (tupI [ka, kp, kb, kq, kr]), .val (.int ka), .val (.int kp), .val (.int kb), .val (.int kq), .val (.int kr), .val (.int (ka * kp)), .val (.int (kb * kq)), .lst none ((plF1 ka kp kb kq kr).map .int), .lst none ((acc3 ++ [plE ka kp kb kq kr t i j]).map .int), .val (.int t), .val (.int i), b13, b14, b15])) := by
            refine es_expr (env1 := [.val (.int n), .val (tupI [ka, kp, kb, kq, kr]), .val (.int ka), .val (.int kp), .val (.int kb), .val (.int kq), .val (.int kr), .val (.int (ka * kp)), .val (.int (kb * kq)), .lst none ((plF1 ka kp kb kq kr).map .int), .lst none ((acc3 ++ [plE ka kp kb kq kr t i j]).map .int), .val (.int t), .val (.int i), .val (.int j), .val (.int (plX ka kp t i j)), .val (.int (plY kb kq t i j))]) (EV.is (ev_append (R := .val (.int (plE ka kp kb kq kr t i j))) (ev_ptr 10 rfl) rfl (ev_addI (ev_mul (EV.is (Ra := .val (.int (restF (ka * kp) (kb * kq) (plX ka kp t i j) (plY kb kq t i j)))) (ev_callV F_both_rests (hr.mono (by decide)) (ea_cons (ev_var 7 rfl) (ea_cons (ev_var 8 rfl) (ea_cons (ev_var 14 rfl) (ea_cons (ev_var 15 rfl) ea_nil)))) ⟨ka * kp, kb * kq, plX ka kp t i j, plY kb kq t i j, by omega, rfl, rfl⟩) rfl rfl) (ev_var 6 rfl) rfl rfl (.inr (by omega))) (ev_var 11 rfl) rfl rfl) rfl rfl (by rw [List.length_map]; omega)) rfl (by rw [List.map_append]; rfl)) (es_nil ⟨_, _, _, rfl⟩)
          have one1 : ∀ {m : Int}, (m + 1 : Int) = m + 1 := rfl
          cases h1 : t == 1 with
          | true =>
            have ex : plX ka kp t i j = (ka * i + (bif j == 0 then 1 else 0)) % (ka * kp) := by unfold plX; rw [h1]; rfl
            have ey : plY kb kq t i j = kb * j := by unfold plY; rw [h1]; rfl
            rw [ey] at done
            refine es_if (env1 := [.val (.int n), .val (tupI [ka, kp, kb, kq, kr]), .val (.int ka), .val (.int kp), .val (.int kb), .val (.int kq), .val (.int kr), .val (.int (ka * kp)), .val (.int (kb * kq)), .lst none ((plF1 ka kp kb kq kr).map PyData.int), .lst none (acc3.map PyData.int), .val (.int t), .val (.int i), .val (.int j), .val (.int (ka * i)), .val (.int (kb * j))]) (k := true) (ET.is (et_eqI (hu_of hr) (ev_var 11 rfl) ev_int rfl rfl) h1) (fun _ => ?_) (fun z => nomatch z)
            exact es_set (env1 := [.val (.int n), .val (tupI [ka, kp, kb, kq, kr]), .val (.int ka), .val (.int kp), .val (.int kb), .val (.int kq), .val (.int kr), .val (.int (ka * kp)), .val (.int (kb * kq)), .lst none ((plF1 ka kp kb kq kr).map PyData.int), .lst none (acc3.map PyData.int), .val (.int t), .val (.int i), .val (.int j), .val (.int (ka * i)), .val (.int (kb * j))]) (R := .val (.int (plX ka kp t i j))) 14 (EV.is (ev_mod (ev_addI (ev_var 14 rfl) (cv_if (F := fun t => Rs.val (.int t)) (x := 1) (y := 0) (k := (j == 0)) (et_eqI (hu_of hr) (ev_var 13 rfl) ev_int rfl rfl) (fun hc => ev_int) (fun hc => ev_int)) rfl rfl) (ev_var 7 rfl) rfl rfl (by omega)) (by rw [ex]) rfl) (es_nil done) sc_plain_canon.nd
          | false =>
            have ex : plX ka kp t i j = ka * i := by unfold plX; rw [h1]; rfl
            have ey : plY kb kq t i j = (kb * j + (bif i == 0 then 1 else 0)) % (kb * kq) := by unfold plY; rw [h1]; rfl
            rw [ex] at done
            refine es_if (env1 := [.val (.int n), .val (tupI [ka, kp, kb, kq, kr]), .val (.int ka), .val (.int kp), .val (.int kb), .val (.int kq), .val (.int kr), .val (.int (ka * kp)), .val (.int (kb * kq)), .lst none ((plF1 ka kp kb kq kr).map PyData.int), .lst none (acc3.map PyData.int), .val (.int t), .val (.int i), .val (.int j), .val (.int (ka * i)), .val (.int (kb * j))]) (k := false) (ET.is (et_eqI (hu_of hr) (ev_var 11 rfl) ev_int rfl rfl) h1) (fun z => nomatch z) (fun _ => ?_)
            exact es_set (env1 := [.val (.int n), .val (tupI [ka, kp, kb, kq, kr]), .val (.int ka), .val (.int kp), .val (.int kb), .val (.int kq), .val (.int kr), .val (.int (ka * kp)), .val (.int (kb * kq)), .lst none ((plF1 ka kp kb kq kr).map PyData.int), .lst none (acc3.map PyData.int), .val (.int t), .val (.int i), .val (.int j), .val (.int (ka * i)), .val (.int (kb * j))]) (R := .val (.int (plY kb kq t i j))) 15 (EV.is (ev_mod (ev_addI (ev_var 15 rfl) (cv_if (F := fun t => Rs.val (.int t)) (x := 1) (y := 0) (k := (i == 0)) (et_eqI (hu_of hr) (ev_var 12 rfl) ev_int rfl rfl) (fun hc => ev_int) (fun hc => ev_int)) rfl rfl) (ev_var 8 rfl) rfl rfl (by omega)) (by rw [ey]) rfl) (es_nil done) sc_plain_canon.nd
        · rintro e ⟨b13, b14, b15, rfl⟩
          rw [List.length_map, List.take_length]
          exact es_nil ⟨_, _, _, _, rfl⟩
      · rintro e ⟨b12, b13, b14, b15, rfl⟩
        rw [List.length_map, List.take_length, ← hacc]
        exact es_nil ⟨_, _, _, _, _, by rw [fm_take ht]; rfl⟩
    · rintro e ⟨b11, b12, b13, b14, b15, rfl⟩
      rw [List.length_map, List.take_length]
      have hl1 := hB.len1
      have hl3 : (plF2 ka kp kb kq kr).length ≤ 400 := hl2.1
      exact es_ret (R := .val (.tuple [tupI (isort (plF1 ka kp kb kq kr)), tupI (isort (plF2 ka kp kb kq kr))])) (ev_tupV (ea_cons (ev_tuple B (ev_sorted (ns := plF1 ka kp kb kq kr) B (ev_ptr 9 rfl) rfl) rfl) (ea_cons (ev_tuple B (ev_sorted (ns := plF2 ka kp kb kq kr) B (ev_ptr 10 rfl) rfl) rfl) ea_nil)) rfl) ⟨rfl, trivial, trivial⟩
def S_law_number : FS := fun ss o => ∃ i : Int, ss = [.val (.int i)] ∧ o = .rt (.val (.int (absI i))) [.un]
theorem ok_law_number {f : Addr} {fd : FuncData} (Fn : Fun K "_law_number" "_law_number" s_law_number f fd) : FnOk P w K mg base (L2N.CX P w) 1 f fd ["cell"] (spD K ea S_law_number) := by
  refine fnD Fn sc_law_number (fun ss o ⟨i, e, _⟩ => by subst e; rfl) (fun cdv A outer s H E hr tk hp pins ss o hS hl => ?_)
  obtain ⟨i, rfl, rfl⟩ := hS
  obtain ⟨p, rfl⟩ := pins1 hl
  refine es_if (et_lt (ev_var 0 rfl) ev_int rfl rfl) (fun h => ?_) (fun h => ?_)
  · have h' := of_decide_eq_true h
    exact es_ret (ev_sub ev_int (ev_var 0 rfl) rfl rfl) ⟨by unfold absI; rw [if_pos h']; rfl, trivial, trivial⟩
  · have h' := of_decide_eq_false h
    exact es_nil (es_ret (ev_var 0 rfl) ⟨by unfold absI; rw [if_neg h']; rfl, trivial, trivial⟩)
def S_law_draws : FS := fun ss o => ∃ ns : List Int, ns.length ≤ 63 ∧ ss = [.scr ns] ∧ o = .rt (.lst none ((drawsOf ns).map .int)) [.un]
theorem ok_law_draws {f : Addr} {fd : FuncData} (B : Blt mg) (F_law_number : FnI P w K mg base ea 1 "_law_number" ["cell"] S_law_number) (Fn : Fun K "_law_draws" "_law_draws" s_law_draws f fd) : FnOk P w K mg base (L2N.CX P w) 2 f fd ["script"] (spD K ea S_law_draws) := by
  refine fnD Fn sc_law_draws (fun ss o ⟨i, _, e, _⟩ => by subst e; rfl) (fun cdv A outer s H E hr tk hp pins ss o hS hl => ?_)
  obtain ⟨ns, h63, rfl, rfl⟩ := hS
  obtain ⟨p, rfl⟩ := pins1 hl
  refine es_set 1 (ev_lst ea_nil (ds := []) rfl) ?_ sc_law_draws.nd
  refine es_for (.nm 2) (fun i e => i ≤ ns.length ∧ ∃ a b c d f, e = [.scr ns, .lst none (((ns.take i).flatMap cellD).map .int), a, b, c, d, f]) (ei_scr (ev_nm 0 rfl) rfl) (pg_name (i := 2) sc_law_draws.nd rfl (.inl rfl))
    ⟨Nat.zero_le _, _, _, _, _, _, rfl⟩ (fun i d e _ ⟨_, _, _, _, _, _, he⟩ => by subst he; exact (by decide : 2 < 7)) ?_ ?_ hp rfl
  · rintro i d e hd ⟨hi, a, b, c, d1, f1, rfl⟩
    obtain ⟨x, hx, rfl⟩ := map_get hd
    have hi2 : i + 1 ≤ ns.length := (List.getElem?_eq_some_iff.mp hx).1
    have hfl := flat_len (ns.take i)
    rw [List.length_take] at hfl
    have hfl2 : ((ns.take i).flatMap cellD).length ≤ 60 * 63 := by omega
    refine es_set 3 (ev_call F_law_number hr (ea_cons (ev_var 2 rfl) ea_nil) ⟨x, rfl, rfl⟩) ?_ sc_law_draws.nd
    refine es_if (et_ge (ev_var 3 rfl) ev_int rfl rfl) (fun h => ?_) (fun h => ?_)
    · have h' := of_decide_eq_true h
      refine es_for (.nm 4) (fun k e => k ≤ 60 ∧ ∃ r acc c d f, acc ++ digs (60 - k) r = digs 60 (absI x) ∧ acc.length = k ∧ e = [.scr ns, .lst none (((ns.take i).flatMap cellD ++ acc).map .int), .val (.int x), .val (.int r), c, d, f]) (ev_rng1 B ev_int (by decide)) (pg_name (i := 4) sc_law_draws.nd rfl (.inl rfl))
        ⟨Nat.zero_le _, absI x, [], _, _, _, rfl, rfl, by rw [List.append_nil]; rfl⟩ (fun i d e _ ⟨_, _, _, _, _, _, _, _, he⟩ => by subst he; exact (by decide : 4 < 7)) ?_ ?_ hp rfl
      · rintro k d e hk ⟨hk60, r, acc, c, d2, f2, hacc, hal, rfl⟩
        obtain ⟨y, hy, rfl⟩ := map_get hk
        have hk2 : k < 60 := by
          have q := (List.getElem?_eq_some_iff.mp hy).1
          rw [irange_len] at q
          exact q
        have ek : 60 - k = (60 - (k + 1)) + 1 := by omega
        rw [ek] at hacc
        have dg : digs (60 - (k + 1) + 1) r = if (r == 0) = true then [] else r % 1000 :: digs (60 - (k + 1)) (r / 1000) := rfl
        rw [dg] at hacc
        refine es_if (et_eqI (by have := hr.un; omega) (ev_var 3 rfl) ev_int rfl rfl) (fun h0 => ?_) (fun h0 => ?_)
        · rw [if_pos h0, List.append_nil] at hacc
          refine es_break (es_nil (es_nil ⟨hi2, .val (.int x), .val (.int r), .val (.int y), d2, f2, ?_⟩))
          rw [flat_take hx]
          unfold cellD
          rw [if_pos h', ← hacc]
          rfl
        · have h0' : ¬ ((r == 0) = true) := by rw [h0]; exact Bool.false_ne_true
          rw [if_neg h0'] at hacc
          refine es_nil (es_expr (ev_append (ev_ptr 1 rfl) rfl (ev_mod (ev_toint B (ev_var 3 rfl) rfl) ev_int rfl rfl (by decide)) rfl rfl (by rw [List.length_map, List.length_append]; omega)) ?_)
          refine es_set 3 (ev_div (ev_var 3 rfl) ev_int rfl rfl (by decide)) (es_nil ?_) sc_law_draws.nd
          refine ⟨hk2, r / 1000, acc ++ [r % 1000], .val (.int y), d2, f2, by rw [List.append_assoc]; exact hacc, by rw [List.length_append, hal]; rfl, ?_⟩
          rw [← List.append_assoc, List.map_append (l₂ := [r % 1000])]
          rfl
      · rintro e ⟨_, r, acc, c, d2, f2, hacc, hal, rfl⟩
        rw [List.length_map, irange_len] at hacc
        have hacc' : acc = digs 60 (absI x) := by
          rw [← hacc]
          exact (List.append_nil acc).symm
        refine es_nil (es_nil ⟨hi2, .val (.int x), .val (.int r), c, d2, f2, ?_⟩)
        rw [flat_take hx]
        unfold cellD
        rw [if_pos h', hacc']
    · have h' := of_decide_eq_false h
      refine es_set 5 (ev_mod (ev_toint B (ev_add (ev_mul (ev_var 3 rfl) ev_int rfl rfl (.inr (by decide))) ev_int rfl rfl) rfl) ev_int rfl rfl (by decide)) ?_ sc_law_draws.nd
      refine es_set 6 (ev_mod (ev_toint B (ev_add (ev_mul (ev_var 5 rfl) ev_int rfl rfl (.inr (by decide))) (ev_var 3 rfl) rfl rfl) rfl) ev_int rfl rfl (by decide)) ?_ sc_law_draws.nd
      refine es_expr (ev_extend (xs := [.int (absI x % 1000), .int (onceOf (absI x) % 1000), .int (twiceOf (absI x) % 1000)]) (ev_ptr 1 rfl) rfl (ev_lst (ea_cons (ev_mod (ev_toint B (ev_var 3 rfl) rfl) ev_int rfl rfl (by decide)) (ea_cons (ev_mod (ev_toint B (ev_var 5 rfl) rfl) ev_int rfl rfl (by decide)) (ea_cons (ev_mod (ev_toint B (ev_var 6 rfl) rfl) ev_int rfl rfl (by decide)) ea_nil))) rfl) rfl rfl (by rw [List.length_map]; show _ + 3 < 16000000; omega)) (es_nil (es_nil ?_))
      refine ⟨hi2, .val (.int x), .val (.int (absI x)), c, .val (.int (onceOf (absI x))), .val (.int (twiceOf (absI x))), ?_⟩
      rw [flat_take hx]
      unfold cellD
      rw [if_neg h', List.map_append]
      rfl
  · rintro e ⟨_, a, b, c, d, f, rfl⟩
    rw [List.length_map, List.take_length]
    refine es_expr (ev_reverse (ev_ptr 1 rfl) rfl) (es_ret (ev_ptr 1 rfl) ?_)
    refine ⟨?_, trivial, trivial⟩
    show Sl.lst none (List.map PyData.int (ns.flatMap cellD)).reverse = _
    unfold drawsOf
    rw [List.map_reverse]
theorem flat_pre {α : Type} {ls : List (List α)} {i : Nat} {l : List α} (h : ls[i]? = some l) : (ls.take (i + 1)).flatten = (ls.take i).flatten ++ l := by
  rw [take_succ_get h, List.flatten_append]
  simp
theorem flat_le {α : Type} (ls : List (List α)) (i : Nat) : (ls.take i).flatten.length ≤ ls.flatten.length := by
  conv => rhs; rw [← List.take_append_drop i ls, List.flatten_append, List.length_append]
  omega
def S_law_flat : FS := fun ss o => ∃ ls : List (List D), ls.flatten.length ≤ 100000 ∧ ss = [.val (.list (ls.map .list))] ∧ o = .rt (.lst none ls.flatten) [.un]
theorem ok_law_flat {f : Addr} {fd : FuncData} (Fn : Fun K "_law_flat" "_law_flat" s_law_flat f fd) : FnOk P w K mg base (L2N.CX P w) 1 f fd ["rows"] (spD K ea S_law_flat) := by
  refine fnD Fn sc_law_flat (fun ss o ⟨_, _, e, _⟩ => by subst e; rfl) (fun cdv A outer s H E hr tk hp pins ss o hS hl => ?_)
  obtain ⟨ls, hz, rfl, rfl⟩ := hS
  obtain ⟨p, rfl⟩ := pins1 hl
  refine es_set 1 (ev_lst ea_nil (ds := []) rfl) ?_ sc_law_flat.nd
  refine es_for (.nm 2) (fun i e => ∃ a, e = [.val (.list (ls.map .list)), .lst none (ls.take i).flatten, a]) (ei_list (ev_var 0 rfl) rfl) (pg_name (i := 2) sc_law_flat.nd rfl (.inl rfl)) ⟨_, rfl⟩ (fun i d e _ ⟨_, he⟩ => by subst he; exact (by decide : 2 < 3)) ?_ ?_ hp rfl
  · rintro i d e hd ⟨a, rfl⟩
    rw [List.getElem?_map] at hd
    cases hi : ls[i]? with
    | none => rw [hi] at hd; cases hd
    | some l =>
      rw [hi] at hd
      cases hd
      have h1 := flat_le ls i
      have h2 := flat_le ls (i + 1)
      rw [flat_pre hi, List.length_append] at h2
      refine es_expr (ev_extend (ev_ptr 1 rfl) rfl (ev_var 2 rfl) rfl rfl (by omega)) (es_nil ?_)
      refine ⟨.val (.list l), ?_⟩
      rw [flat_pre hi]
      rfl
  · rintro e ⟨a, rfl⟩
    rw [List.length_map, List.take_length]
    exact es_ret (ev_ptr 1 rfl) ⟨rfl, trivial, trivial⟩
def S_law_next : FS := fun ss o => ∃ ns : List Int, ss = [.lst none (ns.map .int)] ∧ o = .rt (.val (.int (lastD ns))) [.lst none (ns.dropLast.map .int)]
theorem ok_law_next {f : Addr} {fd : FuncData} (Fn : Fun K "_law_next" "_law_next" s_law_next f fd) : FnOk P w K mg base (L2N.CX P w) 1 f fd ["draws"] (spD K ea S_law_next) := by
  refine fnD Fn sc_law_next (fun ss o ⟨i, e, _⟩ => by subst e; rfl) (fun cdv A outer s H E hr tk hp pins ss o hS hl => ?_)
  obtain ⟨ns, rfl, rfl⟩ := hS
  obtain ⟨p, rfl⟩ := pins1 hl
  refine es_if (et_tru (ev_ptr 0 rfl) rfl rfl) (fun h => ?_) (fun h => ?_)
  · have hn : ns ≠ [] := fun z => by subst z; cases h
    refine es_ret (ev_pop (d := .int (lastD ns)) (ev_ptr 0 rfl) rfl ?_) ⟨rfl, ⟨rfl, ?_, rfl⟩, trivial⟩
    · unfold lastD
      rw [List.getLast?_map, List.getLastD_eq_getLast?, List.getLast?_eq_getLast hn]; rfl
    · rw [List.map_dropLast]; rfl
  · have hn : ns = [] := by
      cases ns with
      | nil => rfl
      | cons a b => cases h
    subst hn
    exact es_nil (es_ret ev_int ⟨rfl, ⟨rfl, rfl, rfl⟩, trivial⟩)
def S_law_more : FS := fun ss o => ∃ (ns : List Int) (many : Nat), ns.length ≤ 100000 ∧ many ≤ 100000 ∧ ss = [.lst none (ns.map .int), .val (.int many)] ∧ o = .rt (.lst none ((moreOf ns many).map .int)) [.un, .un]
theorem ok_law_more {f : Addr} {fd : FuncData} (B : Blt mg) (F_law_next : FnI P w K mg base ea 1 "_law_next" ["draws"] S_law_next) (Fn : Fun K "_law_more" "_law_more" s_law_more f fd) : FnOk P w K mg base (L2N.CX P w) 2 f fd ["draws", "many"] (spD K ea S_law_more) := by
  refine fnD Fn sc_law_more (fun ss o ⟨_, _, _, _, e, _⟩ => by subst e; rfl) (fun cdv A outer s H E hr tk hp pins ss o hS hl => ?_)
  obtain ⟨ns, many, hn, hm, rfl, rfl⟩ := hS
  obtain ⟨p, p2, rfl⟩ := pins2 hl
  refine es_set 2 (ev_add (ev_add (ev_mul ev_int (ev_call F_law_next hr (ea_cons (ev_ptr 0 rfl) ea_nil) ⟨ns, rfl, rfl⟩) rfl rfl (.inl (by decide))) (ev_call F_law_next hr (ea_cons (ev_ptr 0 rfl) ea_nil) ⟨ns.dropLast, rfl, rfl⟩) rfl rfl) ev_int rfl rfl) ?_ sc_law_more.nd
  refine es_set 3 (ev_lst ea_nil (ds := []) rfl) ?_ sc_law_more.nd
  refine es_for (.nm 4) (fun k e => k ≤ many ∧ ∃ s acc c, acc ++ seqM (many - k) s = seqM many (1000 * lastD ns + lastD ns.dropLast + 1) ∧ acc.length = k ∧ e = [.lst (some p) (ns.dropLast.dropLast.map .int), .val (.int many), .val (.int s), .lst none (acc.map .int), c]) (ev_rng1 B (ev_var 1 rfl) (by omega)) (pg_name (i := 4) sc_law_more.nd rfl (.inl rfl))
    ⟨Nat.zero_le _, _, [], _, rfl, rfl, rfl⟩ (fun i d e _ ⟨_, _, _, _, _, _, he⟩ => by subst he; exact (by decide : 4 < 5)) ?_ ?_ hp rfl
  · rintro k d e hk ⟨hk60, r, acc, c, hacc, hal, rfl⟩
    obtain ⟨y, hy, rfl⟩ := map_get hk
    have hk2 : k < many := by
      have q := (List.getElem?_eq_some_iff.mp hy).1
      rw [irange_len] at q
      omega
    have ek : many - k = (many - (k + 1)) + 1 := by omega
    rw [ek] at hacc
    have dg : seqM (many - (k + 1) + 1) r = (r * 48271 + 12345) % 2147483647 / 7 % 1000 :: seqM (many - (k + 1)) ((r * 48271 + 12345) % 2147483647) := rfl
    rw [dg] at hacc
    refine es_set 2 (ev_mod (ev_toint B (ev_add (ev_mul (ev_var 2 rfl) ev_int rfl rfl (.inr (by decide))) ev_int rfl rfl) rfl) ev_int rfl rfl (by decide)) ?_ sc_law_more.nd
    refine es_expr (ev_append (ev_ptr 3 rfl) rfl (ev_mod (ev_toint B (ev_div (ev_var 2 rfl) ev_int rfl rfl (by decide)) rfl) ev_int rfl rfl (by decide)) rfl rfl (by rw [List.length_map]; omega)) (es_nil ?_)
    refine ⟨hk2, (r * 48271 + 12345) % 2147483647, acc ++ [(r * 48271 + 12345) % 2147483647 / 7 % 1000], .val (.int y), by rw [List.append_assoc]; exact hacc, by rw [List.length_append, hal]; rfl, ?_⟩
    rw [List.map_append]
    rfl
  · rintro e ⟨_, r, acc, c, hacc, hal, rfl⟩
    rw [List.length_map, irange_len] at hacc
    have e0 : many - ((many : Int) - 0).toNat = 0 := by omega
    rw [e0] at hacc
    have hacc' : acc = seqM many (1000 * lastD ns + lastD ns.dropLast + 1) := by
      rw [← hacc]
      exact (List.append_nil acc).symm
    have z1 : (ns.dropLast.dropLast).length ≤ 100000 := by rw [List.length_dropLast, List.length_dropLast]; omega
    have z2 : acc.length = many := by rw [hacc']; exact seqM_len _ _
    refine es_ret (ev_add (ev_ptr 3 rfl) (ev_ptr 0 rfl) rfl rfl (by show (acc.map PyData.int).length + ((ns.dropLast.dropLast).map PyData.int).length ≤ sizeLine; rw [List.length_map, List.length_map, sizeLine_eq]; omega)) ⟨?_, trivial, trivial, trivial⟩
    show Sl.lst none (acc.map .int ++ (ns.dropLast.dropLast).map .int) = _
    unfold moreOf
    rw [hacc', List.map_append]
def S_law_turn : FS := fun ss o => ∃ (n : Int) (ns : List Int) (t : Int), 0 < n ∧ ss = [.val (.int n), .val (.tuple (ns.map .int)), .val (.int t)] ∧ o = .rt (.val (.tuple ((turnOf n ns t).map .int))) [.un, .un, .un]
theorem ok_law_turn {f : Addr} {fd : FuncData} (B : Blt mg) (Fn : Fun K "_law_turn" "_law_turn" s_law_turn f fd) : FnOk P w K mg base (L2N.CX P w) 1 f fd ["n", "some", "t"] (spD K ea S_law_turn) := by
  refine fnD Fn sc_law_turn (fun ss o ⟨_, _, _, _, e, _⟩ => by subst e; rfl) (fun cdv A outer s H E hr tk hp pins ss o hS hl => ?_)
  obtain ⟨n, ns, t, h0, rfl, rfl⟩ := hS
  obtain ⟨p, q, r, rfl⟩ := pins3 hl
  refine es_lenT 1 rfl fun hz => ?_
  rw [List.length_map] at hz
  exact es_ret (ev_tuple B (ev_sortedM B (ev_lc0 [("beat", 3)] (.nm 3) rfl sc_law_turn.nd (ei_tup (ev_var 1 rfl) rfl) (blkOk_by (N := ["n", "some", "t", "beat"]) (sc := defScope s_law_turn) (by decide +kernel)) (fun _ _ _ _ _ => pg_name (i := 3) sc_law_turn.nd rfl (.inl rfl)) hz
    (fun a _ _ _ _ _ _ => ev_mod (ev_toint B (ev_add (ev_var 3 rfl) (ev_var 2 rfl) rfl rfl) rfl) (ev_var 0 rfl) rfl rfl h0) (fun _ => rfl) (fun _ => rfl)) rfl) rfl) ⟨rfl, trivial, trivial, trivial, trivial⟩
end
end My
set_option Elab.async false
set_option linter.all false
set_option maxRecDepth 100000
set_option maxHeartbeats 1000000
namespace My
open PySem PySem.Spec PyProof.Rows L2 Pd
/-! sums over rows -/
def Sm (l : List Int) (f : Int → Int) : Int := (l.map f).sum
theorem Sm_nil (f : Int → Int) : Sm [] f = 0 := rfl
theorem Sm_cons (a : Int) (l : List Int) (f : Int → Int) : Sm (a :: l) f = f a + Sm l f := by
  unfold Sm
  rw [List.map_cons, List.sum_cons]
theorem Sm_congr {l : List Int} {f g : Int → Int} (h : ∀ x ∈ l, f x = g x) : Sm l f = Sm l g := by
  unfold Sm
  rw [List.map_congr_left h]
theorem Sm_add (l : List Int) (f g : Int → Int) : Sm l (fun x => f x + g x) = Sm l f + Sm l g := by
  induction l with
  | nil => rfl
  | cons a l ih => rw [Sm_cons, Sm_cons, Sm_cons, ih]; omega
theorem Sm_mul (l : List Int) (c : Int) (f : Int → Int) : Sm l (fun x => c * f x) = c * Sm l f := by
  induction l with
  | nil => simp [Sm_nil]
  | cons a l ih => rw [Sm_cons, Sm_cons, ih, Int.mul_add]
theorem Sm_const (l : List Int) (c : Int) : Sm l (fun _ => c) = l.length * c := by
  induction l with
  | nil => simp [Sm_nil]
  | cons a l ih => rw [Sm_cons, ih, List.length_cons, Int.natCast_succ, Int.add_mul, Int.one_mul]; omega
theorem Sm_swap (l m : List Int) (f : Int → Int → Int) : Sm l (fun a => Sm m fun b => f a b) = Sm m fun b => Sm l fun a => f a b := by
  induction l with
  | nil =>
    rw [Sm_nil]
    have : (fun b => Sm [] fun a => f a b) = fun _ => 0 := rfl
    rw [this, Sm_const, Int.mul_zero]
  | cons a l ih =>
    rw [Sm_cons, ih, ← Sm_add]
    exact Sm_congr fun b _ => (Sm_cons a l fun a => f a b).symm
theorem Sm_perm {l m : List Int} (h : l.Perm m) (f : Int → Int) : Sm l f = Sm m f := by
  induction h with
  | nil => rfl
  | cons a _ ih => rw [Sm_cons, Sm_cons, ih]
  | swap a b l => rw [Sm_cons, Sm_cons, Sm_cons, Sm_cons]; omega
  | trans _ _ h1 h2 => exact h1.trans h2
theorem Sm_map (l : List Int) (g f : Int → Int) : Sm (l.map g) f = Sm l fun x => f (g x) := by
  unfold Sm
  rw [List.map_map]
  rfl
theorem Sm_filter (l : List Int) (p : Int → Bool) (f : Int → Int) : Sm (l.filter p) f = Sm l fun x => if p x = true then f x else 0 := by
  induction l with
  | nil => rfl
  | cons a l ih =>
    rw [List.filter_cons, Sm_cons]
    split
    · rw [Sm_cons, ih]
    · rw [ih]; omega
theorem Sm_one {l : List Int} (h : l.Nodup) {x : Int} : Sm l (fun d => if x = d then 1 else 0) = if x ∈ l then 1 else 0 := by
  induction l with
  | nil => rfl
  | cons a l ih =>
    have hn := List.nodup_cons.mp h
    rw [Sm_cons, ih hn.2]
    by_cases e : x = a
    · subst e
      rw [if_pos rfl, if_neg hn.1, if_pos List.mem_cons_self]
      rfl
    · rw [if_neg e, Int.zero_add]
      by_cases m : x ∈ l
      · rw [if_pos m, if_pos (List.mem_cons_of_mem _ m)]
      · rw [if_neg m, if_neg (fun z => (List.mem_cons.mp z).elim e m)]
theorem irange_at {lo hi : Int} {i : Nat} (h : i < (irange lo hi).length) : (irange lo hi)[i] = lo + (i : Int) := by
  simp only [irange, List.getElem_map, List.getElem_range]
theorem irange_cons {lo hi : Int} (h : lo < hi) : irange lo hi = lo :: irange (lo + 1) hi := by
  unfold irange
  obtain ⟨k, hk⟩ : ∃ k : Nat, (hi - lo).toNat = k + 1 := ⟨(hi - lo).toNat - 1, by omega⟩
  rw [hk, show (hi - (lo + 1)).toNat = k by omega, List.range_succ_eq_map, List.map_cons, List.map_map]
  congr 1
  · omega
  · refine List.map_congr_left fun x _ => ?_
    show lo + ((x + 1 : Nat) : Int) = lo + 1 + (x : Int)
    omega
theorem set_filter {n : Int} {ss : List Int} (h : SetR n ss) : (irange 0 n).filter (fun x => decide (x ∈ ss)) = ss := by
  have h1 : ((irange 0 n).filter fun x => decide (x ∈ ss)).Pairwise (· < ·) := (irange_lt 0 n).filter _
  have hp : ((irange 0 n).filter fun x => decide (x ∈ ss)).Perm ss := by
    refine (List.perm_ext_iff_of_nodup (lt_nodup h1) (lt_nodup h.1)).mpr fun a => ?_
    rw [List.mem_filter, decide_eq_true_iff]
    exact ⟨fun q => q.2, fun q => ⟨mem_irange.mpr (h.2 a q), q⟩⟩
  exact sorted_unique (h1.imp fun q => by omega) (h.1.imp fun q => by omega) hp
def ind (ss : List Int) (x : Int) : Int := if x ∈ ss then 1 else 0
theorem Sm_ind {n : Int} {ss : List Int} (h : SetR n ss) (f : Int → Int) : Sm ss f = Sm (irange 0 n) fun x => ind ss x * f x := by
  have e : Sm ss f = Sm ((irange 0 n).filter fun x => decide (x ∈ ss)) f := by rw [set_filter h]
  rw [e, Sm_filter]
  refine Sm_congr fun x _ => ?_
  unfold ind
  by_cases m : x ∈ ss
  · rw [if_pos (decide_eq_true m), if_pos m, Int.one_mul]
  · rw [if_neg (by rw [decide_eq_false m]; decide), if_neg m, Int.zero_mul]
/-- the residues, turned -/
theorem turn_perm {n : Int} (hn : 1 ≤ n) (t : Int) : ((irange 0 n).map fun a => (a + t) % n).Perm (irange 0 n) := by
  have hnd : ((irange 0 n).map fun a => (a + t) % n).Nodup := by
    rw [List.Nodup, List.pairwise_map]
    exact List.Pairwise.imp_of_mem (fun {a b} ha hb ne z => by
      have := res_inj (mem_irange.mp ha) (mem_irange.mp hb) z
      omega) (irange_lt 0 n)
  refine (List.perm_ext_iff_of_nodup hnd (lt_nodup (irange_lt 0 n))).mpr fun a => ?_
  rw [List.mem_map, mem_irange]
  constructor
  · rintro ⟨b, _, rfl⟩
    exact mod_in (by omega) _
  · intro ha
    refine ⟨(a - t) % n, mem_irange.mpr (mod_in (by omega) _), ?_⟩
    rw [Int.emod_add_emod, show a - t + t = a by omega]
    exact Int.emod_eq_of_lt ha.1 ha.2
theorem Sm_turn {n : Int} (hn : 1 ≤ n) (t : Int) (f : Int → Int) : Sm (irange 0 n) (fun a => f ((a + t) % n)) = Sm (irange 0 n) f := by
  rw [← Sm_perm (turn_perm hn t) f, Sm_map]
theorem Sm_card {n : Int} {ss : List Int} (h : SetR n ss) : Sm (irange 0 n) (ind ss) = ss.length := by
  have e := Sm_ind h fun _ => 1
  rw [Sm_const, Int.mul_one] at e
  rw [e]
  exact Sm_congr fun x _ => (Int.mul_one _).symm
theorem Sm_bound {l : List Int} {f : Int → Int} {c : Int} (h : ∀ x ∈ l, 0 ≤ f x ∧ f x ≤ c) : 0 ≤ Sm l f ∧ Sm l f ≤ l.length * c := by
  induction l with
  | nil => rw [Sm_nil]; simp
  | cons a l ih =>
    have h1 := h a List.mem_cons_self
    have h2 := ih fun x hx => h x (List.mem_cons_of_mem _ hx)
    rw [Sm_cons, List.length_cons, Int.natCast_succ, Int.add_mul, Int.one_mul]
    omega
theorem Sm_pos {f : Int → Int} : ∀ {l : List Int}, (∀ x ∈ l, 0 ≤ f x) → 0 ≤ Sm l f
  | [], _ => Int.le_refl _
  | a :: l, h => by
    rw [Sm_cons]
    have h1 := h a List.mem_cons_self
    have h2 := Sm_pos fun x hx => h x (List.mem_cons_of_mem a hx)
    omega
theorem Sm_none {f : Int → Int} : ∀ {l : List Int}, (∀ x ∈ l, 0 ≤ f x) → (Sm l f = 0 ↔ ∀ x ∈ l, f x = 0)
  | [], _ => ⟨fun _ x hx => (nomatch hx), fun _ => rfl⟩
  | a :: l, h => by
    rw [Sm_cons]
    have h1 := h a List.mem_cons_self
    have h2 := Sm_pos fun x hx => h x (List.mem_cons_of_mem a hx)
    have h3 := Sm_none fun x hx => h x (List.mem_cons_of_mem a hx)
    constructor
    · intro z x hx
      rcases List.mem_cons.mp hx with e | e
      · rw [e]; omega
      · exact h3.mp (by omega) x e
    · intro z
      have := h3.mpr fun x hx => z x (List.mem_cons_of_mem a hx)
      have := z a List.mem_cons_self
      omega
theorem head_turn (n : Int) (ss : List Int) : headOf n ss = ss ∨ ∃ t, headOf n ss = turnOf n ss t := by
  cases ss with
  | nil => exact .inl rfl
  | cons b r =>
    refine .inr ?_
    have h := minT_mem (turnOf n (b :: r) (-b)) (r.map fun c => turnOf n (b :: r) (-c))
    rcases List.mem_cons.mp h with e | e
    · exact ⟨-b, e⟩
    · obtain ⟨c, _, e⟩ := List.mem_map.mp e
      exact ⟨-c, e.symm⟩
theorem head_set {n : Int} (hn : 1 ≤ n) {ss : List Int} (h : SetR n ss) : SetR n (headOf n ss) ∧ (headOf n ss).length = ss.length := by
  rcases head_turn n ss with e | ⟨t, e⟩ <;> rw [e]
  · exact ⟨h, rfl⟩
  · exact ⟨h.turn (by omega), turn_len n t ss⟩
theorem isort_congr {l m : List Int} (p : l.Perm m) : isort l = isort m := isort_of ((isort_perm l).trans p) (isort_sorted l)
theorem addm (a b n : Int) : (a % n + b) % n = (a + b) % n := by rw [Int.add_emod, Int.emod_emod, ← Int.add_emod]
theorem addm2 (a b n : Int) : (a + b % n) % n = (a + b) % n := by rw [Int.add_comm, addm, Int.add_comm]
theorem mulm (a b n : Int) : (a * (b % n)) % n = (a * b) % n := by rw [Int.mul_emod, Int.emod_emod, ← Int.mul_emod]
theorem turn_turn (n : Int) (ns : List Int) (a b : Int) : turnOf n (turnOf n ns a) b = turnOf n ns (a + b) := by
  unfold turnOf
  refine isort_congr (((isort_perm _).map _).trans (List.Perm.of_eq ?_))
  rw [List.map_map]
  refine List.map_congr_left fun x _ => ?_
  show ((x + a) % n + b) % n = (x + (a + b)) % n
  rw [addm, Int.add_assoc]
theorem sorted_isort {l : List Int} (h : l.Pairwise (· ≤ ·)) : isort l = l := (isort_of (List.Perm.refl l) h).symm
theorem turn_z {n : Int} {l : List Int} (h : l.Pairwise (· ≤ ·)) (hr : ∀ x ∈ l, 0 ≤ x ∧ x < n) : turnOf n l 0 = l := by
  unfold turnOf
  have e : (l.map fun b => (b + 0) % n) = l := by
    conv => rhs; rw [← List.map_id l]
    refine List.map_congr_left fun b hb => ?_
    rw [Int.add_zero]
    exact Int.emod_eq_of_lt (hr b hb).1 (hr b hb).2
  rw [e]
  exact sorted_isort h
theorem setR_ext {n : Int} {A B : List Int} (hA : SetR n A) (hB : SetR n B) (h : ∀ x, x ∈ A ↔ x ∈ B) : A = B :=
  sorted_unique (hA.1.imp fun q => Int.le_of_lt q) (hB.1.imp fun q => Int.le_of_lt q) ((List.perm_ext_iff_of_nodup (lt_nodup hA.1) (lt_nodup hB.1)).mpr h)
theorem mem_perm {α : Type} {l m : List α} [DecidableEq α] (hl : l.Nodup) (hm : m.Nodup) (s : ∀ x ∈ l, x ∈ m) (e : m.length ≤ l.length) : l.Perm m := by
  refine (List.perm_ext_iff_of_nodup hl hm).mpr fun x => ⟨s x, fun hx => ?_⟩
  by_cases h : x ∈ l
  · exact h
  · have := List.Nodup.length_le_of_subset (l₁ := x :: l) (l₂ := m) (List.nodup_cons.mpr ⟨h, hl⟩) (fun y hy => by
      rcases List.mem_cons.mp hy with q | q
      · exact q ▸ hx
      · exact s y q)
    rw [List.length_cons] at this
    omega
theorem le_trT {a b c : List Int} (p : HT.lexLt a b = false) (q : HT.lexLt b c = false) : HT.lexLt a c = false := by
  by_cases z : HT.lexLt a c = true
  · by_cases w : HT.lexLt b a = true
    · rw [lex_tr w z] at q; cases q
    · have := lex_tot p (Bool.eq_false_iff.mpr w)
      subst this
      rw [z] at q
      cases q
  · exact Bool.eq_false_iff.mpr z
theorem turn_cong (n : Int) (l : List Int) {s t : Int} (h : (s - t) % n = 0) : turnOf n l s = turnOf n l t := by
  unfold turnOf
  congr 1
  refine List.map_congr_left fun b _ => ?_
  refine Int.emod_eq_emod_iff_emod_sub_eq_zero.mpr ?_
  rw [show b + s - (b + t) = s - t by omega]
  exact h
theorem sorted_min {l : List Int} {a : Int} {r : List Int} (e : l = a :: r) (h : l.Pairwise (· ≤ ·)) {x : Int} (hx : x ∈ l) : a ≤ x := by
  rw [e] at h hx
  rcases List.mem_cons.mp hx with q | q
  · exact Int.le_of_eq q.symm
  · exact (List.pairwise_cons.mp h).1 x q
theorem head_least {n : Int} (hn : 0 < n) {l : List Int} (h : SetR n l) (t : Int) : HT.lexLt (turnOf n l t) (headOf n l) = false := by
  cases l with
  | nil =>
    have e : turnOf n [] t = [] := List.eq_nil_of_length_eq_zero (turn_len n t [])
    rw [e]
    rfl
  | cons b r =>
    by_cases hz : (0 : Int) ∈ turnOf n (b :: r) t
    · obtain ⟨c, hc, e⟩ := List.mem_map.mp (isort_mem.mp hz)
      have e2 : turnOf n (b :: r) t = turnOf n (b :: r) (-c) := turn_cong n _ (by rw [show t - -c = c + t by omega]; exact e)
      rw [e2]
      refine minT_le (turnOf n (b :: r) (-b)) (r.map fun c => turnOf n (b :: r) (-c)) _ ?_
      rcases List.mem_cons.mp hc with q | q
      · rw [q]; exact List.mem_cons_self
      · exact List.mem_cons_of_mem _ (List.mem_map.mpr ⟨c, q, rfl⟩)
    · have hm := minT_mem (turnOf n (b :: r) (-b)) (r.map fun c => turnOf n (b :: r) (-c))
      have h0 : ∃ c ∈ b :: r, headOf n (b :: r) = turnOf n (b :: r) (-c) := by
        rcases List.mem_cons.mp hm with q | q
        · exact ⟨b, List.mem_cons_self, q⟩
        · obtain ⟨c, hc, q⟩ := List.mem_map.mp q
          exact ⟨c, List.mem_cons_of_mem _ hc, q.symm⟩
      obtain ⟨c, hc, e⟩ := h0
      rw [e]
      have z0 : (0 : Int) ∈ turnOf n (b :: r) (-c) := isort_mem.mpr (List.mem_map.mpr ⟨c, hc, by rw [show c + -c = 0 by omega, Int.zero_emod]⟩)
      have s1 : (turnOf n (b :: r) (-c)).Pairwise (· ≤ ·) := isort_sorted _
      have r1 := (h.turn hn (t := -c)).2
      have r2 := (h.turn hn (t := t)).2
      have l2 := turn_len n t (b :: r)
      cases e1 : turnOf n (b :: r) (-c) with
      | nil => rw [e1] at z0; cases z0
      | cons x xs =>
        have hx0 := sorted_min e1 s1 z0
        have hx1 := r1 x (by rw [e1]; exact List.mem_cons_self)
        cases e2 : turnOf n (b :: r) t with
        | nil => rw [e2] at l2; cases l2
        | cons y ys =>
          have hy := r2 y (by rw [e2]; exact List.mem_cons_self)
          have hy0 : y ≠ 0 := fun q => hz (by rw [e2, q]; exact List.mem_cons_self)
          have hx : x = 0 := by omega
          subst hx
          unfold HT.lexLt
          rw [if_neg (by omega)]
          exact decide_eq_false (by omega)
/-- turned sets have one head -/
theorem head_turned {n : Int} (hn : 1 ≤ n) {s : List Int} (h : SetR n s) (t : Int) : headOf n (turnOf n s t) = headOf n s := by
  have hu : SetR n (turnOf n s t) := h.turn (by omega)
  have key : ∀ {a b : List Int}, SetR n a → SetR n b → (∃ t, a = turnOf n b t) → HT.lexLt (headOf n a) (headOf n b) = false := fun {a b} ha hb ⟨t, e⟩ => by
    rcases head_turn n a with q | ⟨r, q⟩
    · rw [q, e]; exact head_least (by omega) hb t
    · rw [q, e, turn_turn]; exact head_least (by omega) hb _
  have hsz : turnOf n s 0 = s := turn_z (h.1.imp fun {a b} q => by omega) h.2
  exact lex_tot (key hu h ⟨t, rfl⟩) (key h hu ⟨-t, by rw [turn_turn, show t + -t = 0 by omega, hsz]⟩)
theorem head_is_turn {n : Int} (hn : 1 ≤ n) {s : List Int} (h : SetR n s) : ∃ t, headOf n s = turnOf n s t := by
  rcases head_turn n s with q | q
  · exact ⟨0, by rw [q, turn_z (h.1.imp fun {a b} q => by omega) h.2]⟩
  · exact q
theorem filter_split {α : Type} (p : α → Bool) : ∀ l : List α, l.length = (l.filter p).length + (l.filter fun x => !p x).length
  | [] => rfl
  | a :: l => by
    have ih := filter_split p l
    rw [List.filter_cons, List.filter_cons]
    cases p a <;> simp <;> omega
theorem nodup_le {α : Type} [DecidableEq α] : ∀ {l m : List α}, l.Nodup → (∀ x ∈ l, x ∈ m) → l.length ≤ m.length
  | [], m, _, _ => Nat.zero_le _
  | a :: l, m, h, s => by
    have h2 := List.nodup_cons.mp h
    have ha := s a List.mem_cons_self
    have ih := nodup_le (l := l) (m := m.erase a) h2.2 fun x hx => (List.mem_erase_of_ne (fun (z : x = a) => h2.1 (z ▸ hx))).mpr (s x (List.mem_cons_of_mem _ hx))
    rw [List.length_erase_of_mem ha] at ih
    have := List.length_pos_of_mem ha
    rw [List.length_cons]
    omega
theorem moved_moved (n : Int) (ns : List Int) (f t f0 t0 : Int) : movedOf n (movedOf n ns f t) f0 t0 = movedOf n ns (f0 * f % n) ((f0 * t + t0) % n) := by
  unfold movedOf
  refine isort_congr (((isort_perm _).map _).trans (List.Perm.of_eq ?_))
  rw [List.map_map]
  refine List.map_congr_left fun b _ => ?_
  show (f0 * ((f * b + t) % n) + t0) % n = (f0 * f % n * b + (f0 * t + t0) % n) % n
  rw [← addm (f0 * ((f * b + t) % n)), mulm, addm, addm2, ← addm (f0 * f % n * b), Int.mul_comm (f0 * f % n), mulm, addm, Int.mul_add, ← Int.mul_assoc, Int.add_assoc, Int.mul_comm b]
theorem turn_moved (n : Int) (ns : List Int) (f t : Int) : turnOf n (movedOf n ns f 0) t = movedOf n ns f t := by
  unfold movedOf turnOf
  refine isort_congr (((isort_perm _).map _).trans (List.Perm.of_eq ?_))
  rw [List.map_map]
  refine List.map_congr_left fun b _ => ?_
  show ((f * b + 0) % n + t) % n = (f * b + t) % n
  rw [addm, Int.add_zero]
theorem turn_n {n : Int} {l : List Int} (h : l.Pairwise (· ≤ ·)) (hr : ∀ x ∈ l, 0 ≤ x ∧ x < n) : turnOf n l n = l := by
  unfold turnOf
  have e : (l.map fun b => (b + n) % n) = l := by
    conv => rhs; rw [← List.map_id l]
    refine List.map_congr_left fun b hb => ?_
    rw [Int.add_emod_right]
    exact Int.emod_eq_of_lt (hr b hb).1 (hr b hb).2
  rw [e]
  exact sorted_isort h
theorem moved_in {n : Int} (hn : 0 < n) (ns : List Int) (f t : Int) : ∀ x ∈ movedOf n ns f t, 0 ≤ x ∧ x < n := fun x hx => by
  unfold movedOf at hx
  obtain ⟨b, _, rfl⟩ := List.mem_map.mp (isort_mem.mp hx)
  exact mod_in hn _
theorem moved_len (n : Int) (ns : List Int) (f t : Int) : (movedOf n ns f t).length = ns.length := by
  unfold movedOf
  rw [isort_len, List.length_map]
theorem moved_set {n : Int} (hn : 0 < n) {ns : List Int} (h : SetR n ns) {f : Int} (hc : Nat.gcd f.natAbs n.natAbs = 1) (t : Int) : SetR n (movedOf n ns f t) := mod_set hn h (fun b => f * b + t) fun a b ha hb e => unit_inj hn hc ha hb e
theorem gcd_mod (x : Int) {n : Int} (hn : 1 ≤ n) : Nat.gcd (x % n).natAbs n.natAbs = Nat.gcd x.natAbs n.natAbs := by
  have e1 : Int.gcd (x % n) n = Nat.gcd (x % n).natAbs n.natAbs := rfl
  have e2 : Int.gcd x n = Nat.gcd x.natAbs n.natAbs := rfl
  rw [← e1, ← e2]
  refine Nat.dvd_antisymm (Int.dvd_gcd ?_ (Int.gcd_dvd_right ..)) (Int.dvd_gcd ?_ (Int.gcd_dvd_right ..))
  · have h1 := Int.gcd_dvd_left (a := x % n) (b := n)
    have h2 := Int.gcd_dvd_right (a := x % n) (b := n)
    have h3 := Int.dvd_add h1 (Int.dvd_trans h2 (Int.dvd_mul_right n (x / n)))
    rwa [Int.emod_add_mul_ediv] at h3
  · have h1 := Int.gcd_dvd_left (a := x) (b := n)
    have h2 := Int.gcd_dvd_right (a := x) (b := n)
    have h3 := Int.dvd_sub h1 (Int.dvd_trans h2 (Int.dvd_mul_right n (x / n)))
    rwa [← Int.emod_def] at h3
theorem moved_inj {n : Int} (hn : 0 < n) {A B : List Int} (hA : SetR n A) (hB : SetR n B) {f t : Int} (hc : Nat.gcd f.natAbs n.natAbs = 1) (e : movedOf n A f t = movedOf n B f t) : A = B := by
  have key : ∀ {A B : List Int}, SetR n A → SetR n B → movedOf n A f t = movedOf n B f t → ∀ x ∈ A, x ∈ B := fun {A B} hA hB e x hx => by
    have h1 : (f * x + t) % n ∈ movedOf n A f t := isort_mem.mpr (List.mem_map.mpr ⟨x, hx, rfl⟩)
    rw [e] at h1
    obtain ⟨y, hy, q⟩ := List.mem_map.mp (isort_mem.mp h1)
    have := unit_inj hn hc (hB.2 y hy) (hA.2 x hx) q
    exact this ▸ hy
  exact setR_ext hA hB fun x => ⟨key hA hB e x, key hB hA e.symm x⟩
/-! two rows fill a ring; a row sped by a factor that has no common divisor with its number -/
def SN : Nat → (Nat → Int) → Int
  | 0, _ => 0
  | k + 1, f => SN k f + f k
theorem SN_congr {f g : Nat → Int} : ∀ {k : Nat}, (∀ j, j < k → f j = g j) → SN k f = SN k g
  | 0, _ => rfl
  | k + 1, h => by
    show SN k f + f k = SN k g + g k
    rw [SN_congr fun j hj => h j (by omega), h k (by omega)]
theorem SN_add (f g : Nat → Int) : ∀ k, SN k (fun j => f j + g j) = SN k f + SN k g
  | 0 => rfl
  | k + 1 => by
    show SN k (fun j => f j + g j) + (f k + g k) = SN k f + f k + (SN k g + g k)
    rw [SN_add f g k]
    omega
theorem SN_front (f : Nat → Int) : ∀ k, SN (k + 1) f = f 0 + SN k fun j => f (j + 1)
  | 0 => by show 0 + f 0 = f 0 + 0; omega
  | k + 1 => by
    show SN (k + 1) f + f (k + 1) = f 0 + (SN k (fun j => f (j + 1)) + f (k + 1))
    rw [SN_front f k]
    omega
theorem Sm_SN (l : List Int) (f : Nat → Int → Int) : ∀ k, Sm l (fun a => SN k fun j => f j a) = SN k fun j => Sm l (f j)
  | 0 => by
    show Sm l (fun _ => 0) = 0
    rw [Sm_const, Int.mul_zero]
  | k + 1 => by
    show Sm l (fun a => SN k (fun j => f j a) + f k a) = SN k (fun j => Sm l (f j)) + Sm l (f k)
    rw [Sm_add, Sm_SN l f k]
theorem SN_dvd {p : Int} {f : Nat → Int} : ∀ {k : Nat}, (∀ j, j < k → p ∣ f j) → p ∣ SN k f
  | 0, _ => ⟨0, by rw [Int.mul_zero]; rfl⟩
  | k + 1, h => Int.dvd_add (SN_dvd fun j hj => h j (by omega)) (h k (by omega))
/-- choices -/
def bN : Nat → Nat → Nat
  | _, 0 => 1
  | 0, _ + 1 => 0
  | n + 1, k + 1 => bN n k + bN n (k + 1)
theorem bN_zero (n : Nat) : bN n 0 = 1 := by cases n <;> rfl
theorem bN_none : ∀ {n k : Nat}, n < k → bN n k = 0
  | 0, k + 1, _ => rfl
  | n + 1, k + 1, h => by rw [bN, bN_none (show n < k by omega), bN_none (show n < k + 1 by omega)]
theorem bN_self : ∀ n : Nat, bN n n = 1
  | 0 => rfl
  | n + 1 => by rw [bN, bN_self n, bN_none (Nat.lt_succ_self n)]
theorem bN_abs : ∀ n k : Nat, (k + 1) * bN (n + 1) (k + 1) = (n + 1) * bN n k
  | 0, 0 => rfl
  | 0, k + 1 => by
    rw [bN_none (show 0 + 1 < k + 1 + 1 by omega), bN_none (show 0 < k + 1 by omega)]
    omega
  | n + 1, 0 => by
    have h := bN_abs n 0
    show (0 + 1) * (bN (n + 1) 0 + bN (n + 1) 1) = (n + 1 + 1) * bN (n + 1) 0
    have h : (0 + 1) * bN (n + 1) 1 = (n + 1) * bN n 0 := h
    rw [bN_zero] at h ⊢
    omega
  | n + 1, k + 1 => by
    have h1 := bN_abs n k
    have h2 := bN_abs n (k + 1)
    show (k + 1 + 1) * (bN (n + 1) (k + 1) + bN (n + 1) (k + 1 + 1)) = (n + 1 + 1) * bN (n + 1) (k + 1)
    rw [Nat.mul_add, h2]
    have e : bN (n + 1) (k + 1) = bN n k + bN n (k + 1) := rfl
    have e3 : (n + 1) * bN (n + 1) (k + 1) = (n + 1) * bN n k + (n + 1) * bN n (k + 1) := by rw [e, Nat.mul_add]
    have e4 : (k + 1 + 1) * bN (n + 1) (k + 1) = (k + 1) * bN (n + 1) (k + 1) + bN (n + 1) (k + 1) := Nat.succ_mul _ _
    have e5 : (n + 1 + 1) * bN (n + 1) (k + 1) = (n + 1) * bN (n + 1) (k + 1) + bN (n + 1) (k + 1) := Nat.succ_mul _ _
    omega
/-- primes -/
def Pr (p : Nat) : Prop := 2 ≤ p ∧ ∀ d, d ∣ p → d = 1 ∨ d = p
theorem Pr.cop {p a : Nat} (h : Pr p) (ha : ¬ p ∣ a) : Nat.Coprime p a := by
  rcases h.2 _ (Nat.gcd_dvd_left p a) with e | e
  · exact e
  · exact absurd (e ▸ Nat.gcd_dvd_right p a) ha
theorem Pr.mul {p a b : Nat} (h : Pr p) (hd : p ∣ a * b) (ha : ¬ p ∣ a) : p ∣ b := (h.cop ha).dvd_of_dvd_mul_left hd
theorem pr_of : ∀ m : Nat, 2 ≤ m → ∃ p, Pr p ∧ p ∣ m := fun m => by
  induction m using Nat.strongRecOn with
  | ind m ih =>
    intro hm
    by_cases q : Pr m
    · exact ⟨m, q, Nat.dvd_refl m⟩
    · have : ∃ d, d ∣ m ∧ d ≠ 1 ∧ d ≠ m := Classical.byContradiction fun z => q ⟨hm, fun d hd => Classical.byContradiction fun y => z ⟨d, hd, fun e => y (.inl e), fun e => y (.inr e)⟩⟩
      obtain ⟨d, hd, h1, h2⟩ := this
      have hle := Nat.le_of_dvd (by omega) hd
      have h0 : d ≠ 0 := fun e => by
        rw [e] at hd
        have := Nat.eq_zero_of_zero_dvd hd
        omega
      obtain ⟨p, hp, hpd⟩ := ih d (by omega) (by omega)
      exact ⟨p, hp, Nat.dvd_trans hpd hd⟩
theorem Pr.bin {p : Nat} (h : Pr p) {j : Nat} (h0 : 0 < j) (hj : j < p) : p ∣ bN p j := by
  obtain ⟨q, rfl⟩ : ∃ q, p = q + 1 := ⟨p - 1, by omega⟩
  obtain ⟨k, rfl⟩ : ∃ k, j = k + 1 := ⟨j - 1, by omega⟩
  refine h.mul (a := k + 1) ?_ (fun z => ?_)
  · rw [bN_abs]; exact Nat.dvd_mul_right _ _
  · have := Nat.le_of_dvd (by omega) z
    omega
/-- all sums of a row and of what g counts -/
def TA (A : List Int) (g : Int → Int) : Int → Int := fun x => Sm A fun a => g (x - a)
def TK (A : List Int) : Nat → (Int → Int) → Int → Int
  | 0, g => g
  | k + 1, g => TA A (TK A k g)
theorem TK_in (A : List Int) (g : Int → Int) : ∀ k, TK A (k + 1) g = TK A k (TA A g)
  | 0 => rfl
  | k + 1 => by
    show TA A (TK A (k + 1) g) = TA A (TK A k (TA A g))
    rw [TK_in A g k]
theorem TK_const (A : List Int) (c : Int) : ∀ k, TK A k (fun _ => c) = fun _ => (A.length : Int) ^ k * c
  | 0 => by
    show (fun _ => c) = _
    funext x
    rw [Int.pow_zero, Int.one_mul]
  | k + 1 => by
    show TA A (TK A k fun _ => c) = _
    rw [TK_const A c k]
    funext x
    show Sm A (fun _ => (A.length : Int) ^ k * c) = _
    rw [Sm_const, Int.pow_succ, ← Int.mul_assoc, Int.mul_comm (A.length : Int)]
theorem TK_bin (a : Int) (A : List Int) : ∀ (k : Nat) (g : Int → Int) (x : Int), TK (a :: A) k g x = SN (k + 1) fun j => (bN k j : Int) * TK A (k - j) g (x - (j : Int) * a)
  | 0, g, x => by
    show g x = 0 + ((1 : Nat) : Int) * g (x - ((0 : Nat) : Int) * a)
    rw [show x - ((0 : Nat) : Int) * a = x by simp]
    omega
  | k + 1, g, x => by
    have e1 : TK (a :: A) (k + 1) g x = TK (a :: A) k g (x - a) + Sm A fun b => TK (a :: A) k g (x - b) := Sm_cons a A fun b => TK (a :: A) k g (x - b)
    have e2 : TK (a :: A) k g (x - a) = SN (k + 1) fun j => (bN k j : Int) * TK A (k - j) g (x - ((j : Int) + 1) * a) := by
      rw [TK_bin a A k g (x - a)]
      refine SN_congr fun j _ => ?_
      congr 2
      rw [Int.add_mul, Int.one_mul]
      omega
    have e3 : (Sm A fun b => TK (a :: A) k g (x - b)) = SN (k + 1) fun j => (bN k j : Int) * TK A (k + 1 - j) g (x - (j : Int) * a) := by
      rw [Sm_congr (g := fun b => SN (k + 1) fun j => (bN k j : Int) * TK A (k - j) g (x - b - (j : Int) * a)) fun b _ => TK_bin a A k g (x - b), Sm_SN A (fun j b => (bN k j : Int) * TK A (k - j) g (x - b - (j : Int) * a))]
      refine SN_congr fun j hj => ?_
      rw [Sm_mul A (bN k j : Int) fun b => TK A (k - j) g (x - b - (j : Int) * a), show k + 1 - j = (k - j) + 1 by omega]
      congr 1
      show (Sm A fun b => TK A (k - j) g (x - b - (j : Int) * a)) = Sm A fun b => TK A (k - j) g (x - (j : Int) * a - b)
      refine Sm_congr fun b _ => ?_
      congr 1
      omega
    have e4 : (SN (k + 1) fun j => (bN k j : Int) * TK A (k + 1 - j) g (x - (j : Int) * a)) = TK A (k + 1) g x + SN (k + 1) fun j => (bN k (j + 1) : Int) * TK A (k - j) g (x - ((j : Int) + 1) * a) := by
      have e : (SN (k + 2) fun j => (bN k j : Int) * TK A (k + 1 - j) g (x - (j : Int) * a)) = SN (k + 1) fun j => (bN k j : Int) * TK A (k + 1 - j) g (x - (j : Int) * a) := by
        show (SN (k + 1) fun j => (bN k j : Int) * TK A (k + 1 - j) g (x - (j : Int) * a)) + (bN k (k + 1) : Int) * _ = _
        rw [bN_none (Nat.lt_succ_self k), Int.natCast_zero, Int.zero_mul, Int.add_zero]
      rw [← e, SN_front, bN_zero]
      congr 1
      · rw [show x - ((0 : Nat) : Int) * a = x by simp]
        show ((1 : Nat) : Int) * TK A (k + 1) g x = _
        omega
      · refine SN_congr fun j _ => ?_
        rw [show k + 1 - (j + 1) = k - j by omega, show ((j + 1 : Nat) : Int) = (j : Int) + 1 by omega]
    have e5 : (SN (k + 1 + 1) fun j => (bN (k + 1) j : Int) * TK A (k + 1 - j) g (x - (j : Int) * a)) = TK A (k + 1) g x + SN (k + 1) fun j => (bN k j : Int) * TK A (k - j) g (x - ((j : Int) + 1) * a) + (bN k (j + 1) : Int) * TK A (k - j) g (x - ((j : Int) + 1) * a) := by
      rw [SN_front, bN_zero]
      congr 1
      · rw [show x - ((0 : Nat) : Int) * a = x by simp]
        show ((1 : Nat) : Int) * TK A (k + 1) g x = _
        omega
      · refine SN_congr fun j _ => ?_
        rw [show k + 1 - (j + 1) = k - j by omega, show ((j + 1 : Nat) : Int) = (j : Int) + 1 by omega, bN, Int.natCast_add, Int.add_mul]
    rw [e1, e2, e3, e4, e5, SN_add]
    omega
theorem TK_frob {p : Nat} (h : Pr p) (g : Int → Int) (x : Int) : ∀ A : List Int, (p : Int) ∣ TK A p g x - Sm A fun a => g (x - (p : Int) * a)
  | [] => by
    obtain ⟨q, rfl⟩ : ∃ q, p = q + 1 := ⟨p - 1, by have := h.1; omega⟩
    exact ⟨0, by rw [Int.mul_zero]; rfl⟩
  | a :: A => by
    have ih := TK_frob h g x A
    have h2 := h.1
    have e := TK_bin a A p g x
    obtain ⟨q, hq⟩ : ∃ q, p = q + 1 := ⟨p - 1, by omega⟩
    have e2 : (SN (p + 1) fun j => (bN p j : Int) * TK A (p - j) g (x - (j : Int) * a)) = TK A p g x + (SN q fun j => (bN p (j + 1) : Int) * TK A (p - (j + 1)) g (x - ((j + 1 : Nat) : Int) * a)) + g (x - (p : Int) * a) := by
      show (SN p fun j => (bN p j : Int) * TK A (p - j) g (x - (j : Int) * a)) + (bN p p : Int) * TK A (p - p) g (x - (p : Int) * a) = _
      rw [bN_self, Nat.sub_self]
      have e3 : (SN p fun j => (bN p j : Int) * TK A (p - j) g (x - (j : Int) * a)) = TK A p g x + SN q fun j => (bN p (j + 1) : Int) * TK A (p - (j + 1)) g (x - ((j + 1 : Nat) : Int) * a) := by
        conv => lhs; rw [hq]
        rw [SN_front, ← hq, bN_zero, Nat.sub_zero]
        congr 1
        rw [show x - ((0 : Nat) : Int) * a = x by simp]
        show ((1 : Nat) : Int) * TK A p g x = _
        omega
      rw [e3]
      show _ + ((1 : Nat) : Int) * g (x - (p : Int) * a) = _
      omega
    have hd : (p : Int) ∣ SN q fun j => (bN p (j + 1) : Int) * TK A (p - (j + 1)) g (x - ((j + 1 : Nat) : Int) * a) := SN_dvd fun j hj => Int.dvd_mul_of_dvd_left (Int.natCast_dvd_natCast.mpr (h.bin (Nat.succ_pos j) (by omega)))
    rw [e, e2, Sm_cons]
    exact (show ∀ {X S G M : Int}, (p : Int) ∣ X - M → (p : Int) ∣ S → (p : Int) ∣ X + S + G - (G + M) from fun {X S G M} h1 h2 => by
      have := Int.dvd_add h1 h2
      rwa [show X - M + S = X + S + G - (G + M) by omega] at this) ih hd
/-- how often a beat is sung by a row's entry 0 -/
def gB (n : Int) (B : List Int) (x : Int) : Int := Sm B fun b => if (b - x) % n = 0 then 1 else 0
def Til (n : Int) (A B : List Int) : Prop := ∀ x, (Sm A fun a => gB n B (x - a)) = 1
theorem gB_per (n : Int) (B : List Int) (x k : Int) : gB n B (x + n * k) = gB n B x := by
  unfold gB
  refine Sm_congr fun b _ => ?_
  have : (b - (x + n * k)) % n = (b - x) % n := by
    rw [show b - (x + n * k) = b - x + n * (-k) by rw [Int.mul_neg]; omega, Int.add_mul_emod_self_left]
  rw [this]
theorem gB_pos (n : Int) (B : List Int) (x : Int) : 0 ≤ gB n B x := Sm_pos fun b _ => by split <;> omega
theorem gB_all {n : Int} (hn : 1 ≤ n) (B : List Int) (c : Int) : (Sm (irange 0 n) fun x => gB n B (x - c)) = B.length := by
  unfold gB
  rw [Sm_swap, Sm_congr (g := fun _ => 1) (fun b _ => ?_), Sm_const, Int.mul_one]
  have e : (Sm (irange 0 n) fun x => if (b - (x - c)) % n = 0 then (1 : Int) else 0) = Sm (irange 0 n) fun x => if (b + c) % n = x then 1 else 0 := Sm_congr fun x hx => by
    have hx := mem_irange.mp hx
    have q : (b - (x - c)) % n = 0 ↔ (b + c) % n = x := by
      constructor
      · intro h
        have h1 := Int.mul_ediv_add_emod (b - (x - c)) n
        rw [h] at h1
        have : b + c = x + n * ((b - (x - c)) / n) := by omega
        rw [this, Int.add_mul_emod_self_left, Int.emod_eq_of_lt hx.1 hx.2]
      · intro h
        have h1 := Int.mul_ediv_add_emod (b + c) n
        rw [h] at h1
        have : b - (x - c) = n * ((b + c) / n) := by omega
        rw [this, Int.mul_emod_right]
    by_cases z : (b + c) % n = x
    · rw [if_pos z, if_pos (q.mpr z)]
    · rw [if_neg z, if_neg fun y => z (q.mp y)]
  rw [e, Sm_one (lt_nodup (irange_lt 0 n)), if_pos (mem_irange.mpr (mod_in (by omega) _))]
theorem Til.card {n : Int} (hn : 1 ≤ n) {A B : List Int} (h : Til n A B) : (A.length : Int) * B.length = n := by
  have e : (Sm (irange 0 n) fun x => Sm A fun a => gB n B (x - a)) = n := by
    rw [Sm_congr (g := fun _ => 1) (fun x _ => h x), Sm_const, irange_len]
    omega
  rw [Sm_swap, Sm_congr (g := fun _ => (B.length : Int)) (fun a _ => gB_all hn B a), Sm_const] at e
  exact e
theorem til_of {n : Int} (hn : 1 ≤ n) {A B : List Int} (hc : (A.length : Int) * B.length = n) (h : ∀ x, 1 ≤ Sm A fun a => gB n B (x - a)) : Til n A B := by
  have e : (Sm (irange 0 n) fun x => Sm A fun a => gB n B (x - a)) = n := by
    rw [Sm_swap, Sm_congr (g := fun _ => (B.length : Int)) (fun a _ => gB_all hn B a), Sm_const]
    exact hc
  have e2 : (Sm (irange 0 n) fun x => (Sm A fun a => gB n B (x - a)) - 1) = 0 := by
    have q := Sm_add (irange 0 n) (fun x => (Sm A fun a => gB n B (x - a)) - 1) fun _ => 1
    rw [Sm_const, irange_len] at q
    have q2 : (Sm (irange 0 n) fun x => (Sm A fun a => gB n B (x - a)) - 1 + 1) = Sm (irange 0 n) fun x => Sm A fun a => gB n B (x - a) := Sm_congr fun x _ => by omega
    rw [q2, e] at q
    omega
  have e3 := (Sm_none (l := irange 0 n) (f := fun x => (Sm A fun a => gB n B (x - a)) - 1) fun x _ => by have := h x; omega).mp e2
  intro x
  have e4 := e3 (x % n) (mem_irange.mpr (mod_in (by omega) x))
  have e5 : (Sm A fun a => gB n B (x - a)) = Sm A fun a => gB n B (x % n - a) := Sm_congr fun a _ => by
    have := Int.mul_ediv_add_emod x n
    rw [show x - a = x % n - a + n * (x / n) by omega, gB_per]
  rw [e5]
  omega
theorem til_prime {n : Int} (hn : 1 ≤ n) {A B : List Int} (h : Til n A B) {p : Nat} (hp : Pr p) (ha : ¬ p ∣ A.length) : Til n (A.map fun a => (p : Int) * a) B := by
  have hc := h.card hn
  refine til_of hn (by rw [List.length_map]; exact hc) fun x => ?_
  rw [Sm_map]
  obtain ⟨q, hq⟩ : ∃ q, p = q + 1 := ⟨p - 1, by have := hp.1; omega⟩
  have h1 := TK_frob hp (gB n B) x A
  have hT : TA A (gB n B) = fun _ => 1 := funext fun x => h x
  have e1 : TK A p (gB n B) x = (A.length : Int) ^ q := by
    rw [hq, TK_in, hT, TK_const]
    show (A.length : Int) ^ q * 1 = _
    rw [Int.mul_one]
  have h2 := TK_frob hp (fun _ => 1) x A
  rw [TK_const, Sm_const, hq, Int.pow_succ, Int.mul_comm _ (A.length : Int), ← hq] at h2
  have h3 : (p : Int) ∣ (A.length : Int) ^ q - 1 := by
    have e : (A.length : Int) * (A.length : Int) ^ q * 1 - (A.length : Int) * 1 = (A.length : Int) * ((A.length : Int) ^ q - 1) := by rw [Int.mul_sub, Int.mul_one]
    have h2 : (p : Int) ∣ (A.length : Int) * (A.length : Int) ^ q * 1 - (A.length : Int) * 1 := h2
    rw [e] at h2
    have h4 := Int.natAbs_dvd_natAbs.mpr h2
    rw [Int.natAbs_mul] at h4
    exact Int.natAbs_dvd_natAbs.mp (hp.mul h4 ha)
  rw [e1] at h1
  have h5 : (p : Int) ∣ (Sm A fun a => gB n B (x - (p : Int) * a)) - 1 := by
    exact (show ∀ {L N : Int}, (p : Int) ∣ L - 1 → (p : Int) ∣ L - N → (p : Int) ∣ N - 1 from fun {L N} h1 h2 => by
      have := Int.dvd_sub h1 h2
      rwa [show L - 1 - (L - N) = N - 1 by omega] at this) h3 h1
  have h6 : 0 ≤ Sm A fun a => gB n B (x - (p : Int) * a) := Sm_pos fun a _ => gB_pos n B _
  obtain ⟨k, hk⟩ := h5
  have h2p := hp.1
  rcases Int.lt_or_le k 0 with z | z
  · have : (p : Int) * k ≤ 2 * -1 := by
      have h7 : (p : Int) * k ≤ (p : Int) * -1 := Int.mul_le_mul_of_nonneg_left (by omega) (by omega)
      omega
    omega
  · have : 0 ≤ (p : Int) * k := Int.mul_nonneg (by omega) z
    omega
theorem til_nat {n : Int} (hn : 1 ≤ n) {B : List Int} : ∀ (m : Nat), 1 ≤ m → ∀ {A : List Int}, Til n A B → Nat.gcd m A.length = 1 → Til n (A.map fun a => (m : Int) * a) B := fun m => by
  induction m using Nat.strongRecOn with
  | ind m ih =>
    intro hm A h hg
    rcases Nat.lt_or_ge 1 m with q | q
    · obtain ⟨p, hp, r, hr⟩ := pr_of m q
      have hp2 := hp.1
      have hr0 : 1 ≤ r := by
        rcases Nat.eq_zero_or_pos r with z | z
        · rw [z, Nat.mul_zero] at hr; omega
        · exact z
      have hrm : r < m := by
        rw [hr]
        have := Nat.mul_le_mul_right r hp2
        omega
      have ha : ¬ p ∣ A.length := fun z => by
        have : p ∣ Nat.gcd m A.length := Nat.dvd_gcd ⟨r, hr⟩ z
        rw [hg] at this
        have := Nat.le_of_dvd (by decide) this
        omega
      have h1 := til_prime hn h hp ha
      have h2 := ih r hrm hr0 h1 (by
        rw [List.length_map]
        have hd : r ∣ m := ⟨p, by rw [hr, Nat.mul_comm]⟩
        exact Nat.Coprime.coprime_dvd_left hd hg)
      rw [List.map_map] at h2
      have e : ((fun a => (r : Int) * a) ∘ fun a => (p : Int) * a) = fun a => (m : Int) * a := funext fun a => by
        show (r : Int) * ((p : Int) * a) = (m : Int) * a
        rw [hr, Int.natCast_mul, ← Int.mul_assoc, Int.mul_comm (r : Int)]
      rwa [e] at h2
    · have e : m = 1 := by omega
      subst e
      have e : (fun a : Int => ((1 : Nat) : Int) * a) = id := funext fun a => by show ((1 : Nat) : Int) * a = a; omega
      rw [e, List.map_id]
      exact h
theorem til_cong {n : Int} {A A2 B : List Int} (h : Til n A B) {f : Int → Int} (hf : ∀ a, (f a - a) % n = 0) (e : A2 = A.map f) : Til n A2 B := by
  subst e
  intro x
  rw [Sm_map, ← h x]
  refine Sm_congr fun a _ => ?_
  have h1 := Int.mul_ediv_add_emod (f a - a) n
  rw [hf] at h1
  rw [show x - a = x - f a + n * ((f a - a) / n) by omega, gB_per]
/-- sped by any factor that has no common divisor with the number of the beats -/
theorem til_sped {n : Int} (hn : 1 ≤ n) {A B : List Int} (h : Til n A B) {f : Int} (hg : Nat.gcd f.natAbs A.length = 1) : Til n (A.map fun a => a * f % n) B := by
  have hc := h.card hn
  have hA : 0 < A.length := by
    rcases Nat.eq_zero_or_pos A.length with z | z
    · rw [z, Int.natCast_zero, Int.zero_mul] at hc; omega
    · exact z
  have hK : 1 ≤ n * (A.length : Int) := by
    have : 1 * 1 ≤ n * (A.length : Int) := Int.mul_le_mul hn (by omega) (by decide) (by omega)
    omega
  have hm : 1 ≤ f + n * (A.length : Int) * (f.natAbs + 1) := by
    have : 1 * ((f.natAbs : Int) + 1) ≤ n * (A.length : Int) * (f.natAbs + 1) := Int.mul_le_mul_of_nonneg_right hK (by omega)
    omega
  have hg2 : Nat.gcd (f + n * (A.length : Int) * (f.natAbs + 1)).toNat A.length = 1 := by
    have e : (f + n * (A.length : Int) * (f.natAbs + 1)).toNat = (f + n * (A.length : Int) * (f.natAbs + 1)).natAbs := by omega
    have g1 := gcd_mod (n := (A.length : Int)) (f + n * (A.length : Int) * (f.natAbs + 1)) (by omega)
    have g2 := gcd_mod (n := (A.length : Int)) f (by omega)
    rw [Int.natAbs_natCast] at g1 g2
    rw [e, ← g1, show f + n * (A.length : Int) * (f.natAbs + 1) = f + (A.length : Int) * (n * (f.natAbs + 1)) by rw [Int.mul_comm n, Int.mul_assoc], Int.add_mul_emod_self_left, g2]
    exact hg
  have h1 := til_nat hn _ (by omega) h hg2
  rw [Int.toNat_of_nonneg (by omega)] at h1
  refine til_cong (f := fun y => y % n) h1 (fun a => ?_) ?_
  · rw [Int.sub_emod, Int.emod_emod, Int.sub_self]; exact Int.zero_emod n
  · rw [List.map_map]
    refine List.map_congr_left fun a _ => ?_
    show a * f % n = (f + n * (A.length : Int) * (f.natAbs + 1)) * a % n
    rw [Int.add_mul, Int.mul_assoc, Int.mul_assoc, Int.add_mul_emod_self_left, Int.mul_comm]
/-- the sums of two rows: each beat once -/
theorem til_sums {n : Int} (hn : 1 ≤ n) {A B : List Int} : Til n A B ↔ (sumsL n A B).Perm (irange 0 n) := by
  have cnt : ∀ (A : List Int) (x : Int), (0 ≤ x ∧ x < n) → ((sumsL n A B).count x : Int) = Sm A fun a => gB n B (x - a) := fun A x hx => by
    induction A with
    | nil => rfl
    | cons a A ih =>
      have e : sumsL n (a :: A) B = rowS n a B ++ sumsL n A B := rfl
      rw [e, List.count_append, Int.natCast_add, ih, Sm_cons]
      congr 1
      unfold rowS gB
      have : ∀ B : List Int, (((B.map fun m => (a + m) % n).count x : Nat) : Int) = Sm B fun b => if (b - (x - a)) % n = 0 then 1 else 0 := fun B => by
        induction B with
        | nil => rfl
        | cons b B ihb =>
          rw [List.map_cons, List.count_cons, Int.natCast_add, ihb, Sm_cons, Int.add_comm]
          congr 1
          have q : (b - (x - a)) % n = 0 ↔ (a + b) % n = x := by
            constructor
            · intro h
              have h1 := Int.mul_ediv_add_emod (b - (x - a)) n
              rw [h] at h1
              rw [show a + b = x + n * ((b - (x - a)) / n) by omega, Int.add_mul_emod_self_left, Int.emod_eq_of_lt hx.1 hx.2]
            · intro h
              have h1 := Int.mul_ediv_add_emod (a + b) n
              rw [h] at h1
              rw [show b - (x - a) = n * ((a + b) / n) by omega, Int.mul_emod_right]
          by_cases z : (a + b) % n = x
          · rw [if_pos (q.mpr z), if_pos (by rw [beq_iff_eq]; exact z)]; rfl
          · rw [if_neg fun y => z (q.mp y), if_neg (by rw [beq_iff_eq]; exact z)]; rfl
      exact this B
  have hone : ∀ x, (irange 0 n).count x = if 0 ≤ x ∧ x < n then 1 else 0 := fun x => by
    by_cases q : 0 ≤ x ∧ x < n
    · rw [if_pos q]
      exact Nat.le_antisymm (List.nodup_iff_count.mp (lt_nodup (irange_lt 0 n)) x) (List.count_pos_iff.mpr (mem_irange.mpr q))
    · rw [if_neg q]
      exact List.count_eq_zero.mpr fun z => q (mem_irange.mp z)
  constructor
  · intro h
    refine List.perm_iff_count.mpr fun x => ?_
    rw [hone]
    by_cases q : 0 ≤ x ∧ x < n
    · rw [if_pos q]
      have := cnt A x q
      rw [h x] at this
      omega
    · rw [if_neg q]
      exact List.count_eq_zero.mpr fun z => q (sumsL_mem (by omega) x z)
  · intro h x
    have hx := mod_in (n := n) (by omega) x
    have e := cnt A (x % n) hx
    rw [h.count_eq, hone, if_pos hx] at e
    have e5 : (Sm A fun a => gB n B (x - a)) = Sm A fun a => gB n B (x % n - a) := Sm_congr fun a _ => by
      have := Int.mul_ediv_add_emod x n
      rw [show x - a = x % n - a + n * (x / n) by omega, gB_per]
    rw [e5]
    omega
theorem til_fill {n : Int} (hn : 1 ≤ n) {A B : List Int} (h : Til n A B) : fillB n A B = true := by
  have p := (til_sums hn).mp h
  have hnd : (sumsL n A B).Nodup := p.nodup_iff.mpr (lt_nodup (irange_lt 0 n))
  unfold fillB sumO
  rw [if_pos hnd]
  show decide (((isort (sumsL n A B)).length : Int) = n) = true
  rw [isort_len, p.length_eq, irange_len]
  exact decide_eq_true (by omega)
theorem fill_til {n : Int} (hn : 1 ≤ n) {A B : List Int} (h : fillB n A B = true) : Til n A B := by
  unfold fillB sumO at h
  by_cases q : (sumsL n A B).Nodup
  · rw [if_pos q] at h
    have hl := of_decide_eq_true h
    rw [isort_len] at hl
    refine (til_sums hn).mpr (mem_perm q (lt_nodup (irange_lt 0 n)) (fun x hx => mem_irange.mpr (sumsL_mem (by omega) x hx)) ?_)
    rw [irange_len]
    omega
  · rw [if_neg q] at h
    cases h
/-- the entries of a row that fills are all different -/
theorem Til.nodup {n : Int} (hn : 1 ≤ n) {A B : List Int} (h : Til n A B) : A.Nodup := by
  have p := ((til_sums hn).mp h).nodup_iff.mpr (lt_nodup (irange_lt 0 n))
  have hc := h.card hn
  have hB : B ≠ [] := fun z => by rw [z, List.length_nil] at hc; omega
  obtain ⟨b, r, rfl⟩ := List.exists_cons_of_ne_nil hB
  have key : ∀ A : List Int, (sumsL n A (b :: r)).Nodup → A.Nodup := by
    intro A
    induction A with
    | nil => intro _; exact List.nodup_nil
    | cons a A ih =>
      intro h
      have e : sumsL n (a :: A) (b :: r) = rowS n a (b :: r) ++ sumsL n A (b :: r) := rfl
      rw [e] at h
      have h2 := List.nodup_append.mp h
      refine List.nodup_cons.mpr ⟨fun z => ?_, ih h2.2.1⟩
      have m1 : (a + b) % n ∈ rowS n a (b :: r) := List.mem_map.mpr ⟨b, List.mem_cons_self, rfl⟩
      have m2 : (a + b) % n ∈ sumsL n A (b :: r) := List.mem_flatMap.mpr ⟨a, z, m1⟩
      exact h2.2.2 _ m1 _ m2 rfl
  exact key A p
def adjB (l : List Int) : Bool := (irange 0 ((l.length : Int) - 1)).any fun k => getZ l k == getZ l (k + 1)
def lsumO (n : Int) (xs ys : List Int) : Option (List Int) := if adjB (isort (sumsL n xs ys)) = true then none else some (isort (sumsL n xs ys))
theorem shaped_opt (o : Option (List Int)) : SeqAt.shaped (optD o) = true := by
  cases o with
  | none => rfl
  | some l => exact shaped_tup l
theorem range_tup (n : Int) : Rs.val (.tuple ((srange 0 1 n.toNat).map .int)) = .val (tupI (irange 0 n)) := by
  have e := srange_one 0 n
  rw [Int.sub_zero] at e
  rw [e]
theorem flat_ints (ls : List (List Int)) : (ls.map fun l => l.map PyData.int).flatten = ls.flatten.map .int := by rw [List.map_flatten]
theorem sum_arg (n : Int) (xs ys : List Int) : [Sl.val (.list ((xs.map fun a => ys.map fun b => (a + b) % n).map lstI))] = [Sl.val (.list ((xs.map fun a => ys.map fun b => PyData.int ((a + b) % n)).map .list))] := by
  rw [List.map_map, List.map_map]
  have e : (lstI ∘ fun a : Int => ys.map fun b => (a + b) % n) = PyData.list ∘ fun a : Int => ys.map fun b => PyData.int ((a + b) % n) := funext fun a => by
    show PyData.list ((ys.map fun b => (a + b) % n).map .int) = _
    rw [List.map_map]
    rfl
  rw [e]
def sumRowD (n : Int) (xs ys : List Int) : List D := (xs.map fun a => ys.map fun b => PyData.int ((a + b) % n)).flatten
theorem flat_sums (n : Int) (xs ys : List Int) : sumRowD n xs ys = (sumsL n xs ys).map .int := by
  unfold sumRowD
  unfold sumsL rowS
  rw [List.map_flatMap, List.flatMap]
  simp only [List.map_map]
  rfl
theorem flatOk (n : Int) (xs ys : List Int) (h : (sumsL n xs ys).length ≤ 100000) : (sumRowD n xs ys).length ≤ 100000 := by rw [flat_sums, List.length_map]; exact h
theorem period_head {n : Int} (hn : 1 ≤ n) {ns : List Int} (h : turnOf n ns n = ns) : atI (((irange 1 (n + 1)).filter fun p => n % p == 0 && decide (turnOf n ns p = ns)).map PyData.int) 0 = some (.int (periodOf n ns)) := by
  have hs : ((irange 1 (n + 1)).find? fun p => n % p == 0 && decide (turnOf n ns p = ns)).isSome = true := List.find?_isSome.mpr ⟨n, mem_irange.mpr (by omega), by rw [Int.emod_self, h, decide_eq_true rfl]; rfl⟩
  obtain ⟨d, hd⟩ := Option.isSome_iff_exists.mp hs
  have q : ((irange 1 (n + 1)).filter fun p => n % p == 0 && decide (turnOf n ns p = ns)).head? = some d := by rw [List.head?_filter, hd]
  have e : periodOf n ns = d := by unfold periodOf; rw [hd]; rfl
  rw [e]
  cases hl : (irange 1 (n + 1)).filter fun p => n % p == 0 && decide (turnOf n ns p = ns) with
  | nil => rw [hl] at q; cases q
  | cons a r =>
    rw [hl] at q
    have q : a = d := Option.some.inj q
    rw [q]
    exact atI_getZ (l := d :: r) (i := 0) (by rw [List.length_cons]; omega)
theorem turn_nR {n : Int} {A : List Int} (h : SetR n A) (_ : 1 ≤ n) : turnOf n A n = A := by
  rw [turn_cong n A (s := n) (t := 0) (by rw [Int.sub_zero, Int.emod_self]), turn_z (h.1.imp fun q => Int.le_of_lt q) h.2]
theorem rev_of {ns ns' : List Int} (p : ns'.Perm ns) (h : OrdB true ns') : ns' = (isort ns).reverse := by
  have h : ns'.Pairwise (· ≥ ·) := h
  have e := isort_of (l := ns'.reverse) (ns := ns) ((List.reverse_perm ns').trans p) (List.pairwise_reverse.mpr h)
  rw [← e, List.reverse_reverse]
theorem ev_sortedRev {X : Cx} {e : Expr} {p pos kpos bp : Pos} {j : Nat} {env env1 : Ev} {R : Rs} {ns : List Int} (B : Blt X.mg) (h : EV X e env R env1) (w : vw (Pd.fz R) env1 = some (.list (ns.map .int))) (hg : Gl X "sorted" := by rfl) (he : starEach (e :: []) X.env = (false, eval e X.env) :: starEach [] X.env := by rfl)
    (he2 : backTo pos (starEach (e :: []) X.env) = (false, eval e X.env) :: backTo pos (starEach [] X.env) := by rfl) (hpl : (backTo pos (starEach (e :: []) X.env)).any (·.1) = false := by rfl) :
    EV X (.Call (.Name "sorted" p) [e] [⟨some "reverse", .Constant (.bool true) j bp, kpos⟩] pos) env (.new (.lst none ((isort ns).reverse.map .int))) env1 := by
  refine PE.wk (pe_callBK (cr_sortedRev (b := true)) hg B.sorted_ bt_sorted (pa_cons h pa_nil he) (pk_cons pe_bl pk_nil) (by decide) (by decide) he2 hpl) fun σ H Q ⟨G, F, S, q⟩ => one_op (ta := tV X.K env R env1) (Q := fun v H' => tCons (tC (.bl true)) tNil σ H' fun zs H2 => rSortedKw X.K true [.bl true] [v] zs H2 Q) S (fun _ _ h => h) w fun F' v H' x1 S1 hv => ?_
  obtain ⟨a, vs, rfl, ha, za, ra⟩ := hv.lst S1.kf
  have e := ra.ints
  rw [e] at ha za
  refine ⟨a, ns, rfl, rfl, .of ha, fun ns' p hp hs hn => ?_⟩
  have en := rev_of hp hs
  rw [en]
  refine q F' _ _ x1 (S1.consNew hn fun f g => ⟨p, _, rfl, (fun _ z => nomatch z), upd_same, ?_, DRs.of_ints _, f, g⟩)
  rw [← en, List.length_map, hp.length_eq]
  rw [List.length_map] at za
  exact za
def divGo : Nat → Int → Int → Int → Int × Int
  | 0, _, l, w => (l, w)
  | k + 1, p, l, w => if (decide (l > 1) && l % p == 0) = true then divGo k p (l / p) (w + 1) else divGo k p l w
def shStep (s : Int × List Int) (p : Int) : Int × List Int := ((divGo 9 p s.1 0).1, if (divGo 9 p s.1 0).2 > 0 then s.2 ++ [(divGo 9 p s.1 0).2] else s.2)
def shK (n : Int) (k : Nat) : Int × List Int := ((irange 2 401).take k).foldl shStep (n, [])
def shapeF (n : Int) : List Int := (isort ((irange 2 401).foldl shStep (n, [])).2).reverse
def goodS (sh : List Int) : Bool := if (sh.length : Int) < 2 then true else if (sh.length : Int) = 2 then getZ sh 1 == 1 || decide (sh = [2, 2]) else if (sh.length : Int) = 3 then decide (getZ sh 0 ≤ 2) && getZ sh 1 == 1 else decide (sh = [1, 1, 1, 1])
def goodF (n : Int) : Bool := goodS (shapeF n)
theorem shK_step (n : Int) {k : Nat} {p : Int} (h : (irange 2 401)[k]? = some p) : shK n (k + 1) = shStep (shK n k) p := by
  unfold shK
  rw [take_succ_get h, List.foldl_append]
  rfl
theorem sh_len : ∀ (l : List Int) (s : Int × List Int), (l.foldl shStep s).2.length ≤ s.2.length + l.length
  | [], s => Nat.le_refl _
  | p :: l, s => by
    rw [List.foldl_cons, List.length_cons]
    have := sh_len l (shStep s p)
    have h2 : (shStep s p).2.length ≤ s.2.length + 1 := by
      unfold shStep
      dsimp only
      split
      · rw [List.length_append]; simp
      · omega
    omega
theorem shK_len (n : Int) (k : Nat) : (shK n k).2.length ≤ 399 := by
  have := sh_len ((irange 2 401).take k) (n, [])
  rw [List.length_take, irange_len] at this
  unfold shK
  simp at this ⊢
  omega
inductive Asks : List Sl → Str ⊕ D → Prop
  | w0 (n : Int) : Asks [.val (.int 0), .val (.int n)] (ringA n (.inr (.bool (isNone (optT (partsF n))))))
  | w1 (n : Int) : Asks [.val (.int 1), .val (.int n)] (ringA n (.inr (plD (plainF n))))
theorem Asks.leaf {ss : List Sl} {a : Str ⊕ D} (h : Asks ss a) : ∀ c, a = .inl c → c ∈ leafN := fun c e => by
  cases h with
  | w0 => exact ringA_leaf (fun x z => by cases z) e
  | w1 => exact ringA_leaf (fun x z => by cases z) e
theorem Asks.len {ss : List Sl} {a : Str ⊕ D} (h : Asks ss a) : ss.length = 2 := by cases h <;> rfl
section
variable {P : Program} {w : World} {K : Pd.Frag} {mg : Str → Option Value} {base : Heap} {ea : Str → Addr}
abbrev s_law_sum : Stmt := topS 36
theorem sc_law_sum : FnScope ["n", "one", "other", "found", "a", "b", "k"] ["n", "one", "other"] (defScope s_law_sum) := ⟨rfl, rfl, rfl, by decide +kernel, rfl, by decide +kernel, by decide +kernel⟩
def S_law_sum : FS := fun ss o => ∃ (n : Int) (xs : List Int) (ys : List Int), (0 < n ∧ n ≤ 100000) ∧ (xs.length ≤ 300 ∧ ys.length ≤ 300) ∧ ss = [.val (.int n), .val (.tuple (xs.map .int)), .val (.tuple (ys.map .int))] ∧ o = .rt (.val (optD (lsumO n xs ys))) [.un, .un, .un]
theorem ok_law_sum {f : Addr} {fd : FuncData} (B : Blt mg) (F_law_flat : FnI P w K mg base ea 1 "_law_flat" ["rows"] S_law_flat) (Fn : Fun K "_law_sum" "_law_sum" s_law_sum f fd) : FnOk P w K mg base (L2N.CX P w) 2 f fd ["n", "one", "other"] (spD K ea S_law_sum) := by
  refine fnD Fn sc_law_sum (fun ss o ⟨_, _, _, _, _, e, _⟩ => by subst e; rfl) (fun cdv A outer s H E hr tk hp pins ss o hS hl => ?_)
  obtain ⟨n, xs, ys, h0, hx9, rfl, rfl⟩ := hS
  obtain ⟨p0, p1, p2, rfl⟩ := pins3 hl
  have hall := sumsL_len n ys xs
  have hmul : xs.length * ys.length ≤ 300 * 300 := Nat.mul_le_mul hx9.1 hx9.2
  refine es_set (env1 := [.val (.int n), .val (tupI xs), .val (tupI ys), .un, .un, .un, .un]) (R := .new (.lst none ((isort (sumsL n xs ys)).map .int))) 3 (ev_sorted (ns := sumsL n xs ys) B (EV.is (Ra := .new (.lst none ((sumsL n xs ys).map PyData.int))) (EV.is (Ra := .new (.lst none (sumRowD n xs ys))) (ev_callV F_law_flat (hr.mono (by decide)) (ea_cons (cv_lc0 (xs := xs) (g := PyData.int) (R := fun a => .new (.lst none ((ys.map fun b => (a + b) % n).map PyData.int))) (h := fun a => ys.map fun b => (a + b) % n) (g2 := lstI) [("a", 4)] (.nm 4) rfl sc_law_sum.nd (ei_tup (ev_var 1 rfl) rfl) (blkOk_by (N := ["n", "one", "other", "found", "a", "b", "k"]) (sc := defScope s_law_sum) (by decide +kernel)) (fun _ _ _ _ _ => (pg_name (i := 4) sc_law_sum.nd rfl (by first | exact .inl rfl | exact .inr rfl))) (by rw [sizeLine_eq]; omega) (fun a ha _ _ _ _ _ => (cv_lc0 (xs := ys) (g := PyData.int) (R := fun b => .val (.int ((a + b) % n))) (h := fun b => (a + b) % n) (g2 := PyData.int) [("b", 5)] (.nm 5) rfl sc_law_sum.nd (ei_tup (ev_var 2 rfl) rfl) (blkOk_by (N := ["n", "one", "other", "found", "a", "b", "k"]) (by rfl)) (fun _ _ _ _ _ => (pg_name (i := 5) sc_law_sum.nd rfl (by first | exact .inl rfl | exact .inr rfl))) (by rw [sizeLine_eq]; omega) (fun b hb _ _ _ _ _ => (ev_mod (ev_toint B (ev_addI (ev_var 4 rfl) (ev_var 5 rfl) rfl rfl) rfl) (ev_var 0 rfl) rfl rfl (by omega))) (fun _ => rfl) (fun _ => rfl))) (fun _ => rfl) (fun _ => rfl)) ea_nil) ⟨xs.map fun a => ys.map fun b => .int ((a + b) % n), flatOk n xs ys (by omega), sum_arg n xs ys, rfl⟩) rfl rfl) (by rw [flat_sums]) rfl) rfl) ?_ sc_law_sum.nd
  refine es_frz 3 rfl ?_
  have hls := isort_len (l := sumsL n xs ys)
  refine es_ret (R := .val (optD (lsumO n xs ys))) (EV.is (cv_if (F := fun t => Rs.val t) (x := .none) (y := (tupI (isort (sumsL n xs ys)))) (k := (irange 0 (((isort (sumsL n xs ys)).length : Int) - 1)).any fun a => ((getZ (isort (sumsL n xs ys)) a) == (getZ (isort (sumsL n xs ys)) (a + 1)))) (et_val (ev_any (xs := irange 0 (((isort (sumsL n xs ys)).length : Int) - 1)) (q := fun a => ((getZ (isort (sumsL n xs ys)) a) == (getZ (isort (sumsL n xs ys)) (a + 1)))) B rfl (ev_lc0 (xs := irange 0 (((isort (sumsL n xs ys)).length : Int) - 1)) (g := PyData.int) (R := fun a => .val (.bool ((getZ (isort (sumsL n xs ys)) a) == (getZ (isort (sumsL n xs ys)) (a + 1))))) (f := fun a => (.bool ((getZ (isort (sumsL n xs ys)) a) == (getZ (isort (sumsL n xs ys)) (a + 1))))) [("k", 6)] (.nm 6) rfl sc_law_sum.nd (ev_rng1 B (ev_sub (cv_len (xs := isort (sumsL n xs ys)) (g := PyData.int) B (ev_var 3 rfl) rfl rfl) ev_int rfl rfl) (by omega)) (blkOk_by (N := ["n", "one", "other", "found", "a", "b", "k"]) (sc := defScope s_law_sum) (by decide +kernel)) (fun _ _ _ _ _ => (pg_name (i := 6) sc_law_sum.nd rfl (by first | exact .inl rfl | exact .inr rfl))) (by rw [irange_len, sizeLine_eq]; omega) (fun a ha _ _ _ _ _ => (ev_eqI (hu_of hr) (ev_idx (d := .int (getZ (isort (sumsL n xs ys)) a)) (ev_var 3 rfl) (ev_var 6 rfl) rfl rfl rfl (atI_getZ (by have := mem_irange.mp ha; omega))) (ev_idx (d := .int (getZ (isort (sumsL n xs ys)) (a + 1))) (ev_var 3 rfl) (ev_addI (ev_var 6 rfl) ev_int rfl rfl) rfl rfl rfl (atI_getZ (by have := mem_irange.mp ha; omega))) rfl rfl)) (fun _ => rfl) (fun _ => rfl)) rfl)) (fun hc => ev_none) (fun hc => (ev_tuple B (ev_var 3 rfl) rfl))) ?_ rfl) ⟨rfl, trivial, trivial, trivial, trivial⟩
  unfold lsumO adjB
  cases (irange 0 (((isort (sumsL n xs ys)).length : Int) - 1)).any fun k => getZ (isort (sumsL n xs ys)) k == getZ (isort (sumsL n xs ys)) (k + 1) <;> rfl
abbrev s_law_fill : Stmt := topS 37
theorem sc_law_fill : FnScope ["n", "one", "other"] ["n", "one", "other"] (defScope s_law_fill) := ⟨rfl, rfl, rfl, by decide +kernel, rfl, by decide +kernel, by decide +kernel⟩
def S_law_fill : FS := fun ss o => ∃ (n : Int) (xs : List Int) (ys : List Int), (0 < n ∧ n ≤ 100000) ∧ (xs.length ≤ 300 ∧ ys.length ≤ 300) ∧ ss = [.val (.int n), .val (.tuple (xs.map .int)), .val (.tuple (ys.map .int))] ∧ o = .rt (.val (.bool (decide (lsumO n xs ys = some (irange 0 n))))) [.un, .un, .un]
theorem ok_law_fill {f : Addr} {fd : FuncData} (B : Blt mg) (F_law_sum : FnI P w K mg base ea 2 "_law_sum" ["n", "one", "other"] S_law_sum) (Fn : Fun K "_law_fill" "_law_fill" s_law_fill f fd) : FnOk P w K mg base (L2N.CX P w) 3 f fd ["n", "one", "other"] (spD K ea S_law_fill) := by
  refine fnD Fn sc_law_fill (fun ss o ⟨_, _, _, _, _, e, _⟩ => by subst e; rfl) (fun cdv A outer s H E hr tk hp pins ss o hS hl => ?_)
  obtain ⟨n, xs, ys, h0, hx9, rfl, rfl⟩ := hS
  obtain ⟨p0, p1, p2, rfl⟩ := pins3 hl
  refine es_ret (R := .val (.bool (decide (lsumO n xs ys = some (irange 0 n))))) (EV.is (ev_eq (hu_of hr) (EV.is (Ra := .val (optD (lsumO n xs ys))) (ev_callV F_law_sum (hr.mono (by decide)) (ea_cons (ev_var 0 rfl) (ea_cons (ev_var 1 rfl) (ea_cons (ev_var 2 rfl) ea_nil))) ⟨n, xs, ys, h0, hx9, rfl, rfl⟩) rfl rfl) (EV.is (Ra := .val (tupI (irange 0 n))) (ev_tupRn B rfl (er_1 B (ev_var 0 rfl) (by omega)) (by omega)) (by rw [range_tup]) rfl) rfl rfl (shaped_opt _) (shaped_tup _)) ?_ rfl) ⟨rfl, trivial, trivial, trivial, trivial⟩
  cases lsumO n xs ys with
  | none => rfl
  | some l => exact congrArg (fun b => Rs.val (.bool b)) ((eqv_tup l _).trans (decide_eq_decide.mpr ⟨fun e => by rw [e], fun e => Option.some.inj e⟩))
abbrev s_law_period : Stmt := topS 38
theorem sc_law_period : FnScope ["n", "some", "p"] ["n", "some"] (defScope s_law_period) := ⟨rfl, rfl, rfl, by decide +kernel, rfl, by decide +kernel, by decide +kernel⟩
def S_law_period : FS := fun ss o => ∃ (n : Int) (ns : List Int), (1 ≤ n ∧ n ≤ 400) ∧ (turnOf n ns n = ns) ∧ ss = [.val (.int n), .val (.tuple (ns.map .int))] ∧ o = .rt (.val (.int (periodOf n ns))) [.un, .un]
theorem ok_law_period {f : Addr} {fd : FuncData} (B : Blt mg) (F_law_turn : FnI P w K mg base ea 1 "_law_turn" ["n", "some", "t"] S_law_turn) (Fn : Fun K "_law_period" "_law_period" s_law_period f fd) : FnOk P w K mg base (L2N.CX P w) 2 f fd ["n", "some"] (spD K ea S_law_period) := by
  refine fnD Fn sc_law_period (fun ss o ⟨_, _, _, _, e, _⟩ => by subst e; rfl) (fun cdv A outer s H E hr tk hp pins ss o hS hl => ?_)
  obtain ⟨n, ns, h0, hd, rfl, rfl⟩ := hS
  obtain ⟨p0, p1, rfl⟩ := pins2 hl
  exact es_ret (ev_idx (d := .int (periodOf n ns)) (ev_lc1 (xs := irange 1 (n + 1)) (g := PyData.int) (q := fun a => ((n % a) == 0) && (decide (turnOf n ns a = ns))) (R := fun a => .val (.int a)) (f := PyData.int) [("p", 2)] (.nm 2) rfl sc_law_period.nd (ev_rng2 B ev_int (ev_addI (ev_var 0 rfl) ev_int rfl rfl) (by omega)) (blkOk_by (N := ["n", "some", "p"]) (sc := defScope s_law_period) (by decide +kernel)) (fun _ _ _ _ _ => (pg_name (i := 2) sc_law_period.nd rfl (by first | exact .inl rfl | exact .inr rfl))) (by rw [irange_len, sizeLine_eq]; omega) (fun a ha _ _ _ _ _ => (et_w (ew_and (et_eqI (hu_of hr) (ev_mod (ev_toint B (ev_var 0 rfl) rfl) (ev_var 2 rfl) rfl rfl (by have := mem_irange.mp ha; omega)) ev_int rfl rfl) fun hq => (ew_and1 (ct_eq (x := turnOf n ns a) (y := ns) ge_tupI rfl (hu_of hr) (EV.is (Ra := .val (tupI (turnOf n ns a))) (ev_callV F_law_turn (hr.mono (by decide)) (ea_cons (ev_var 0 rfl) (ea_cons (ev_var 1 rfl) (ea_cons (ev_var 2 rfl) ea_nil))) ⟨n, ns, a, by omega, rfl, rfl⟩) rfl rfl) (ev_var 1 rfl) rfl rfl))))) (fun a ha hf _ _ _ _ _ => (ev_var 2 rfl)) (fun _ => rfl) (fun _ => rfl)) ev_int rfl rfl rfl (period_head h0.1 hd)) ⟨rfl, trivial, trivial, trivial⟩
abbrev s_law_shape : Stmt := topS 39
theorem sc_law_shape : FnScope ["n", "shape", "left", "prime", "power", "turn"] ["n"] (defScope s_law_shape) := ⟨rfl, rfl, rfl, by decide +kernel, rfl, by decide +kernel, by decide +kernel⟩
def S_law_shape : FS := fun ss o => ∃ (n : Int), (1 ≤ n ∧ n ≤ 400) ∧ ss = [.val (.int n)] ∧ o = .rt (.lst none ((shapeF n).map .int)) [.un]
theorem ok_law_shape {f : Addr} {fd : FuncData} (B : Blt mg) (Fn : Fun K "_law_shape" "_law_shape" s_law_shape f fd) : FnOk P w K mg base (L2N.CX P w) 1 f fd ["n"] (spD K ea S_law_shape) := by
  refine fnD Fn sc_law_shape (fun ss o ⟨_, _, e, _⟩ => by subst e; rfl) (fun cdv A outer s H E hr tk hp pins ss o hS hl => ?_)
  obtain ⟨n, h0, rfl, rfl⟩ := hS
  obtain ⟨p0, rfl⟩ := pins1 hl
  refine es_set 1 (ev_lst (ds := []) ea_nil rfl) ?_ sc_law_shape.nd
  refine es_set (env1 := [.val (.int n), .lst none ([].map PyData.int), .un, .un, .un, .un]) (R := .val (.int n)) 2 (ev_var 0 rfl) ?_ sc_law_shape.nd
  refine es_for (.nm 3) (fun k e => ∃ a3 a4 a5, e = [.val (.int n), .lst none (((shK n k).2).map PyData.int), .val (.int ((shK n k).1)), a3, a4, a5]) (ev_rng2 B ev_int ev_int (by omega)) (pg_name (i := 3) sc_law_shape.nd rfl (by first | exact .inl rfl | exact .inr rfl)) ⟨_, _, _, rfl⟩ (fun i d e _ ⟨_, _, _, he⟩ => by subst he; exact (by decide : 3 < 6)) ?_ ?_ hp rfl
  · rintro k d e hk ⟨a3, a4, a5, rfl⟩
    obtain ⟨p, hp2, rfl⟩ := map_get hk
    have hp3 := mem_irange.mp (List.mem_of_getElem? hp2)
    have hs := shK_step n hp2
    have hl := shK_len n k
    generalize shK n k = s at hs hl ⊢
    rw [hs]
    refine es_set (env1 := [.val (.int n), .lst none (s.2.map PyData.int), .val (.int s.1), .val (.int p), a4, a5]) (R := .val (.int 0)) 4 ev_int ?_ sc_law_shape.nd
    refine es_for (.nm 5) (fun j e => j ≤ 9 ∧ ∃ l w a5, divGo (9 - j) p l w = divGo 9 p s.1 0 ∧ e = [.val (.int n), .lst none (s.2.map PyData.int), .val (.int l), .val (.int p), .val (.int w), a5]) (ev_rng1 B ev_int (by omega)) (pg_name (i := 5) sc_law_shape.nd rfl (by first | exact .inl rfl | exact .inr rfl)) ⟨by decide, s.1, 0, _, rfl, rfl⟩ (fun i d e _ ⟨_, _, _, _, _, he⟩ => by subst he; exact (by decide : 5 < 6)) ?_ ?_ hp rfl
    · rintro j d e hk ⟨hj, l, w, a5, hgo, rfl⟩
      obtain ⟨y, hy, rfl⟩ := map_get hk
      have hkl := (List.getElem?_eq_some_iff.mp hy).1
      rw [irange_len] at hkl
      obtain ⟨m, hm⟩ : ∃ m, 9 - j = m + 1 := ⟨9 - j - 1, by omega⟩
      have hm2 : 9 - (j + 1) = m := by omega
      rw [hm] at hgo
      have hgo : (if (decide (l > 1) && l % p == 0) = true then divGo m p (l / p) (w + 1) else divGo m p l w) = divGo 9 p s.1 0 := hgo
      refine es_if (env1 := [.val (.int n), .lst none (s.2.map PyData.int), .val (.int l), .val (.int p), .val (.int w), .val (.int y)]) (k := decide (l > 1) && l % p == 0) (et_w (ew_and (et_gt (ev_var 2 rfl) ev_int rfl rfl) fun hq => (ew_and1 (et_eqI (hu_of hr) (ev_mod (ev_toint B (ev_var 2 rfl) rfl) (ev_var 3 rfl) rfl rfl (by omega)) ev_int rfl rfl)))) (fun hq => ?_) (fun hq => ?_)
      · rw [if_pos hq] at hgo
        exact es_par (env1 := [.val (.int n), .lst none (s.2.map PyData.int), .val (.int l), .val (.int p), .val (.int w), .val (.int y)]) (x := .int (l / p)) (y := .int (w + 1)) 2 4 rfl sc_law_shape.nd (ea_cons (ev_div (ev_var 2 rfl) (ev_var 3 rfl) rfl rfl (by omega)) (ea_cons (ev_addI (ev_var 4 rfl) ev_int rfl rfl) ea_nil)) (es_nil (es_nil ⟨by omega, _, _, _, by rw [hm2]; exact hgo, rfl⟩))
      · rw [if_neg (by rw [hq]; exact Bool.false_ne_true)] at hgo
        exact es_nil (es_nil ⟨by omega, _, _, _, by rw [hm2]; exact hgo, rfl⟩)
    · rintro e ⟨hj, l, w, a5, hgo, rfl⟩
      rw [List.length_map, irange_len] at hgo
      have hgo : (l, w) = divGo 9 p s.1 0 := hgo
      refine es_if (env1 := [.val (.int n), .lst none (s.2.map PyData.int), .val (.int l), .val (.int p), .val (.int w), a5]) (k := decide (w > 0)) (et_gt (ev_var 4 rfl) ev_int rfl rfl) (fun hq => ?_) (fun hq => ?_)
      · have hq := of_decide_eq_true hq
        refine es_expr (env1 := [.val (.int n), .lst none ((s.2 ++ [w]).map .int), .val (.int l), .val (.int p), .val (.int w), a5]) (EV.is (ev_append (R := .val (.int w)) (ev_ptr 1 rfl) rfl (ev_var 4 rfl) rfl rfl (by rw [List.length_map]; omega)) rfl (by rw [List.map_append]; rfl)) (es_nil (es_nil ⟨.val (.int p), .val (.int w), a5, ?_⟩))
        unfold shStep
        rw [← hgo, if_pos hq]
      · have hq := of_decide_eq_false hq
        refine es_nil (es_nil ⟨.val (.int p), .val (.int w), a5, ?_⟩)
        unfold shStep
        rw [← hgo, if_neg hq]
  · rintro e ⟨a3, a4, a5, rfl⟩
    rw [List.length_map]
    exact es_ret (R := .new (.lst none ((shapeF n).map .int))) (EV.is (ev_sortedRev (ns := (shK n (irange 2 401).length).2) B (ev_ptr 1 rfl) rfl) (by unfold shapeF shK; rw [List.take_length]) rfl) ⟨rfl, trivial, trivial⟩
abbrev s_law_good : Stmt := topS 40
theorem sc_law_good : FnScope ["n", "shape"] ["n"] (defScope s_law_good) := ⟨rfl, rfl, rfl, by decide +kernel, rfl, by decide +kernel, by decide +kernel⟩
def S_law_good : FS := fun ss o => ∃ (n : Int), (1 ≤ n ∧ n ≤ 400) ∧ ss = [.val (.int n)] ∧ o = .rt (.val (.bool (goodF n))) [.un]
theorem ok_law_good {f : Addr} {fd : FuncData} (B : Blt mg) (F_law_shape : FnI P w K mg base ea 1 "_law_shape" ["n"] S_law_shape) (Fn : Fun K "_law_good" "_law_good" s_law_good f fd) : FnOk P w K mg base (L2N.CX P w) 2 f fd ["n"] (spD K ea S_law_good) := by
  refine fnD Fn sc_law_good (fun ss o ⟨_, _, e, _⟩ => by subst e; rfl) (fun cdv A outer s H E hr tk hp pins ss o hS hl => ?_)
  obtain ⟨n, h0, rfl, rfl⟩ := hS
  obtain ⟨p0, rfl⟩ := pins1 hl
  refine es_set (env1 := [.val (.int n), .un]) (R := .new (.lst none ((shapeF n).map .int))) 1 (EV.is (Ra := .new (.lst none ((shapeF n).map PyData.int))) (ev_callV F_law_shape (hr.mono (by decide)) (ea_cons (ev_var 0 rfl) ea_nil) ⟨n, h0, rfl, rfl⟩) rfl rfl) ?_ sc_law_good.nd
  unfold goodF
  generalize shapeF n = sh
  unfold goodS
  by_cases h1 : (sh.length : Int) < 2
  · rw [if_pos h1]
    exact es_if (env1 := [.val (.int n), .lst none (sh.map PyData.int)]) (k := true) (ET.is (et_lt (cv_len (xs := sh) (g := PyData.int) B (ev_ptr 1 rfl) rfl rfl) ev_int rfl rfl) (decide_eq_true h1)) (fun _ => es_ret ev_bool ⟨rfl, trivial, trivial⟩) (fun z => nomatch z)
  · rw [if_neg h1]
    refine es_if (env1 := [.val (.int n), .lst none (sh.map PyData.int)]) (k := false) (ET.is (et_lt (cv_len (xs := sh) (g := PyData.int) B (ev_ptr 1 rfl) rfl rfl) ev_int rfl rfl) (decide_eq_false h1)) (fun z => nomatch z) (fun _ => es_nil ?_)
    by_cases h2 : (sh.length : Int) = 2
    · rw [if_pos h2]
      exact es_if (env1 := [.val (.int n), .lst none (sh.map PyData.int)]) (k := true) (ET.is (et_eqI (hu_of hr) (cv_len (xs := sh) (g := PyData.int) B (ev_ptr 1 rfl) rfl rfl) ev_int rfl rfl) (beq_iff_eq.mpr h2)) (fun _ => es_ret (R := .val (.bool (getZ sh 1 == 1 || decide (sh = [2, 2])))) (ev_or (ev_eqI (hu_of hr) (ev_idx (d := .int (getZ sh 1)) (ev_ptr 1 rfl) ev_int rfl rfl rfl (atI_getZ (by omega))) ev_int rfl rfl) fun hq => (ev_one (cv_eq (x := sh) (y := [2, 2]) ge_lstI rfl (hu_of hr) (ev_ptr 1 rfl) (ev_lstV (ea_cons ev_int (ea_cons ev_int ea_nil)) rfl) rfl rfl))) ⟨rfl, trivial, trivial⟩) (fun z => nomatch z)
    · rw [if_neg h2]
      refine es_if (env1 := [.val (.int n), .lst none (sh.map PyData.int)]) (k := false) (ET.is (et_eqI (hu_of hr) (cv_len (xs := sh) (g := PyData.int) B (ev_ptr 1 rfl) rfl rfl) ev_int rfl rfl) (beq_eq_false_iff_ne.mpr h2)) (fun z => nomatch z) (fun _ => es_nil ?_)
      by_cases h3 : (sh.length : Int) = 3
      · rw [if_pos h3]
        exact es_if (env1 := [.val (.int n), .lst none (sh.map PyData.int)]) (k := true) (ET.is (et_eqI (hu_of hr) (cv_len (xs := sh) (g := PyData.int) B (ev_ptr 1 rfl) rfl rfl) ev_int rfl rfl) (beq_iff_eq.mpr h3)) (fun _ => es_ret (R := .val (.bool (decide (getZ sh 0 ≤ 2) && getZ sh 1 == 1))) (ev_and (ev_le (ev_idx (d := .int (getZ sh 0)) (ev_ptr 1 rfl) ev_int rfl rfl rfl (atI_getZ (by omega))) ev_int rfl rfl) fun hq => (ev_one (ev_eqI (hu_of hr) (ev_idx (d := .int (getZ sh 1)) (ev_ptr 1 rfl) ev_int rfl rfl rfl (atI_getZ (by omega))) ev_int rfl rfl))) ⟨rfl, trivial, trivial⟩) (fun z => nomatch z)
      · rw [if_neg h3]
        refine es_if (env1 := [.val (.int n), .lst none (sh.map PyData.int)]) (k := false) (ET.is (et_eqI (hu_of hr) (cv_len (xs := sh) (g := PyData.int) B (ev_ptr 1 rfl) rfl rfl) ev_int rfl rfl) (beq_eq_false_iff_ne.mpr h3)) (fun z => nomatch z) (fun _ => es_nil ?_)
        exact es_ret (R := .val (.bool (decide (sh = [1, 1, 1, 1])))) (cv_eq (x := sh) (y := [1, 1, 1, 1]) ge_lstI rfl (hu_of hr) (ev_ptr 1 rfl) (ev_lstV (ea_cons ev_int (ea_cons ev_int (ea_cons ev_int (ea_cons ev_int ea_nil)))) rfl) rfl rfl) ⟨rfl, trivial, trivial⟩
abbrev s_law_asked : Stmt := topS 41
theorem sc_law_asked : FnScope ["way", "n", "error"] ["way", "n"] (defScope s_law_asked) := ⟨rfl, rfl, rfl, by decide +kernel, rfl, by decide +kernel, by decide +kernel⟩
def S_law_asked : FS := fun ss o => ∃ a, Asks ss a ∧ o = .rt (.val (ansD a)) (ss.map fun _ => .un)
theorem ok_law_asked {f : Addr} {fd : FuncData} (Er : Errs K mg ea) (F_is_good : FnI P w K mg base ea 2 "is_good" ["n"] S_is_good) (F_plain_canon : FnI P w K mg base ea 2 "plain_canon" ["n"] S_plain_canon) {f30 : Addr} {fd30 : FuncData} (F30 : FnP P w K mg base 1 f30 fd30 ["error"] (fun p => spD K ea (S_law_kind ea p))) (m30 : mg "_law_kind" = some (.ref f30)) (k30 : PySem.W.keepIn K (.ref f30) = true) (b30 : Binds K fd30 ["error"] []) (Fn : Fun K "_law_asked" "_law_asked" s_law_asked f fd) : FnOk P w K mg base (L2N.CX P w) 3 f fd ["way", "n"] (spD K ea S_law_asked) := by
  refine fnD Fn sc_law_asked (fun ss o ⟨a, h, _⟩ => h.len) (fun cdv A outer s H E hr tk hp pins ss o hS hl => ?_)
  obtain ⟨a, ha, rfl⟩ := hS
  have hlen := ha.len
  have hlf := ha.leaf
  rw [hlen] at hl
  match pins, hl with
  | [p0, p1], _ =>
  have go : ∀ {s0 s1 : D} (hb : ∀ (W' : WX) (pn : List (Addr × Obj)) (xe : Value → Shared → Prop), L2N.Takes ((bodyX P w K mg base ["way", "n", "error"] "_law_asked" s_law_asked f cdv A outer s H E).tr pn xe) W' → ∀ {body rest pos h1 h2 h3}, defBody s_law_asked = .Try body h1 h2 h3 pos :: rest → ES ((bodyX P w K mg base ["way", "n", "error"] "_law_asked" s_law_asked f cdv A outer s H E).tr pn xe) ea W' body [.val s0, .val s1, .un] (PBof a [.val s0, .val s1, .un])),
      ES (bodyX P w K mg base ["way", "n", "error"] "_law_asked" s_law_asked f cdv A outer s H E) ea (fun cls d _ H => E cls d H) (defBody s_law_asked) [.val s0, .val s1, .un] (finP [p0, p1] [.val s0, .val s1] (.rt (.val (ansD a)) [.un, .un])) := fun {s0 s1} hb => by
    refine try_kind a 2 (env1 := [.val s0, .val s1, .un]) tk Er (hr.mono (by decide)) F30 m30 k30 b30 (fun W' pn xe tk' => hb W' pn xe tk' rfl) hlf (fun d h => ?_) (fun c x h => ?_) sc_law_asked.nd rfl
    · rw [h]
      exact ⟨rfl, trivial, trivial, trivial⟩
    · rw [h]
      exact ⟨rfl, trivial, trivial, trivial⟩
  obtain ⟨fa, ma⟩ := ad_of F_is_good
  obtain ⟨fb, mb⟩ := ad_of F_plain_canon
  cases ha with
  | w0 n =>
    refine go fun W' pn xe tk' {body rest pos h1 h2 h3} e => ?_
    cases e
    exact es_ra (ra_callAt (AnsOf.ring (.v _ _)) (ev_fsel (fs := [fa, fb]) (pa_defs_cons ma (pa_defs_cons mb pa_defs_nil)) (ev_var 0 rfl) rfl (by show 2 ≤ 1000; decide)) F_is_good ma (hr.mono (by decide)) tk' (ea_cons (ev_var 1 rfl) ea_nil) ⟨n, rfl, rfl⟩)
  | w1 n =>
    refine go fun W' pn xe tk' {body rest pos h1 h2 h3} e => ?_
    cases e
    exact es_ra (ra_callAt (AnsOf.ring (.v _ _)) (ev_fsel (fs := [fa, fb]) (pa_defs_cons ma (pa_defs_cons mb pa_defs_nil)) (ev_var 0 rfl) rfl (by show 2 ≤ 1000; decide)) F_plain_canon mb (hr.mono (by decide)) tk' (ea_cons (ev_var 1 rfl) ea_nil) ⟨n, rfl, rfl⟩)
end
end My
set_option Elab.async false
set_option linter.all false
set_option maxRecDepth 100000
set_option maxHeartbeats 1000000
namespace My
open PySem PySem.Spec PyProof.Rows L2 Pd
/-! a sort that the kernel can run -/
def insS (x : Int) : List Int → List Int
  | [] => [x]
  | a :: r => if x ≤ a then x :: a :: r else a :: insS x r
def isortC (l : List Int) : List Int := l.foldr insS []
theorem insS_perm (x : Int) : ∀ l : List Int, (insS x l).Perm (x :: l)
  | [] => List.Perm.refl _
  | a :: r => by
    unfold insS
    split
    · exact List.Perm.refl _
    · exact ((insS_perm x r).cons a).trans (List.Perm.swap x a r)
theorem insS_sorted (x : Int) : ∀ l : List Int, l.Pairwise (· ≤ ·) → (insS x l).Pairwise (· ≤ ·)
  | [], _ => List.pairwise_singleton _ _
  | a :: r, h => by
    have h2 := List.pairwise_cons.mp h
    unfold insS
    split
    · rename_i q
      refine List.pairwise_cons.mpr ⟨fun y hy => ?_, h⟩
      rcases List.mem_cons.mp hy with e | e
      · rw [e]; exact q
      · have := h2.1 y e; omega
    · rename_i q
      refine List.pairwise_cons.mpr ⟨fun y hy => ?_, insS_sorted x r h2.2⟩
      rcases List.mem_cons.mp ((insS_perm x r).mem_iff.mp hy) with e | e
      · rw [e]; omega
      · exact h2.1 y e
theorem isortC_perm : ∀ l : List Int, (isortC l).Perm l
  | [] => List.Perm.refl _
  | a :: r => (insS_perm a _).trans ((isortC_perm r).cons a)
theorem isortC_sorted : ∀ l : List Int, (isortC l).Pairwise (· ≤ ·)
  | [] => List.Pairwise.nil
  | a :: r => insS_sorted a _ (isortC_sorted r)
theorem isort_C (l : List Int) : isort l = isortC l := (isort_of (isortC_perm l) (isortC_sorted l)).symm
def turnC (n : Int) (ns : List Int) (t : Int) : List Int := isortC (ns.map fun b => (b + t) % n)
theorem turn_C (n : Int) (ns : List Int) (t : Int) : turnOf n ns t = turnC n ns t := isort_C _
def movedC (n : Int) (ns : List Int) (f t : Int) : List Int := isortC (ns.map fun b => (f * b + t) % n)
theorem moved_C (n : Int) (ns : List Int) (f t : Int) : movedOf n ns f t = movedC n ns f t := isort_C _
def headC (n : Int) : List Int → List Int
  | [] => []
  | b :: r => minT (turnC n (b :: r) (-b)) (r.map fun c => turnC n (b :: r) (-c))
theorem head_C (n : Int) (l : List Int) : headOf n l = headC n l := by
  cases l with
  | nil => rfl
  | cons b r => simp only [headOf, headC, turn_C]
/-! the law's filling is the program's -/
theorem adj_range (n : Int) : adjB (irange 0 n) = false := by
  unfold adjB
  rw [Bool.eq_false_iff]
  intro h
  obtain ⟨k, hk, e⟩ := List.any_eq_true.mp h
  have hk := mem_irange.mp hk
  rw [irange_len] at hk
  have g : ∀ j : Int, 0 ≤ j → j < n → getZ (irange 0 n) j = j := fun j h1 h2 => by
    have := irange_get (lo := 0) (hi := n) (i := j.toNat) (by omega)
    have e2 : getZ (irange 0 n) j = (irange 0 n).getD j.toNat 0 := rfl
    rw [e2, List.getD_eq_getElem?_getD, this]
    show 0 + ((j.toNat : Nat) : Int) = j
    omega
  rw [g k (by omega) (by omega), g (k + 1) (by omega) (by omega)] at e
  have := beq_iff_eq.mp e
  omega
theorem lfill_same {n : Int} (hn : 1 ≤ n) (A B : List Int) : decide (lsumO n A B = some (irange 0 n)) = fillB n A B := by
  cases hf : fillB n A B with
  | true =>
    have p := (til_sums hn).mp (fill_til hn hf)
    have e : irange 0 n = isort (sumsL n A B) := isort_of p.symm ((irange_lt 0 n).imp fun {a b} q => by omega)
    refine decide_eq_true ?_
    unfold lsumO
    rw [← e, adj_range, if_neg Bool.false_ne_true]
  | false =>
    refine decide_eq_false fun h => ?_
    unfold lsumO at h
    split at h
    · cases h
    · have e := Option.some.inj h
      have p : (sumsL n A B).Perm (irange 0 n) := by rw [← e]; exact (isort_perm _).symm
      rw [til_fill hn ((til_sums hn).mpr p)] at hf
      cases hf
/-! periods of stretched sets -/
theorem per_no {n : Int} (hn : 1 ≤ n) {s : List Int} (h : ∀ p, 1 ≤ p → p < n → n % p = 0 → turnOf n s p ≠ s) : periodOf n s = n := by
  unfold periodOf
  cases e : (irange 1 (n + 1)).find? fun p => n % p == 0 && decide (turnOf n s p = s) with
  | none => rfl
  | some p =>
    have h1 := mem_irange.mp (List.mem_of_find?_eq_some e)
    have h2 := List.find?_some e
    rw [Bool.and_eq_true] at h2
    show p = n
    rcases Int.lt_or_le p n with z | z
    · exact absurd (of_decide_eq_true h2.2) (h p h1.1 z (beq_iff_eq.mp h2.1))
    · omega
theorem per_yes {n : Int} (hn : 1 ≤ n) {s : List Int} (h : periodOf n s = n) {p : Int} (h1 : 1 ≤ p) (h2 : p < n) (h3 : n % p = 0) : turnOf n s p ≠ s := fun e => by
  unfold periodOf at h
  cases hf : (irange 1 (n + 1)).find? fun p => n % p == 0 && decide (turnOf n s p = s) with
  | none =>
    have := List.find?_eq_none.mp hf p (mem_irange.mpr (by omega))
    rw [h3, e, decide_eq_true rfl] at this
    exact this rfl
  | some d =>
    rw [hf] at h
    have h : d = n := h
    subst h
    obtain ⟨_, l1, l2, e1, e2⟩ := List.find?_eq_some_iff_append.mp hf
    have hp : p ∈ irange 1 (d + 1) := mem_irange.mpr (by omega)
    have hs := irange_lt 1 (d + 1)
    rw [e1] at hp hs
    rcases List.mem_append.mp hp with q | q
    · have := e2 p q
      rw [h3, e, decide_eq_true rfl] at this
      cases this
    · rcases List.mem_cons.mp q with q | q
      · omega
      · have := (List.pairwise_append.mp hs).2.1
        have := (List.pairwise_cons.mp this).1 p q
        omega
/-- a canon of sets -/
structure Can (n : Int) (a b : List Int) : Prop where
  h1 : 1 ≤ n
  h2 : n ≤ 400
  sa : SetR n a
  sb : SetR n b
  t : Til n a b
/-! plain canons -/
def setC (n : Int) (l : List Int) : Bool := decide (l.Pairwise (· < ·)) && l.all fun x => decide (0 ≤ x) && decide (x < n)
def perC (n : Int) (s : List Int) : Bool := (irange 1 n).all fun p => !(n % p == 0) || !decide (turnC n s p = s)
def chkL (n : Int) (u v : List Int) : Bool := setC n u && (setC n v && (decide (isortC (sumsL n u v) = irange 0 n) && (perC n u && perC n v)))
def chkPl (n : Int) : Bool := match partsF n with
  | some [a, p, b, q, r] => chkL n (isortC (plF1 a p b q r)) (isortC (plF2 a p b q r))
  | _ => false
theorem setC_ok {n : Int} {l : List Int} (h : setC n l = true) : SetR n l := by
  unfold setC at h
  rw [Bool.and_eq_true] at h
  refine ⟨of_decide_eq_true h.1, fun x hx => ?_⟩
  have := List.all_eq_true.mp h.2 x hx
  rw [Bool.and_eq_true] at this
  exact ⟨of_decide_eq_true this.1, of_decide_eq_true this.2⟩
theorem perC_ok {n : Int} (hn : 1 ≤ n) {s : List Int} (h : perC n s = true) : periodOf n s = n := per_no hn fun p h1 h2 h3 e => by
  have := List.all_eq_true.mp h p (mem_irange.mpr ⟨h1, h2⟩)
  rw [h3, ← turn_C, e, decide_eq_true rfl] at this
  cases this
structure PlainC (n : Int) (u v : List Int) : Prop where
  c : Can n u v
  p1 : periodOf n u = n
  p2 : periodOf n v = n
theorem plain_of {n : Int} (h1 : 1 ≤ n) (h2 : n ≤ 400) (h : chkPl n = true) : ∃ u v, plainF n = some (u, v) ∧ PlainC n u v := by
  unfold chkPl at h
  split at h
  · rename_i a p b q r e
    refine ⟨_, _, by unfold plainF; rw [e]; rfl, ?_⟩
    rw [isort_C, isort_C]
    unfold chkL at h
    simp only [Bool.and_eq_true] at h
    obtain ⟨q1, q2, q3, q4, q5⟩ := h
    refine ⟨⟨h1, h2, setC_ok q1, setC_ok q2, (til_sums h1).mpr ?_⟩, perC_ok h1 q4, perC_ok h1 q5⟩
    rw [← of_decide_eq_true q3]
    exact (isortC_perm _).symm
  · cases h
/-! the program's parts, found at once -/
def prtQ (n a : Int) : Option (List Int) := if n % a = 0 then prt1 n a else none
def partsQ (n : Int) : Option (List Int) := (irange 2 (n + 1)).findSome? (prtQ n)
theorem prt1_Q {n a : Int} (ha : 2 ≤ a) : prt1 n a = prtQ n a := by
  unfold prtQ
  split
  · rfl
  · rename_i h
    unfold prt1
    rw [List.findSome?_eq_none_iff]
    intro p hp
    have hp := mem_irange.mp hp
    unfold prt2
    rw [if_pos]
    have hz : 0 < a * p := Int.mul_pos (by omega) (by omega)
    have h1 := Int.emod_nonneg n (b := a * p) (by omega)
    have h2 : n % (a * p) ≠ 0 := fun e => h (Int.emod_eq_zero_of_dvd (Int.dvd_trans (Int.dvd_mul_right a p) (Int.dvd_of_emod_eq_zero e)))
    rw [decide_eq_true (show n % (a * p) > 0 by omega)]
    rfl
theorem find_congr {α β : Type} {f g : α → Option β} : ∀ {l : List α}, (∀ x ∈ l, f x = g x) → l.findSome? f = l.findSome? g
  | [], _ => rfl
  | x :: l, h => by
    rw [List.findSome?_cons, List.findSome?_cons, h x (by simp), find_congr (l := l) fun y hy => h y (by simp [hy])]
theorem parts_Q (n : Int) : partsF n = partsQ n := find_congr fun a ha => prt1_Q (mem_irange.mp ha).1
/-! the law's shape, found at once -/
def shFast : List Int → Int → List Int → List Int
  | [], _, acc => acc
  | p :: ps, l, acc => if l ≤ 1 then acc else if l % p = 0 then shFast ps (divGo 9 p l 0).1 (if (divGo 9 p l 0).2 > 0 then acc ++ [(divGo 9 p l 0).2] else acc) else shFast ps l acc
theorem divGo_no {p l : Int} (h : (decide (l > 1) && l % p == 0) = false) : ∀ (k : Nat) (w : Int), divGo k p l w = (l, w)
  | 0, _ => rfl
  | k + 1, w => by
    unfold divGo
    rw [if_neg (by rw [h]; exact Bool.false_ne_true), divGo_no h k w]
theorem shStep_no {p l : Int} {acc : List Int} (h : (decide (l > 1) && l % p == 0) = false) : shStep (l, acc) p = (l, acc) := by
  unfold shStep
  rw [divGo_no h]
  rfl
theorem sh_const {l : Int} (h : l ≤ 1) (acc : List Int) : ∀ ps : List Int, ps.foldl shStep (l, acc) = (l, acc)
  | [] => rfl
  | p :: ps => by
    rw [List.foldl_cons, shStep_no (by rw [decide_eq_false (by omega)]; rfl), sh_const h acc ps]
theorem sh_fast : ∀ (ps : List Int) (l : Int) (acc : List Int), (ps.foldl shStep (l, acc)).2 = shFast ps l acc
  | [], _, _ => rfl
  | p :: ps, l, acc => by
    unfold shFast
    split
    · rename_i h
      rw [sh_const h]
    · split
      · rw [List.foldl_cons]
        exact sh_fast ps _ _
      · rename_i h
        rw [List.foldl_cons, shStep_no (by rw [show (l % p == 0) = false from beq_eq_false_iff_ne.mpr h, Bool.and_false])]
        exact sh_fast ps l acc
def goodC (n : Int) : Bool := goodS (isortC (shFast (irange 2 401) n [])).reverse
theorem good_C (n : Int) : goodF n = goodC n := by
  unfold goodF goodC shapeF
  rw [sh_fast, isort_C]
/-! all rings -/
def chkP (n : Int) : Option (List Int) → Bool
  | some [a, p, b, q, r] => chkL n (isortC (plF1 a p b q r)) (isortC (plF2 a p b q r))
  | some _ => false
  | none => true
def chkN (n : Int) : Bool := (goodC n == isNone (optT (partsQ n))) && chkP n (partsQ n)
theorem chk_a : ((irange 1 145).all chkN) = true := by decide +kernel
theorem chk_b : ((irange 145 201).all chkN) = true := by decide +kernel
theorem chk_c : ((irange 201 261).all chkN) = true := by decide +kernel
theorem chk_d : ((irange 261 301).all chkN) = true := by decide +kernel
theorem chk_e : ((irange 301 337).all chkN) = true := by decide +kernel
theorem chk_f : ((irange 337 379).all chkN) = true := by decide +kernel
theorem chk_g : ((irange 379 401).all chkN) = true := by decide +kernel
theorem chk_all {n : Int} (hn : 1 ≤ n ∧ n ≤ 400) : chkN n = true := by
  rcases Int.lt_or_le n 145 with h | h
  · exact List.all_eq_true.mp chk_a n (mem_irange.mpr (by omega))
  rcases Int.lt_or_le n 201 with h | h
  · exact List.all_eq_true.mp chk_b n (mem_irange.mpr (by omega))
  rcases Int.lt_or_le n 261 with h | h
  · exact List.all_eq_true.mp chk_c n (mem_irange.mpr (by omega))
  rcases Int.lt_or_le n 301 with h | h
  · exact List.all_eq_true.mp chk_d n (mem_irange.mpr (by omega))
  rcases Int.lt_or_le n 337 with h | h
  · exact List.all_eq_true.mp chk_e n (mem_irange.mpr (by omega))
  rcases Int.lt_or_le n 379 with h | h
  · exact List.all_eq_true.mp chk_f n (mem_irange.mpr (by omega))
  · exact List.all_eq_true.mp chk_g n (mem_irange.mpr (by omega))
theorem good_same {n : Int} (hn : 1 ≤ n ∧ n ≤ 400) : isNone (optT (partsF n)) = goodF n := by
  have h := chk_all hn
  unfold chkN at h
  rw [Bool.and_eq_true] at h
  rw [parts_Q, good_C, ← beq_iff_eq.mp h.1]
theorem optT_none (o : Option (List Int)) : isNone (optT o) = o.isNone := by
  cases o <;> rfl
theorem plain_all {n : Int} (hn : 1 ≤ n ∧ n ≤ 400) : (goodF n = true ∧ plainF n = none) ∨ (goodF n = false ∧ ∃ u v, plainF n = some (u, v) ∧ PlainC n u v) := by
  have hg := good_same hn
  have h := chk_all hn
  unfold chkN at h
  rw [Bool.and_eq_true, ← parts_Q] at h
  have h2 := h.2
  cases e : partsF n with
  | none =>
    refine .inl ⟨by rw [← hg, e]; rfl, by unfold plainF; rw [e]; rfl⟩
  | some l =>
    refine .inr ⟨by rw [← hg, e]; rfl, plain_of hn.1 hn.2 ?_⟩
    rw [e] at h2
    unfold chkPl
    rw [e]
    unfold chkP at h2
    split at h2
    · rename_i q; cases q; exact h2
    · cases h2
    · rename_i q; cases q
theorem bad_all : ((irange 1 145).filter fun n => !isNone (optT (partsQ n))) = [72, 108, 120, 144] := by decide +kernel
end My
set_option Elab.async false
set_option linter.all false
set_option maxRecDepth 100000
set_option maxHeartbeats 1000000
namespace My
open PySem PySem.Spec PyProof.Rows L2 Pd
/-! the draws in a law's state: slot 0 the script, slot 1 the draws -/
abbrev en (ns V : List Int) (t : List Sl) : Ev := .scr ns :: .lst none (V.map .int) :: t
theorem range_ge : ∀ t : Ev, (List.range t.length).map (fun i => ge t i) = t
  | [] => rfl
  | s :: t => by
    rw [List.length_cons, List.range_succ_eq_map, List.map_cons, List.map_map]
    have ih := range_ge t
    show s :: (List.range t.length).map (fun i => ge t i) = s :: t
    rw [ih]
theorem wb_draws {a b x : Sl} {t : Ev} {rs : List Rs} {ss : List Sl} (h : ptrs rs = []) : wb (a :: b :: t) (.ptr 1 :: rs) (x :: ss) = a :: repin b x :: t := by
  have nf : ∀ i, rs.findIdx? (isPtr i) = none := fun i => by
    refine List.findIdx?_eq_none_iff.mpr fun r hr => ?_
    cases r with
    | ptr j =>
      have : j ∈ ptrs rs := List.mem_filterMap.mpr ⟨_, hr, rfl⟩
      rw [h] at this
      cases this
    | val d => rfl
    | new d => rfl
    | obj d => rfl
  have key : ∀ i, (Rs.ptr 1 :: rs).findIdx? (isPtr i) = if (i == 1) = true then some 0 else none := fun i => by
    rw [List.findIdx?_cons, nf i]
    rfl
  unfold wb
  rw [List.length_cons, List.length_cons, List.range_succ_eq_map, List.map_cons, List.map_map, List.range_succ_eq_map, List.map_cons, List.map_map]
  have e := range_ge t
  have c1 : ∀ {x y : Sl} {u v : List Sl}, x = y → u = v → x :: u = y :: v := fun {x y u v} a b => by rw [a, b]
  refine c1 ?_ (c1 ?_ ?_)
  · rw [key]
    rfl
  · show (match (Rs.ptr 1 :: rs).findIdx? (isPtr 1) with
        | some k => repin (ge (a :: b :: t) 1) (ge (x :: ss) k)
        | none => ge (a :: b :: t) 1) = _
    rw [key]
    rfl
  · refine Eq.trans (List.map_congr_left fun i _ => ?_) e
    · show (match (Rs.ptr 1 :: rs).findIdx? (isPtr (i + 1 + 1)) with
        | some k => repin (ge (a :: b :: t) (i + 1 + 1)) (ge (x :: ss) k)
        | none => ge (a :: b :: t) (i + 1 + 1)) = ge t i
      rw [key]
      have z : (i + 1 + 1 == 1) = false := by
        cases q : (i + 1 + 1 == 1) with
        | false => rfl
        | true =>
          have := beq_iff_eq.mp q
          omega
      show (match (if (i + 1 + 1 == 1) = true then some 0 else none) with
        | some k => repin (ge (a :: b :: t) (i + 1 + 1)) (ge (x :: ss) k)
        | none => ge (a :: b :: t) (i + 1 + 1)) = ge t i
      rw [z]
      rfl
def pickI (l V : List Int) : Int := l.getD (lastD V % l.length).toNat 0
def pickT (l : List (List Int)) (V : List Int) : List Int := l.getD (lastD V % l.length).toNat []
theorem pickI_mem {l : List Int} (h : 0 < l.length) (V : List Int) : pickI l V ∈ l := getD_mem (lastD V) h
theorem idx_lt {i : Int} {k : Nat} (h : 0 < k) : (i % (k : Int)).toNat < k := by
  have h1 : 0 ≤ i % (k : Int) := Int.emod_nonneg _ (by omega)
  have h2 : i % (k : Int) < k := Int.emod_lt_of_pos _ (by omega)
  omega
theorem pickT_mem {l : List (List Int)} (h : 0 < l.length) (V : List Int) : pickT l V ∈ l := by
  unfold pickT
  rw [List.getD_eq_getElem?_getD, List.getElem?_eq_getElem (idx_lt h)]
  exact List.getElem_mem _
section
variable {X : Cx} {ea : Str → Addr} {ns V V2 V3 : List Int} {t t2 t3 : List Sl} {e e2 : Expr} {p pos ap : Pos} {R R2 : Rs} {ds : List D} {l : List Int} {n : Int}
theorem ev_next (F_law_next : FnI X.prog X.w X.K X.mg X.base ea 1 "_law_next" ["draws"] S_law_next) (hr : Room 1 X.A) (hd : EV X e (en ns V t) (.ptr 1) (en ns V t)) (hg : Gl X "_law_next" := by rfl)
    (he : starEach (e :: []) X.env = (false, eval e X.env) :: starEach [] X.env := by rfl) (hpl : (backTo pos (starEach [] X.env)).any (·.1) = false := by rfl) :
    EV X (.Call (.Name "_law_next" p) [e] [] pos) (en ns V t) (.val (.int (lastD V))) (en ns V.dropLast t) :=
  EV.is (ev_call F_law_next hr (ea_cons hd ea_nil rfl he) ⟨V, rfl, rfl⟩ rfl hg (by decide) he hpl) rfl (wb_draws rfl)
end
/-! a def whose first parameter is the draws -/
theorem wb_draws0 {a x : Sl} {t : Ev} {rs : List Rs} {ss : List Sl} (h : ptrs rs = []) : wb (a :: t) (.ptr 0 :: rs) (x :: ss) = repin a x :: t := by
  have nf : ∀ i, rs.findIdx? (isPtr i) = none := fun i => by
    refine List.findIdx?_eq_none_iff.mpr fun r hr => ?_
    cases r with
    | ptr j =>
      have : j ∈ ptrs rs := List.mem_filterMap.mpr ⟨_, hr, rfl⟩
      rw [h] at this
      cases this
    | val d => rfl
    | new d => rfl
    | obj d => rfl
  have key : ∀ i, (Rs.ptr 0 :: rs).findIdx? (isPtr i) = if (i == 0) = true then some 0 else none := fun i => by
    rw [List.findIdx?_cons, nf i]
    rfl
  unfold wb
  rw [List.length_cons, List.range_succ_eq_map, List.map_cons, List.map_map]
  have e := range_ge t
  have c1 : ∀ {x y : Sl} {u v : List Sl}, x = y → u = v → x :: u = y :: v := fun {x y u v} a b => by rw [a, b]
  refine c1 ?_ ?_
  · rw [key]
    rfl
  · refine Eq.trans (List.map_congr_left fun i _ => ?_) e
    · show (match (Rs.ptr 0 :: rs).findIdx? (isPtr (i + 1)) with
        | some k => repin (ge (a :: t) (i + 1)) (ge (x :: ss) k)
        | none => ge (a :: t) (i + 1)) = ge t i
      rw [key]
      have z : (i + 1 == 0) = false := by
        cases q : (i + 1 == 0) with
        | false => rfl
        | true =>
          have := beq_iff_eq.mp q
          omega
      rw [z]
      rfl
abbrev dn (q : Option Addr) (V : List Int) (t : List Sl) : Ev := .lst q (V.map .int) :: t
section
variable {X : Cx} {ea : Str → Addr} {q : Option Addr} {V V2 V3 : List Int} {t t2 t3 : List Sl} {e e2 : Expr} {p pos ap : Pos} {R R2 : Rs} {ds : List D} {l : List Int} {n : Int}
theorem ev_next0 (F_law_next : FnI X.prog X.w X.K X.mg X.base ea 1 "_law_next" ["draws"] S_law_next) (hr : Room 1 X.A) (hd : EV X e (dn q V t) (.ptr 0) (dn q V t)) (hg : Gl X "_law_next" := by rfl)
    (he : starEach (e :: []) X.env = (false, eval e X.env) :: starEach [] X.env := by rfl) (hpl : (backTo pos (starEach [] X.env)).any (·.1) = false := by rfl) :
    EV X (.Call (.Name "_law_next" p) [e] [] pos) (dn q V t) (.val (.int (lastD V))) (dn q V.dropLast t) :=
  EV.is (ev_call F_law_next hr (ea_cons hd ea_nil rfl he) ⟨V, rfl, rfl⟩ rfl hg (by decide) he hpl) rfl (wb_draws0 rfl)
end
structure Lk (X : Cx) (ea : Str → Addr) : Prop where
  B : Blt X.mg
  hr : Room 40 X.A
  hgu : X.A.guards = some []
  F_law_draws : FnI X.prog X.w X.K X.mg X.base ea 2 "_law_draws" ["script"] S_law_draws
  F_law_more : FnI X.prog X.w X.K X.mg X.base ea 2 "_law_more" ["draws", "many"] S_law_more
  F_law_next : FnI X.prog X.w X.K X.mg X.base ea 1 "_law_next" ["draws"] S_law_next
  F_law_fill : FnI X.prog X.w X.K X.mg X.base ea 3 "_law_fill" ["n", "one", "other"] S_law_fill
  F_law_period : FnI X.prog X.w X.K X.mg X.base ea 2 "_law_period" ["n", "some"] S_law_period
  F_law_good : FnI X.prog X.w X.K X.mg X.base ea 2 "_law_good" ["n"] S_law_good
  F_law_asked : FnI X.prog X.w X.K X.mg X.base ea 3 "_law_asked" ["way", "n"] S_law_asked
  F_is_good : FnI X.prog X.w X.K X.mg X.base ea 2 "is_good" ["n"] S_is_good
  F_is_plain : FnI X.prog X.w X.K X.mg X.base ea 7 "is_plain" ["n", "one", "other"] S_is_plain
abbrev s_law : Stmt := topS 42
abbrev NL : List Str := ["script", "draws", "n", "good", "one", "other", "bad", "way"]
theorem sc_law : FnScope NL ["script"] (defScope s_law) := ⟨rfl, rfl, rfl, by decide +kernel, rfl, by decide +kernel, by decide +kernel⟩
abbrev LX (P : Program) (w : World) (K : Pd.Frag) (mg : Str → Option Value) (base : Heap) (f : Addr) (cdv : Value) (s : Shared) (H : Hp) (E : XK) : Cx := lawX P w K mg base NL "law" s_law f cdv s H E
abbrev LA : List Stmt := match (defBody s_law).drop 2 with
  | .For _ _ b _ _ :: _ => b
  | _ => []
abbrev LC : List Stmt := match LA.drop 2 with
  | .If _ b _ _ :: _ => b
  | _ => []
theorem q_a0 {n : Int} (hn : 1 ≤ n ∧ n ≤ 400) : S_law_asked [.val (.int 0), .val (.int n)] (.rt (.val (.bool (goodF n))) [.un, .un]) := ⟨_, .w0 n, by unfold ringA; rw [if_pos (ring400 hn), good_same hn]; rfl⟩
theorem q_a1 {n : Int} (hn : 1 ≤ n ∧ n ≤ 400) {o : Option (List Int × List Int)} (h : plainF n = o) : S_law_asked [.val (.int 1), .val (.int n)] (.rt (.val (plD o)) [.un, .un]) := ⟨_, .w1 n, by unfold ringA; rw [if_pos (ring400 hn), h]; rfl⟩
theorem q_good {n : Int} (hn : 1 ≤ n ∧ n ≤ 400) : S_is_good [.val (.int n)] (.rt (.val (.bool (isNone (optT (partsF n))))) [.un]) := ⟨n, rfl, by unfold ringO; rw [if_pos (ring400 hn)]⟩
theorem q_plain {n : Int} {u v : List Int} (hn : 1 ≤ n ∧ n ≤ 400) (h : PlainC n u v) : S_is_plain [.val (.int n), .val (tupI u), .val (tupI v)] (.rt (.val (.bool true)) [.un, .un, .un]) := by
  refine ⟨n, u, v, rfl, ?_⟩
  have e : plainB n u v = true := by
    unfold plainB
    rw [til_fill hn.1 h.c.t, h.p1, h.p2, beq_self_eq_true]
    rfl
  unfold freeO
  rw [chk_in hn h.c.sa, chk_in hn h.c.sb, e]
theorem full_set {n : Int} {A : List Int} (h : SetR n A) (hl : (A.length : Int) = n) (x : Int) : x ∈ A ↔ 0 ≤ x ∧ x < n := by
  refine ⟨h.2 x, fun hx => ?_⟩
  by_cases q : x ∈ A
  · exact q
  · have := nodup_le (l := x :: A) (m := irange 0 n) (List.nodup_cons.mpr ⟨q, lt_nodup h.1⟩) (fun y hy => by
      rcases List.mem_cons.mp hy with rfl | z
      · exact mem_irange.mpr hx
      · exact mem_irange.mpr (h.2 y z))
    rw [irange_len, List.length_cons] at this
    omega
theorem not_full {n : Int} (hn : 2 ≤ n) {A : List Int} (h : SetR n A) (hp : periodOf n A = n) : (A.length : Int) ≠ n := fun hl => by
  have ht : SetR n (turnOf n A 1) := h.turn (by omega)
  have hl2 : ((turnOf n A 1).length : Int) = n := by
    unfold turnOf
    rw [isort_len, List.length_map]
    exact hl
  exact per_yes (by omega) hp (p := 1) (by omega) (by omega) (Int.emod_one n) (setR_ext ht h fun x => by rw [full_set ht hl2, full_set h hl])
theorem one_small {n : Int} (hn : 1 ≤ n ∧ n ≤ 400) {A : List Int} {b : Int} (h : SetR n A) (hp : periodOf n A = n) (hb : 0 ≤ b) (hc : (A.length : Int) * b = n) : A.length ≤ 300 := by
  rcases Nat.lt_or_ge 300 A.length with z | z
  · have hb1 : b = 1 := by
      rcases Int.lt_or_le 1 b with q | q
      · have : 301 * 2 ≤ (A.length : Int) * b := Int.mul_le_mul (by omega) (by omega) (by decide) (by omega)
        omega
      · rcases Int.lt_or_le b 1 with y | y
        · have : b = 0 := by omega
          rw [this, Int.mul_zero] at hc
          omega
        · omega
    rw [hb1, Int.mul_one] at hc
    exact absurd hc (not_full (by omega) h hp)
  · exact z
theorem plain_small {n : Int} (hn : 1 ≤ n ∧ n ≤ 400) {u v : List Int} (hP : PlainC n u v) : u.length ≤ 300 ∧ v.length ≤ 300 := by
  have hc := hP.c.t.card hn.1
  exact ⟨one_small hn hP.c.sa hP.p1 (by omega) hc, one_small hn hP.c.sb hP.p2 (b := u.length) (by omega) (by rw [Int.mul_comm]; exact hc)⟩
theorem bad_same : ((irange 1 145).filter fun a => decide (isNone (optT (partsF a)) = false)) = [72, 108, 120, 144] := by
  rw [← bad_all]
  congr 1
  funext a
  rw [parts_Q]
  cases isNone (optT (partsQ a)) <;> rfl
theorem told_a {k n : Int} (hk : 0 ≤ k ∧ k < 2) (hn : n ∈ [(0 : Int), -1, 401]) : S_law_asked [.val (.int k), .val (.int n)] (.rt (.val (.str "!number")) [.un, .un]) := by
  have h : ringB n = false := by
    simp only [List.mem_cons, List.not_mem_nil, or_false] at hn
    rcases hn with rfl | rfl | rfl <;> decide +kernel
  have e : ∀ a, ringA n a = .inl "BadNumber" := fun a => by
    unfold ringA
    rw [h]
    rfl
  have hk : k = 0 ∨ k = 1 := by omega
  rcases hk with rfl | rfl
  · exact ⟨_, .w0 n, by rw [e]; rfl⟩
  · exact ⟨_, .w1 n, by rw [e]; rfl⟩
def wrongL : List D := List.replicate 3 (.str "!number")
def toldL : List D := [.list wrongL, .list wrongL]
section
variable {P : Program} {w : World} {K : Pd.Frag} {mg : Str → Option Value} {base : Heap} {ea : Str → Addr}
variable {f : Addr} {fd : FuncData} {cdv : Value} {s : Shared} {H : Hp} {E : XK} {W : WX} {Post : Out → Prop} {n : Int} {ns V u v : List Int} {a2 a3 a4 a5 : Sl}
theorem law0 (κ : Lk (LX P w K mg base f cdv s H E) ea) (h63 : ns.length ≤ 63) (k : ES (LX P w K mg base f cdv s H E) ea W ((defBody s_law).drop 1) (en ns (drawsOf ns) (List.replicate 6 .un)) Post) : ES (LX P w K mg base f cdv s H E) ea W ((defBody s_law).drop 0) (.scr ns :: List.replicate 7 .un) Post :=
  es_set (env1 := .scr ns :: List.replicate 7 .un) 1 (EV.is (ev_call κ.F_law_draws (κ.hr.mono (by decide)) (ea_cons (ev_nm 0 rfl) ea_nil) ⟨ns, h63, rfl, rfl⟩) rfl rfl) k sc_law.nd
theorem law1 (κ : Lk (LX P w K mg base f cdv s H E) ea) (hV : V.length ≤ 100000) (k : ES (LX P w K mg base f cdv s H E) ea W ((defBody s_law).drop 2) (en ns (moreOf V 100) (List.replicate 6 .un)) Post) : ES (LX P w K mg base f cdv s H E) ea W ((defBody s_law).drop 1) (en ns V (List.replicate 6 .un)) Post :=
  es_set (env1 := .scr ns :: List.replicate 7 .un) 1 (EV.is (ev_call κ.F_law_more (κ.hr.mono (by decide)) (ea_cons (ev_ptr 1 rfl) (ea_cons ev_int ea_nil)) ⟨V, 100, hV, by decide, rfl, rfl⟩) rfl rfl) k sc_law.nd
theorem LC_1 (κ : Lk (LX P w K mg base f cdv s H E) ea) (hn : 1 ≤ n ∧ n ≤ 400) (hP : PlainC n u v) (k : ES (LX P w K mg base f cdv s H E) ea W (LC.drop 2) (en ns V [.val (.int n), .val (.bool (goodF n)), .val (tupI u), .val (tupI v), .un, .un]) Post) : ES (LX P w K mg base f cdv s H E) ea W (LC.drop 1) (en ns V [.val (.int n), .val (.bool (goodF n)), .val (tupI u), .val (tupI v), .un, .un]) Post := by
  have hc1 := hP.c.sa.card (by omega)
  have hc2 := hP.c.sb.card (by omega)
  have hcd := hP.c.t.card hn.1
  have hle : u.length ≤ 300 ∧ v.length ≤ 300 := plain_small hn hP
  exact es_if (env1 := en ns V [.val (.int n), .val (.bool (goodF n)), .val (tupI u), .val (tupI v), .un, .un]) (k := false) (ET.is (et_w (ew_or (et_not (et_val (EV.is (Ra := .val (.bool (decide (lsumO n u v = some (irange 0 n))))) (ev_callV κ.F_law_fill (κ.hr.mono (by decide)) (ea_cons (ev_var 2 rfl) (ea_cons (ev_var 4 rfl) (ea_cons (ev_var 5 rfl) ea_nil))) ⟨n, u, v, by omega, hle, rfl, rfl⟩) rfl rfl))) fun hq => (ew_or (et_lt (EV.is (Ra := .val (.int (periodOf n u))) (ev_callV κ.F_law_period (κ.hr.mono (by decide)) (ea_cons (ev_var 2 rfl) (ea_cons (ev_var 4 rfl) ea_nil)) ⟨n, u, hn, turn_nR hP.c.sa hn.1, rfl, rfl⟩) rfl rfl) (ev_var 2 rfl) rfl rfl) fun hq => (ew_or (et_lt (EV.is (Ra := .val (.int (periodOf n v))) (ev_callV κ.F_law_period (κ.hr.mono (by decide)) (ea_cons (ev_var 2 rfl) (ea_cons (ev_var 5 rfl) ea_nil)) ⟨n, v, hn, turn_nR hP.c.sb hn.1, rfl, rfl⟩) rfl rfl) (ev_var 2 rfl) rfl rfl) fun hq => (ew_or1 (et_notB (EV.is (Ra := .val (.bool true)) (ev_callV κ.F_is_plain (κ.hr.mono (by decide)) (ea_cons (ev_var 2 rfl) (ea_cons (ev_var 4 rfl) (ea_cons (ev_var 5 rfl) ea_nil))) (q_plain hn hP)) rfl rfl) ev_bool rfl rfl)))))) (by rw [lfill_same hn.1, til_fill hn.1 hP.c.t, hP.p1, hP.p2, decide_eq_false (Int.lt_irrefl n)]; rfl)) (fun z => nomatch z) (fun _ => es_nil k)
theorem LC_0 (κ : Lk (LX P w K mg base f cdv s H E) ea) (k1 : ES (LX P w K mg base f cdv s H E) ea W (LC.drop 1) (en ns V [.val (.int n), .val (.bool (goodF n)), .val (tupI u), .val (tupI v), .un, .un]) Post) (hn : 1 ≤ n ∧ n ≤ 400) (e : plainF n = some (u, v)) : ES (LX P w K mg base f cdv s H E) ea W (LC.drop 0) (en ns V [.val (.int n), .val (.bool (goodF n)), a4, a5, .un, .un]) Post := by
  exact es_asg (t := .tp [4, 5]) (env1 := en ns V [.val (.int n), .val (.bool (goodF n)), a4, a5, .un, .un]) (d := .tuple [tupI u, tupI v]) (EV.is (Ra := .val (.tuple [tupI u, tupI v])) (ev_callV κ.F_law_asked (κ.hr.mono (by decide)) (ea_cons ev_int (ea_cons (ev_var 2 rfl) ea_nil)) (q_a1 hn e)) rfl rfl) rfl (pg_tup rfl (pgs_cons (pg_name (i := 4) sc_law.nd rfl (by first | exact .inl rfl | exact .inr rfl)) (pgs_cons (pg_name (i := 5) sc_law.nd rfl (by first | exact .inl rfl | exact .inr rfl)) pgs_nil))) rfl k1
theorem LA_2 (κ : Lk (LX P w K mg base f cdv s H E) ea) (k1 : ∀ {a4 a5}, ES (LX P w K mg base f cdv s H E) ea W [] (en ns V [.val (.int n), .val (.bool (goodF n)), a4, a5, .un, .un]) Post) (hn : 1 ≤ n ∧ n ≤ 400) : ES (LX P w K mg base f cdv s H E) ea W (LA.drop 2) (en ns V [.val (.int n), .val (.bool (goodF n)), a4, a5, .un, .un]) Post := by
  rcases plain_all hn with ⟨hg, _⟩ | ⟨hg, u, v, e, hP⟩
  · exact es_if (env1 := en ns V [.val (.int n), .val (.bool (goodF n)), a4, a5, .un, .un]) (k := false) (ET.is (et_not (et_val (ev_var 3 rfl))) (by rw [hg]; rfl)) (fun z => nomatch z) (fun _ => es_nil k1)
  · exact es_if (env1 := en ns V [.val (.int n), .val (.bool (goodF n)), a4, a5, .un, .un]) (k := true) (ET.is (et_not (et_val (ev_var 3 rfl))) (by rw [hg]; rfl)) (fun _ => LC_0 κ (LC_1 κ hn hP (es_nil k1)) hn e) (fun z => nomatch z)
theorem LA_1 (κ : Lk (LX P w K mg base f cdv s H E) ea) (hn : 1 ≤ n ∧ n ≤ 400) (k : ES (LX P w K mg base f cdv s H E) ea W (LA.drop 2) (en ns V [.val (.int n), .val (.bool (goodF n)), a4, a5, .un, .un]) Post) : ES (LX P w K mg base f cdv s H E) ea W (LA.drop 1) (en ns V [.val (.int n), .val (.bool (goodF n)), a4, a5, .un, .un]) Post := by
  have hz : isNone (plD (plainF n)) = goodF n := by
    rcases plain_all hn with ⟨hg, e⟩ | ⟨hg, u, v, e, hP⟩
    · rw [e, hg]; rfl
    · rw [e, hg]; rfl
  exact es_if (env1 := en ns V [.val (.int n), .val (.bool (goodF n)), a4, a5, .un, .un]) (k := false) (et_w (ew_or (k1 := false) (k2 := false) (ET.is (et_neS (ev_reprA κ.B κ.hgu (hu80_of κ.hr) (EV.is (Ra := .val (.bool (goodF n))) (ev_callV κ.F_law_asked (κ.hr.mono (by decide)) (ea_cons ev_int (ea_cons (ev_var 2 rfl) ea_nil)) (q_a0 hn)) rfl rfl) rfl (Gd.bl (k := 1) (w := 40) _) (by decide) (by decide)) (ev_reprA κ.B κ.hgu (hu80_of κ.hr) (ev_var 3 rfl) rfl (Gd.bl (k := 1) (w := 40) _) (by decide) (by decide)) rfl rfl) (ne_selfS _)) fun _ => ew_or1 (ET.is (ct_ne (x := isNone (plD (plainF n))) (y := goodF n) ge_bool rfl (hu_of κ.hr) (ev_isN (EV.is (Ra := .val (plD (plainF n))) (ev_callV κ.F_law_asked (κ.hr.mono (by decide)) (ea_cons ev_int (ea_cons (ev_var 2 rfl) ea_nil)) (q_a1 hn rfl)) rfl rfl) rfl) (ev_var 3 rfl) rfl rfl) (by rw [hz]; simp)))) (fun z => nomatch z) (fun _ => es_nil k)
theorem LA_0 (κ : Lk (LX P w K mg base f cdv s H E) ea) (hn : 1 ≤ n ∧ n ≤ 400) (k : ES (LX P w K mg base f cdv s H E) ea W (LA.drop 1) (en ns V [.val (.int n), .val (.bool (goodF n)), a4, a5, .un, .un]) Post) : ES (LX P w K mg base f cdv s H E) ea W (LA.drop 0) (en ns V [.val (.int n), a3, a4, a5, .un, .un]) Post := by
  exact es_set (env1 := en ns V [.val (.int n), a3, a4, a5, .un, .un]) (R := .val (.bool (goodF n))) 3 (EV.is (Ra := .val (.bool (goodF n))) (ev_callV κ.F_law_good (κ.hr.mono (by decide)) (ea_cons (ev_var 2 rfl) ea_nil) ⟨n, hn, rfl, rfl⟩) rfl rfl) k sc_law.nd
theorem law2 (κ : Lk (LX P w K mg base f cdv s H E) ea) (hp : PassesOwn (model P w) (LX P w K mg base f cdv s H E).A (LX P w K mg base f cdv s H E).env (LX P w K mg base f cdv s H E).xe) (k1 : ∀ {V a2 a3 a4 a5}, ES (LX P w K mg base f cdv s H E) ea W ((defBody s_law).drop 3) (en ns V [a2, a3, a4, a5, .un, .un]) Post) : ES (LX P w K mg base f cdv s H E) ea W ((defBody s_law).drop 2) (en ns V (List.replicate 6 .un)) Post := by
  have h1 := mod_in (n := 400) (by decide) (lastD V + 1000 * lastD V.dropLast)
  have h2 := mod_in (n := 33) (by decide) (lastD V.dropLast.dropLast)
  have h3 := mod_in (n := 72) (by decide) (lastD V.dropLast.dropLast.dropLast)
  refine es_for (items := ([1 + (lastD V + 1000 * lastD V.dropLast) % 400, 12 * (1 + lastD V.dropLast.dropLast % 33), 1 + lastD V.dropLast.dropLast.dropLast % 72, 72, 71] : List Int).map .int) (env1 := en ns V.dropLast.dropLast.dropLast.dropLast (List.replicate 6 .un)) (.nm 2) (fun k e => ∃ a2 a3 a4 a5, e = en ns V.dropLast.dropLast.dropLast.dropLast [a2, a3, a4, a5, .un, .un]) (ei_list (ev_lstV (ea_cons (ev_addI ev_int (ev_mod (ev_toint κ.B (ev_addI (ev_next κ.F_law_next (κ.hr.mono (by decide)) (ev_ptr 1 rfl)) (ev_mul ev_int (ev_next κ.F_law_next (κ.hr.mono (by decide)) (ev_ptr 1 rfl)) rfl rfl (.inl (by decide))) rfl rfl) rfl) ev_int rfl rfl (by decide)) rfl rfl) (ea_cons (ev_mul ev_int (ev_addI ev_int (ev_mod (ev_toint κ.B (ev_next κ.F_law_next (κ.hr.mono (by decide)) (ev_ptr 1 rfl)) rfl) ev_int rfl rfl (by decide)) rfl rfl) rfl rfl (.inl (by decide))) (ea_cons (ev_addI ev_int (ev_mod (ev_toint κ.B (ev_next κ.F_law_next (κ.hr.mono (by decide)) (ev_ptr 1 rfl)) rfl) ev_int rfl rfl (by decide)) rfl rfl) (ea_cons ev_int (ea_cons ev_int ea_nil))))) rfl) rfl) (pg_name (i := 2) sc_law.nd rfl (by first | exact .inl rfl | exact .inr rfl)) ⟨_, _, _, _, rfl⟩ (fun i d e _ ⟨_, _, _, _, he⟩ => by subst he; exact (by decide : 2 < 8)) ?_ ?_ hp rfl
  · rintro k d e hk ⟨a2, a3, a4, a5, rfl⟩
    obtain ⟨n, hn, rfl⟩ := map_get hk
    have hn := List.mem_of_getElem? hn
    have hn : 1 ≤ n ∧ n ≤ 400 := by
      simp only [List.mem_cons, List.not_mem_nil, or_false] at hn
      omega
    exact LA_0 κ hn (LA_1 κ hn (LA_2 κ (fun {a4 a5} => es_nil ⟨_, _, _, _, rfl⟩) hn))
  · rintro e ⟨a2, a3, a4, a5, rfl⟩
    exact k1
theorem law3 (κ : Lk (LX P w K mg base f cdv s H E) ea)  (k : ES (LX P w K mg base f cdv s H E) ea W ((defBody s_law).drop 4) (en ns V [.un, a3, a4, a5, .val (.list ([72, 108, 120, 144].map PyData.int)), .un]) Post) : ES (LX P w K mg base f cdv s H E) ea W ((defBody s_law).drop 3) (en ns V [.un, a3, a4, a5, .un, .un]) Post := by
  rw [← bad_same] at k
  exact es_setLc1 (xs := irange 1 145) (g := PyData.int) (q := fun a => decide ((isNone (optT (partsF a))) = false)) (R := fun a => .val (.int a)) (f := PyData.int) 6 [("n", 2)] (.nm 2) rfl sc_law.nd (ev_rng2 κ.B ev_int ev_int (by omega)) (blkOk_by (N := NL) (sc := defScope s_law) (by decide +kernel)) (fun _ _ _ _ _ => (pg_name (i := 2) sc_law.nd rfl (by first | exact .inl rfl | exact .inr rfl))) (by rw [irange_len, sizeLine_eq]; decide) (fun a ha _ _ _ _ _ => (et_isB (EV.is (Ra := .val (.bool (isNone (optT (partsF a))))) (ev_callV κ.F_is_good (κ.hr.mono (by decide)) (ea_cons (ev_var 2 rfl) ea_nil) (q_good (by have := mem_irange.mp ha; omega))) rfl rfl) ev_bool rfl rfl)) (fun a ha hf _ _ _ _ _ => (ev_var 2 rfl)) (fun _ => rfl) (fun _ => rfl) (es_frz 6 rfl k)
theorem law4 (κ : Lk (LX P w K mg base f cdv s H E) ea)  (k : ES (LX P w K mg base f cdv s H E) ea W ((defBody s_law).drop 5) (en ns V [.un, a3, a4, a5, .val (.list ([72, 108, 120, 144].map PyData.int)), .un]) Post) : ES (LX P w K mg base f cdv s H E) ea W ((defBody s_law).drop 4) (en ns V [.un, a3, a4, a5, .val (.list ([72, 108, 120, 144].map PyData.int)), .un]) Post := by
  exact es_if (env1 := en ns V [.un, a3, a4, a5, .val (.list ([72, 108, 120, 144].map PyData.int)), .un]) (k := false) (ET.is (ct_ne (x := [72, 108, 120, 144]) (y := [72, 108, 120, 144]) ge_lstI rfl (hu_of κ.hr) (ev_var 6 rfl) (ev_lstV (ea_cons ev_int (ea_cons ev_int (ea_cons ev_int (ea_cons ev_int ea_nil)))) rfl) rfl rfl) rfl) (fun z => nomatch z) (fun _ => es_nil k)
theorem law5 (κ : Lk (LX P w K mg base f cdv s H E) ea) (k : ∀ e, Post (.rt (.val (.bool true)) e)) : ES (LX P w K mg base f cdv s H E) ea W ((defBody s_law).drop 5) (en ns V [.un, a3, a4, a5, .val (.list ([72, 108, 120, 144].map PyData.int)), .un]) Post := by
  have s6 : SeqAt.shaped (.list toldL) = true := by decide +kernel
  have e6 : PyData.eqv (.list toldL) (.list toldL) = true := by decide +kernel
  have r1 : EV (LX P w K mg base f cdv s H E) (match (defBody s_law).drop 5 with | .Return (some (.Compare _ _ (e :: _) _)) _ :: _ => e | _ => .Name "" ⟨0, 0, 0, 0⟩) (en ns V [.un, a3, a4, a5, .val (.list ([72, 108, 120, 144].map PyData.int)), .un]) (.new (.lst none toldL)) (en ns V [.un, a3, a4, a5, .val (.list ([72, 108, 120, 144].map PyData.int)), .un]) := by
    exact EV.is (Ra := .new (.lst none toldL)) (ev_rep (xs := [.list wrongL]) (j := 2) (ev_lst (ea_cons (EV.is (Ra := .new (.lst none wrongL)) (ev_rep (xs := [.str "!number"]) (j := 3) (ev_lst (ea_cons ev_str ea_nil) rfl) ev_int rfl rfl (by decide) (by show 1 * 3 ≤ sizeLine; decide)) rfl rfl) ea_nil) rfl) ev_int rfl rfl (by decide) (by show 1 * 2 ≤ sizeLine; decide)) rfl rfl
  exact es_ret (EV.is (Ra := .val (.bool true)) (ev_eq (x := .list toldL) (y := .list toldL) (hu_of κ.hr) (EV.is (Ra := .new (.lst none toldL)) (cv_lc0 (xs := irange 0 2) (g := PyData.int) (R := fun a => .new (.lst none (([0, -1, 401].map fun b => ("!number" : Str)).map PyData.str))) (h := fun a => [0, -1, 401].map fun b => ("!number" : Str)) (g2 := (lisG PyData.str)) [("way", 7)] (.nm 7) rfl sc_law.nd (ev_rng1 κ.B ev_int (by omega)) (blkOk_by (N := NL) (sc := defScope s_law) (by decide +kernel)) (fun _ _ _ _ _ => (pg_name (i := 7) sc_law.nd rfl (by first | exact .inl rfl | exact .inr rfl))) (by rw [sizeLine_eq]; first | omega | (simp only [List.length_map, irange_len, List.length_append, List.length_cons, List.length_nil, List.length_zip, List.length_replicate, isort_len]; omega)) (fun a ha _ _ _ _ _ => (cv_lc0 (xs := [0, -1, 401]) (g := PyData.int) (R := fun b => .val (.str ("!number"))) (h := fun b => ("!number" : Str)) (g2 := PyData.str) [("n", 2)] (.nm 2) rfl sc_law.nd (ei_list (ev_lstV (ea_cons ev_int (ea_cons (ev_neg ev_int rfl) (ea_cons ev_int ea_nil))) rfl) rfl) (blkOk_by (N := NL) (by rfl)) (fun _ _ _ _ _ => (pg_name (i := 2) sc_law.nd rfl (by first | exact .inl rfl | exact .inr rfl))) (by have := mem_irange.mp ha; rw [sizeLine_eq]; first | omega | (simp only [List.length_map, irange_len, List.length_append, List.length_cons, List.length_nil, List.length_zip, List.length_replicate, isort_len]; omega)) (fun b hb _ _ _ _ _ => (EV.is (Ra := .val (.str ("!number"))) (ev_callV κ.F_law_asked (κ.hr.mono (by decide)) (ea_cons (ev_var 7 rfl) (ea_cons (ev_var 2 rfl) ea_nil)) (told_a (mem_irange.mp ha) hb)) rfl rfl)) (fun _ => rfl) (fun _ => rfl))) (fun _ => rfl) (fun _ => rfl)) rfl rfl) r1 rfl rfl s6 s6) (congrArg (fun b => Rs.val (.bool b)) e6) rfl) (k _)
end
theorem ok_law {P : Program} {w : World} {K : Pd.Frag} {mg : Str → Option Value} {base : Heap} {ea : Str → Addr} {f : Addr} {fd : FuncData} (B : Blt mg) (F_law_draws : FnI P w K mg base ea 2 "_law_draws" ["script"] S_law_draws) (F_law_more : FnI P w K mg base ea 2 "_law_more" ["draws", "many"] S_law_more) (F_law_next : FnI P w K mg base ea 1 "_law_next" ["draws"] S_law_next) (F_law_fill : FnI P w K mg base ea 3 "_law_fill" ["n", "one", "other"] S_law_fill) (F_law_period : FnI P w K mg base ea 2 "_law_period" ["n", "some"] S_law_period) (F_law_good : FnI P w K mg base ea 2 "_law_good" ["n"] S_law_good) (F_law_asked : FnI P w K mg base ea 3 "_law_asked" ["way", "n"] S_law_asked) (F_is_good : FnI P w K mg base ea 2 "is_good" ["n"] S_is_good) (F_is_plain : FnI P w K mg base ea 7 "is_plain" ["n", "one", "other"] S_is_plain) (Fn : Fun K "law" "law" s_law f fd) : FnC P w K mg base f fd ["script"] (spLaw K) := by
  refine lawD (m := 7) (ea := ea) Fn sc_law rfl (fun cdv s H E hr tk hp hgu ns h63 => ?_)
  have κ : Lk (LX P w K mg base f cdv s H E) ea := ⟨B, hr, hgu, F_law_draws, F_law_more, F_law_next, F_law_fill, F_law_period, F_law_good, F_law_asked, F_is_good, F_is_plain⟩
  refine law0 κ h63 (law1 κ (by have := drawsOf_len ns; omega) ?_)
  generalize moreOf (drawsOf ns) 100 = V
  exact law2 κ hp fun {V a2 a3 a4 a5} => es_un 2 (law3 κ (law4 κ (law5 κ fun e => ⟨e, rfl⟩)))
end My
set_option Elab.async false
set_option linter.all false
set_option maxRecDepth 100000
set_option maxHeartbeats 1000000
namespace My
open PySem PySem.Spec PyProof.Rows L2 Pd
theorem bd_is_ascending : BindsFn "is_ascending" s_is_ascending ["some"] := fun _ _ _ _ _ _ us hl => match us, hl with | [_], _ => rfl
theorem bd_check_ring : BindsFn "check_ring" s_check_ring ["n"] := fun _ _ _ _ _ _ us hl => match us, hl with | [_], _ => rfl
theorem bd_is_of : BindsFn "is_of" s_is_of ["n", "some"] := fun _ _ _ _ _ _ us hl => match us, hl with | [_, _], _ => rfl
theorem bd_is_set : BindsFn "is_set" s_is_set ["n", "some"] := fun _ _ _ _ _ _ us hl => match us, hl with | [_, _], _ => rfl
theorem bd_check_set : BindsFn "check_set" s_check_set ["n", "some"] := fun _ _ _ _ _ _ us hl => match us, hl with | [_, _], _ => rfl
theorem bd_turn_of : BindsFn "turn_of" s_turn_of ["n", "some", "t"] := fun _ _ _ _ _ _ us hl => match us, hl with | [_, _, _], _ => rfl
theorem bd_period_of : BindsFn "period_of" s_period_of ["n", "some"] := fun _ _ _ _ _ _ us hl => match us, hl with | [_, _], _ => rfl
theorem bd_sum_of : BindsFn "sum_of" s_sum_of ["n", "one", "other"] := fun _ _ _ _ _ _ us hl => match us, hl with | [_, _, _], _ => rfl
theorem bd_free_sum : BindsFn "free_sum" s_free_sum ["n", "one", "other"] := fun _ _ _ _ _ _ us hl => match us, hl with | [_, _, _], _ => rfl
theorem bd_fills : BindsFn "fills" s_fills ["n", "one", "other"] := fun _ _ _ _ _ _ us hl => match us, hl with | [_, _, _], _ => rfl
theorem bd_is_plain : BindsFn "is_plain" s_is_plain ["n", "one", "other"] := fun _ _ _ _ _ _ us hl => match us, hl with | [_, _, _], _ => rfl
theorem bd_parts_of : BindsFn "parts_of" s_parts_of ["n"] := fun _ _ _ _ _ _ us hl => match us, hl with | [_], _ => rfl
theorem bd_is_good : BindsFn "is_good" s_is_good ["n"] := fun _ _ _ _ _ _ us hl => match us, hl with | [_], _ => rfl
theorem bd_both_rests : BindsFn "both_rests" s_both_rests ["one", "other", "x", "y"] := fun _ _ _ _ _ _ us hl => match us, hl with | [_, _, _, _], _ => rfl
theorem bd_plain_canon : BindsFn "plain_canon" s_plain_canon ["n"] := fun _ _ _ _ _ _ us hl => match us, hl with | [_], _ => rfl
theorem bd_law_number : BindsFn "_law_number" s_law_number ["cell"] := fun _ _ _ _ _ _ us hl => match us, hl with | [_], _ => rfl
theorem bd_law_draws : BindsFn "_law_draws" s_law_draws ["script"] := fun _ _ _ _ _ _ us hl => match us, hl with | [_], _ => rfl
theorem bd_law_flat : BindsFn "_law_flat" s_law_flat ["rows"] := fun _ _ _ _ _ _ us hl => match us, hl with | [_], _ => rfl
theorem bd_law_next : BindsFn "_law_next" s_law_next ["draws"] := fun _ _ _ _ _ _ us hl => match us, hl with | [_], _ => rfl
theorem bd_law_more : BindsFn "_law_more" s_law_more ["draws", "many"] := fun _ _ _ _ _ _ us hl => match us, hl with | [_, _], _ => rfl
theorem bd_law_kind : BindsFn "_law_kind" s_law_kind ["error"] := fun _ _ _ _ _ _ us hl => match us, hl with | [_], _ => rfl
theorem bd_law_turn : BindsFn "_law_turn" s_law_turn ["n", "some", "t"] := fun _ _ _ _ _ _ us hl => match us, hl with | [_, _, _], _ => rfl
theorem bd_law_sum : BindsFn "_law_sum" s_law_sum ["n", "one", "other"] := fun _ _ _ _ _ _ us hl => match us, hl with | [_, _, _], _ => rfl
theorem bd_law_fill : BindsFn "_law_fill" s_law_fill ["n", "one", "other"] := fun _ _ _ _ _ _ us hl => match us, hl with | [_, _, _], _ => rfl
theorem bd_law_period : BindsFn "_law_period" s_law_period ["n", "some"] := fun _ _ _ _ _ _ us hl => match us, hl with | [_, _], _ => rfl
theorem bd_law_shape : BindsFn "_law_shape" s_law_shape ["n"] := fun _ _ _ _ _ _ us hl => match us, hl with | [_], _ => rfl
theorem bd_law_good : BindsFn "_law_good" s_law_good ["n"] := fun _ _ _ _ _ _ us hl => match us, hl with | [_], _ => rfl
theorem bd_law_asked : BindsFn "_law_asked" s_law_asked ["way", "n"] := fun _ _ _ _ _ _ us hl => match us, hl with | [_, _], _ => rfl
theorem bd_law : BindsFn "law" s_law ["script"] := fun _ _ _ _ _ _ us hl => match us, hl with | [_], _ => rfl
structure Facts (K : Pd.Frag) : Prop where
  f_is_ascending : FunAt K "is_ascending" s_is_ascending
  f_check_ring : FunAt K "check_ring" s_check_ring
  f_is_of : FunAt K "is_of" s_is_of
  f_is_set : FunAt K "is_set" s_is_set
  f_check_set : FunAt K "check_set" s_check_set
  f_turn_of : FunAt K "turn_of" s_turn_of
  f_period_of : FunAt K "period_of" s_period_of
  f_sum_of : FunAt K "sum_of" s_sum_of
  f_free_sum : FunAt K "free_sum" s_free_sum
  f_fills : FunAt K "fills" s_fills
  f_is_plain : FunAt K "is_plain" s_is_plain
  f_parts_of : FunAt K "parts_of" s_parts_of
  f_is_good : FunAt K "is_good" s_is_good
  f_both_rests : FunAt K "both_rests" s_both_rests
  f_plain_canon : FunAt K "plain_canon" s_plain_canon
  f_law_number : FunAt K "_law_number" s_law_number
  f_law_draws : FunAt K "_law_draws" s_law_draws
  f_law_flat : FunAt K "_law_flat" s_law_flat
  f_law_next : FunAt K "_law_next" s_law_next
  f_law_more : FunAt K "_law_more" s_law_more
  f_law_kind : FunAt K "_law_kind" s_law_kind
  f_law_turn : FunAt K "_law_turn" s_law_turn
  f_law_sum : FunAt K "_law_sum" s_law_sum
  f_law_fill : FunAt K "_law_fill" s_law_fill
  f_law_period : FunAt K "_law_period" s_law_period
  f_law_shape : FunAt K "_law_shape" s_law_shape
  f_law_good : FunAt K "_law_good" s_law_good
  f_law_asked : FunAt K "_law_asked" s_law_asked
  f_law : FunAt K "law" s_law
  bl : BltAt K
  c_MOST_BEATS : ∃ t, PySem.W.nsIn K mainGlobals "MOST_BEATS" = some (some (.int 400 t))
  gcd : PySem.W.nsIn K mainGlobals "gcd" = some (some (.builtin "math.gcd"))
theorem constS_of {K : Pd.Frag} {x v : Str} {t : Tok} (e : PySem.W.nsIn K mainGlobals x = some (some (.str v t))) : ∃ t, PySem.W.nsIn K mainGlobals x = some (some (.str v t)) := ⟨t, e⟩
theorem const_of {K : Pd.Frag} {x : Str} {v : Int} {t : Tok} (e : PySem.W.nsIn K mainGlobals x = some (some (.int v t))) : ∃ t, PySem.W.nsIn K mainGlobals x = some (some (.int v t)) := ⟨t, e⟩
structure ErrsAt (K : Pd.Frag) (C1 C2 C3 C4 C5 C6 C7 C8 : Addr) : Prop where
  a1 : PySem.W.nsIn K mainGlobals "NotRhythm" = some (some (.ref C1))
  a2 : PySem.W.nsIn K mainGlobals "NotChoir" = some (some (.ref C2))
  a3 : PySem.W.nsIn K mainGlobals "NotSet" = some (some (.ref C3))
  a4 : PySem.W.nsIn K mainGlobals "NotPaper" = some (some (.ref C4))
  a5 : PySem.W.nsIn K mainGlobals "BadNumber" = some (some (.ref C5))
  a6 : PySem.W.nsIn K mainGlobals "NoAnswer" = some (some (.ref C6))
  a7 : PySem.W.nsIn K mainGlobals "TooLarge" = some (some (.ref C7))
  a8 : PySem.W.nsIn K mainGlobals "BeatError" = some (some (.ref C8))
  t1 : PySem.W.typeIn K (.ref C1) = some (.type "type")
  d1 : PySem.W.hasDictIn K C1 = true
  t2 : PySem.W.typeIn K (.ref C2) = some (.type "type")
  d2 : PySem.W.hasDictIn K C2 = true
  t3 : PySem.W.typeIn K (.ref C3) = some (.type "type")
  d3 : PySem.W.hasDictIn K C3 = true
  t4 : PySem.W.typeIn K (.ref C4) = some (.type "type")
  d4 : PySem.W.hasDictIn K C4 = true
  t5 : PySem.W.typeIn K (.ref C5) = some (.type "type")
  d5 : PySem.W.hasDictIn K C5 = true
  t6 : PySem.W.typeIn K (.ref C6) = some (.type "type")
  d6 : PySem.W.hasDictIn K C6 = true
  t7 : PySem.W.typeIn K (.ref C7) = some (.type "type")
  d7 : PySem.W.hasDictIn K C7 = true
  t8 : PySem.W.typeIn K (.ref C8) = some (.type "type")
  d8 : PySem.W.hasDictIn K C8 = true
  s12 : PySem.W.subIn K (.ref C1) (.ref C2) = some false
  n12 : (Value.ref C1 == Value.ref C2) = false
  s13 : PySem.W.subIn K (.ref C1) (.ref C3) = some false
  n13 : (Value.ref C1 == Value.ref C3) = false
  s14 : PySem.W.subIn K (.ref C1) (.ref C4) = some false
  n14 : (Value.ref C1 == Value.ref C4) = false
  s15 : PySem.W.subIn K (.ref C1) (.ref C5) = some false
  n15 : (Value.ref C1 == Value.ref C5) = false
  s16 : PySem.W.subIn K (.ref C1) (.ref C6) = some false
  n16 : (Value.ref C1 == Value.ref C6) = false
  s17 : PySem.W.subIn K (.ref C1) (.ref C7) = some false
  n17 : (Value.ref C1 == Value.ref C7) = false
  s18 : PySem.W.subIn K (.ref C1) (.ref C8) = some true
  n18 : (Value.ref C1 == Value.ref C8) = false
  s21 : PySem.W.subIn K (.ref C2) (.ref C1) = some false
  n21 : (Value.ref C2 == Value.ref C1) = false
  s23 : PySem.W.subIn K (.ref C2) (.ref C3) = some false
  n23 : (Value.ref C2 == Value.ref C3) = false
  s24 : PySem.W.subIn K (.ref C2) (.ref C4) = some false
  n24 : (Value.ref C2 == Value.ref C4) = false
  s25 : PySem.W.subIn K (.ref C2) (.ref C5) = some false
  n25 : (Value.ref C2 == Value.ref C5) = false
  s26 : PySem.W.subIn K (.ref C2) (.ref C6) = some false
  n26 : (Value.ref C2 == Value.ref C6) = false
  s27 : PySem.W.subIn K (.ref C2) (.ref C7) = some false
  n27 : (Value.ref C2 == Value.ref C7) = false
  s28 : PySem.W.subIn K (.ref C2) (.ref C8) = some true
  n28 : (Value.ref C2 == Value.ref C8) = false
  s31 : PySem.W.subIn K (.ref C3) (.ref C1) = some false
  n31 : (Value.ref C3 == Value.ref C1) = false
  s32 : PySem.W.subIn K (.ref C3) (.ref C2) = some false
  n32 : (Value.ref C3 == Value.ref C2) = false
  s34 : PySem.W.subIn K (.ref C3) (.ref C4) = some false
  n34 : (Value.ref C3 == Value.ref C4) = false
  s35 : PySem.W.subIn K (.ref C3) (.ref C5) = some false
  n35 : (Value.ref C3 == Value.ref C5) = false
  s36 : PySem.W.subIn K (.ref C3) (.ref C6) = some false
  n36 : (Value.ref C3 == Value.ref C6) = false
  s37 : PySem.W.subIn K (.ref C3) (.ref C7) = some false
  n37 : (Value.ref C3 == Value.ref C7) = false
  s38 : PySem.W.subIn K (.ref C3) (.ref C8) = some true
  n38 : (Value.ref C3 == Value.ref C8) = false
  s41 : PySem.W.subIn K (.ref C4) (.ref C1) = some false
  n41 : (Value.ref C4 == Value.ref C1) = false
  s42 : PySem.W.subIn K (.ref C4) (.ref C2) = some false
  n42 : (Value.ref C4 == Value.ref C2) = false
  s43 : PySem.W.subIn K (.ref C4) (.ref C3) = some false
  n43 : (Value.ref C4 == Value.ref C3) = false
  s45 : PySem.W.subIn K (.ref C4) (.ref C5) = some false
  n45 : (Value.ref C4 == Value.ref C5) = false
  s46 : PySem.W.subIn K (.ref C4) (.ref C6) = some false
  n46 : (Value.ref C4 == Value.ref C6) = false
  s47 : PySem.W.subIn K (.ref C4) (.ref C7) = some false
  n47 : (Value.ref C4 == Value.ref C7) = false
  s48 : PySem.W.subIn K (.ref C4) (.ref C8) = some true
  n48 : (Value.ref C4 == Value.ref C8) = false
  s51 : PySem.W.subIn K (.ref C5) (.ref C1) = some false
  n51 : (Value.ref C5 == Value.ref C1) = false
  s52 : PySem.W.subIn K (.ref C5) (.ref C2) = some false
  n52 : (Value.ref C5 == Value.ref C2) = false
  s53 : PySem.W.subIn K (.ref C5) (.ref C3) = some false
  n53 : (Value.ref C5 == Value.ref C3) = false
  s54 : PySem.W.subIn K (.ref C5) (.ref C4) = some false
  n54 : (Value.ref C5 == Value.ref C4) = false
  s56 : PySem.W.subIn K (.ref C5) (.ref C6) = some false
  n56 : (Value.ref C5 == Value.ref C6) = false
  s57 : PySem.W.subIn K (.ref C5) (.ref C7) = some false
  n57 : (Value.ref C5 == Value.ref C7) = false
  s58 : PySem.W.subIn K (.ref C5) (.ref C8) = some true
  n58 : (Value.ref C5 == Value.ref C8) = false
  s61 : PySem.W.subIn K (.ref C6) (.ref C1) = some false
  n61 : (Value.ref C6 == Value.ref C1) = false
  s62 : PySem.W.subIn K (.ref C6) (.ref C2) = some false
  n62 : (Value.ref C6 == Value.ref C2) = false
  s63 : PySem.W.subIn K (.ref C6) (.ref C3) = some false
  n63 : (Value.ref C6 == Value.ref C3) = false
  s64 : PySem.W.subIn K (.ref C6) (.ref C4) = some false
  n64 : (Value.ref C6 == Value.ref C4) = false
  s65 : PySem.W.subIn K (.ref C6) (.ref C5) = some false
  n65 : (Value.ref C6 == Value.ref C5) = false
  s67 : PySem.W.subIn K (.ref C6) (.ref C7) = some false
  n67 : (Value.ref C6 == Value.ref C7) = false
  s68 : PySem.W.subIn K (.ref C6) (.ref C8) = some true
  n68 : (Value.ref C6 == Value.ref C8) = false
  s71 : PySem.W.subIn K (.ref C7) (.ref C1) = some false
  n71 : (Value.ref C7 == Value.ref C1) = false
  s72 : PySem.W.subIn K (.ref C7) (.ref C2) = some false
  n72 : (Value.ref C7 == Value.ref C2) = false
  s73 : PySem.W.subIn K (.ref C7) (.ref C3) = some false
  n73 : (Value.ref C7 == Value.ref C3) = false
  s74 : PySem.W.subIn K (.ref C7) (.ref C4) = some false
  n74 : (Value.ref C7 == Value.ref C4) = false
  s75 : PySem.W.subIn K (.ref C7) (.ref C5) = some false
  n75 : (Value.ref C7 == Value.ref C5) = false
  s76 : PySem.W.subIn K (.ref C7) (.ref C6) = some false
  n76 : (Value.ref C7 == Value.ref C6) = false
  s78 : PySem.W.subIn K (.ref C7) (.ref C8) = some true
  n78 : (Value.ref C7 == Value.ref C8) = false
  x8 : PySem.W.subIn K (.ref C8) (.type "BaseException") = some true
  r1 : RaiseAt K C1
  r2 : RaiseAt K C2
  r3 : RaiseAt K C3
  r4 : RaiseAt K C4
  r5 : RaiseAt K C5
  r6 : RaiseAt K C6
  r7 : RaiseAt K C7
section
variable {P : Program} {w : World} {K : Pd.Frag} {h : Heap} {mg : Str → Option Value} {C1 C2 C3 C4 C5 C6 C7 C8 : Addr}
theorem errs_of (X : K.In h) (G : h.Ns mainGlobals mg) (R : ErrsAt K C1 C2 C3 C4 C5 C6 C7 C8) : Errs K mg (eaOf mg) := by
  have g1 := PySem.W.mg_of X G R.a1
  have e1 := eaOf_is g1
  have g2 := PySem.W.mg_of X G R.a2
  have e2 := eaOf_is g2
  have g3 := PySem.W.mg_of X G R.a3
  have e3 := eaOf_is g3
  have g4 := PySem.W.mg_of X G R.a4
  have e4 := eaOf_is g4
  have g5 := PySem.W.mg_of X G R.a5
  have e5 := eaOf_is g5
  have g6 := PySem.W.mg_of X G R.a6
  have e6 := eaOf_is g6
  have g7 := PySem.W.mg_of X G R.a7
  have e7 := eaOf_is g7
  have g8 := PySem.W.mg_of X G R.a8
  have e8 := eaOf_is g8
  have k1 : ErrK K (eaOf mg) "NotRhythm" [("NotRhythm", true), ("NotChoir", false), ("NotSet", false), ("NotPaper", false), ("BadNumber", false), ("NoAnswer", false), ("TooLarge", false)] := by
    refine ⟨by rw [e1]; exact R.r1.exc, fun q hq => ?_, by rw [e1, e8]; exact PySem.W.exm_ref R.x8 R.d8 R.t8 R.s18, by rw [e1, e8]; exact kit_of R.n18 R.d8 R.t8 R.s18⟩
    simp only [List.mem_cons, List.not_mem_nil, or_false] at hq
    rcases hq with e | e | e | e | e | e | e <;> subst e
    · exact kit_self
    · show PySem.W.kitOne K (.ref (eaOf mg "NotRhythm")) (.ref (eaOf mg "NotChoir")) = some false
      rw [e1, e2]
      exact kit_of R.n12 R.d2 R.t2 R.s12
    · show PySem.W.kitOne K (.ref (eaOf mg "NotRhythm")) (.ref (eaOf mg "NotSet")) = some false
      rw [e1, e3]
      exact kit_of R.n13 R.d3 R.t3 R.s13
    · show PySem.W.kitOne K (.ref (eaOf mg "NotRhythm")) (.ref (eaOf mg "NotPaper")) = some false
      rw [e1, e4]
      exact kit_of R.n14 R.d4 R.t4 R.s14
    · show PySem.W.kitOne K (.ref (eaOf mg "NotRhythm")) (.ref (eaOf mg "BadNumber")) = some false
      rw [e1, e5]
      exact kit_of R.n15 R.d5 R.t5 R.s15
    · show PySem.W.kitOne K (.ref (eaOf mg "NotRhythm")) (.ref (eaOf mg "NoAnswer")) = some false
      rw [e1, e6]
      exact kit_of R.n16 R.d6 R.t6 R.s16
    · show PySem.W.kitOne K (.ref (eaOf mg "NotRhythm")) (.ref (eaOf mg "TooLarge")) = some false
      rw [e1, e7]
      exact kit_of R.n17 R.d7 R.t7 R.s17
  have k2 : ErrK K (eaOf mg) "NotChoir" [("NotRhythm", false), ("NotChoir", true), ("NotSet", false), ("NotPaper", false), ("BadNumber", false), ("NoAnswer", false), ("TooLarge", false)] := by
    refine ⟨by rw [e2]; exact R.r2.exc, fun q hq => ?_, by rw [e2, e8]; exact PySem.W.exm_ref R.x8 R.d8 R.t8 R.s28, by rw [e2, e8]; exact kit_of R.n28 R.d8 R.t8 R.s28⟩
    simp only [List.mem_cons, List.not_mem_nil, or_false] at hq
    rcases hq with e | e | e | e | e | e | e <;> subst e
    · show PySem.W.kitOne K (.ref (eaOf mg "NotChoir")) (.ref (eaOf mg "NotRhythm")) = some false
      rw [e2, e1]
      exact kit_of R.n21 R.d1 R.t1 R.s21
    · exact kit_self
    · show PySem.W.kitOne K (.ref (eaOf mg "NotChoir")) (.ref (eaOf mg "NotSet")) = some false
      rw [e2, e3]
      exact kit_of R.n23 R.d3 R.t3 R.s23
    · show PySem.W.kitOne K (.ref (eaOf mg "NotChoir")) (.ref (eaOf mg "NotPaper")) = some false
      rw [e2, e4]
      exact kit_of R.n24 R.d4 R.t4 R.s24
    · show PySem.W.kitOne K (.ref (eaOf mg "NotChoir")) (.ref (eaOf mg "BadNumber")) = some false
      rw [e2, e5]
      exact kit_of R.n25 R.d5 R.t5 R.s25
    · show PySem.W.kitOne K (.ref (eaOf mg "NotChoir")) (.ref (eaOf mg "NoAnswer")) = some false
      rw [e2, e6]
      exact kit_of R.n26 R.d6 R.t6 R.s26
    · show PySem.W.kitOne K (.ref (eaOf mg "NotChoir")) (.ref (eaOf mg "TooLarge")) = some false
      rw [e2, e7]
      exact kit_of R.n27 R.d7 R.t7 R.s27
  have k3 : ErrK K (eaOf mg) "NotSet" [("NotRhythm", false), ("NotChoir", false), ("NotSet", true), ("NotPaper", false), ("BadNumber", false), ("NoAnswer", false), ("TooLarge", false)] := by
    refine ⟨by rw [e3]; exact R.r3.exc, fun q hq => ?_, by rw [e3, e8]; exact PySem.W.exm_ref R.x8 R.d8 R.t8 R.s38, by rw [e3, e8]; exact kit_of R.n38 R.d8 R.t8 R.s38⟩
    simp only [List.mem_cons, List.not_mem_nil, or_false] at hq
    rcases hq with e | e | e | e | e | e | e <;> subst e
    · show PySem.W.kitOne K (.ref (eaOf mg "NotSet")) (.ref (eaOf mg "NotRhythm")) = some false
      rw [e3, e1]
      exact kit_of R.n31 R.d1 R.t1 R.s31
    · show PySem.W.kitOne K (.ref (eaOf mg "NotSet")) (.ref (eaOf mg "NotChoir")) = some false
      rw [e3, e2]
      exact kit_of R.n32 R.d2 R.t2 R.s32
    · exact kit_self
    · show PySem.W.kitOne K (.ref (eaOf mg "NotSet")) (.ref (eaOf mg "NotPaper")) = some false
      rw [e3, e4]
      exact kit_of R.n34 R.d4 R.t4 R.s34
    · show PySem.W.kitOne K (.ref (eaOf mg "NotSet")) (.ref (eaOf mg "BadNumber")) = some false
      rw [e3, e5]
      exact kit_of R.n35 R.d5 R.t5 R.s35
    · show PySem.W.kitOne K (.ref (eaOf mg "NotSet")) (.ref (eaOf mg "NoAnswer")) = some false
      rw [e3, e6]
      exact kit_of R.n36 R.d6 R.t6 R.s36
    · show PySem.W.kitOne K (.ref (eaOf mg "NotSet")) (.ref (eaOf mg "TooLarge")) = some false
      rw [e3, e7]
      exact kit_of R.n37 R.d7 R.t7 R.s37
  have k4 : ErrK K (eaOf mg) "NotPaper" [("NotRhythm", false), ("NotChoir", false), ("NotSet", false), ("NotPaper", true), ("BadNumber", false), ("NoAnswer", false), ("TooLarge", false)] := by
    refine ⟨by rw [e4]; exact R.r4.exc, fun q hq => ?_, by rw [e4, e8]; exact PySem.W.exm_ref R.x8 R.d8 R.t8 R.s48, by rw [e4, e8]; exact kit_of R.n48 R.d8 R.t8 R.s48⟩
    simp only [List.mem_cons, List.not_mem_nil, or_false] at hq
    rcases hq with e | e | e | e | e | e | e <;> subst e
    · show PySem.W.kitOne K (.ref (eaOf mg "NotPaper")) (.ref (eaOf mg "NotRhythm")) = some false
      rw [e4, e1]
      exact kit_of R.n41 R.d1 R.t1 R.s41
    · show PySem.W.kitOne K (.ref (eaOf mg "NotPaper")) (.ref (eaOf mg "NotChoir")) = some false
      rw [e4, e2]
      exact kit_of R.n42 R.d2 R.t2 R.s42
    · show PySem.W.kitOne K (.ref (eaOf mg "NotPaper")) (.ref (eaOf mg "NotSet")) = some false
      rw [e4, e3]
      exact kit_of R.n43 R.d3 R.t3 R.s43
    · exact kit_self
    · show PySem.W.kitOne K (.ref (eaOf mg "NotPaper")) (.ref (eaOf mg "BadNumber")) = some false
      rw [e4, e5]
      exact kit_of R.n45 R.d5 R.t5 R.s45
    · show PySem.W.kitOne K (.ref (eaOf mg "NotPaper")) (.ref (eaOf mg "NoAnswer")) = some false
      rw [e4, e6]
      exact kit_of R.n46 R.d6 R.t6 R.s46
    · show PySem.W.kitOne K (.ref (eaOf mg "NotPaper")) (.ref (eaOf mg "TooLarge")) = some false
      rw [e4, e7]
      exact kit_of R.n47 R.d7 R.t7 R.s47
  have k5 : ErrK K (eaOf mg) "BadNumber" [("NotRhythm", false), ("NotChoir", false), ("NotSet", false), ("NotPaper", false), ("BadNumber", true), ("NoAnswer", false), ("TooLarge", false)] := by
    refine ⟨by rw [e5]; exact R.r5.exc, fun q hq => ?_, by rw [e5, e8]; exact PySem.W.exm_ref R.x8 R.d8 R.t8 R.s58, by rw [e5, e8]; exact kit_of R.n58 R.d8 R.t8 R.s58⟩
    simp only [List.mem_cons, List.not_mem_nil, or_false] at hq
    rcases hq with e | e | e | e | e | e | e <;> subst e
    · show PySem.W.kitOne K (.ref (eaOf mg "BadNumber")) (.ref (eaOf mg "NotRhythm")) = some false
      rw [e5, e1]
      exact kit_of R.n51 R.d1 R.t1 R.s51
    · show PySem.W.kitOne K (.ref (eaOf mg "BadNumber")) (.ref (eaOf mg "NotChoir")) = some false
      rw [e5, e2]
      exact kit_of R.n52 R.d2 R.t2 R.s52
    · show PySem.W.kitOne K (.ref (eaOf mg "BadNumber")) (.ref (eaOf mg "NotSet")) = some false
      rw [e5, e3]
      exact kit_of R.n53 R.d3 R.t3 R.s53
    · show PySem.W.kitOne K (.ref (eaOf mg "BadNumber")) (.ref (eaOf mg "NotPaper")) = some false
      rw [e5, e4]
      exact kit_of R.n54 R.d4 R.t4 R.s54
    · exact kit_self
    · show PySem.W.kitOne K (.ref (eaOf mg "BadNumber")) (.ref (eaOf mg "NoAnswer")) = some false
      rw [e5, e6]
      exact kit_of R.n56 R.d6 R.t6 R.s56
    · show PySem.W.kitOne K (.ref (eaOf mg "BadNumber")) (.ref (eaOf mg "TooLarge")) = some false
      rw [e5, e7]
      exact kit_of R.n57 R.d7 R.t7 R.s57
  have k6 : ErrK K (eaOf mg) "NoAnswer" [("NotRhythm", false), ("NotChoir", false), ("NotSet", false), ("NotPaper", false), ("BadNumber", false), ("NoAnswer", true), ("TooLarge", false)] := by
    refine ⟨by rw [e6]; exact R.r6.exc, fun q hq => ?_, by rw [e6, e8]; exact PySem.W.exm_ref R.x8 R.d8 R.t8 R.s68, by rw [e6, e8]; exact kit_of R.n68 R.d8 R.t8 R.s68⟩
    simp only [List.mem_cons, List.not_mem_nil, or_false] at hq
    rcases hq with e | e | e | e | e | e | e <;> subst e
    · show PySem.W.kitOne K (.ref (eaOf mg "NoAnswer")) (.ref (eaOf mg "NotRhythm")) = some false
      rw [e6, e1]
      exact kit_of R.n61 R.d1 R.t1 R.s61
    · show PySem.W.kitOne K (.ref (eaOf mg "NoAnswer")) (.ref (eaOf mg "NotChoir")) = some false
      rw [e6, e2]
      exact kit_of R.n62 R.d2 R.t2 R.s62
    · show PySem.W.kitOne K (.ref (eaOf mg "NoAnswer")) (.ref (eaOf mg "NotSet")) = some false
      rw [e6, e3]
      exact kit_of R.n63 R.d3 R.t3 R.s63
    · show PySem.W.kitOne K (.ref (eaOf mg "NoAnswer")) (.ref (eaOf mg "NotPaper")) = some false
      rw [e6, e4]
      exact kit_of R.n64 R.d4 R.t4 R.s64
    · show PySem.W.kitOne K (.ref (eaOf mg "NoAnswer")) (.ref (eaOf mg "BadNumber")) = some false
      rw [e6, e5]
      exact kit_of R.n65 R.d5 R.t5 R.s65
    · exact kit_self
    · show PySem.W.kitOne K (.ref (eaOf mg "NoAnswer")) (.ref (eaOf mg "TooLarge")) = some false
      rw [e6, e7]
      exact kit_of R.n67 R.d7 R.t7 R.s67
  have k7 : ErrK K (eaOf mg) "TooLarge" [("NotRhythm", false), ("NotChoir", false), ("NotSet", false), ("NotPaper", false), ("BadNumber", false), ("NoAnswer", false), ("TooLarge", true)] := by
    refine ⟨by rw [e7]; exact R.r7.exc, fun q hq => ?_, by rw [e7, e8]; exact PySem.W.exm_ref R.x8 R.d8 R.t8 R.s78, by rw [e7, e8]; exact kit_of R.n78 R.d8 R.t8 R.s78⟩
    simp only [List.mem_cons, List.not_mem_nil, or_false] at hq
    rcases hq with e | e | e | e | e | e | e <;> subst e
    · show PySem.W.kitOne K (.ref (eaOf mg "TooLarge")) (.ref (eaOf mg "NotRhythm")) = some false
      rw [e7, e1]
      exact kit_of R.n71 R.d1 R.t1 R.s71
    · show PySem.W.kitOne K (.ref (eaOf mg "TooLarge")) (.ref (eaOf mg "NotChoir")) = some false
      rw [e7, e2]
      exact kit_of R.n72 R.d2 R.t2 R.s72
    · show PySem.W.kitOne K (.ref (eaOf mg "TooLarge")) (.ref (eaOf mg "NotSet")) = some false
      rw [e7, e3]
      exact kit_of R.n73 R.d3 R.t3 R.s73
    · show PySem.W.kitOne K (.ref (eaOf mg "TooLarge")) (.ref (eaOf mg "NotPaper")) = some false
      rw [e7, e4]
      exact kit_of R.n74 R.d4 R.t4 R.s74
    · show PySem.W.kitOne K (.ref (eaOf mg "TooLarge")) (.ref (eaOf mg "BadNumber")) = some false
      rw [e7, e5]
      exact kit_of R.n75 R.d5 R.t5 R.s75
    · show PySem.W.kitOne K (.ref (eaOf mg "TooLarge")) (.ref (eaOf mg "NoAnswer")) = some false
      rw [e7, e6]
      exact kit_of R.n76 R.d6 R.t6 R.s76
    · exact kit_self
  exact ⟨by rw [e1]; exact g1, by rw [e2]; exact g2, by rw [e3]; exact g3, by rw [e4]; exact g4, by rw [e5]; exact g5, by rw [e6]; exact g6, by rw [e7]; exact g7, by rw [e8]; exact g8, k1, k2, k3, k4, k5, k6, k7⟩
theorem all_mk {fa : Addr} (X : K.In h) (G : h.Ns mainGlobals mg) (hfa : mg "law" = some (.ref fa)) (F : Facts K) (R : ErrsAt K C1 C2 C3 C4 C5 C6 C7 C8) :
    ∃ fd : FuncData, (∀ (s : Shared) (u : Value), BindsTo s fd ⟨[u], []⟩ [("script", u)]) ∧ ∀ base : Heap, K.In base → base.Ns mainGlobals mg → FnC P w K mg base fa fd ["script"] (spLaw K) := by
  have B := F.bl.use X G
  have Er := errs_of X G R
  have E_BadNumber := R.r5.err (PySem.W.mg_of X G R.a5)
  have E_NotSet := R.r3.err (PySem.W.mg_of X G R.a3)
  have M_MOST_BEATS : ∃ t, mg "MOST_BEATS" = some (.int 400 t) := by
    obtain ⟨t, e⟩ := F.c_MOST_BEATS
    exact ⟨t, PySem.W.mg_of X G e⟩
  have hgcd := PySem.W.mg_of X G F.gcd
  obtain ⟨g_is_ascending, fd_is_ascending, G_is_ascending, m_is_ascending, k_is_ascending, b_is_ascending⟩ := F.f_is_ascending.use X G bd_is_ascending
  obtain ⟨g_check_ring, fd_check_ring, G_check_ring, m_check_ring, k_check_ring, b_check_ring⟩ := F.f_check_ring.use X G bd_check_ring
  obtain ⟨g_is_of, fd_is_of, G_is_of, m_is_of, k_is_of, b_is_of⟩ := F.f_is_of.use X G bd_is_of
  obtain ⟨g_is_set, fd_is_set, G_is_set, m_is_set, k_is_set, b_is_set⟩ := F.f_is_set.use X G bd_is_set
  obtain ⟨g_check_set, fd_check_set, G_check_set, m_check_set, k_check_set, b_check_set⟩ := F.f_check_set.use X G bd_check_set
  obtain ⟨g_turn_of, fd_turn_of, G_turn_of, m_turn_of, k_turn_of, b_turn_of⟩ := F.f_turn_of.use X G bd_turn_of
  obtain ⟨g_period_of, fd_period_of, G_period_of, m_period_of, k_period_of, b_period_of⟩ := F.f_period_of.use X G bd_period_of
  obtain ⟨g_sum_of, fd_sum_of, G_sum_of, m_sum_of, k_sum_of, b_sum_of⟩ := F.f_sum_of.use X G bd_sum_of
  obtain ⟨g_free_sum, fd_free_sum, G_free_sum, m_free_sum, k_free_sum, b_free_sum⟩ := F.f_free_sum.use X G bd_free_sum
  obtain ⟨g_fills, fd_fills, G_fills, m_fills, k_fills, b_fills⟩ := F.f_fills.use X G bd_fills
  obtain ⟨g_is_plain, fd_is_plain, G_is_plain, m_is_plain, k_is_plain, b_is_plain⟩ := F.f_is_plain.use X G bd_is_plain
  obtain ⟨g_parts_of, fd_parts_of, G_parts_of, m_parts_of, k_parts_of, b_parts_of⟩ := F.f_parts_of.use X G bd_parts_of
  obtain ⟨g_is_good, fd_is_good, G_is_good, m_is_good, k_is_good, b_is_good⟩ := F.f_is_good.use X G bd_is_good
  obtain ⟨g_both_rests, fd_both_rests, G_both_rests, m_both_rests, k_both_rests, b_both_rests⟩ := F.f_both_rests.use X G bd_both_rests
  obtain ⟨g_plain_canon, fd_plain_canon, G_plain_canon, m_plain_canon, k_plain_canon, b_plain_canon⟩ := F.f_plain_canon.use X G bd_plain_canon
  obtain ⟨g_law_number, fd_law_number, G_law_number, m_law_number, k_law_number, b_law_number⟩ := F.f_law_number.use X G bd_law_number
  obtain ⟨g_law_draws, fd_law_draws, G_law_draws, m_law_draws, k_law_draws, b_law_draws⟩ := F.f_law_draws.use X G bd_law_draws
  obtain ⟨g_law_flat, fd_law_flat, G_law_flat, m_law_flat, k_law_flat, b_law_flat⟩ := F.f_law_flat.use X G bd_law_flat
  obtain ⟨g_law_next, fd_law_next, G_law_next, m_law_next, k_law_next, b_law_next⟩ := F.f_law_next.use X G bd_law_next
  obtain ⟨g_law_more, fd_law_more, G_law_more, m_law_more, k_law_more, b_law_more⟩ := F.f_law_more.use X G bd_law_more
  obtain ⟨g_law_kind, fd_law_kind, G_law_kind, m_law_kind, k_law_kind, b_law_kind⟩ := F.f_law_kind.use X G bd_law_kind
  obtain ⟨g_law_turn, fd_law_turn, G_law_turn, m_law_turn, k_law_turn, b_law_turn⟩ := F.f_law_turn.use X G bd_law_turn
  obtain ⟨g_law_sum, fd_law_sum, G_law_sum, m_law_sum, k_law_sum, b_law_sum⟩ := F.f_law_sum.use X G bd_law_sum
  obtain ⟨g_law_fill, fd_law_fill, G_law_fill, m_law_fill, k_law_fill, b_law_fill⟩ := F.f_law_fill.use X G bd_law_fill
  obtain ⟨g_law_period, fd_law_period, G_law_period, m_law_period, k_law_period, b_law_period⟩ := F.f_law_period.use X G bd_law_period
  obtain ⟨g_law_shape, fd_law_shape, G_law_shape, m_law_shape, k_law_shape, b_law_shape⟩ := F.f_law_shape.use X G bd_law_shape
  obtain ⟨g_law_good, fd_law_good, G_law_good, m_law_good, k_law_good, b_law_good⟩ := F.f_law_good.use X G bd_law_good
  obtain ⟨g_law_asked, fd_law_asked, G_law_asked, m_law_asked, k_law_asked, b_law_asked⟩ := F.f_law_asked.use X G bd_law_asked
  obtain ⟨g_law, fd_law, G_law, m_law, bnd⟩ := F.f_law.useL X G bd_law
  have ef : fa = g_law := by
    rw [m_law] at hfa
    cases hfa
    rfl
  subst ef
  refine ⟨fd_law, bnd, fun base _ _ => ?_⟩
  have F_is_ascending := fnI (ea := eaOf mg) (ok_is_ascending (P := P) (w := w) (base := base) B G_is_ascending) m_is_ascending k_is_ascending b_is_ascending
  have F_check_ring := fnI (ea := eaOf mg) (ok_check_ring (P := P) (w := w) (base := base) E_BadNumber M_MOST_BEATS G_check_ring) m_check_ring k_check_ring b_check_ring
  have F_is_of := fnI (ea := eaOf mg) (ok_is_of (P := P) (w := w) (base := base) B F_is_ascending G_is_of) m_is_of k_is_of b_is_of
  have F_is_set := fnI (ea := eaOf mg) (ok_is_set (P := P) (w := w) (base := base) F_check_ring F_is_of G_is_set) m_is_set k_is_set b_is_set
  have F_check_set := fnI (ea := eaOf mg) (ok_check_set (P := P) (w := w) (base := base) E_NotSet F_is_set G_check_set) m_check_set k_check_set b_check_set
  have F_turn_of := fnI (ea := eaOf mg) (ok_turn_of (P := P) (w := w) (base := base) B G_turn_of) m_turn_of k_turn_of b_turn_of
  have F_period_of := fnI (ea := eaOf mg) (ok_period_of (P := P) (w := w) (base := base) B F_turn_of G_period_of) m_period_of k_period_of b_period_of
  have F_sum_of := fnI (ea := eaOf mg) (ok_sum_of (P := P) (w := w) (base := base) B G_sum_of) m_sum_of k_sum_of b_sum_of
  have F_free_sum := fnI (ea := eaOf mg) (ok_free_sum (P := P) (w := w) (base := base) F_check_set F_sum_of G_free_sum) m_free_sum k_free_sum b_free_sum
  have F_fills := fnI (ea := eaOf mg) (ok_fills (P := P) (w := w) (base := base) B F_free_sum G_fills) m_fills k_fills b_fills
  have F_is_plain := fnI (ea := eaOf mg) (ok_is_plain (P := P) (w := w) (base := base) B F_period_of F_fills G_is_plain) m_is_plain k_is_plain b_is_plain
  have F_parts_of := fnI (ea := eaOf mg) (ok_parts_of (P := P) (w := w) (base := base) B hgcd G_parts_of) m_parts_of k_parts_of b_parts_of
  have F_is_good := fnI (ea := eaOf mg) (ok_is_good (P := P) (w := w) (base := base) F_check_ring F_parts_of G_is_good) m_is_good k_is_good b_is_good
  have F_both_rests := fnI (ea := eaOf mg) (ok_both_rests (P := P) (w := w) (base := base) B G_both_rests) m_both_rests k_both_rests b_both_rests
  have F_plain_canon := fnI (ea := eaOf mg) (ok_plain_canon (P := P) (w := w) (base := base) B F_check_ring F_parts_of F_both_rests G_plain_canon) m_plain_canon k_plain_canon b_plain_canon
  have F_law_number := fnI (ea := eaOf mg) (ok_law_number (P := P) (w := w) (base := base)  G_law_number) m_law_number k_law_number b_law_number
  have F_law_draws := fnI (ea := eaOf mg) (ok_law_draws (P := P) (w := w) (base := base) B F_law_number G_law_draws) m_law_draws k_law_draws b_law_draws
  have F_law_flat := fnI (ea := eaOf mg) (ok_law_flat (P := P) (w := w) (base := base)  G_law_flat) m_law_flat k_law_flat b_law_flat
  have F_law_next := fnI (ea := eaOf mg) (ok_law_next (P := P) (w := w) (base := base)  G_law_next) m_law_next k_law_next b_law_next
  have F_law_more := fnI (ea := eaOf mg) (ok_law_more (P := P) (w := w) (base := base) B F_law_next G_law_more) m_law_more k_law_more b_law_more
  have F_law_kind := ok_law_kind (P := P) (w := w) (base := base) B Er G_law_kind
  have F_law_turn := fnI (ea := eaOf mg) (ok_law_turn (P := P) (w := w) (base := base) B G_law_turn) m_law_turn k_law_turn b_law_turn
  have F_law_sum := fnI (ea := eaOf mg) (ok_law_sum (P := P) (w := w) (base := base) B F_law_flat G_law_sum) m_law_sum k_law_sum b_law_sum
  have F_law_fill := fnI (ea := eaOf mg) (ok_law_fill (P := P) (w := w) (base := base) B F_law_sum G_law_fill) m_law_fill k_law_fill b_law_fill
  have F_law_period := fnI (ea := eaOf mg) (ok_law_period (P := P) (w := w) (base := base) B F_law_turn G_law_period) m_law_period k_law_period b_law_period
  have F_law_shape := fnI (ea := eaOf mg) (ok_law_shape (P := P) (w := w) (base := base) B G_law_shape) m_law_shape k_law_shape b_law_shape
  have F_law_good := fnI (ea := eaOf mg) (ok_law_good (P := P) (w := w) (base := base) B F_law_shape G_law_good) m_law_good k_law_good b_law_good
  have F_law_asked := fnI (ea := eaOf mg) (ok_law_asked (P := P) (w := w) (base := base) Er F_is_good F_plain_canon F_law_kind m_law_kind k_law_kind b_law_kind G_law_asked) m_law_asked k_law_asked b_law_asked
  exact ok_law B F_law_draws F_law_more F_law_next F_law_fill F_law_period F_law_good F_law_asked F_is_good F_is_plain G_law
end
end My
set_option Elab.async false
open PySem PySem.W PyProof.Rows
set_option maxRecDepth 100000 in
set_option maxHeartbeats 0 in
theorem PySem.Challenge.cw_tiledtime_k33_rings_that_are_good_holds : PySem.Challenge.rw_tiledtime_k33_rings_that_are_good.Holds := by
  w_on; o_law; k_head; (case hw => w_witness2)
  k_fill
  refine Pd.walkC (l := PySem.Challenge.rw_tiledtime_k33_rings_that_are_good) (n := 63) (x := "script") (sp := fun w => Pd.spLaw _) rfl (by decide) rfl (fun w h Y => PySem.W.kIn_of Y) ?F (fun w H a ns hl hO hS => ⟨a, ns, rfl, hl, hS, fun H' => rfl⟩)
  case F =>
    intro w mg fa h KX G hmg
    refine' My.all_mk KX G hmg ?A ?R
    case R =>
      constructor
      case a1 => k_is
      case a2 => k_is
      case a3 => k_is
      case a4 => k_is
      case a5 => k_is
      case a6 => k_is
      case a7 => k_is
      case a8 => k_is
      case t1 => k_is
      case d1 => k_is
      case t2 => k_is
      case d2 => k_is
      case t3 => k_is
      case d3 => k_is
      case t4 => k_is
      case d4 => k_is
      case t5 => k_is
      case d5 => k_is
      case t6 => k_is
      case d6 => k_is
      case t7 => k_is
      case d7 => k_is
      case t8 => k_is
      case d8 => k_is
      case s12 => k_is
      case n12 => decide
      case s13 => k_is
      case n13 => decide
      case s14 => k_is
      case n14 => decide
      case s15 => k_is
      case n15 => decide
      case s16 => k_is
      case n16 => decide
      case s17 => k_is
      case n17 => decide
      case s18 => k_is
      case n18 => decide
      case s21 => k_is
      case n21 => decide
      case s23 => k_is
      case n23 => decide
      case s24 => k_is
      case n24 => decide
      case s25 => k_is
      case n25 => decide
      case s26 => k_is
      case n26 => decide
      case s27 => k_is
      case n27 => decide
      case s28 => k_is
      case n28 => decide
      case s31 => k_is
      case n31 => decide
      case s32 => k_is
      case n32 => decide
      case s34 => k_is
      case n34 => decide
      case s35 => k_is
      case n35 => decide
      case s36 => k_is
      case n36 => decide
      case s37 => k_is
      case n37 => decide
      case s38 => k_is
      case n38 => decide
      case s41 => k_is
      case n41 => decide
      case s42 => k_is
      case n42 => decide
      case s43 => k_is
      case n43 => decide
      case s45 => k_is
      case n45 => decide
      case s46 => k_is
      case n46 => decide
      case s47 => k_is
      case n47 => decide
      case s48 => k_is
      case n48 => decide
      case s51 => k_is
      case n51 => decide
      case s52 => k_is
      case n52 => decide
      case s53 => k_is
      case n53 => decide
      case s54 => k_is
      case n54 => decide
      case s56 => k_is
      case n56 => decide
      case s57 => k_is
      case n57 => decide
      case s58 => k_is
      case n58 => decide
      case s61 => k_is
      case n61 => decide
      case s62 => k_is
      case n62 => decide
      case s63 => k_is
      case n63 => decide
      case s64 => k_is
      case n64 => decide
      case s65 => k_is
      case n65 => decide
      case s67 => k_is
      case n67 => decide
      case s68 => k_is
      case n68 => decide
      case s71 => k_is
      case n71 => decide
      case s72 => k_is
      case n72 => decide
      case s73 => k_is
      case n73 => decide
      case s74 => k_is
      case n74 => decide
      case s75 => k_is
      case n75 => decide
      case s76 => k_is
      case n76 => decide
      case s78 => k_is
      case n78 => decide
      case x8 => k_is
      case r1 =>
        constructor
        case q => k_exc
        case kC => k_is
        case exC => k_is
        case tyC => k_is
        case hg => k_is
        case hk => k_is
        case hd => k_is
        case ha => k_is
        case hn => k_is
        case ht => k_is
        case hm => k_is
      case r2 =>
        constructor
        case q => k_exc
        case kC => k_is
        case exC => k_is
        case tyC => k_is
        case hg => k_is
        case hk => k_is
        case hd => k_is
        case ha => k_is
        case hn => k_is
        case ht => k_is
        case hm => k_is
      case r3 =>
        constructor
        case q => k_exc
        case kC => k_is
        case exC => k_is
        case tyC => k_is
        case hg => k_is
        case hk => k_is
        case hd => k_is
        case ha => k_is
        case hn => k_is
        case ht => k_is
        case hm => k_is
      case r4 =>
        constructor
        case q => k_exc
        case kC => k_is
        case exC => k_is
        case tyC => k_is
        case hg => k_is
        case hk => k_is
        case hd => k_is
        case ha => k_is
        case hn => k_is
        case ht => k_is
        case hm => k_is
      case r5 =>
        constructor
        case q => k_exc
        case kC => k_is
        case exC => k_is
        case tyC => k_is
        case hg => k_is
        case hk => k_is
        case hd => k_is
        case ha => k_is
        case hn => k_is
        case ht => k_is
        case hm => k_is
      case r6 =>
        constructor
        case q => k_exc
        case kC => k_is
        case exC => k_is
        case tyC => k_is
        case hg => k_is
        case hk => k_is
        case hd => k_is
        case ha => k_is
        case hn => k_is
        case ht => k_is
        case hm => k_is
      case r7 =>
        constructor
        case q => k_exc
        case kC => k_is
        case exC => k_is
        case tyC => k_is
        case hg => k_is
        case hk => k_is
        case hd => k_is
        case ha => k_is
        case hn => k_is
        case ht => k_is
        case hm => k_is
    case A =>
      constructor
      case f_is_ascending =>
        refine' Pd.FunAt.mk ?a ?l ?c ?k
        case a => k_is
        case l => k_is
        case c => k_is
        case k => k_is
      case f_check_ring =>
        refine' Pd.FunAt.mk ?a ?l ?c ?k
        case a => k_is
        case l => k_is
        case c => k_is
        case k => k_is
      case f_is_of =>
        refine' Pd.FunAt.mk ?a ?l ?c ?k
        case a => k_is
        case l => k_is
        case c => k_is
        case k => k_is
      case f_is_set =>
        refine' Pd.FunAt.mk ?a ?l ?c ?k
        case a => k_is
        case l => k_is
        case c => k_is
        case k => k_is
      case f_check_set =>
        refine' Pd.FunAt.mk ?a ?l ?c ?k
        case a => k_is
        case l => k_is
        case c => k_is
        case k => k_is
      case f_turn_of =>
        refine' Pd.FunAt.mk ?a ?l ?c ?k
        case a => k_is
        case l => k_is
        case c => k_is
        case k => k_is
      case f_period_of =>
        refine' Pd.FunAt.mk ?a ?l ?c ?k
        case a => k_is
        case l => k_is
        case c => k_is
        case k => k_is
      case f_sum_of =>
        refine' Pd.FunAt.mk ?a ?l ?c ?k
        case a => k_is
        case l => k_is
        case c => k_is
        case k => k_is
      case f_free_sum =>
        refine' Pd.FunAt.mk ?a ?l ?c ?k
        case a => k_is
        case l => k_is
        case c => k_is
        case k => k_is
      case f_fills =>
        refine' Pd.FunAt.mk ?a ?l ?c ?k
        case a => k_is
        case l => k_is
        case c => k_is
        case k => k_is
      case f_is_plain =>
        refine' Pd.FunAt.mk ?a ?l ?c ?k
        case a => k_is
        case l => k_is
        case c => k_is
        case k => k_is
      case f_parts_of =>
        refine' Pd.FunAt.mk ?a ?l ?c ?k
        case a => k_is
        case l => k_is
        case c => k_is
        case k => k_is
      case f_is_good =>
        refine' Pd.FunAt.mk ?a ?l ?c ?k
        case a => k_is
        case l => k_is
        case c => k_is
        case k => k_is
      case f_both_rests =>
        refine' Pd.FunAt.mk ?a ?l ?c ?k
        case a => k_is
        case l => k_is
        case c => k_is
        case k => k_is
      case f_plain_canon =>
        refine' Pd.FunAt.mk ?a ?l ?c ?k
        case a => k_is
        case l => k_is
        case c => k_is
        case k => k_is
      case f_law_number =>
        refine' Pd.FunAt.mk ?a ?l ?c ?k
        case a => k_is
        case l => k_is
        case c => k_is
        case k => k_is
      case f_law_draws =>
        refine' Pd.FunAt.mk ?a ?l ?c ?k
        case a => k_is
        case l => k_is
        case c => k_is
        case k => k_is
      case f_law_flat =>
        refine' Pd.FunAt.mk ?a ?l ?c ?k
        case a => k_is
        case l => k_is
        case c => k_is
        case k => k_is
      case f_law_next =>
        refine' Pd.FunAt.mk ?a ?l ?c ?k
        case a => k_is
        case l => k_is
        case c => k_is
        case k => k_is
      case f_law_more =>
        refine' Pd.FunAt.mk ?a ?l ?c ?k
        case a => k_is
        case l => k_is
        case c => k_is
        case k => k_is
      case f_law_kind =>
        refine' Pd.FunAt.mk ?a ?l ?c ?k
        case a => k_is
        case l => k_is
        case c => k_is
        case k => k_is
      case f_law_turn =>
        refine' Pd.FunAt.mk ?a ?l ?c ?k
        case a => k_is
        case l => k_is
        case c => k_is
        case k => k_is
      case f_law_sum =>
        refine' Pd.FunAt.mk ?a ?l ?c ?k
        case a => k_is
        case l => k_is
        case c => k_is
        case k => k_is
      case f_law_fill =>
        refine' Pd.FunAt.mk ?a ?l ?c ?k
        case a => k_is
        case l => k_is
        case c => k_is
        case k => k_is
      case f_law_period =>
        refine' Pd.FunAt.mk ?a ?l ?c ?k
        case a => k_is
        case l => k_is
        case c => k_is
        case k => k_is
      case f_law_shape =>
        refine' Pd.FunAt.mk ?a ?l ?c ?k
        case a => k_is
        case l => k_is
        case c => k_is
        case k => k_is
      case f_law_good =>
        refine' Pd.FunAt.mk ?a ?l ?c ?k
        case a => k_is
        case l => k_is
        case c => k_is
        case k => k_is
      case f_law_asked =>
        refine' Pd.FunAt.mk ?a ?l ?c ?k
        case a => k_is
        case l => k_is
        case c => k_is
        case k => k_is
      case f_law =>
        refine' Pd.FunAt.mk ?a ?l ?c ?k
        case a => k_is
        case l => k_is
        case c => k_is
        case k => k_is
      case bl =>
        constructor
        all_goals k_is
      case c_MOST_BEATS =>
        refine' My.const_of ?e
        case e => k_is
      case gcd => k_is

