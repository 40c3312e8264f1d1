import PyProof.Rows.All
import HandS.ForMost
import HandS.EndBits
import HandS.Wide
import HandS.WideBits
import KE.DataEq
import KE.DataCmp
import KE.DataFind
import KE.DataIsa
import KE.DataMinMax
import KE.DataAny
import KE.KDictKeyed
import HandS.SetFor
import HandS.SetKeys
import HandS.TupMul
import HandS.TupAny
import HandS.Conv
import HandS.Style
import HandS.SortInts
import HandS.Deep
import KE.KTupSum
import HandS.Strs
import KE.KDictDisplayH
import KE.SortData
import KE.SortLaws
import Wide.All
import OpenK.AllK
import PySem.Challenge.RW_everynumber_k08_showings_of_rings_and_la
set_option Elab.async false
set_option linter.all false
set_option maxRecDepth 100000
namespace PD
open PySem PySem.Spec PyProof.Rows L2
/-- what is known of the head, with the program and the world -/
structure KW where
  K : PySem.W.Frag
  P : Program
  w : World
instance : CoeOut KW PySem.W.Frag := ⟨KW.K⟩
/-- pure data -/
abbrev T := PyData
abbrev Sto := L2.St
end PD
namespace L2
abbrev Cx.kw (X : Cx) : PD.KW := ⟨X.K, X.prog, X.w⟩
end L2
namespace PD
open PySem PySem.Spec PyProof.Rows L2
/-! ### keys -/
mutual
def keyN : T → Option NestedKey
  | .none => some .none
  | .bool b => some (.num (if b = true then 1 else 0))
  | .int i => some (.num i)
  | .str x => some (.text x)
  | .tuple ds => (keysN ds).map .tup
  | .list _ => none
  | .dict _ => none
def keysN : List T → Option (List NestedKey)
  | [] => some []
  | d :: ds => (keyN d).bind fun k => (keysN ds).map fun ks => k :: ks
end
/-- a key that is carried by value -/
def lfOf : T → Option Leaf
  | .none => some .none
  | .int i => some (.num i)
  | .str x => some (.text x)
  | _ => none
/-- a key that is a tuple -/
def tkOf : T → Option NestedKey
  | .tuple ds => (keysN ds).bind fun ks => if (NestedKey.tup ks).depth ≤ 8 then some (.tup ks) else none
  | _ => none
/-- a key -/
def keyOf (t : T) : Option NestedKey := match lfOf t with
  | some l => some l.key
  | none => tkOf t
/-- none, whole numbers and texts, no truth values -/
def plIs (l : Leaf) (v : Value) : Bool := Leaf.isOf l v && (match v with | .bool _ => false | _ => true)
theorem plIs_of {l : Leaf} {v : Value} (h : plIs l v = true) : Leaf.isOf l v = true := by
  unfold plIs at h
  exact (Bool.and_eq_true _ _ ▸ h).1
def plainKind (P : Program) (w : World) : KeyKind P w Leaf where
  is := plIs
  hash := (leafKind P w).hash
  inj := fun v a b ha hb => (leafKind P w).inj v a b (plIs_of ha) (plIs_of hb)
  byValue := fun k v h => (leafKind P w).byValue k v (plIs_of h)
  pyHash := fun hv h => (leafKind P w).pyHash (plIs_of hv) h
  eqBool := fun hu hv h => (leafKind P w).eqBool (plIs_of hu) (plIs_of hv) h
  «strs» := fun k x t v h => by
    have := (leafKind P w).strs k x t v (plIs_of h)
    have e : plIs k v = Leaf.isOf k v := by
      unfold plIs
      cases k with
      | none =>
        have := plIs_of h
        exact absurd this Bool.false_ne_true
      | num i =>
        have := plIs_of h
        exact absurd this Bool.false_ne_true
      | text y =>
        cases v <;> first | rfl | exact Bool.and_true _
    rw [e]; exact this
theorem plIs_lf {t : T} {l : Leaf} {v : V} {u : Value} (hl : lfOf t = some l) (hv : v = (match t with | .int i => V.int i | .str x => .str x | _ => .non)) (r : RelV v u) : plIs l u = true := by
  unfold lfOf at hl
  split at hl
  · cases hl; cases hv; cases r; rfl
  · cases hl; cases hv
    obtain ⟨t, rfl⟩ := r
    simp [plIs, Leaf.isOf]
  · cases hl; cases hv
    obtain ⟨t, rfl⟩ := r
    rename_i x
    show (Value.isStrOf x (.str x t) && true) = true
    rw [Bool.and_true]
    show (x == x) = true
    simp
  · cases hl

/-! ### a dict's object -/
/-- the dict at a holds these entries -/
def rawO (a : Addr) (E : List DictEntry) : HO := .ext fun h => (a == sysModules) = false ∧ ∃ o es ep, h.get? a = some o ∧ o.ExactDict ∧ o.data = .dict es ep ∧ es.toList = E
theorem rawO_ok {P : Program} {w : World} {H : Hp} {h : Heap} {a : Addr} {E : List DictEntry} (ha : (a == sysModules) = false) (e : ∃ o es ep, h.get? a = some o ∧ o.ExactDict ∧ o.data = .dict es ep ∧ es.toList = E) : ObjOk P w H h a (rawO a E) := by
  refine ⟨⟨ha, e⟩, ?_, fun h1 h2 p k => ?_⟩
  · obtain ⟨o, es, ep, h1, _⟩ := e
    exact ⟨o, h1⟩
  · obtain ⟨h0, o, es, ep, h1, h2⟩ := p
    exact ⟨h0, o, es, ep, k _ h1, h2⟩
theorem rawO_at {P : Program} {w : World} {H : Hp} {h : Heap} {a : Addr} {E : List DictEntry} (ok : HOk P w H h) (e : H a = some (rawO a E)) : (a == sysModules) = false ∧ ∃ o es ep, h.get? a = some o ∧ o.ExactDict ∧ o.data = .dict es ep ∧ es.toList = E := (ok a _ e).1
/-! ### a set's object -/
theorem plIs_scan {l : Leaf} {v : Value} (h : plIs l v = true) : v.scannable = true := by
  have h1 := plIs_of h
  cases l with
  | none => cases v <;> first | rfl | exact absurd h1 Bool.false_ne_true
  | num i => cases v <;> first | rfl | exact absurd h1 Bool.false_ne_true
  | text x =>
    obtain ⟨t, rfl⟩ := Value.isStrOf_shape (show Value.isStrOf x v = true from h1)
    rfl
/-- the set at a holds these keys -/
def setO (P : Program) (w : World) (a : Addr) (ls : List Leaf) : HO := .ext fun h => h.SetOf (plainKind P w) a (fun l => decide (l ∈ ls)) ls.length
theorem setOf_keep {P : Program} {w : World} {h h' : Heap} {a : Addr} {S : Leaf → Bool} {n : Nat} (R : h.SetOf (plainKind P w) a S n) (k : ∀ o, h.get? a = some o → h'.get? a = some o) : h'.SetOf (plainKind P w) a S n := by
  obtain ⟨o, es, ep, t, ho, r⟩ := R
  exact ⟨o, es, ep, t, k o ho, r⟩
theorem setOf_congr {P : Program} {w : World} {h : Heap} {a : Addr} {S S' : Leaf → Bool} {n n' : Nat} (R : h.SetOf (plainKind P w) a S n) (e : ∀ l, S' l = S l) (en : n' = n) : h.SetOf (plainKind P w) a S' n' := by
  obtain ⟨o, es, ep, t, ho, h1, h2, h3, h4, h5, h6, h7⟩ := R
  exact ⟨o, es, ep, t, ho, h1, h2, h3, fun k => by rw [e]; exact h4 k, h5, h6, by rw [en]; exact h7⟩
theorem setO_ok {P Q : Program} {w w' : World} {H : Hp} {h : Heap} {a : Addr} {ls : List Leaf} (R : h.SetOf (plainKind P w) a (fun l => decide (l ∈ ls)) ls.length) : ObjOk Q w' H h a (setO P w a ls) := by
  have ⟨o, _, _, _, ho, _⟩ := R
  exact ⟨R, ⟨o, ho⟩, fun h1 h2 p k => setOf_keep p k⟩
theorem setO_at {P Q : Program} {w w' : World} {H : Hp} {h : Heap} {a : Addr} {ls : List Leaf} (ok : HOk Q w' H h) (e : H a = some (setO P w a ls)) : h.SetOf (plainKind P w) a (fun l => decide (l ∈ ls)) ls.length := (ok a _ e).1
end PD

namespace PD
open PySem PySem.Spec PyProof.Rows L2

/-- an exact tuple: tracked with its object, or an object of the module -/
def ExT (ob : Obj) : Prop := ob.cls = .type "tuple" ∧ ob.dict = none
def SqX (K : KW) (H : Hp) (a : Addr) (xs : List V) : Prop :=
  (∃ ob, H a = some (.frz ob (.tup xs)) ∧ ExT ob) ∨
    ∃ (o : Obj) (its : Array Value) (n : Nat), K.K.lookup a = some o ∧ ExT o ∧ o.data = .seq its n ∧ its.size ≤ sizeLine ∧ Vals xs its.toList
theorem SqX.t {K : KW} {H : Hp} {a : Addr} {xs : List V} (h : SqX K H a xs) : SqT K H a xs := by
  rcases h with ⟨ob, h, _⟩ | ⟨o, its, n, hk, hx, hd, hz, r⟩
  · exact .inl (.inr ⟨ob, h⟩)
  · exact .inr ⟨o, its, n, hk, hx.1, hd, hz, r⟩
theorem SqX.new {K : KW} {H : Hp} {p : Addr} {ob : Obj} {xs : List V} (h : ExT ob) : SqX K (upd H p (.frz ob (.tup xs))) p xs := .inl ⟨ob, upd_same, h⟩

mutual
inductive Rp (K : KW) (H : Hp) : V → T → Prop
  | non : Rp K H .non .none
  | bl (b : Bool) : Rp K H (.bl b) (.bool b)
  | int (i : Int) : Rp K H (.int i) (.int i)
  | str (x : Str) : Rp K H (.str x) (.str x)
  | tup {a : Addr} {xs : List V} {ds : List T} : SqX K H a xs → RpL K H xs ds → Rp K H (.ref a) (.tuple ds)
  | lst {a : Addr} {o : Obj} {xs : List V} {ds : List T} : H a = some (.frz o (.lst xs)) → RpL K H xs ds → Rp K H (.ref a) (.list ds)
inductive RpL (K : KW) (H : Hp) : List V → List T → Prop
  | nil : RpL K H [] []
  | cons {v : V} {vs : List V} {d : T} {ds : List T} : Rp K H v d → RpL K H vs ds → RpL K H (v :: vs) (d :: ds)
end

/-- what is known and never written stands -/
def TSt (K : KW) (H H' : Hp) : Prop := ∀ a o u, H a = some (.frz o u) → H' a = some (.frz o u)
theorem TSt.refl (K : KW) (H : Hp) : TSt K H H := fun _ _ _ h => h
theorem TSt.trans {K : KW} {H H1 H2 : Hp} (a : TSt K H H1) (b : TSt K H1 H2) : TSt K H H2 := fun x o u h => b x o u (a x o u h)
theorem TSt.sq {K : KW} {H H' : Hp} (t : TSt K H H') {a : Addr} {xs : List V} (q : SqX K H a xs) : SqX K H' a xs := by
  rcases q with ⟨ob, h, x⟩ | q
  · exact .inl ⟨ob, t _ _ _ h, x⟩
  · exact .inr q

section
variable {K : KW} {H H' : Hp}
mutual
theorem Rp.mono (h : TSt K H H') : ∀ (d : T) (v : V), Rp K H v d → Rp K H' v d
  | .none, _, r => by cases r; exact .non
  | .bool b, _, r => by cases r; exact .bl b
  | .int i, _, r => by cases r; exact .int i
  | .str x, _, r => by cases r; exact .str x
  | .tuple ds, _, r => by
    cases r with
    | tup hs ha => exact .tup (h.sq hs) (RpL.mono h ds _ ha)
  | .list ds, _, r => by
    cases r with
    | lst hs ha => exact .lst (h _ _ _ hs) (RpL.mono h ds _ ha)
  | .dict _, _, r => by cases r
theorem RpL.mono (h : TSt K H H') : ∀ (ds : List T) (vs : List V), RpL K H vs ds → RpL K H' vs ds
  | [], _, r => by cases r; exact .nil
  | d :: ds, _, r => by
    cases r with
    | cons h1 h2 => exact .cons (Rp.mono h d _ h1) (RpL.mono h ds _ h2)
end
theorem Rp.m (h : TSt K H H') {d : T} {v : V} (r : Rp K H v d) : Rp K H' v d := Rp.mono h d v r
theorem RpL.m (h : TSt K H H') {d : List T} {v : List V} (r : RpL K H v d) : RpL K H' v d := RpL.mono h d v r

mutual
theorem Rp.dp : ∀ (d : T) (v : V), Rp K H v d → Dp K H v d
  | .none, _, r => by cases r; exact .non
  | .bool b, _, r => by cases r; exact .bl b
  | .int i, _, r => by cases r; exact .int i
  | .str x, _, r => by cases r; exact .str x
  | .tuple ds, _, r => by
    cases r with
    | tup hs ha => exact .tup hs.t (RpL.dp ds _ ha)
  | .list ds, _, r => by
    cases r with
    | lst hs ha => exact .lst (.inl (.inr ⟨_, hs⟩)) (RpL.dp ds _ ha)
  | .dict _, _, r => by cases r
theorem RpL.dp : ∀ (ds : List T) (vs : List V), RpL K H vs ds → DpAll K H vs ds
  | [], _, r => by cases r; exact .nil
  | d :: ds, _, r => by
    cases r with
    | cons h1 h2 => exact .cons (Rp.dp d _ h1) (RpL.dp ds _ h2)
end
mutual
theorem Rp.plain : ∀ (d : T) (v : V), Rp K H v d → d.plain = true
  | .none, _, r => by rfl
  | .bool b, _, r => by rfl
  | .int i, _, r => by rfl
  | .str x, _, r => by rfl
  | .tuple ds, _, r => by
    cases r with
    | tup hs ha => exact RpL.plain ds _ ha
  | .list ds, _, r => by
    cases r with
    | lst hs ha => exact RpL.plain ds _ ha
  | .dict _, _, r => by cases r
theorem RpL.plain : ∀ (ds : List T) (vs : List V), RpL K H vs ds → PyData.plainAll ds = true
  | [], _, r => by rfl
  | d :: ds, _, r => by
    cases r with
    | cons h1 h2 => simp [PyData.plainAll, Rp.plain d _ h1, RpL.plain ds _ h2]
end

theorem RpL.length : ∀ {vs : List V} {ds : List T}, RpL K H vs ds → vs.length = ds.length
  | _, _, .nil => rfl
  | _, _, .cons _ t => by simp [RpL.length t]
theorem RpL.get : ∀ {vs : List V} {ds : List T} {i : Nat} {d : T}, RpL K H vs ds → ds[i]? = some d → ∃ v, vs[i]? = some v ∧ Rp K H v d
  | _, _, _, _, .nil, h => by simp at h
  | _, _, 0, _, .cons r _, h => by
    simp at h; subst h; exact ⟨_, rfl, r⟩
  | _, _, i + 1, _, .cons _ t, h => by
    obtain ⟨v, e, r⟩ := RpL.get (i := i) t (by simpa using h)
    exact ⟨v, by simpa using e, r⟩
theorem RpL.getV : ∀ {vs : List V} {ds : List T} {i : Nat} {v : V}, RpL K H vs ds → vs[i]? = some v → ∃ d, ds[i]? = some d ∧ Rp K H v d
  | _, _, _, _, .nil, h => by simp at h
  | _, _, 0, _, .cons r _, h => by
    simp at h; subst h; exact ⟨_, rfl, r⟩
  | _, _, i + 1, _, .cons _ t, h => by
    obtain ⟨v, e, r⟩ := RpL.getV (i := i) t (by simpa using h)
    exact ⟨v, by simpa using e, r⟩
theorem RpL.append : ∀ {vs ws : List V} {ds es : List T}, RpL K H vs ds → RpL K H ws es → RpL K H (vs ++ ws) (ds ++ es)
  | _, _, _, _, .nil, s => s
  | _, _, _, _, .cons r t, s => .cons r (RpL.append t s)
theorem RpL.take : ∀ {vs : List V} {ds : List T} (n : Nat), RpL K H vs ds → RpL K H (vs.take n) (ds.take n)
  | _, _, 0, _ => .nil
  | _, _, _ + 1, .nil => .nil
  | _, _, n + 1, .cons r t => .cons r (RpL.take n t)
theorem RpL.drop : ∀ {vs : List V} {ds : List T} (n : Nat), RpL K H vs ds → RpL K H (vs.drop n) (ds.drop n)
  | _, _, 0, r => r
  | _, _, _ + 1, .nil => .nil
  | _, _, n + 1, .cons _ t => RpL.drop n t
theorem RpL.set : ∀ {vs : List V} {ds : List T} (i : Nat) {v : V} {d : T}, RpL K H vs ds → Rp K H v d → RpL K H (vs.set i v) (ds.set i d)
  | _, _, _, _, _, .nil, _ => .nil
  | _, _, 0, _, _, .cons _ t, r => .cons r t
  | _, _, i + 1, _, _, .cons q t, r => .cons q (RpL.set i t r)
theorem RpL.eraseIdx : ∀ {vs : List V} {ds : List T} (i : Nat), RpL K H vs ds → RpL K H (vs.eraseIdx i) (ds.eraseIdx i)
  | _, _, _, .nil => .nil
  | _, _, 0, .cons _ t => t
  | _, _, i + 1, .cons q t => .cons q (RpL.eraseIdx i t)
theorem RpL.dropLast : ∀ {vs : List V} {ds : List T}, RpL K H vs ds → RpL K H vs.dropLast ds.dropLast
  | _, _, .nil => .nil
  | _, _, .cons q .nil => .nil
  | _, _, .cons q (.cons q' t) => .cons q (RpL.dropLast (.cons q' t))
theorem RpL.one {v : V} {d : T} (r : Rp K H v d) : RpL K H [v] [d] := .cons r .nil
theorem RpL.reverse : ∀ {vs : List V} {ds : List T}, RpL K H vs ds → RpL K H vs.reverse ds.reverse
  | _, _, .nil => .nil
  | _, _, .cons q t => by
    rw [List.reverse_cons, List.reverse_cons]
    exact (RpL.reverse t).append (.one q)
theorem RpL.rep {vs : List V} {ds : List T} (h : RpL K H vs ds) : ∀ k : Nat, RpL K H (List.replicate k vs).flatten (List.replicate k ds).flatten
  | 0 => .nil
  | k + 1 => by
    rw [List.replicate_succ, List.replicate_succ, List.flatten_cons, List.flatten_cons]
    exact h.append (RpL.rep h k)
theorem RpL.ints : ∀ {ns : List Int} {vs : List V}, RpL K H vs (ns.map .int) → vs = ns.map V.int
  | [], _, h => by cases h; rfl
  | n :: ns, _, h => by
    cases h with
    | cons h1 h2 =>
      cases h1
      rw [RpL.ints h2]; rfl
theorem RpL.ofInts : ∀ (ns : List Int), RpL K H (ns.map V.int) (ns.map .int)
  | [] => .nil
  | n :: ns => .cons (.int n) (RpL.ofInts ns)
theorem RpL.bools : ∀ {ns : List Bool} {vs : List V}, RpL K H vs (ns.map .bool) → vs = ns.map V.bl
  | [], _, h => by cases h; rfl
  | n :: ns, _, h => by
    cases h with
    | cons h1 h2 =>
      cases h1
      rw [RpL.bools h2]; rfl
end

/-! ### the state -/
/-- what a mutable object holds -/
inductive C where
  | lst (xs : List T) | dic (kvs : List (T × T)) | set (xs : List T)
/-- what stands in a slot: data, a list that is read only, an object that is owned -/
inductive Sl where
  | dat (t : T) | rol (xs : List T) | obj (c : C)
abbrev Ev := List (Option Sl)

/-- the entries of a dict with keys carried by value -/
def DV (K : KW) (H : Hp) (kvs : List (T × T)) (E : List DictEntry) : Prop := ∃ M : List (Leaf × Value), KeysOf (plainKind K.P K.w) E.toArray ∧ Pairs (plainKind K.P K.w) E M ∧ (M.map (·.1)).Nodup ∧
  Paired (fun (p : T × T) (m : Leaf × Value) => lfOf p.1 = some m.1 ∧ ∃ v, RelV v m.2 ∧ Rp K H v p.2) kvs M
/-- .. with keys that are tuples -/
def DH (K : KW) (H : Hp) (kvs : List (T × T)) (E : List DictEntry) : Prop := ∃ M : List (NestedKey × Addr × Value), E = M.map (entryOfKey (nestedKind K.P K.w)) ∧ (M.map (·.1)).Nodup ∧
  Paired (fun (p : T × T) (m : NestedKey × Addr × Value) => tkOf p.1 = some m.1 ∧ Rp K H (.ref m.2.1) p.1 ∧ ∃ v, RelV v m.2.2 ∧ Rp K H v p.2) kvs M
def RpC (K : KW) (H : Hp) (a : Addr) : C → Prop
  | .lst xs => ∃ vs, H a = some (.lst vs) ∧ RpL K H vs xs
  | .dic kvs => ∃ E, H a = some (rawO a E) ∧ (DV K H kvs E ∨ DH K H kvs E)
  | .set xs => ∃ ls : List Leaf, xs.map lfOf = ls.map some ∧ ls.Nodup ∧ H a = some (setO K.P K.w a ls)
/-- what is written to -/
def IsM : HO → Prop
  | .lst _ => True
  | .ext _ => True
  | .set _ _ => True
  | _ => False
theorem RpC.isM {K : KW} {H : Hp} {a : Addr} {c : C} (h : RpC K H a c) : ∃ o, H a = some o ∧ IsM o := by
  cases c with
  | lst xs => obtain ⟨vs, e, _⟩ := h; exact ⟨_, e, trivial⟩
  | dic kvs => obtain ⟨E, e, _⟩ := h; exact ⟨_, e, trivial⟩
  | set xs => obtain ⟨ns, _, _, e⟩ := h; exact ⟨_, e, trivial⟩
theorem IsM.mut {H : Hp} {a : Addr} {o : HO} (h : IsM o) (e : H a = some o) : Mut (H a) := by
  rw [e]
  cases o <;> first | trivial | exact absurd h id
/-- a list that is known to the object -/
def RoL (K : KW) (H : Hp) (a : Addr) (xs : List T) : Prop :=
  ∃ vs, ((∃ o, H a = some (.frz o (.lst vs))) ∨ ∃ (o : Obj) (its : Array Value) (n : Nat), K.K.lookup a = some o ∧ o.cls = .type "list" ∧ o.dict = none ∧ o.data = .seq its n ∧ its.size ≤ sizeLine ∧ Vals vs its.toList) ∧ RpL K H vs xs
theorem RoL.sq {K : KW} {H : Hp} {a : Addr} {xs : List T} (h : RoL K H a xs) : ∃ vs, SqL K H a vs ∧ RpL K H vs xs := by
  obtain ⟨vs, h, r⟩ := h
  rcases h with ⟨o, h⟩ | h
  · exact ⟨vs, .inl (.inr ⟨o, h⟩), r⟩
  · exact ⟨vs, .inr h, r⟩
theorem RpC.sq {K : KW} {H : Hp} {a : Addr} {xs : List T} (h : RpC K H a (.lst xs)) : ∃ vs, SqL K H a vs ∧ RpL K H vs xs := by
  obtain ⟨vs, h, r⟩ := h
  exact ⟨vs, .inl (.inl h), r⟩

structure SR (K : KW) (H : Hp) (σ : Sto) (ρ : Ev) : Prop where
  len : ρ.length = σ.length
  dat : ∀ (i : Nat) (t : T), ρ[i]? = some (some (.dat t)) → ∃ v, σ[i]? = some (some v) ∧ Rp K H v t
  rol : ∀ (i : Nat) (xs : List T), ρ[i]? = some (some (.rol xs)) → ∃ a, σ[i]? = some (some (.ref a)) ∧ RoL K H a xs
  obj : ∀ (i : Nat) (c : C), ρ[i]? = some (some (.obj c)) → ∃ a, σ[i]? = some (some (.ref a)) ∧ RpC K H a c
  sep : ∀ (i j : Nat) (c d : C) (a : Addr), ρ[i]? = some (some (.obj c)) → ρ[j]? = some (some (.obj d)) → σ[i]? = some (some (.ref a)) → σ[j]? = some (some (.ref a)) → i = j

def Own (σ : Sto) (ρ : Ev) (a : Addr) : Prop := ∃ (i : Nat) (c : C), ρ[i]? = some (some (.obj c)) ∧ σ[i]? = some (some (.ref a))

/-- from one state to a later one: what is not owned stands; what is owned was owned, or is new -/
structure Go (K : KW) (σ : Sto) (ρ : Ev) (H : Hp) (σ' : Sto) (ρ' : Ev) (H' : Hp) : Prop where
  keep : ∀ a o, H a = some o → ¬ Own σ ρ a → H' a = some o
  own : ∀ a, Own σ' ρ' a → Own σ ρ a ∨ H a = none
  tst : TSt K H H'
  dom : ∀ a, H' a = none → H a = none

section
variable {K : KW} {H H1 H2 : Hp} {σ σ1 σ2 : Sto} {ρ ρ1 ρ2 : Ev}
theorem Go.refl : Go K σ ρ H σ ρ H := ⟨fun _ _ h _ => h, fun _ h => .inl h, .refl K H, fun _ h => h⟩
theorem Go.trans (a : Go K σ ρ H σ1 ρ1 H1) (b : Go K σ1 ρ1 H1 σ2 ρ2 H2) : Go K σ ρ H σ2 ρ2 H2 := by
  refine ⟨fun x o h n => ?_, fun x h => ?_, a.tst.trans b.tst, fun x h => a.dom x (b.dom x h)⟩
  · refine b.keep x o (a.keep x o h n) fun z => ?_
    rcases a.own x z with z | z
    · exact n z
    · rw [h] at z; cases z
  · rcases b.own x h with z | z
    · exact a.own x z
    · cases e : H x with
      | none => exact .inr rfl
      | some o =>
        by_cases n : Own σ ρ x
        · exact .inl n
        · rw [a.keep x o e n] at z; cases z
/-- what is owned is tracked as its content -/
theorem SR.own_some (S : SR K H σ ρ) {a : Addr} (h : Own σ ρ a) : ∃ o, H a = some o ∧ IsM o := by
  obtain ⟨i, c, h1, h2⟩ := h
  obtain ⟨b, e, r⟩ := S.obj i c h1
  rw [h2] at e; cases e
  exact r.isM
theorem DV.m {H H' : Hp} {kvs : List (T × T)} {E : List DictEntry} (t : TSt K H H') (d : DV K H kvs E) : DV K H' kvs E := by
  obtain ⟨M, h1, h2, h3, h4⟩ := d
  exact ⟨M, h1, h2, h3, Paired.mapP h4 fun p m ⟨q1, v, q2, q3⟩ => ⟨q1, v, q2, q3.m t⟩⟩
theorem DH.m {H H' : Hp} {kvs : List (T × T)} {E : List DictEntry} (t : TSt K H H') (d : DH K H kvs E) : DH K H' kvs E := by
  obtain ⟨M, h1, h2, h4⟩ := d
  exact ⟨M, h1, h2, Paired.mapP h4 fun p m ⟨q1, q0, v, q2, q3⟩ => ⟨q1, q0.m t, v, q2, q3.m t⟩⟩
theorem RpC.m {K : KW} {H H' : Hp} {a : Addr} {c : C} (t : TSt K H H') (e : ∀ o, H a = some o → H' a = some o) (r : RpC K H a c) : RpC K H' a c := by
  cases c with
  | lst xs => obtain ⟨vs, h, r⟩ := r; exact ⟨vs, e _ h, r.m t⟩
  | dic kvs => obtain ⟨E, h, r⟩ := r; exact ⟨E, e _ h, r.imp (·.m t) (·.m t)⟩
  | set xs => obtain ⟨ns, h1, h2, h⟩ := r; exact ⟨ns, h1, h2, e _ h⟩
theorem RoL.m {K : KW} {H H' : Hp} {a : Addr} {xs : List T} (t : TSt K H H') (r : RoL K H a xs) : RoL K H' a xs := by
  obtain ⟨vs, h, r⟩ := r
  refine ⟨vs, ?_, r.m t⟩
  rcases h with ⟨o, h⟩ | h
  · exact .inl ⟨o, t _ _ _ h⟩
  · exact .inr h
theorem tst_new {H : Hp} {p : Addr} {o : HO} (n : H p = none) : TSt K H (upd H p o) := fun a ob u h => by
  rw [upd_ne (ne_of_none h n)]; exact h
theorem not_frz {H : Hp} {p a : Addr} {o : HO} (n : H p = some o) (m : IsM o) {ob : Obj} {u : HO} (h : H a = some (.frz ob u)) : a ≠ p := by
  rintro rfl
  rw [h] at n; cases n
  exact m
theorem tst_mut {H : Hp} {p : Addr} {o o' : HO} (n : H p = some o) (m : IsM o) : TSt K H (upd H p o') := fun a ob u h => by
  rw [upd_ne (not_frz n m h)]; exact h
theorem tst_lst {H : Hp} {p : Addr} {o : HO} {vs : List V} (n : H p = some (.lst vs)) : TSt K H (upd H p o) := tst_mut n trivial
theorem upd_none {H : Hp} {p a : Addr} {o : HO} (h : upd H p o a = none) : H a = none := by
  unfold upd at h
  split at h
  · cases h
  · exact h
/-- the state where the heap has changed, but nothing of what it holds -/
theorem SR.stay (S : SR K H σ ρ) (t : TSt K H H1) (e : ∀ a o, H a = some o → H1 a = some o) : SR K H1 σ ρ where
  len := S.len
  dat := fun i x h => let ⟨v, e1, r⟩ := S.dat i x h; ⟨v, e1, r.m t⟩
  rol := fun i x h => let ⟨a, e1, r⟩ := S.rol i x h; ⟨a, e1, r.m t⟩
  obj := fun i c h => let ⟨a, e1, r⟩ := S.obj i c h; ⟨a, e1, r.m t fun o q => e a o q⟩
  sep := S.sep
theorem same_new {H : Hp} {p : Addr} {o : HO} (n : H p = none) : ∀ a u, H a = some u → upd H p o a = some u := fun a u h => by
  rw [upd_ne (ne_of_none h n)]; exact h
theorem SR.new (S : SR K H σ ρ) {p : Addr} {o : HO} (n : H p = none) : SR K (upd H p o) σ ρ := S.stay (tst_new n) (same_new n)
theorem Go.new {p : Addr} {o : HO} (n : H p = none) : Go K σ ρ H σ ρ (upd H p o) := ⟨fun a u h _ => same_new n a u h, fun _ h => .inl h, tst_new n, fun _ h => upd_none h⟩
/-- a new address is not owned -/
theorem SR.not_own (S : SR K H σ ρ) {p : Addr} (n : H p = none) : ¬ Own σ ρ p := fun h => by
  obtain ⟨o, e, _⟩ := S.own_some h
  rw [n] at e; cases e
/-- the owned object of slot i is written -/
theorem SR.put (S : SR K H σ ρ) {i : Nat} {c c' : C} {a : Addr} {o : HO} (h : ρ[i]? = some (some (.obj c))) (e : σ[i]? = some (some (.ref a))) (new : RpC K (upd H a o) a c') : SR K (upd H a o) σ (ρ.set i (some (.obj c'))) := by
  obtain ⟨ou, ea, mu⟩ := S.own_some ⟨i, c, h, e⟩
  have t : TSt K H (upd H a o) := tst_mut ea mu
  have lt : i < ρ.length := (List.getElem?_eq_some_iff.mp h).1
  have old : ∀ {j : Nat} {x : Sl}, (∀ c, x ≠ .obj c) → (ρ.set i (some (.obj c')))[j]? = some (some x) → j ≠ i ∧ ρ[j]? = some (some x) := fun {j x} nx q => by
    by_cases hj : j = i
    · subst hj
      rw [List.getElem?_set_self lt] at q
      cases q
      exact absurd rfl (nx _)
    · rw [List.getElem?_set_ne (Ne.symm hj)] at q
      exact ⟨hj, q⟩
  refine ⟨by rw [List.length_set]; exact S.len, fun j x q => ?_, fun j x q => ?_, fun j x q => ?_, fun j k x y b q1 q2 q3 q4 => ?_⟩
  · obtain ⟨_, q⟩ := old (x := .dat x) (fun _ z => nomatch z) q
    obtain ⟨v, e1, r⟩ := S.dat j x q
    exact ⟨v, e1, r.m t⟩
  · obtain ⟨_, q⟩ := old (x := .rol x) (fun _ z => nomatch z) q
    obtain ⟨v, e1, r⟩ := S.rol j x q
    exact ⟨v, e1, r.m t⟩
  · by_cases hj : j = i
    · subst hj
      rw [List.getElem?_set_self lt] at q
      cases q
      exact ⟨a, e, new⟩
    · rw [List.getElem?_set_ne (Ne.symm hj)] at q
      obtain ⟨b, e1, r⟩ := S.obj j x q
      have : b ≠ a := by
        rintro rfl
        exact hj (S.sep j i x c b q h e1 e)
      exact ⟨b, e1, r.m t fun o q => by rw [upd_ne this]; exact q⟩
  · have back : ∀ {m : Nat} {z : C}, (ρ.set i (some (.obj c')))[m]? = some (some (.obj z)) → ∃ z', ρ[m]? = some (some (.obj z')) := fun {m z} q => by
      by_cases hm : m = i
      · subst hm; exact ⟨c, h⟩
      · rw [List.getElem?_set_ne (Ne.symm hm)] at q
        exact ⟨z, q⟩
    obtain ⟨x', p1⟩ := back q1
    obtain ⟨y', p2⟩ := back q2
    exact S.sep j k x' y' b p1 p2 q3 q4
theorem own_put {i : Nat} {c c' : C} {a : Addr} (h : ρ[i]? = some (some (.obj c))) : Own σ (ρ.set i (some (.obj c'))) a → Own σ ρ a := by
  rintro ⟨j, x, q, e⟩
  by_cases hj : j = i
  · subst hj; exact ⟨j, c, h, e⟩
  · rw [List.getElem?_set_ne (Ne.symm hj)] at q
    exact ⟨j, x, q, e⟩
theorem Go.put (S : SR K H σ ρ) {i : Nat} {c c' : C} {a : Addr} {o : HO} (h : ρ[i]? = some (some (.obj c))) (e : σ[i]? = some (some (.ref a))) : Go K σ ρ H σ (ρ.set i (some (.obj c'))) (upd H a o) := by
  obtain ⟨ou, ea, mu⟩ := S.own_some ⟨i, c, h, e⟩
  refine ⟨fun b u q n => ?_, fun b q => .inl (own_put h q), tst_mut ea mu, fun _ h => upd_none h⟩
  have : b ≠ a := by rintro rfl; exact n ⟨i, c, h, e⟩
  rw [upd_ne this]; exact q
end
end PD

namespace PD
open PySem PySem.Spec PyProof.Rows L2

/-! ### what an expression hands on -/
inductive Hd where
  | dat (t : T) | tmp (c : C) | plc (i : Nat)
def HR (K : KW) (H0 H : Hp) (σ : Sto) (ρ : Ev) : Hd → V → Prop
  | .dat t, u => Rp K H u t
  | .tmp c, u => ∃ a, u = .ref a ∧ RpC K H a c ∧ H0 a = none ∧ ¬ Own σ ρ a
  | .plc i, u => σ[i]? = some (some u)
abbrev FE := Ev → Option (Hd × Ev)
abbrev FB := Ev → Option (Bool × Ev)
abbrev FA := Ev → Option (List Hd × Ev)
inductive HRs (K : KW) (H0 H : Hp) (σ : Sto) (ρ : Ev) : List Hd → List V → Prop
  | nil : HRs K H0 H σ ρ [] []
  | cons {h : Hd} {u : V} {hs : List Hd} {us : List V} : HR K H0 H σ ρ h u → HRs K H0 H σ ρ hs us → HRs K H0 H σ ρ (h :: hs) (u :: us)
/-- the temporaries stand apart -/
def TD (hs : List Hd) (us : List V) : Prop := ∀ (i j : Nat) (c d : C) (a : Addr), hs[i]? = some (.tmp c) → hs[j]? = some (.tmp d) → us[i]? = some (.ref a) → us[j]? = some (.ref a) → i = j
/-- owned slots stay owned -/
def Kp (ρ ρ' : Ev) : Prop := ∀ (i : Nat) (c : C), ρ[i]? = some (some (.obj c)) → ∃ c', ρ'[i]? = some (some (.obj c'))
theorem Kp.refl {ρ : Ev} : Kp ρ ρ := fun _ c h => ⟨c, h⟩
theorem Kp.trans {ρ ρ1 ρ2 : Ev} (a : Kp ρ ρ1) (b : Kp ρ1 ρ2) : Kp ρ ρ2 := fun i c h => let ⟨c1, h1⟩ := a i c h; b i c1 h1
theorem Kp.put {ρ : Ev} {i : Nat} {c : C} : Kp ρ (ρ.set i (some (.obj c))) := fun j d h => by
  by_cases e : j = i
  · subst e
    exact ⟨c, List.getElem?_set_self (List.getElem?_eq_some_iff.mp h).1⟩
  · exact ⟨d, by rw [List.getElem?_set_ne (Ne.symm e)]; exact h⟩

section
variable {K : KW} {H0 H H1 H2 : Hp} {σ : Sto} {ρ ρ1 ρ2 : Ev}
theorem HR.go {h : Hd} {u : V} (r : HR K H0 H σ ρ h u) (g : Go K σ ρ H σ ρ1 H1) : HR K H0 H1 σ ρ1 h u := by
  cases h with
  | dat t => exact Rp.m g.tst r
  | tmp c =>
    obtain ⟨a, e, rc, n, no⟩ := r
    obtain ⟨o, ea, _⟩ := rc.isM
    refine ⟨a, e, rc.m g.tst fun o q => g.keep a o q no, n, fun z => ?_⟩
    rcases g.own a z with z | z
    · exact no z
    · rw [ea] at z; cases z
  | plc i => exact r
theorem HR.back {h : Hd} {u : V} (r : HR K H1 H σ ρ h u) (g : ∀ a, H1 a = none → H0 a = none) : HR K H0 H σ ρ h u := by
  cases h with
  | dat t => exact r
  | tmp c => obtain ⟨a, e, rc, n, no⟩ := r; exact ⟨a, e, rc, g a n, no⟩
  | plc i => exact r
theorem HRs.go {hs : List Hd} {us : List V} (r : HRs K H0 H σ ρ hs us) (g : Go K σ ρ H σ ρ1 H1) : HRs K H0 H1 σ ρ1 hs us := by
  induction r with
  | nil => exact .nil
  | cons h _ ih => exact .cons (h.go g) ih
theorem HRs.back {hs : List Hd} {us : List V} (r : HRs K H1 H σ ρ hs us) (g : ∀ a, H1 a = none → H0 a = none) : HRs K H0 H σ ρ hs us := by
  induction r with
  | nil => exact .nil
  | cons h _ ih => exact .cons (h.back g) ih
theorem HRs.len {hs : List Hd} {us : List V} (r : HRs K H0 H σ ρ hs us) : hs.length = us.length := by
  induction r with
  | nil => rfl
  | cons h _ ih => simp [ih]
theorem HRs.get {hs : List Hd} {us : List V} (r : HRs K H0 H σ ρ hs us) : ∀ {i : Nat} {h : Hd}, hs[i]? = some h → ∃ u, us[i]? = some u ∧ HR K H0 H σ ρ h u := by
  induction r with
  | nil => intro i h e; simp at e
  | cons h _ ih =>
    intro i h' e
    cases i with
    | zero => simp at e; subst e; exact ⟨_, rfl, h⟩
    | succ i => simpa using ih (by simpa using e)
/-- all data -/
def datsOf : List Hd → Option (List T)
  | [] => some []
  | .dat t :: hs => (datsOf hs).map (t :: ·)
  | _ :: _ => none
theorem HRs.dats {hs : List Hd} {us : List V} (r : HRs K H0 H σ ρ hs us) : ∀ {ts : List T}, datsOf hs = some ts → RpL K H us ts := by
  induction r with
  | nil => intro ts e; cases e; exact .nil
  | @cons h u hs us h1 _ ih =>
    intro ts e
    cases h with
    | dat t =>
      simp only [datsOf, Option.map_eq_some_iff] at e
      obtain ⟨ts', e, rfl⟩ := e
      exact .cons h1 (ih e)
    | tmp c => cases e
    | plc i => cases e
end

/-! ### the judgements -/
section
variable (X : Cx)
structure DE (e : Expr) (f : FE) : Prop where
  run : ∃ t : TE, PE X e t ∧ ∀ (σ : Sto) (H : Hp) (ρ : Ev) (h : Hd) (ρ' : Ev) (Q : VK), SR X.kw H σ ρ → f ρ = some (h, ρ') →
    (∀ u H', Go X.kw σ ρ H σ ρ' H' → SR X.kw H' σ ρ' → Kp ρ ρ' → HR X.kw H H' σ ρ' h u → Q u H') → t σ H Q
structure DT (e : Expr) (f : FB) : Prop where
  run : ∃ t : TT, PT X e t ∧ ∀ (σ : Sto) (H : Hp) (ρ : Ev) (b : Bool) (ρ' : Ev) (Q : Bool → Hp → Prop), SR X.kw H σ ρ → f ρ = some (b, ρ') →
    (∀ H', Go X.kw σ ρ H σ ρ' H' → SR X.kw H' σ ρ' → Kp ρ ρ' → Q b H') → t σ H Q
/-- .. whatever its whole is -/
structure DW (e : Expr) (f : FB) : Prop where
  run : ∃ t : TT, PW X e t ∧ ∀ (σ : Sto) (H : Hp) (ρ : Ev) (b : Bool) (ρ' : Ev) (Q : Bool → Hp → Prop), SR X.kw H σ ρ → f ρ = some (b, ρ') →
    (∀ H', Go X.kw σ ρ H σ ρ' H' → SR X.kw H' σ ρ' → Kp ρ ρ' → Q b H') → t σ H Q
structure DA (es : List Expr) (f : FA) : Prop where
  run : ∃ t : TA, PA X es t ∧ ∀ (σ : Sto) (H : Hp) (ρ : Ev) (hs : List Hd) (ρ' : Ev) (Q : List V → Hp → Prop), SR X.kw H σ ρ → f ρ = some (hs, ρ') →
    (∀ us H', Go X.kw σ ρ H σ ρ' H' → SR X.kw H' σ ρ' → Kp ρ ρ' → HRs X.kw H H' σ ρ' hs us → TD hs us → Q us H') → t σ H Q
end

section
variable {X : Cx} {e a b c : Expr} {es : List Expr} {fa fb fc : FE} {pos : Pos}

/-! ### names, constants -/
def fVar (i : Nat) : FE := fun ρ => match ρ[i]? with
  | some (some (.dat t)) => some (.dat t, ρ)
  | some (some _) => some (.plc i, ρ)
  | _ => none
theorem de_var (i : Nat) {x : Str} (h : PE X (.Name x pos) (tVar i)) : DE X (.Name x pos) (fVar i) := by
  refine ⟨_, h, fun σ H ρ h ρ' Q S e q => ?_⟩
  unfold fVar at e
  split at e
  · rename_i t ht
    cases e
    obtain ⟨v, ev, r⟩ := S.dat i t ht
    exact ⟨v, ev, q v H .refl S .refl r⟩
  · rename_i s hs hn
    cases e
    cases s with
    | dat t => exact (hs t rfl).elim
    | rol xs =>
      obtain ⟨a, ev, r⟩ := S.rol i xs hn
      exact ⟨_, ev, q _ H .refl S .refl ev⟩
    | obj c =>
      obtain ⟨a, ev, r⟩ := S.obj i c hn
      exact ⟨_, ev, q _ H .refl S .refl ev⟩
  · cases e
def fC (t : T) : FE := fun ρ => some (.dat t, ρ)
theorem de_c {v : V} {t : T} (h : PE X e (tC v)) (r : ∀ H, Rp X.kw H v t) : DE X e (fC t) := by
  refine ⟨_, h, fun σ H ρ h ρ' Q S e q => ?_⟩
  cases e
  exact q v H .refl S .refl (r H)
theorem de_int {i j} : DE X (.Constant (.int i) j pos) (fC (.int i)) := de_c pe_int fun _ => .int i
theorem de_bl {i j} : DE X (.Constant (.bool i) j pos) (fC (.bool i)) := de_c pe_bl fun _ => .bl i
theorem de_non {j} : DE X (.Constant .none j pos) (fC .none) := de_c pe_non fun _ => .non
theorem de_str {x j} : DE X (.Constant (.str x) j pos) (fC (.str x)) := de_c pe_str fun _ => .str x

/-! ### argument lists, displays -/
def fNil : FA := fun ρ => some ([], ρ)
def fCons (f : FE) (g : FA) : FA := fun ρ => (f ρ).bind fun p => (g p.2).map fun q => (p.1 :: q.1, q.2)
theorem da_nil : DA X [] fNil := by
  refine ⟨_, pa_nil, fun σ H ρ h ρ' Q S e q => ?_⟩
  cases e
  exact q [] H .refl S .refl .nil fun i j c d a h => by simp at h
theorem da_cons {g : FA} (ha : DE X e fa) (hr : DA X es g) (hs : starEach (e :: es) X.env = (false, eval e X.env) :: starEach es X.env := by rfl) : DA X (e :: es) (fCons fa g) := by
  obtain ⟨t, pt, rt⟩ := ha.run
  obtain ⟨u, pu, ru⟩ := hr.run
  refine ⟨_, pa_cons pt pu hs, fun σ H ρ hs ρ' Q S e q => ?_⟩
  simp only [fCons, Option.bind_eq_some_iff, Option.map_eq_some_iff] at e
  obtain ⟨⟨h1, ρ1⟩, e1, ⟨h2, ρ2⟩, e2, e3⟩ := e
  cases e3
  refine rt σ H ρ h1 ρ1 _ S e1 fun x H1 g1 S1 k1 r1 => ?_
  refine ru σ H1 ρ1 h2 ρ2 _ S1 e2 fun xs H2 g2 S2 k2 r2 d2 => ?_
  refine q (x :: xs) H2 (g1.trans g2) S2 (k1.trans k2) (.cons (r1.go g2) (r2.back g1.dom)) ?_
  -- the first stands apart from the later ones
  have away : ∀ (j : Nat) (c d : C) (a : Addr), h1 = .tmp c → h2[j]? = some (.tmp d) → x = .ref a → xs[j]? = some (.ref a) → False := fun j c d a p1 p2 p3 p4 => by
    subst p1; subst p3
    obtain ⟨b, eb, rc, _, _⟩ := r1
    cases eb
    obtain ⟨u, eu, ⟨b, eb, _, n, _⟩⟩ := r2.get p2
    rw [p4] at eu; cases eu
    cases eb
    obtain ⟨o, z, _⟩ := rc.isM
    rw [n] at z; cases z
  intro i j c d a p1 p2 p3 p4
  cases i with
  | zero =>
    cases j with
    | zero => rfl
    | succ j =>
      simp only [List.getElem?_cons_zero, List.getElem?_cons_succ, Option.some.injEq] at p1 p2 p3 p4
      exact (away j c d a p1 p2 p3 p4).elim
  | succ i =>
    cases j with
    | zero =>
      simp only [List.getElem?_cons_zero, List.getElem?_cons_succ, Option.some.injEq] at p1 p2 p3 p4
      exact (away i d c a p2 p1 p4 p3).elim
    | succ j =>
      simp only [List.getElem?_cons_succ] at p1 p2 p3 p4
      rw [d2 i j c d a p1 p2 p3 p4]
open Classical in
/-- a condition -/
noncomputable def guardP (p : Prop) : Option Unit := if p then some () else none
theorem guardP_some {p : Prop} {u : Unit} : guardP p = some u ↔ p := by
  unfold guardP
  by_cases h : p
  · rw [if_pos h]
    exact Iff.intro (fun _ => h) (fun _ => rfl)
  · rw [if_neg h]
    exact Iff.intro (fun z => by cases z) (fun z => absurd z h)
theorem guardP_pos {p : Prop} (h : p) : guardP p = some () := guardP_some.mpr h
/-- a new exact tuple is laid -/
theorem laidT {pins : List (Addr × Obj)} {σ : Sto} {H : Hp} {s : Shared} {h' : Heap} {t' : Nat} {xs : List V} {its : List Value} (I : Inv X pins σ H { s with heap := h', toks := t' }) (r : Vals xs its) (z : xs.length ≤ sizeLine) :
    ∃ ob, ExT ob ∧ H h'.objs.size = none ∧ Inv X pins σ (upd H h'.objs.size (.frz ob (.tup xs))) { s with heap := h'.push { cls := .type "tuple", data := .seq its.toArray }, toks := t' } := by
  refine ⟨{ cls := .type "tuple", data := .seq its.toArray }, ⟨rfl, rfl⟩, I.hok.fresh (Nat.le_refl _), ?_⟩
  exact I.laid (t' := t') (fun b u e => Heap.get?_push_of_some _ e) (Nat.le_refl _) (show ObjOk X.prog X.w _ _ _ (.frz _ (.tup xs)) from ⟨Heap.get?_push_size _ rfl, z, its, r, ⟨_, Heap.get?_push_size _ rfl, rfl, _, rfl⟩⟩)
def tTupX (t : TA) : TE := fun σ H Q => t σ H fun xs H1 => xs.length ≤ sizeLine ∧ ∀ p ob, H1 p = none → ExT ob → Q (.ref p) (upd H1 p (.frz ob (.tup xs)))
theorem pe_tupX {x1} {t : TA} (h : PA X es t) : PE X (.Tuple es x1 pos) (tTupX t) := by
  refine ⟨fun pins s σ H Q I hq => ?_⟩
  refine wpAny_Tuple_spliced (thn (h.run pos pins s σ H _ I hq) fun us s1 ⟨xs, H1, I1, r, z, q⟩ => ⟨by rw [← r.length]; exact z, ?_⟩)
  obtain ⟨ob, hx, hf, I2⟩ := laidT (t' := s1.toks) (h' := s1.heap) (s := s1) I1 r z
  exact ⟨.ref s1.heap.objs.size, _, I2, rfl, q _ ob hf hx⟩
noncomputable def fTup (g : FA) : FE := fun ρ => (g ρ).bind fun p => (datsOf p.1).bind fun ts => (guardP (ts.length ≤ sizeLine)).map fun _ => (.dat (.tuple ts), p.2)
theorem de_tup {g : FA} {x1} (h : DA X es g) : DE X (.Tuple es x1 pos) (fTup g) := by
  obtain ⟨t, pt, rt⟩ := h.run
  refine ⟨_, pe_tupX pt, fun σ H ρ hs ρ' Q S e q => ?_⟩
  simp only [fTup, Option.bind_eq_some_iff, Option.map_eq_some_iff, guardP_some] at e
  obtain ⟨⟨h1, ρ1⟩, e1, ts, e2, _, e4, e3⟩ := e
  cases e3
  refine rt σ H ρ h1 ρ1 _ S e1 fun xs H1 g1 S1 k1 r1 d1 => ?_
  have r := r1.dats e2
  refine ⟨by rw [r.length]; exact e4, fun p ob np hx => ?_⟩
  exact q _ _ (g1.trans (.new np)) (S1.new np) k1 (.tup (.new hx) (r.m (tst_new np)))
noncomputable def fLst (g : FA) : FE := fun ρ => (g ρ).bind fun p => (datsOf p.1).bind fun ts => (guardP (ts.length ≤ sizeLine)).map fun _ => (.tmp (.lst ts), p.2)
theorem HR.tmpL {K : KW} {H H0 : Hp} {σ : Sto} {ρ : Ev} {p : Addr} {vs : List V} {ts : List T} (S : SR K H σ ρ) (np : H p = none) (n0 : H0 p = none) (r : RpL K H vs ts) : HR K H0 (upd H p (.lst vs)) σ ρ (.tmp (.lst ts)) (.ref p) :=
  ⟨p, rfl, ⟨vs, upd_same, r.m (tst_new np)⟩, n0, S.not_own np⟩
theorem de_lst {g : FA} (h : DA X es g) : DE X (.List es pos) (fLst g) := by
  obtain ⟨t, pt, rt⟩ := h.run
  refine ⟨_, pe_lst pt, fun σ H ρ hs ρ' Q S e q => ?_⟩
  simp only [fLst, Option.bind_eq_some_iff, Option.map_eq_some_iff, guardP_some] at e
  obtain ⟨⟨h1, ρ1⟩, e1, ts, e2, _, e4, e3⟩ := e
  cases e3
  refine rt σ H ρ h1 ρ1 _ S e1 fun xs H1 g1 S1 k1 r1 d1 => ?_
  have r := r1.dats e2
  refine ⟨by rw [r.length]; exact e4, fun p np => ?_⟩
  exact q _ _ (g1.trans (.new np)) (S1.new np) k1 (HR.tmpL S1 np (g1.dom _ np) r)

/-! ### operators -/
abbrev GB := Hd → Hd → Ev → Option Hd
/-- an operator, by values -/
def DOp (X : Cx) (F : Value → Value → Sem Value) (g : GB) : Prop :=
  ∃ r : R2, OpR X F r ∧ ∀ (σ : Sto) (H0 H : Hp) (ρ : Ev) (h1 h2 h3 : Hd) (x y : V) (Q : VK), SR X.kw H σ ρ → HR X.kw H0 H σ ρ h1 x → HR X.kw H0 H σ ρ h2 y → g h1 h2 ρ = some h3 →
    (∀ u H', Go X.kw σ ρ H σ ρ H' → SR X.kw H' σ ρ → HR X.kw H H' σ ρ h3 u → Q u H') → r x y H Q
theorem DOp.or {F : Value → Value → Sem Value} {g g' : GB} (h : DOp X F g) (h' : DOp X F g') : DOp X F (fun a b ρ => (g a b ρ).or (g' a b ρ)) := by
  obtain ⟨r, o, p⟩ := h
  obtain ⟨r', o', p'⟩ := h'
  refine ⟨_, o.or o', fun σ H0 H ρ h1 h2 h3 x y Q S r1 r2 e q => ?_⟩
  simp only [Option.or_eq_some_iff] at e
  rcases e with e | ⟨_, e⟩
  · exact .inl (p σ H0 H ρ h1 h2 h3 x y Q S r1 r2 e q)
  · exact .inr (p' σ H0 H ρ h1 h2 h3 x y Q S r1 r2 e q)
def fBin (g : GB) (fa fb : FE) : FE := fun ρ => (fa ρ).bind fun p => (fb p.2).bind fun q => (g p.1 q.1 q.2).map fun h => (h, q.2)
theorem de_bin {op : Operator} {g : GB} (ho : DOp X (binaryOp op) g) (ha : DE X a fa) (hb : DE X b fb) : DE X (.BinOp a op b pos) (fBin g fa fb) := by
  obtain ⟨t, pt, rt⟩ := ha.run
  obtain ⟨u, pu, ru⟩ := hb.run
  obtain ⟨r, o, ro⟩ := ho
  refine ⟨_, pe_op o pt pu, fun σ H ρ hs ρ' Q S e q => ?_⟩
  simp only [fBin, Option.bind_eq_some_iff, Option.map_eq_some_iff] at e
  obtain ⟨⟨h1, ρ1⟩, e1, ⟨h2, ρ2⟩, e2, h3, e4, e3⟩ := e
  cases e3
  refine rt σ H ρ h1 ρ1 _ S e1 fun x H1 g1 S1 k1 r1 => ?_
  refine ru σ H1 ρ1 h2 ρ2 _ S1 e2 fun y H2 g2 S2 k2 r2 => ?_
  exact ro σ H H2 _ h1 h2 _ x y Q S2 (r1.go g2) (r2.back g1.dom) e4 fun w H3 g3 S3 r3 => q w H3 ((g1.trans g2).trans g3) S3 (k1.trans k2) (r3.back fun a n => g1.dom a (g2.dom a n))
/-- a comparison as a value -/
theorem de_cmp {op : CmpOp} {g : GB} (ho : DOp X (compareOp op) g) (ha : DE X a fa) (hb : DE X b fb) (hm : behindInMarks op b = false := by first | exact nobehind _ (by decide) (by decide) | rfl) : DE X (.Compare a [op] [b] pos) (fBin g fa fb) := by
  obtain ⟨t, pt, rt⟩ := ha.run
  obtain ⟨u, pu, ru⟩ := hb.run
  obtain ⟨r, o, ro⟩ := ho
  refine ⟨_, pe_cmpR o pt pu hm, fun σ H ρ hs ρ' Q S e q => ?_⟩
  simp only [fBin, Option.bind_eq_some_iff, Option.map_eq_some_iff] at e
  obtain ⟨⟨h1, ρ1⟩, e1, ⟨h2, ρ2⟩, e2, h3, e4, e3⟩ := e
  cases e3
  refine rt σ H ρ h1 ρ1 _ S e1 fun x H1 g1 S1 k1 r1 => ?_
  refine ru σ H1 ρ1 h2 ρ2 _ S1 e2 fun y H2 g2 S2 k2 r2 => ?_
  exact ro σ H H2 _ h1 h2 _ x y Q S2 (r1.go g2) (r2.back g1.dom) e4 fun w H3 g3 S3 r3 => q w H3 ((g1.trans g2).trans g3) S3 (k1.trans k2) (r3.back fun a n => g1.dom a (g2.dom a n))
/-- data that is a truth value -/
def boolOf : Hd → Option Bool
  | .dat (.bool b) => some b
  | _ => none
theorem boolOf_some {h : Hd} {b : Bool} (e : boolOf h = some b) : h = .dat (.bool b) := by
  unfold boolOf at e
  split at e
  · cases e; rfl
  · cases e
def fTst (f : FE) : FB := fun ρ => (f ρ).bind fun p => (boolOf p.1).map fun b => (b, p.2)
theorem dt_cmp {op : CmpOp} {g : GB} (ho : DOp X (compareOp op) g) (ha : DE X a fa) (hb : DE X b fb) (hm : behindInMarks op b = false := by first | exact nobehind _ (by decide) (by decide) | rfl) : DT X (.Compare a [op] [b] pos) (fTst (fBin g fa fb)) := by
  obtain ⟨t, pt, rt⟩ := ha.run
  obtain ⟨u, pu, ru⟩ := hb.run
  obtain ⟨r, o, ro⟩ := ho
  refine ⟨_, pt_cmpR o pt pu hm, fun σ H ρ hs ρ' Q S e q => ?_⟩
  simp only [fTst, fBin, Option.bind_eq_some_iff, Option.map_eq_some_iff] at e
  obtain ⟨p, ⟨⟨h1, ρ1⟩, e1, ⟨h2, ρ2⟩, e2, h3, e4, e3⟩, bb, e5, e6⟩ := e
  cases e3
  cases e6
  have e5 := boolOf_some e5
  have e5 : h3 = _ := e5
  subst e5
  refine rt σ H ρ h1 ρ1 _ S e1 fun x H1 g1 S1 k1 r1 => ?_
  refine ru σ H1 ρ1 h2 ρ2 _ S1 e2 fun y H2 g2 S2 k2 r2 => ?_
  refine ro σ H H2 ρ2 h1 h2 _ x y _ S2 (r1.go g2) (r2.back g1.dom) e4 fun w H3 g3 S3 r3 => ?_
  cases r3
  exact ⟨_, rfl, q H3 ((g1.trans g2).trans g3) S3 (k1.trans k2)⟩
/-- an expression whose value is a truth value, as a test -/
theorem dt_val (ha : DE X e fa) (he : ∀ whole, isTrue e X.env whole = (do let v ← whole; standAt e.pos; holding [v] (truthy v)) := by intro _; rfl) : DT X e (fTst fa) := by
  obtain ⟨t, pt, rt⟩ := ha.run
  refine ⟨_, pt_val pt he, fun σ H ρ hs ρ' Q S e q => ?_⟩
  simp only [fTst, Option.bind_eq_some_iff, Option.map_eq_some_iff] at e
  obtain ⟨⟨h1, ρ1⟩, e1, bb, e5, e6⟩ := e
  cases e6
  have e5 : h1 = _ := boolOf_some e5
  subst e5
  refine rt σ H ρ _ ρ1 _ S e1 fun x H1 g1 S1 k1 r1 => ?_
  cases r1
  exact ⟨_, rfl, q H1 g1 S1 k1⟩
theorem DW.t {f : FB} (h : DW X e f) : DT X e f := let ⟨t, p, r⟩ := h.run; ⟨t, p.pt, r⟩
def fAnd (f g : FB) : FB := fun ρ => (f ρ).bind fun p => if p.1 = true then g p.2 else some (false, p.2)
def fOr (f g : FB) : FB := fun ρ => (f ρ).bind fun p => if p.1 = true then some (true, p.2) else g p.2
def fNot (f : FB) : FB := fun ρ => (f ρ).map fun p => (!p.1, p.2)
theorem dw_and1 {f : FB} (h : DT X a f) : DW X (.BoolOp .And [a] pos) f := let ⟨t, p, r⟩ := h.run; ⟨t, pw_and1 p, r⟩
theorem dw_or1 {f : FB} (h : DT X a f) : DW X (.BoolOp .Or [a] pos) f := let ⟨t, p, r⟩ := h.run; ⟨t, pw_or1 p, r⟩
variable {rest : List Expr} {f g : FB}
theorem dw_and (ha : DT X a f) (hb : DW X (.BoolOp .And (b :: rest) pos) g) : DW X (.BoolOp .And (a :: b :: rest) pos) (fAnd f g) := by
  obtain ⟨t, pt, rt⟩ := ha.run
  obtain ⟨u, pu, ru⟩ := hb.run
  refine ⟨_, pw_and pt pu, fun σ H ρ k ρ' Q S e q => ?_⟩
  simp only [fAnd, Option.bind_eq_some_iff] at e
  obtain ⟨⟨h1, ρ1⟩, e1, e2⟩ := e
  refine rt σ H ρ h1 ρ1 _ S e1 fun H1 g1 S1 k1 => ?_
  cases h1 with
  | true => exact ru σ H1 ρ1 k ρ' Q S1 e2 fun H2 g2 S2 k2 => q H2 (g1.trans g2) S2 (k1.trans k2)
  | false => cases e2; exact q H1 g1 S1 k1
theorem dw_or (ha : DT X a f) (hb : DW X (.BoolOp .Or (b :: rest) pos) g) : DW X (.BoolOp .Or (a :: b :: rest) pos) (fOr f g) := by
  obtain ⟨t, pt, rt⟩ := ha.run
  obtain ⟨u, pu, ru⟩ := hb.run
  refine ⟨_, pw_or pt pu, fun σ H ρ k ρ' Q S e q => ?_⟩
  simp only [fOr, Option.bind_eq_some_iff] at e
  obtain ⟨⟨h1, ρ1⟩, e1, e2⟩ := e
  refine rt σ H ρ h1 ρ1 _ S e1 fun H1 g1 S1 k1 => ?_
  cases h1 with
  | false => exact ru σ H1 ρ1 k ρ' Q S1 e2 fun H2 g2 S2 k2 => q H2 (g1.trans g2) S2 (k1.trans k2)
  | true => cases e2; exact q H1 g1 S1 k1
theorem dt_not (ha : DT X a f) : DT X (.UnaryOp .Not a pos) (fNot f) := by
  obtain ⟨t, pt, rt⟩ := ha.run
  refine ⟨_, pt_not pt, fun σ H ρ k ρ' Q S e q => ?_⟩
  simp only [fNot, Option.map_eq_some_iff] at e
  obtain ⟨⟨h1, ρ1⟩, e1, e2⟩ := e
  cases e2
  exact rt σ H ρ h1 ρ1 _ S e1 fun H1 g1 S1 k1 => q H1 g1 S1 k1
/-! .. as values -/
def fAndV (f g : FE) : FE := fun ρ => (f ρ).bind fun p => (boolOf p.1).bind fun b => if b = true then g p.2 else some (.dat (.bool false), p.2)
def fOrV (f g : FE) : FE := fun ρ => (f ρ).bind fun p => (boolOf p.1).bind fun b => if b = true then some (.dat (.bool true), p.2) else g p.2
def fNotV (f : FE) : FE := fun ρ => (f ρ).bind fun p => (boolOf p.1).map fun b => (.dat (.bool !b), p.2)
theorem de_one {op} (h : DE X a fa) : DE X (.BoolOp op [a] pos) fa := let ⟨t, p, r⟩ := h.run; ⟨t, pe_one p, r⟩
theorem de_and (ha : DE X a fa) (hb : DE X (.BoolOp .And (b :: rest) pos) fb) : DE X (.BoolOp .And (a :: b :: rest) pos) (fAndV fa fb) := by
  obtain ⟨t, pt, rt⟩ := ha.run
  obtain ⟨u, pu, ru⟩ := hb.run
  refine ⟨_, pe_and pt pu, fun σ H ρ k ρ' Q S e q => ?_⟩
  simp only [fAndV, Option.bind_eq_some_iff] at e
  obtain ⟨⟨h1, ρ1⟩, e1, bb, e3, e2⟩ := e
  have e3 : h1 = _ := boolOf_some e3
  subst e3
  refine rt σ H ρ _ ρ1 _ S e1 fun x H1 g1 S1 k1 r1 => ?_
  cases r1
  refine ⟨bb, rfl, ?_⟩
  cases bb with
  | true => exact ru σ H1 ρ1 k ρ' Q S1 e2 fun x H2 g2 S2 k2 r2 => q x H2 (g1.trans g2) S2 (k1.trans k2) (r2.back g1.dom)
  | false => cases e2; exact q _ H1 g1 S1 k1 (.bl false)
theorem de_or (ha : DE X a fa) (hb : DE X (.BoolOp .Or (b :: rest) pos) fb) : DE X (.BoolOp .Or (a :: b :: rest) pos) (fOrV fa fb) := by
  obtain ⟨t, pt, rt⟩ := ha.run
  obtain ⟨u, pu, ru⟩ := hb.run
  refine ⟨_, pe_or pt pu, fun σ H ρ k ρ' Q S e q => ?_⟩
  simp only [fOrV, Option.bind_eq_some_iff] at e
  obtain ⟨⟨h1, ρ1⟩, e1, bb, e3, e2⟩ := e
  have e3 : h1 = _ := boolOf_some e3
  subst e3
  refine rt σ H ρ _ ρ1 _ S e1 fun x H1 g1 S1 k1 r1 => ?_
  cases r1
  refine ⟨bb, rfl, ?_⟩
  cases bb with
  | false => exact ru σ H1 ρ1 k ρ' Q S1 e2 fun x H2 g2 S2 k2 r2 => q x H2 (g1.trans g2) S2 (k1.trans k2) (r2.back g1.dom)
  | true => cases e2; exact q _ H1 g1 S1 k1 (.bl true)
theorem de_not (ha : DE X a fa) : DE X (.UnaryOp .Not a pos) (fNotV fa) := by
  obtain ⟨t, pt, rt⟩ := ha.run
  refine ⟨_, pe_not pt, fun σ H ρ k ρ' Q S e q => ?_⟩
  simp only [fNotV, Option.bind_eq_some_iff, Option.map_eq_some_iff] at e
  obtain ⟨⟨h1, ρ1⟩, e1, bb, e3, e2⟩ := e
  cases e2
  have e3 : h1 = _ := boolOf_some e3
  subst e3
  refine rt σ H ρ _ ρ1 _ S e1 fun x H1 g1 S1 k1 r1 => ?_
  cases r1
  exact ⟨bb, rfl, q _ H1 g1 S1 k1 (.bl _)⟩
/-- a if c else b -/
def fIf (f : FB) (g g' : FE) : FE := fun ρ => (f ρ).bind fun p => if p.1 = true then g p.2 else g' p.2
theorem de_if (hc : DT X c f) (ha : DE X a fa) (hb : DE X b fb) : DE X (.IfExp c a b pos) (fIf f fa fb) := by
  obtain ⟨t, pt, rt⟩ := hc.run
  obtain ⟨u, pu, ru⟩ := ha.run
  obtain ⟨v, pv, rv⟩ := hb.run
  refine ⟨_, pe_ifExp pt pu pv, fun σ H ρ k ρ' Q S e q => ?_⟩
  simp only [fIf, Option.bind_eq_some_iff] at e
  obtain ⟨⟨h1, ρ1⟩, e1, e2⟩ := e
  refine rt σ H ρ h1 ρ1 _ S e1 fun H1 g1 S1 k1 => ?_
  cases h1 with
  | true => exact ru σ H1 ρ1 k ρ' Q S1 e2 fun x H2 g2 S2 k2 r2 => q x H2 (g1.trans g2) S2 (k1.trans k2) (r2.back g1.dom)
  | false => exact rv σ H1 ρ1 k ρ' Q S1 e2 fun x H2 g2 S2 k2 r2 => q x H2 (g1.trans g2) S2 (k1.trans k2) (r2.back g1.dom)
end
end PD

namespace PD
open PySem PySem.Spec PyProof.Rows L2

/-! ### tuple * int -/
theorem tuple_mul0 (l : Addr) (items : Array Value) (n : Nat) (dd : Option Addr) (sl : Array (Option Value)) (x : Int) (u : Tok) (c0 : (decide (x < -(2 ^ 63)) || decide (x ≥ 2 ^ 63)) = false) (c1 : (items.isEmpty || x == 1) = false) (c2 : (decide (x ≤ 0) || items.isEmpty) = true) :
    Meets (Builtin.«tuple.__mul__» ⟨[.ref l, .int x u], []⟩) (fun _ R s => s.heap.get? l = some { cls := .type "tuple", dict := dd, data := .seq items n, slots := sl } ∧
      R (.ok (.ret (Value.ref s.heap.objs.size))) { s with heap := s.heap.push { cls := Value.type "tuple", data := Data.seq #[] }, toks := s.toks }) :=
  .of_wp fun prog w A R s h => by
    obtain ⟨hp, g, d, tk, os⟩ := s
    obtain ⟨hl, h⟩ := h
    have f1 := AutoSeq1.idx_int
    wp_walk using wpAny_loadPart' hl
    repeat (first
      | (refine wpAny_ite_false (decide_eq_false (by rw [c0]; exact Bool.false_ne_true)) ?_; wp_walk using wpAny_loadPart' hl)
      | (refine wpAny_ite_false (decide_eq_false (by rw [c1]; exact Bool.false_ne_true)) ?_; wp_walk using wpAny_loadPart' hl)
      | (refine wpAny_ite_true (decide_eq_true (by rw [c2])) ?_; wp_walk using wpAny_loadPart' hl))
    exact ⟨_, rfl, h⟩
theorem tuple_mul1 (l : Addr) (items : Array Value) (n : Nat) (dd : Option Addr) (sl : Array (Option Value)) (x : Int) (u : Tok) (c0 : (decide (x < -(2 ^ 63)) || decide (x ≥ 2 ^ 63)) = false) (c1 : (items.isEmpty || x == 1) = true) :
    Meets (Builtin.«tuple.__mul__» ⟨[.ref l, .int x u], []⟩) (fun _ R s => s.heap.get? l = some { cls := .type "tuple", dict := dd, data := .seq items n, slots := sl } ∧
      R (.ok (.ret (Value.ref l))) s) :=
  .of_wp fun prog w A R s h => by
    obtain ⟨hp, g, d, tk, os⟩ := s
    obtain ⟨hl, h⟩ := h
    have f1 := AutoSeq1.idx_int
    wp_walk using wpAny_loadPart' hl
    repeat (first
      | (refine wpAny_ite_false (decide_eq_false (by rw [c0]; exact Bool.false_ne_true)) ?_; wp_walk using wpAny_loadPart' hl)
      | (refine wpAny_ite_true (decide_eq_true (by rw [c1])) ?_; wp_walk using wpAny_loadPart' hl))
    exact ⟨_, rfl, h⟩
/-- t * k, k any small number -/
def rRepA (K : KW) : R2 := fun x y H Q => ∃ l k xs, x = .ref l ∧ y = .int k ∧ SqT K H l xs ∧ -1000000 ≤ k ∧ k ≤ 1000000 ∧ xs.length * k.toNat ≤ 1000000 ∧
  (xs = [] ∨ k = 1 → Q (.ref l) H) ∧ ∀ p ob, H p = none → ExT ob → Q (.ref p) (upd H p (.frz ob (.tup (List.replicate k.toNat xs).flatten)))
section
variable {X : Cx}
theorem op_repA : OpR X (binaryOp .Mult) (rRepA X.kw) := by
  intro pins s σ H x y v u Q I rx ry h
  obtain ⟨l, k, xs, rfl, rfl, hT, h1, h2, hz, qs, q⟩ := h
  cases rx
  obtain ⟨t, rfl⟩ := ry
  obtain ⟨its, r, ⟨⟨cls, dd, data, sl⟩, ho, hc, n, hd⟩, hs⟩ := I.tuple hT
  simp only at hc hd
  subst hc hd
  have hle : its.length = xs.length := r.length.symm
  have c0 : (decide (k < -(2 ^ 63)) || decide (k ≥ 2 ^ 63)) = false := by
    rw [decide_eq_false (by omega), decide_eq_false (by omega)] <;> rfl
  by_cases h1' : xs = [] ∨ k = 1
  · have c1 : (its.toArray.isEmpty || k == 1) = true := by
      rcases h1' with e | e
      · subst e
        have : its = [] := List.eq_nil_of_length_eq_zero hle
        subst this
        rfl
      · subst e
        simp
    refine wpAny_binaryOp_repeat_ref (T := "tuple") (U := "int") (by decide) ⟨_, ho, rfl⟩ (fun s' => typeIs_int s' k t) noFill_tuple_mul F.fills_int_mul F.slot_int_rmul repeat_tuple F.slot_int_index.lookup
      (call_meets F.slot_int_rmul (typeIs_int s k t) F.entry_int_rmul (F.args_int_rmul_2 _ _) (int_rmul_tuple k t l its.toArray n dd sl)
        ⟨ho, rfl, ⟨_, ho, rfl⟩, call_meets F.slot_tuple_mul ⟨_, ho, rfl⟩ F.entry_tuple_mul (F.args_tuple_mul_2 _ _) (tuple_mul1 l its.toArray n dd sl k t c0 c1) ⟨ho, ?_⟩⟩)
    exact ⟨.ref l, H, I, rfl, qs h1'⟩
  · have hne : xs ≠ [] := fun e => h1' (.inl e)
    have hk1 : k ≠ 1 := fun e => h1' (.inr e)
    have hn : its ≠ [] := fun e => hne (by
      rw [e] at hle
      exact List.eq_nil_of_length_eq_zero hle.symm)
    have hi : its.toArray.isEmpty = false := by
      cases its with
      | nil => exact absurd rfl hn
      | cons a b => rfl
    have c1 : (its.toArray.isEmpty || k == 1) = false := by
      rw [hi, Bool.false_or]
      exact beq_eq_false_iff_ne.mpr hk1
    by_cases hk : k ≤ 0
    · have c2 : (decide (k ≤ 0) || its.toArray.isEmpty) = true := by rw [decide_eq_true hk]; rfl
      refine wpAny_binaryOp_repeat_ref (T := "tuple") (U := "int") (by decide) ⟨_, ho, rfl⟩ (fun s' => typeIs_int s' k t) noFill_tuple_mul F.fills_int_mul F.slot_int_rmul repeat_tuple F.slot_int_index.lookup
        (call_meets F.slot_int_rmul (typeIs_int s k t) F.entry_int_rmul (F.args_int_rmul_2 _ _) (int_rmul_tuple k t l its.toArray n dd sl)
          ⟨ho, rfl, ⟨_, ho, rfl⟩, call_meets F.slot_tuple_mul ⟨_, ho, rfl⟩ F.entry_tuple_mul (F.args_tuple_mul_2 _ _) (tuple_mul0 l its.toArray n dd sl k t c0 c1 c2) ⟨ho, ?_⟩⟩)
      have e0 : k.toNat = 0 := by omega
      rw [e0] at q
      obtain ⟨ob, hx, hf, I2⟩ := laidT (t' := s.toks) (h' := s.heap) (s := s) (xs := []) (its := []) I .nil (Nat.zero_le _)
      exact ⟨.ref s.heap.objs.size, _, I2, rfl, q _ ob hf hx⟩
    · have hsz0 : its.toArray.size = xs.length := by rw [List.size_toArray, hle]
      have hkn : ((k.toNat : Nat) : Int) = k := by omega
      have hm : ((its.toArray.size : Nat) : Int) * k ≤ 1000000 := by
        rw [hsz0, ← hkn]
        have e : ((xs.length * k.toNat : Nat) : Int) = (xs.length : Int) * (k.toNat : Int) := Int.natCast_mul _ _
        omega
      have flen : (List.replicate k.toNat its).flatten.length ≤ sizeLine := by
        rw [PyProof.Rows.lm_len_rep_flat, hle, sizeLine_eq, Nat.mul_comm]
        omega
      have c2 : (decide (k ≤ 0) || its.toArray.isEmpty) = false := by
        rw [hi, Bool.or_false]
        exact decide_eq_false hk
      have c4 : Builtin.Tuple.tupleTooMany (((its.toArray.size : Nat) : Int) * k) = false := by
        unfold Builtin.Tuple.tupleTooMany
        rw [sizeLine_eq]
        exact decide_eq_false (by omega)
      refine wpAny_binaryOp_repeat_ref (T := "tuple") (U := "int") (by decide) ⟨_, ho, rfl⟩ (fun s' => typeIs_int s' k t) noFill_tuple_mul F.fills_int_mul F.slot_int_rmul repeat_tuple F.slot_int_index.lookup
        (call_meets F.slot_int_rmul (typeIs_int s k t) F.entry_int_rmul (F.args_int_rmul_2 _ _) (int_rmul_tuple k t l its.toArray n dd sl)
          ⟨ho, rfl, ⟨_, ho, rfl⟩, call_meets F.slot_tuple_mul ⟨_, ho, rfl⟩ F.entry_tuple_mul (F.args_tuple_mul_2 _ _) (tuple_mulW l its.toArray n dd sl k t c0 c1 c2 (by omega) c4 (by rw [size_rep, List.size_toArray]; exact flen)) ⟨ho, ?_⟩⟩)
      rw [size_rep]
      obtain ⟨ob, hx, hf, I2⟩ := laidT (t' := s.toks) (h' := s.heap) (s := s) (xs := (List.replicate k.toNat xs).flatten) (its := (List.replicate k.toNat its).flatten) I (r.rep k.toNat) (by rw [PyProof.Rows.lm_len_rep_flat, sizeLine_eq, Nat.mul_comm]; omega)
      exact ⟨.ref s.heap.objs.size, _, I2, rfl, q _ ob hf hx⟩

/-- t + u -/
def rCatX (K : KW) : R2 := fun x y H Q => ∃ a b xs ys, x = .ref a ∧ y = .ref b ∧ SqT K H a xs ∧ SqT K H b ys ∧ xs.length + ys.length ≤ sizeLine ∧
  (xs = [] → Q (.ref b) H) ∧ (xs ≠ [] → ys = [] → Q (.ref a) H) ∧ (∀ p ob, H p = none → ExT ob → Q (.ref p) (upd H p (.frz ob (.tup (xs ++ ys)))))
theorem op_catX : OpR X (binaryOp .Add) (rCatX X.kw) := by
  intro pins s σ H x y v u Q I rx ry h
  obtain ⟨a, b, xs, ys, rfl, rfl, ha, hb, hz, q0, q1, q2⟩ := h
  cases rx
  cases ry
  obtain ⟨its, r1, p1, _⟩ := I.tuple ha
  obtain ⟨its2, r2, p2, _⟩ := I.tuple hb
  by_cases hx : xs = []
  · subst hx
    cases r1
    exact cat_tup0 p1 p2 ⟨.ref b, H, I, rfl, q0 rfl⟩
  · refine HT.cat_tup p1 p2 (fun z => hx (r1.nil_iff.mp z)) (fun z => ⟨.ref a, H, I, rfl, q1 hx (r2.nil_iff.mp z)⟩) (fun z => ?_) (by rw [← r1.length, ← r2.length]; exact hz)
    obtain ⟨ob, hx, hf, I2⟩ := laidT (t' := s.toks) (h' := s.heap) (s := s) I (r1.append r2) (by rw [List.length_append]; exact hz)
    exact ⟨.ref s.heap.objs.size, _, I2, rfl, q2 _ ob hf hx⟩
/-! ### equality, order, membership over data -/
def rEqP (K : KW) : R2 := fun x y H Q => ∃ d e, Dp K H x d ∧ Dp K H y e ∧ d.plain = true ∧ e.plain = true ∧ min d.depth e.depth ≤ 60 ∧ Q (.bl (PyData.eqv d e)) H
def rNeP (K : KW) : R2 := fun x y H Q => ∃ d e, Dp K H x d ∧ Dp K H y e ∧ d.plain = true ∧ e.plain = true ∧ min d.depth e.depth ≤ 60 ∧ Q (.bl (!PyData.eqv d e)) H
theorem op_eqP (hu : X.A.units + 64 < cLine) : OpR X (compareOp .Eq) (rEqP X.kw) := by
  intro pins s σ H x y v u Q I rx ry h
  obtain ⟨d, e, hd, he, sd, se, sm, q⟩ := h
  obtain ⟨as, r1⟩ := Dp.reads I d x v hd rx
  obtain ⟨bs, r2⟩ := Dp.reads I e y u he ry
  exact SeqAt.eq_plain r1 r2 sd se (by omega) ⟨.bl _, H, I, rfl, q⟩
theorem op_neP (hu : X.A.units + 64 < cLine) : OpR X (compareOp .NotEq) (rNeP X.kw) := by
  intro pins s σ H x y v u Q I rx ry h
  obtain ⟨d, e, hd, he, sd, se, sm, q⟩ := h
  obtain ⟨as, r1⟩ := Dp.reads I d x v hd rx
  obtain ⟨bs, r2⟩ := Dp.reads I e y u he ry
  exact SeqAt.ne_plain r1 r2 sd se (by omega) ⟨.bl _, H, I, rfl, q⟩

/-- the data that a handle reads as -/
def py (h : Hd) (ρ : Ev) : Option PyData := match h with
  | .dat t => some t
  | .tmp (.lst xs) => some (.list xs)
  | .tmp _ => none
  | .plc i => match ρ[i]? with
    | some (some (.obj (.lst xs))) => some (.list xs)
    | some (some (.rol xs)) => some (.list xs)
    | _ => none
theorem py_dp {K : KW} {H0 H : Hp} {σ : Sto} {ρ : Ev} {h : Hd} {u : V} {d : PyData} (S : SR K H σ ρ) (r : HR K H0 H σ ρ h u) (e : py h ρ = some d) : Dp K H u d ∧ d.plain = true := by
  cases h with
  | dat t => cases e; exact ⟨Rp.dp _ _ r, Rp.plain _ _ r⟩
  | tmp c =>
    cases c with
    | dic _ => first | (cases e; done) | (cases e2; done) | (cases ex; done) | (cases e1; done)
    | set _ => first | (cases e; done) | (cases e2; done) | (cases ex; done) | (cases e1; done)
    | lst xs =>
      cases e
      obtain ⟨a, rfl, rc, _, _⟩ := r
      obtain ⟨vs, q, r⟩ := rc.sq
      exact ⟨.lst q (RpL.dp _ _ r), RpL.plain _ _ r⟩
  | plc i =>
    have r : σ[i]? = some (some u) := r
    unfold py at e
    simp only at e
    split at e
    · rename_i xs hx
      cases e
      obtain ⟨a, ea, rc⟩ := S.obj i _ hx
      rw [r] at ea; cases ea
      obtain ⟨vs, q, r⟩ := rc.sq
      exact ⟨.lst q (RpL.dp _ _ r), RpL.plain _ _ r⟩
    · rename_i xs hx
      cases e
      obtain ⟨a, ea, rc⟩ := S.rol i _ hx
      rw [r] at ea; cases ea
      obtain ⟨vs, q, r⟩ := rc.sq
      exact ⟨.lst q (RpL.dp _ _ r), RpL.plain _ _ r⟩
    · cases e
noncomputable def gEq : GB := fun a b ρ => (py a ρ).bind fun d => (py b ρ).bind fun e => (guardP (min d.depth e.depth ≤ 60)).map fun _ => .dat (.bool (PyData.eqv d e))
noncomputable def gNe : GB := fun a b ρ => (py a ρ).bind fun d => (py b ρ).bind fun e => (guardP (min d.depth e.depth ≤ 60)).map fun _ => .dat (.bool (!PyData.eqv d e))
theorem dop_eq (hu : X.A.units + 64 < cLine) : DOp X (compareOp .Eq) gEq := by
  refine ⟨_, op_eqP hu, fun σ H0 H ρ h1 h2 h3 x y Q S r1 r2 e q => ?_⟩
  simp only [gEq, Option.bind_eq_some_iff, Option.map_eq_some_iff, guardP_some] at e
  obtain ⟨d, e1, d', e2, _, hd, rfl⟩ := e
  obtain ⟨p1, n1⟩ := py_dp S r1 e1
  obtain ⟨p2, n2⟩ := py_dp S r2 e2
  exact ⟨d, d', p1, p2, n1, n2, hd, q _ H .refl S (.bl _)⟩
theorem dop_ne (hu : X.A.units + 64 < cLine) : DOp X (compareOp .NotEq) gNe := by
  refine ⟨_, op_neP hu, fun σ H0 H ρ h1 h2 h3 x y Q S r1 r2 e q => ?_⟩
  simp only [gNe, Option.bind_eq_some_iff, Option.map_eq_some_iff, guardP_some] at e
  obtain ⟨d, e1, d', e2, _, hd, rfl⟩ := e
  obtain ⟨p1, n1⟩ := py_dp S r1 e1
  obtain ⟨p2, n2⟩ := py_dp S r2 e2
  exact ⟨d, d', p1, p2, n1, n2, hd, q _ H .refl S (.bl _)⟩
/-! order -/
open PySem.W in
noncomputable def gOrd (f : PyData → PyData → Bool) : GB := fun a b ρ => (py a ρ).bind fun d => (py b ρ).bind fun e => (guardP (alike d e = true ∧ d ≠ .none ∧ min d.depth e.depth ≤ 60)).map fun _ => .dat (.bool (f d e))
open PySem.W in
theorem dop_ord {op : CmpOp} {f : PyData → PyData → Bool} (rule : ∀ (da db : PyData) (s : Shared) (a b : Value) (as bs : List Addr) (Q : Value → Shared → Prop), Reads s.heap a da as → Reads s.heap b db bs → alike da db = true → da ≠ .none →
    X.A.units + min da.depth db.depth < cLine → Q (.bool (f da db)) s → wpAny (model X.prog X.w) X.A (compareOp op a b) Q X.xe s) (hu : X.A.units + 64 < cLine) : DOp X (compareOp op) (gOrd f) := by
  refine ⟨fun x y H Q => ∃ d e, Dp X.kw H x d ∧ Dp X.kw H y e ∧ alike d e = true ∧ d ≠ .none ∧ min d.depth e.depth ≤ 60 ∧ Q (.bl (f d e)) H, ?_, fun σ H0 H ρ h1 h2 h3 x y Q S r1 r2 e q => ?_⟩
  · intro pins s σ H x y v u Q I rx ry h
    obtain ⟨d, e, hd, he, sd, se, sm, q⟩ := h
    obtain ⟨as, r1⟩ := Dp.reads I d x v hd rx
    obtain ⟨bs, r2⟩ := Dp.reads I e y u he ry
    exact rule d e s v u as bs _ r1 r2 sd se (by omega) ⟨.bl _, H, I, rfl, q⟩
  · simp only [gOrd, Option.bind_eq_some_iff, Option.map_eq_some_iff, guardP_some] at e
    obtain ⟨d, e1, d', e2, _, ⟨h1, h2, h3⟩, rfl⟩ := e
    obtain ⟨p1, n1⟩ := py_dp S r1 e1
    obtain ⟨p2, n2⟩ := py_dp S r2 e2
    exact ⟨d, d', p1, p2, h1, h2, h3, q _ H .refl S (.bl _)⟩
open PySem.W in
theorem dop_lt (hu : X.A.units + 64 < cLine) : DOp X (compareOp .Lt) (gOrd fun d e => dataLt d e) := dop_ord (fun da db s a b as bs Q ra rb h hn hd q => lt_data ra rb h hn hd q) hu
open PySem.W in
theorem dop_gt (hu : X.A.units + 64 < cLine) : DOp X (compareOp .Gt) (gOrd fun d e => dataLt e d) := dop_ord (fun da db s a b as bs Q ra rb h hn hd q => gt_data ra rb h hn hd q) hu
open PySem.W in
theorem dop_le (hu : X.A.units + 64 < cLine) : DOp X (compareOp .LtE) (gOrd fun d e => !dataLt e d) := dop_ord (fun da db s a b as bs Q ra rb h hn hd q => le_data ra rb h hn hd q) hu
open PySem.W in
theorem dop_ge (hu : X.A.units + 64 < cLine) : DOp X (compareOp .GtE) (gOrd fun d e => !dataLt d e) := dop_ord (fun da db s a b as bs Q ra rb h hn hd q => ge_data ra rb h hn hd q) hu
/-! membership in a list or tuple -/
def seqOf : PyData → Option (List PyData)
  | .list xs => some xs
  | .tuple xs => some xs
  | _ => none
noncomputable def gIn : GB := fun a b ρ => (py a ρ).bind fun d => (py b ρ).bind fun e => (seqOf e).bind fun xs => (guardP (min (PyData.depthAll xs) d.depth ≤ 60)).map fun _ => .dat (.bool (xs.any fun y => PyData.eqv y d))
noncomputable def gNotIn : GB := fun a b ρ => (py a ρ).bind fun d => (py b ρ).bind fun e => (seqOf e).bind fun xs => (guardP (min (PyData.depthAll xs) d.depth ≤ 60)).map fun _ => .dat (.bool (!xs.any fun y => PyData.eqv y d))
def rInP (K : KW) (neg : Bool) : R2 := fun x y H Q => ∃ d e xs, Dp K H x d ∧ Dp K H y e ∧ seqOf e = some xs ∧ d.plain = true ∧ PyData.plainAll xs = true ∧ min (PyData.depthAll xs) d.depth ≤ 60 ∧ Q (.bl (if neg then !xs.any fun y => PyData.eqv y d else xs.any fun y => PyData.eqv y d)) H
theorem op_inP (hu : X.A.units + 64 < cLine) : OpR X (compareOp .In) (rInP X.kw false) := by
  intro pins s σ H x y v u Q I rx ry h
  obtain ⟨d, e, xs, hd, he, ex, sd, se, sm, q⟩ := h
  obtain ⟨as, r1⟩ := Dp.reads I d x v hd rx
  obtain ⟨bs, r2⟩ := Dp.reads I e y u he ry
  unfold seqOf at ex
  split at ex
  · cases ex
    exact SeqAt.in_list_data r2 r1 se sd (by omega) ⟨.bl _, H, I, rfl, q⟩
  · cases ex
    exact SeqAt.in_tuple_data r2 r1 se sd (by omega) ⟨.bl _, H, I, rfl, q⟩
  · cases ex
theorem op_notInP (hu : X.A.units + 64 < cLine) : OpR X (compareOp .NotIn) (rInP X.kw true) := by
  intro pins s σ H x y v u Q I rx ry h
  obtain ⟨d, e, xs, hd, he, ex, sd, se, sm, q⟩ := h
  obtain ⟨as, r1⟩ := Dp.reads I d x v hd rx
  obtain ⟨bs, r2⟩ := Dp.reads I e y u he ry
  unfold seqOf at ex
  split at ex
  · cases ex
    exact SeqAt.notIn_list_data r2 r1 se sd (by omega) ⟨.bl _, H, I, rfl, q⟩
  · cases ex
    exact SeqAt.notIn_tuple_data r2 r1 se sd (by omega) ⟨.bl _, H, I, rfl, q⟩
  · cases ex
theorem seq_plain {e : PyData} {xs : List PyData} (h : e.plain = true) (ex : seqOf e = some xs) : PyData.plainAll xs = true := by
  unfold seqOf at ex
  split at ex
  · cases ex; exact h
  · cases ex; exact h
  · cases ex
theorem dop_in (hu : X.A.units + 64 < cLine) : DOp X (compareOp .In) gIn := by
  refine ⟨_, op_inP hu, fun σ H0 H ρ h1 h2 h3 x y Q S r1 r2 e q => ?_⟩
  simp only [gIn, Option.bind_eq_some_iff, Option.map_eq_some_iff, guardP_some] at e
  obtain ⟨d, e1, d', e2, xs, ex, _, hd, rfl⟩ := e
  obtain ⟨p1, n1⟩ := py_dp S r1 e1
  obtain ⟨p2, n2⟩ := py_dp S r2 e2
  exact ⟨d, d', xs, p1, p2, ex, n1, seq_plain n2 ex, hd, q _ H .refl S (.bl _)⟩
theorem dop_notIn (hu : X.A.units + 64 < cLine) : DOp X (compareOp .NotIn) gNotIn := by
  refine ⟨_, op_notInP hu, fun σ H0 H ρ h1 h2 h3 x y Q S r1 r2 e q => ?_⟩
  simp only [gNotIn, Option.bind_eq_some_iff, Option.map_eq_some_iff, guardP_some] at e
  obtain ⟨d, e1, d', e2, xs, ex, _, hd, rfl⟩ := e
  obtain ⟨p1, n1⟩ := py_dp S r1 e1
  obtain ⟨p2, n2⟩ := py_dp S r2 e2
  exact ⟨d, d', xs, p1, p2, ex, n1, seq_plain n2 ex, hd, q _ H .refl S (.bl _)⟩
/-! None -/
def isNone : Hd → Bool
  | .dat .none => true
  | _ => false
theorem isNone_V {K : KW} {H0 H : Hp} {σ : Sto} {ρ : Ev} {h : Hd} {u : V} {d : PyData} (S : SR K H σ ρ) (r : HR K H0 H σ ρ h u) (e : py h ρ = some d) : decide (u = .non) = isNone h := by
  obtain ⟨p, _⟩ := py_dp S r e
  cases h with
  | dat t => cases r <;> rfl
  | tmp c => obtain ⟨a, rfl, _⟩ := r; rfl
  | plc i =>
    cases p with
    | lst _ _ => rfl
    | tup _ _ => rfl
    | non =>
      unfold py at e
      simp only at e
      split at e <;> cases e
    | bl _ => rfl
    | int _ => rfl
    | str _ => rfl
def gIsN : GB := fun a b ρ => (py a ρ).bind fun _ => if isNone b then some (.dat (.bool (isNone a))) else none
def gNotN : GB := fun a b ρ => (py a ρ).bind fun _ => if isNone b then some (.dat (.bool (!isNone a))) else none
theorem isNone_eq {h : Hd} (e : isNone h = true) : h = .dat .none := by
  unfold isNone at e
  split at e
  · rfl
  · cases e
theorem dop_isN : DOp X (compareOp .Is) gIsN := by
  refine ⟨_, op_isN, fun σ H0 H ρ h1 h2 h3 x y Q S r1 r2 e q => ?_⟩
  simp only [gIsN, Option.bind_eq_some_iff] at e
  obtain ⟨d, e1, e2⟩ := e
  split at e2
  · rename_i hb
    cases e2
    have := isNone_eq hb
    subst this
    cases r2
    refine ⟨rfl, q _ H .refl S ?_⟩
    rw [isNone_V S r1 e1]
    exact .bl _
  · cases e2
theorem dop_notN : DOp X (compareOp .IsNot) gNotN := by
  refine ⟨_, op_notN, fun σ H0 H ρ h1 h2 h3 x y Q S r1 r2 e q => ?_⟩
  simp only [gNotN, Option.bind_eq_some_iff] at e
  obtain ⟨d, e1, e2⟩ := e
  split at e2
  · rename_i hb
    cases e2
    have := isNone_eq hb
    subst this
    cases r2
    refine ⟨rfl, q _ H .refl S ?_⟩
    rw [isNone_V S r1 e1]
    exact .bl _
  · cases e2
/-! ### numbers -/
def intOf : Hd → Option Int
  | .dat (.int i) => some i
  | _ => none
theorem intOf_some {h : Hd} {i : Int} (e : intOf h = some i) : h = .dat (.int i) := by
  unfold intOf at e
  split at e
  · cases e; rfl
  · cases e
noncomputable def gI (C : Int → Int → Prop) (f : Int → Int → T) : GB := fun a b _ => (intOf a).bind fun i => (intOf b).bind fun j => (guardP (C i j)).map fun _ => .dat (f i j)
def gI0 (f : Int → Int → T) : GB := fun a b _ => (intOf a).bind fun i => (intOf b).map fun j => .dat (f i j)
theorem dop_I {F : Value → Value → Sem Value} {C : Int → Int → Prop} {g : Int → Int → V} {f : Int → Int → T} (o : OpR X F (rI C g)) (hg : ∀ i j H, Rp X.kw H (g i j) (f i j)) : DOp X F (gI C f) := by
  refine ⟨_, o, fun σ H0 H ρ h1 h2 h3 x y Q S r1 r2 e q => ?_⟩
  simp only [gI, Option.bind_eq_some_iff, Option.map_eq_some_iff, guardP_some] at e
  obtain ⟨i, e1, j, e2, _, hc, rfl⟩ := e
  have e1 := intOf_some e1
  have e2 := intOf_some e2
  subst e1 e2
  cases r1
  cases r2
  exact ⟨i, j, rfl, rfl, hc, q _ H .refl S (hg i j H)⟩
theorem dop_I0 {F : Value → Value → Sem Value} {g : Int → Int → V} {f : Int → Int → T} (o : OpR X F (rI0 g)) (hg : ∀ i j H, Rp X.kw H (g i j) (f i j)) : DOp X F (gI0 f) := by
  refine ⟨_, o, fun σ H0 H ρ h1 h2 h3 x y Q S r1 r2 e q => ?_⟩
  simp only [gI0, Option.bind_eq_some_iff, Option.map_eq_some_iff] at e
  obtain ⟨i, e1, j, e2, rfl⟩ := e
  have e1 := intOf_some e1
  have e2 := intOf_some e2
  subst e1 e2
  cases r1
  cases r2
  exact ⟨i, j, rfl, rfl, q _ H .refl S (hg i j H)⟩
def MulOk (i j : Int) : Prop := CMul i j ∨ CMulX i j
theorem MulOk.ok {i j : Int} (h : MulOk i j) : IntMulOk i j := h.elim CMul.ok CMulX.ok
def DivOk (_ j : Int) : Prop := 0 < j ∧ j.natAbs.log2 < 9000
def ModOk (_ j : Int) : Prop := 0 < j
theorem op_mulM : OpR X (binaryOp .Mult) (rI MulOk fun i j => .int (i * j)) := opI fun _ _ _ _ _ _ _ hc q => mul_int q hc.ok
abbrev gSub : GB := gI0 fun i j => .int (i - j)
noncomputable abbrev gDiv : GB := gI DivOk fun i j => .int (i / j)
noncomputable abbrev gMod : GB := gI ModOk fun i j => .int (i % j)
noncomputable abbrev gPow : GB := gI CPow fun i j => .int (i ^ j.toNat)
noncomputable abbrev gShl : GB := gI CShl fun i j => .int (i * 2 ^ j.toNat)
noncomputable abbrev gShr : GB := gI (fun _ j => 0 ≤ j) fun i j => .int (i / 2 ^ j.toNat)
abbrev gAnd : GB := gI0 fun i j => .int (Builtin.bitAnd i j)
theorem dop_sub : DOp X (binaryOp .Sub) gSub := dop_I0 op_sub fun _ _ _ => .int _
theorem dop_div : DOp X (binaryOp .FloorDiv) gDiv := dop_I (op_fdivW (X := X)) fun _ _ _ => .int _
theorem dop_mod : DOp X (binaryOp .Mod) gMod := dop_I (op_mod (X := X)) fun _ _ _ => .int _
theorem dop_pow : DOp X (binaryOp .Pow) gPow := dop_I op_pow fun _ _ _ => .int _
theorem dop_shl : DOp X (binaryOp .LShift) gShl := dop_I op_shlW fun _ _ _ => .int _
theorem dop_shr : DOp X (binaryOp .RShift) gShr := dop_I op_shr fun _ _ _ => .int _
theorem dop_and : DOp X (binaryOp .BitAnd) gAnd := dop_I0 op_and fun _ _ _ => .int _
/-- the order of ints, with nothing asked -/
def gCmpI (f : Int → Int → Bool) : GB := gI0 fun i j => .bool (f i j)
noncomputable def gLt : GB := fun a b ρ => (gCmpI (fun i j => decide (i < j)) a b ρ).or (gOrd (fun d e => PySem.W.dataLt d e) a b ρ)
noncomputable def gLe : GB := fun a b ρ => (gCmpI (fun i j => decide (i ≤ j)) a b ρ).or (gOrd (fun d e => !PySem.W.dataLt e d) a b ρ)
noncomputable def gGt : GB := fun a b ρ => (gCmpI (fun i j => decide (j < i)) a b ρ).or (gOrd (fun d e => PySem.W.dataLt e d) a b ρ)
noncomputable def gGe : GB := fun a b ρ => (gCmpI (fun i j => decide (j ≤ i)) a b ρ).or (gOrd (fun d e => !PySem.W.dataLt d e) a b ρ)
theorem dop_ltA (hu : X.A.units + 64 < cLine) : DOp X (compareOp .Lt) gLt := (dop_I0 op_lt fun _ _ _ => .bl _).or (dop_lt hu)
theorem dop_leA (hu : X.A.units + 64 < cLine) : DOp X (compareOp .LtE) gLe := (dop_I0 op_le fun _ _ _ => .bl _).or (dop_le hu)
theorem dop_gtA (hu : X.A.units + 64 < cLine) : DOp X (compareOp .Gt) gGt := (dop_I0 op_gt fun _ _ _ => .bl _).or (dop_gt hu)
theorem dop_geA (hu : X.A.units + 64 < cLine) : DOp X (compareOp .GtE) gGe := (dop_I0 op_ge fun _ _ _ => .bl _).or (dop_ge hu)
/-! ### + and * -/
def tupOf : Hd → Option (List T)
  | .dat (.tuple xs) => some xs
  | _ => none
theorem tupOf_some {h : Hd} {i : List T} (e : tupOf h = some i) : h = .dat (.tuple i) := by
  unfold tupOf at e
  split at e
  · cases e; rfl
  · cases e
def strOf : Hd → Option Str
  | .dat (.str x) => some x
  | _ => none
theorem strOf_some {h : Hd} {i : Str} (e : strOf h = some i) : h = .dat (.str i) := by
  unfold strOf at e
  split at e
  · cases e; rfl
  · cases e
/-- a written list -/
def lstOf (h : Hd) (ρ : Ev) : Option (List T) := match h with
  | .tmp (.lst xs) => some xs
  | .plc i => match ρ[i]? with
    | some (some (.obj (.lst xs))) => some xs
    | _ => none
  | _ => none
theorem lstOf_some {K : KW} {H0 H : Hp} {σ : Sto} {ρ : Ev} {h : Hd} {u : V} {xs : List T} (S : SR K H σ ρ) (r : HR K H0 H σ ρ h u) (e : lstOf h ρ = some xs) : ∃ a vs, u = .ref a ∧ H a = some (.lst vs) ∧ RpL K H vs xs := by
  cases h with
  | dat t => cases e
  | tmp c =>
    cases c with
    | dic _ => first | (cases e; done) | (cases e2; done) | (cases ex; done) | (cases e1; done)
    | set _ => first | (cases e; done) | (cases e2; done) | (cases ex; done) | (cases e1; done)
    | lst ys =>
      cases e
      obtain ⟨a, e, ⟨vs, h, rv⟩, _⟩ := r
      exact ⟨a, vs, e, h, rv⟩
  | plc i =>
    have r : σ[i]? = some (some u) := r
    unfold lstOf at e
    simp only at e
    split at e
    · rename_i hx
      cases e
      obtain ⟨a, ea, ⟨vs, h, rv⟩⟩ := S.obj i _ hx
      rw [r] at ea; cases ea
      exact ⟨a, vs, rfl, h, rv⟩
    · cases e
noncomputable def gAddT : GB := fun a b _ => (tupOf a).bind fun xs => (tupOf b).bind fun ys => (guardP (xs.length + ys.length ≤ sizeLine)).map fun _ => .dat (.tuple (xs ++ ys))
noncomputable def gAddS : GB := fun a b _ => (strOf a).bind fun xs => (strOf b).bind fun ys => (guardP (xs.length + ys.length ≤ sizeLine)).map fun _ => .dat (.str (xs ++ ys))
noncomputable def gAddL : GB := fun a b ρ => (lstOf a ρ).bind fun xs => (lstOf b ρ).bind fun ys => (guardP (xs.length + ys.length ≤ sizeLine)).map fun _ => .tmp (.lst (xs ++ ys))
theorem dop_addT : DOp X (binaryOp .Add) gAddT := by
  refine ⟨_, op_catX, fun σ H0 H ρ h1 h2 h3 x y Q S r1 r2 e q => ?_⟩
  simp only [gAddT, Option.bind_eq_some_iff, Option.map_eq_some_iff, guardP_some] at e
  obtain ⟨xs, e1, ys, e2, _, hd, rfl⟩ := e
  have e1 := tupOf_some e1
  have e2 := tupOf_some e2
  subst e1 e2
  cases r1 with
  | @tup a vs _ s1 l1 =>
    cases r2 with
    | @tup b ws _ s2 l2 =>
      refine ⟨a, b, vs, ws, rfl, rfl, s1.t, s2.t, by rw [l1.length, l2.length]; exact hd, fun z => ?_, fun _ z => ?_, fun p ob np hx => ?_⟩
      · subst z
        cases l1
        exact q _ H .refl S (.tup s2 l2)
      · subst z
        cases l2
        rw [List.append_nil] at q
        exact q _ H .refl S (.tup s1 l1)
      · exact q _ _ (.new np) (S.new np) (.tup (.new hx) ((l1.append l2).m (tst_new np)))
theorem dop_addS : DOp X (binaryOp .Add) gAddS := by
  refine ⟨_, op_add_str, fun σ H0 H ρ h1 h2 h3 x y Q S r1 r2 e q => ?_⟩
  simp only [gAddS, Option.bind_eq_some_iff, Option.map_eq_some_iff, guardP_some] at e
  obtain ⟨xs, e1, ys, e2, _, hd, rfl⟩ := e
  have e1 := strOf_some e1
  have e2 := strOf_some e2
  subst e1 e2
  cases r1
  cases r2
  exact ⟨xs, ys, rfl, rfl, hd, q _ H .refl S (.str _)⟩
theorem dop_addL : DOp X (binaryOp .Add) gAddL := by
  refine ⟨_, op_cat, fun σ H0 H ρ h1 h2 h3 x y Q S r1 r2 e q => ?_⟩
  simp only [gAddL, Option.bind_eq_some_iff, Option.map_eq_some_iff, guardP_some] at e
  obtain ⟨xs, e1, ys, e2, _, hd, rfl⟩ := e
  obtain ⟨a, vs, rfl, ha, l1⟩ := lstOf_some S r1 e1
  obtain ⟨b, ws, rfl, hb, l2⟩ := lstOf_some S r2 e2
  exact ⟨a, b, vs, ws, rfl, rfl, ha, hb, by rw [l1.length, l2.length]; exact hd, fun p np => q _ _ (.new np) (S.new np) (HR.tmpL S np np (l1.append l2))⟩
noncomputable def gAdd : GB := fun a b ρ => (gI0 (fun i j => .int (i + j)) a b ρ).or ((gAddT a b ρ).or ((gAddL a b ρ).or (gAddS a b ρ)))
theorem dop_add : DOp X (binaryOp .Add) gAdd := (dop_I0 op_add fun _ _ _ => .int _).or (dop_addT.or (dop_addL.or dop_addS))
noncomputable def gMulT : GB := fun a b _ => (tupOf a).bind fun xs => (intOf b).bind fun k => (guardP (-1000000 ≤ k ∧ k ≤ 1000000 ∧ xs.length * k.toNat ≤ 1000000)).map fun _ => .dat (.tuple (List.replicate k.toNat xs).flatten)
theorem dop_mulT : DOp X (binaryOp .Mult) gMulT := by
  refine ⟨_, op_repA, fun σ H0 H ρ h1 h2 h3 x y Q S r1 r2 e q => ?_⟩
  simp only [gMulT, Option.bind_eq_some_iff, Option.map_eq_some_iff, guardP_some] at e
  obtain ⟨xs, e1, k, e2, _, ⟨c1, c2, c3⟩, rfl⟩ := e
  have e1 := tupOf_some e1
  have e2 := intOf_some e2
  subst e1 e2
  cases r2
  cases r1 with
  | @tup a vs _ s1 l1 =>
    refine ⟨a, k, vs, rfl, rfl, s1.t, c1, c2, by rw [l1.length]; exact c3, fun z => ?_, fun p ob np hx => ?_⟩
    · have : (List.replicate k.toNat xs).flatten = xs := by
        rcases z with z | z
        · subst z
          cases l1
          simp
        · subst z
          simp
      rw [this] at q
      exact q _ H .refl S (.tup s1 l1)
    · exact q _ _ (.new np) (S.new np) (.tup (.new hx) ((l1.rep k.toNat).m (tst_new np)))
noncomputable def gMulL : GB := fun a b ρ => (lstOf a ρ).bind fun xs => (intOf b).bind fun k => (guardP (-1000000 ≤ k ∧ k ≤ 1000000 ∧ xs.length * k.toNat ≤ 1000000)).map fun _ => .tmp (.lst (List.replicate k.toNat xs).flatten)
theorem million : 1000000 ≤ sizeLine := by rw [sizeLine_eq]; omega
theorem dop_mulL : DOp X (binaryOp .Mult) gMulL := by
  refine ⟨_, op_rep, fun σ H0 H ρ h1 h2 h3 x y Q S r1 r2 e q => ?_⟩
  simp only [gMulL, Option.bind_eq_some_iff, Option.map_eq_some_iff, guardP_some] at e
  obtain ⟨xs, e1, k, e2, _, ⟨c1, c2, c3⟩, rfl⟩ := e
  obtain ⟨a, vs, rfl, ha, l1⟩ := lstOf_some S r1 e1
  have e2 := intOf_some e2
  subst e2
  cases r2
  exact ⟨a, k, vs, rfl, rfl, ha, by omega, by omega, Nat.le_trans (by rw [l1.length]; exact c3) million, fun p np => q _ _ (.new np) (S.new np) (HR.tmpL S np np (l1.rep k.toNat))⟩
noncomputable def gMul : GB := fun a b ρ => (gI MulOk (fun i j => .int (i * j)) a b ρ).or ((gMulT a b ρ).or (gMulL a b ρ))
theorem dop_mul : DOp X (binaryOp .Mult) gMul := (dop_I op_mulM fun _ _ _ => .int _).or (dop_mulT.or dop_mulL)
/-! ### minus -/
def fNeg (f : FE) : FE := fun ρ => (f ρ).bind fun p => (intOf p.1).map fun i => (.dat (.int (-i)), p.2)
theorem de_neg {a : Expr} {fa : FE} {pos : Pos} (ha : DE X a fa) : DE X (.UnaryOp .USub a pos) (fNeg fa) := by
  obtain ⟨t, pt, rt⟩ := ha.run
  refine ⟨_, pe_un un_neg pt, fun σ H ρ k ρ' Q S e q => ?_⟩
  simp only [fNeg, Option.bind_eq_some_iff, Option.map_eq_some_iff] at e
  obtain ⟨⟨h1, ρ1⟩, e1, i, e3, e2⟩ := e
  cases e2
  have e3 : h1 = _ := intOf_some e3
  subst e3
  refine rt σ H ρ _ ρ1 _ S e1 fun x H1 g1 S1 k1 r1 => ?_
  cases r1
  exact ⟨i, rfl, q _ H1 g1 S1 k1 (.int _)⟩
end
end PD

namespace PD
open PySem PySem.Spec PyProof.Rows L2

/-! ### t[lo::-1] -/
/-- how many items t[lo::-1] has -/
def backN (n : Nat) : Option Int → Nat
  | none => n
  | some v => (if v < 0 then max (v + n) (-1) + 1 else min v ((n : Int) - 1) + 1).toNat
theorem backN_le (n : Nat) (o : Option Int) : backN n o ≤ n := by
  unfold backN
  split
  · exact Nat.le_refl _
  · split <;> omega
theorem back_pick {α : Type} (xs : Array α) : ∀ m : Nat, m ≤ xs.size → ((List.range m).filterMap fun (k : Nat) => xs[((m : Int) - 1 + (k : Int) * -1).toNat]?) = (xs.toList.take m).reverse
  | 0, _ => by simp
  | m + 1, h => by
    rw [List.range_succ_eq_map, List.filterMap_cons]
    have e0 : (((m + 1 : Nat) : Int) - 1 + ((0 : Nat) : Int) * -1).toNat = m := by omega
    rw [e0]
    have hm : m < xs.size := h
    rw [Array.getElem?_eq_getElem hm]
    simp only
    rw [List.filterMap_map]
    have e1 : ((fun (k : Nat) => xs[(((m + 1 : Nat) : Int) - 1 + (k : Int) * -1).toNat]?) ∘ Nat.succ) = fun (k : Nat) => xs[((m : Int) - 1 + (k : Int) * -1).toNat]? := by
      funext k
      have : (((m + 1 : Nat) : Int) - 1 + ((Nat.succ k : Nat) : Int) * -1).toNat = ((m : Int) - 1 + (k : Int) * -1).toNat := by omega
      simp only [Function.comp_apply]
      rw [this]
    rw [e1, back_pick xs m (by omega)]
    have e2 : xs.toList.take (m + 1) = xs.toList.take m ++ [xs[m]] := by
      have hl : m < xs.toList.length := by simpa using hm
      rw [List.take_add_one, List.getElem?_eq_getElem hl]
      simp
    rw [e2, List.reverse_append]
    rfl
theorem adjust_back (lo : Option Int) (n : Nat) : Builtin.Slice.sliceAdjust lo none (-1) (n : Int) = ((backN n lo : Int) - 1, -1) := by
  have h1 : ((-1 : Int) < 0) := by omega
  unfold Builtin.Slice.sliceAdjust backN
  simp only [h1, if_true]
  refine Prod.ext ?_ rfl
  cases lo with
  | none => rfl
  | some v =>
    simp only
    split <;> omega
theorem places_back (m : Nat) : Builtin.Slice.slicePlaces ((m : Int) - 1) (-1) (-1) = m := by
  unfold Builtin.Slice.slicePlaces
  have h1 : ¬ ((-1 : Int) > 0) := by omega
  simp only [h1, if_false, Int.neg_neg, Int.ediv_one]
  split <;> omega
section
variable {prog : Program} {w : World} {A : Around} {E : Value → Shared → Prop} {s : Shared}
theorem sliceApplied_back {sl : Addr} {vl vs : Value} {lo : Option Int} {n : Nat} {Q : Int × Int × Nat → Shared → Prop} (hs : s.heap.IsSliceOf sl vl .none vs) (pl : IsPart vl lo) (ps : IsPart vs (some (-1)))
    (h : Q ((backN n lo : Int) - 1, -1, backN n lo) s) : wpAny (model prog w) A (Builtin.Slice.sliceApplied (.ref sl) (pure (n : Int))) Q E s := by
  obtain ⟨os, hos, hcs, hds⟩ := id hs
  unfold Builtin.Slice.sliceApplied Builtin.Slice.sliceFields
  refine wpAny_bind (wpAny_bind (wpAny_field hos hds (x := vl) rfl (wpAny_bind (wpAny_field hos hds (x := .none) rfl (wpAny_bind (wpAny_field hos hds (x := vs) rfl (wpAny_pure ?_)))))))
  refine wpAny_bind (HT.slicePart_ ps ?_)
  show wpAny _ _ (if ((-1 : Int) == 0) = true then _ else _) _ _ s
  rw [if_neg (by decide)]
  refine wpAny_bind (HT.slicePart_ pl (wpAny_bind (slicePart_none (wpAny_bind (wpAny_pure ?_)))))
  show wpAny _ _ (match Builtin.Slice.sliceAdjust lo none (-1) (n : Int) with | (lo, hi) => pure (lo, (-1 : Int), Builtin.Slice.slicePlaces lo hi (-1))) _ _ s
  rw [adjust_back lo n]
  show wpAny _ _ (pure ((backN n lo : Int) - 1, (-1 : Int), Builtin.Slice.slicePlaces ((backN n lo : Int) - 1) (-1) (-1))) _ _ s
  rw [places_back]
  exact wpAny_pure h
theorem getItem_tuple_back {t sl : Addr} {items : Array Value} {vl vs : Value} {lo : Option Int} {Q : Value → Shared → Prop} (ht : IsTup s.heap t items) (hs : s.heap.IsSliceOf sl vl .none vs) (pl : IsPart vl lo) (ps : IsPart vs (some (-1)))
    (h : Q (.ref s.heap.objs.size) { s with heap := s.heap.push { cls := .type "tuple", data := .seq (items.toList.take (backN items.size lo)).reverse.toArray } })
    (hsz : items.size ≤ sizeLine) : wpAny (model prog w) A (getItem (.ref t) (.ref sl)) Q E s := by
  have htake : sizeOk (.seq (items.toList.take (backN items.size lo)).reverse.toArray) := by
    show (items.toList.take (backN items.size lo)).reverse.toArray.size ≤ sizeLine
    rw [List.size_toArray, List.length_reverse, List.length_take, Array.length_toList]
    omega
  obtain ⟨os, hos, hcs, hds⟩ := id hs
  have hTs : s.TypeIs (.ref sl) "slice" := ⟨os, hos, hcs⟩
  unfold getItem
  try with_reducible refine wpAny_holding ?_
  first | refine wpAny_bind (wpAny_pure ?_) | skip
  refine wpAny_bind (wpAny_sequenceKey ht.typeIs (by decide) ?_)
  refine wpAny_bind (wpAny_callSpecial?_slot (name := Str.ofString "__getitem__") ht.typeIs PyProof.Rows.slot_tuple_getitem
    (wpAny_call_entry PyProof.Rows.slot_tuple_getitem ht.typeIs PyProof.Rows.entry_tuple_getitem ?_ (PyProof.Rows.args_tuple_getitem _ _)))
  show wpAny _ _ (Builtin.Tuple.tupleItemsOf (.ref t) >>= _) _ _ s
  refine wpAny_bind (tupleItemsOf_ ht ?_)
  refine wpAny_bind (wpAny_typeOf hTs ?_)
  rw [if_pos (by decide)]
  refine wpAny_bind (sliceApplied_back hs pl ps ?_)
  show wpAny _ _ (if (((backN items.size lo : Int) - 1) == 0 && (-1 : Int) == 1 && (backN items.size lo) == items.size) = true then _ else _) _ _ s
  have hno : ¬ ((((backN items.size lo : Int) - 1) == 0 && (-1 : Int) == 1 && (backN items.size lo) == items.size) = true) := by
    intro q
    rw [Bool.and_eq_true, Bool.and_eq_true] at q
    exact absurd (eq_of_beq q.1.2) (by decide)
  rw [if_neg hno, back_pick items _ (backN_le _ _)]
  first
    | exact wpAny_bind (m := Builtin.Tuple.tupleExact _) (wpAny_newObj_type (wpAny_pure ⟨_, rfl, wpAny_pure h⟩) htake)
    | exact wpAny_bind (m := Builtin.Tuple.tupleExact _) (wpAny_newObj_type (wpAny_bind (wpAny_pure (wpAny_pure ⟨_, rfl, wpAny_pure h⟩))) htake)
    | exact wpAny_bind (wpAny_bind (m := Builtin.Tuple.tupleExact _) (wpAny_newObj_type (wpAny_pure (wpAny_pure ⟨_, rfl, wpAny_pure h⟩)) htake))
    | exact wpAny_bind (wpAny_bind (m := Builtin.Tuple.tupleExact _) (wpAny_newObj_type (wpAny_pure ⟨_, rfl, wpAny_pure h⟩) htake))
end
section
variable {X : Cx}
def tBackT (K : KW) (te : TE) (tl : TO) : TE := fun σ H Q => te σ H fun x H1 => tl σ H1 fun lo H2 => ∃ a xs, x = .ref a ∧ SqT K H2 a xs ∧ ∀ p ob, H2 p = none → ExT ob → Q (.ref p) (upd H2 p (.frz ob (.tup (xs.take (backN xs.length lo)).reverse)))
theorem pe_backT {e : Expr} {lo : Option Expr} {te : TE} {tl : TO} {k : Nat} {p1 p2 p3 pos : Pos} (he : PE X e te) (hl : PO X lo tl) : PE X (.Subscript e (.Slice lo none (some (.UnaryOp .USub (.Constant (.int 1) k p1) p2)) p3) pos) (tBackT X.kw te tl) := by
  refine ⟨fun pins s σ H Q I h => ?_⟩
  refine Subscript_ (thn (he.run pins s σ H _ I h) fun v s1 ⟨x, H1, I1, r1, q1⟩ => ?_)
  have hst : PO X (some (.UnaryOp .USub (.Constant (.int 1) k p1) p2)) (tPart (tUn (rU fun i => .int (-i)) (tC (.int 1)))) := po_some (pe_un un_neg pe_int)
  refine wpAny_Slice (thn (hl.run pins s1 σ H1 _ I1 q1) fun vl s2 ⟨l, H2, I2, pl, q2⟩ => ?_)
  refine thn (po_none.run pins s2 σ H2 (fun o H3 => o = none ∧ H3 = H2) I2 ⟨rfl, rfl⟩) fun vu s3 ⟨u, H3, I3, pu, eu, e3⟩ => ?_
  subst eu e3
  cases pu
  refine thn (hst.run pins s3 σ H3 (fun o H4 => o = some (-1) ∧ H4 = H3) I3 ⟨1, rfl, -1, rfl, rfl, rfl⟩) fun vs s4 ⟨o, H4, I4, ps, eo, e4⟩ => ?_
  subst eo e4
  have I5 : Inv X pins σ H4 { s4 with heap := s4.heap.push { cls := .type "slice", data := .fields #[vl, .none, vs] } } := I4.kept (t' := s4.toks) fun b ob q => Heap.get?_push_of_some _ q
  obtain ⟨a, xs, ex, hx, q⟩ := q2
  subst ex
  cases r1
  obtain ⟨its, r, ht, hz⟩ := I5.tuple hx
  have hlen := r.length
  show wpAny (model X.prog X.w) X.A (subscriptTail e (.Slice lo none (some (.UnaryOp .USub (.Constant (.int 1) k p1) p2)) p3) (.ref a) (.ref s4.heap.objs.size)) (EP X pins σ Q) X.xe { s4 with heap := s4.heap.push { cls := .type "slice", data := .fields #[vl, .none, vs] } }
  refine tail_any (ops := [.ref a, .ref s4.heap.objs.size]) ht.typeIs (PyProof.Rows.slot_tuple_getitem.lookup) ?_ (by with_unfolding_all rfl)
  refine getItem_tuple_back ht (Heap.IsSliceOf.new _ vl .none vs) pl ps ?_ (by rw [List.size_toArray]; omega)
  have hsz : its.toArray.size = xs.length := by rw [List.size_toArray]; exact hlen.symm
  rw [hsz]
  obtain ⟨ob, hx, hf, I6⟩ := laidT (t' := s4.toks) (s := s4) I5 (r.take (backN xs.length l)).reverse (by rw [List.length_reverse, List.length_take]; omega)
  exact ⟨.ref _, _, I6, rfl, q _ ob hf hx⟩
end
end PD

namespace PD
open PySem PySem.Spec PyProof.Rows L2
section
variable {X : Cx} {e a b c : Expr} {es : List Expr} {fa fb fc : FE} {pos : Pos}

/-! ### sequences that are read -/
/-- a list, written or read only -/
def rdL (h : Hd) (ρ : Ev) : Option (List T) := match h with
  | .dat _ => none
  | .tmp (.lst xs) => some xs
  | .tmp _ => none
  | .plc i => match ρ[i]? with
    | some (some (.obj (.lst xs))) => some xs
    | some (some (.rol xs)) => some xs
    | _ => none
theorem rdL_some {K : KW} {H0 H : Hp} {σ : Sto} {ρ : Ev} {h : Hd} {u : V} {xs : List T} (S : SR K H σ ρ) (r : HR K H0 H σ ρ h u) (e : rdL h ρ = some xs) : ∃ a vs, u = .ref a ∧ SqL K H a vs ∧ RpL K H vs xs := by
  cases h with
  | dat t => cases e
  | tmp c =>
    cases c with
    | dic _ => first | (cases e; done) | (cases e2; done) | (cases ex; done) | (cases e1; done)
    | set _ => first | (cases e; done) | (cases e2; done) | (cases ex; done) | (cases e1; done)
    | lst ys =>
      cases e
      obtain ⟨a, rfl, rc, _, _⟩ := r
      obtain ⟨vs, q, r⟩ := rc.sq
      exact ⟨a, vs, rfl, q, r⟩
  | plc i =>
    have r : σ[i]? = some (some u) := r
    unfold rdL at e
    simp only at e
    split at e
    · rename_i xs hx
      cases e
      obtain ⟨a, ea, rc⟩ := S.obj i _ hx
      rw [r] at ea; cases ea
      obtain ⟨vs, q, r⟩ := rc.sq
      exact ⟨a, vs, rfl, q, r⟩
    · rename_i xs hx
      cases e
      obtain ⟨a, ea, rc⟩ := S.rol i _ hx
      rw [r] at ea; cases ea
      obtain ⟨vs, q, r⟩ := rc.sq
      exact ⟨a, vs, rfl, q, r⟩
    · cases e
def rdSeq (h : Hd) (ρ : Ev) : Option (List T) := (tupOf h).or (rdL h ρ)
theorem rdSeq_some {K : KW} {H0 H : Hp} {σ : Sto} {ρ : Ev} {h : Hd} {u : V} {xs : List T} (S : SR K H σ ρ) (r : HR K H0 H σ ρ h u) (e : rdSeq h ρ = some xs) :
    ∃ a vs, u = .ref a ∧ (SqL K H a vs ∨ SqX K H a vs) ∧ RpL K H vs xs := by
  simp only [rdSeq, Option.or_eq_some_iff] at e
  rcases e with e | ⟨_, e⟩
  · have e := tupOf_some e
    subst e
    cases r with
    | tup s l => exact ⟨_, _, rfl, .inr s, l⟩
  · obtain ⟨a, vs, e, q, l⟩ := rdL_some S r e
    exact ⟨a, vs, e, .inl q, l⟩

/-! ### x[i] -/
def gIx : GB := fun a b ρ => (rdSeq a ρ).bind fun xs => (intOf b).bind fun i => (atI xs i).map fun t => .dat t
theorem atI_rp {K : KW} {H : Hp} {vs : List V} {xs : List T} {i : Int} {t : T} (r : RpL K H vs xs) (e : atI xs i = some t) : ∃ v, atI vs i = some v ∧ Rp K H v t := by
  unfold atI at e ⊢
  rw [r.length]
  cases q : ixN xs.length i with
  | none => rw [q] at e; cases e
  | some j => rw [q] at e; exact r.get e
theorem de_ix (ha : DE X a fa) (hb : DE X b fb) (hs : PlainIx b) : DE X (.Subscript a b pos) (fBin gIx fa fb) := by
  obtain ⟨t, pt, rt⟩ := ha.run
  obtain ⟨u, pu, ru⟩ := hb.run
  refine ⟨_, pe_ix (ix_list.or ix_tup) pt pu hs, fun σ H ρ hs ρ' Q S e q => ?_⟩
  simp only [fBin, gIx, Option.bind_eq_some_iff, Option.map_eq_some_iff] at e
  obtain ⟨⟨h1, ρ1⟩, e1, ⟨h2, ρ2⟩, e2, h3, ⟨xs, ex, i, ei, t, et, e4⟩, e3⟩ := e
  cases e3
  subst e4
  refine rt σ H ρ h1 ρ1 _ S e1 fun x H1 g1 S1 k1 r1 => ?_
  refine ru σ H1 ρ1 h2 _ _ S1 e2 fun y H2 g2 S2 k2 r2 => ?_
  have ei := intOf_some ei
  have ei : h2 = _ := ei
  subst ei
  cases r2
  obtain ⟨a, vs, rfl, sq, l⟩ := rdSeq_some S2 (r1.go g2) ex
  obtain ⟨v, ev, rv⟩ := atI_rp l et
  rcases sq with sq | sq
  · exact .inl ⟨a, vs, i, v, rfl, rfl, sq, ev, q v H2 (g1.trans g2) S2 (k1.trans k2) rv⟩
  · exact .inr ⟨a, vs, i, v, rfl, rfl, sq.t, ev, q v H2 (g1.trans g2) S2 (k1.trans k2) rv⟩
/-! s[i] of a text -/
def gIxS : GB := fun a b ρ => (strOf a).bind fun z => (intOf b).bind fun i => if z.length ≤ sizeLine then (atI z.cps.toList i).map fun c => .dat (.str ⟨#[c]⟩) else none
theorem de_ixS (ha : DE X a fa) (hb : DE X b fb) (hs : PlainIx b) : DE X (.Subscript a b pos) (fBin gIxS fa fb) := by
  obtain ⟨t, pt, rt⟩ := ha.run
  obtain ⟨u, pu, ru⟩ := hb.run
  refine ⟨_, pe_ix ix_str pt pu hs, fun σ H ρ hs ρ' Q S e q => ?_⟩
  simp only [fBin, gIxS, Option.bind_eq_some_iff, Option.map_eq_some_iff] at e
  obtain ⟨⟨h1, ρ1⟩, e1, ⟨h2, ρ2⟩, e2, h3, ⟨z, ez, i, ei, e5⟩, e3⟩ := e
  split at e5
  · rename_i hz
    simp only [Option.map_eq_some_iff] at e5
    obtain ⟨c, ec, e4⟩ := e5
    cases e3
    subst e4
    refine rt σ H ρ h1 ρ1 _ S e1 fun x H1 g1 S1 k1 r1 => ?_
    refine ru σ H1 ρ1 h2 _ _ S1 e2 fun y H2 g2 S2 k2 r2 => ?_
    have ei : h2 = _ := intOf_some ei
    have ez : h1 = _ := strOf_some ez
    subst ei ez
    cases r2
    cases r1
    exact ⟨z, i, c, rfl, rfl, hz, ec, q _ H2 (g1.trans g2) S2 (k1.trans k2) (.str _)⟩
  · cases e5

/-! ### slices -/
abbrev FO := Ev → Option (Option Int × Ev)
structure DO (X : Cx) (e : Option Expr) (f : FO) : Prop where
  run : ∃ t : TO, PO X e t ∧ ∀ (σ : Sto) (H : Hp) (ρ : Ev) (o : Option Int) (ρ' : Ev) (Q : Option Int → Hp → Prop), SR X.kw H σ ρ → f ρ = some (o, ρ') →
    (∀ H', Go X.kw σ ρ H σ ρ' H' → SR X.kw H' σ ρ' → Kp ρ ρ' → Q o H') → t σ H Q
def fNoPart : FO := fun ρ => some (none, ρ)
def fPart (f : FE) : FO := fun ρ => (f ρ).bind fun p => (intOf p.1).map fun i => (some i, p.2)
theorem do_none : DO X none fNoPart := by
  refine ⟨_, po_none, fun σ H ρ o ρ' Q S e q => ?_⟩
  cases e
  exact q H .refl S .refl
theorem do_some (h : DE X e fa) : DO X (some e) (fPart fa) := by
  obtain ⟨t, pt, rt⟩ := h.run
  refine ⟨_, po_some pt, fun σ H ρ o ρ' Q S e q => ?_⟩
  simp only [fPart, Option.bind_eq_some_iff, Option.map_eq_some_iff] at e
  obtain ⟨⟨h1, ρ1⟩, e1, i, e3, e2⟩ := e
  cases e2
  have e3 : h1 = _ := intOf_some e3
  subst e3
  refine rt σ H ρ _ ρ1 _ S e1 fun x H1 g1 S1 k1 r1 => ?_
  cases r1
  exact ⟨i, rfl, q H1 g1 S1 k1⟩
def cutT (xs : List T) (lo hi : Option Int) : List T := (xs.drop (HT.sIx xs.length 0 lo)).take (HT.sIx xs.length xs.length hi - HT.sIx xs.length 0 lo)
theorem RpL.cut {K : KW} {H : Hp} {vs : List V} {xs : List T} (r : RpL K H vs xs) (lo hi : Option Int) : RpL K H (cutV vs lo hi) (cutT xs lo hi) := by
  unfold cutV cutT
  rw [r.length]
  exact (r.drop _).take _
/-- t[lo:hi] -/
def rSlX (K : KW) : V → Option Int → Option Int → Hp → VK → Prop := fun x lo hi H Q => ∃ a xs, x = .ref a ∧ SqT K H a xs ∧
  (HT.sIx xs.length 0 lo = 0 ∧ HT.sIx xs.length xs.length hi = xs.length → Q (.ref a) H) ∧ (∀ p ob, H p = none → ExT ob → Q (.ref p) (upd H p (.frz ob (.tup (cutV xs lo hi)))))
theorem sl_tupX : SlR X (rSlX X.kw) := by
  intro pins s σ H x v vl vu lo hi sl Q I rx hs pl pu h
  obtain ⟨a, xs, rfl, hx, q1, q2⟩ := h
  cases rx
  obtain ⟨its, r, ht, hz⟩ := I.tuple hx
  have hlen : its.toArray.size = xs.length := by rw [List.size_toArray]; exact r.length.symm
  refine ⟨"tuple", _, PyProof.Rows.slot_tuple_getitem.lookup, ht.typeIs, ?_⟩
  by_cases hw : HT.sIx xs.length 0 lo = 0 ∧ HT.sIx xs.length xs.length hi = xs.length
  · exact getItem_tuple_whole ht hs pl pu (by rw [hlen]; exact hw) ⟨.ref a, H, I, rfl, q1 hw⟩
  · refine HT.getItem_tuple_cut ht hs pl pu (by rw [hlen]; exact hw) ?_ (by rw [hlen]; exact hz)
    rw [hlen]
    obtain ⟨ob, hx, hf, I2⟩ := laidT (t' := s.toks) (h' := s.heap) (s := s) (xs := cutV xs lo hi) I ((r.drop (HT.sIx xs.length 0 lo)).take (HT.sIx xs.length xs.length hi - HT.sIx xs.length 0 lo)) (Nat.le_trans (cutV_length xs lo hi) hz)
    exact ⟨.ref s.heap.objs.size, _, I2, rfl, q2 _ ob hf hx⟩
/-- a slice of a list is a new list, one of a tuple a tuple -/
def gSl (h : Hd) (lo hi : Option Int) (ρ : Ev) : Option Hd := match tupOf h with
  | some xs => some (.dat (.tuple (cutT xs lo hi)))
  | none => (rdL h ρ).map fun xs => .tmp (.lst (cutT xs lo hi))
def fSl (fa : FE) (fl fh : FO) : FE := fun ρ => (fa ρ).bind fun p => (fl p.2).bind fun q => (fh q.2).bind fun r => (gSl p.1 q.1 r.1 r.2).map fun h => (h, r.2)
theorem whole_cut {vs : List V} {lo hi : Option Int} (h : HT.sIx vs.length 0 lo = 0 ∧ HT.sIx vs.length vs.length hi = vs.length) : cutV vs lo hi = vs := by
  unfold cutV
  rw [h.1, h.2, List.drop_zero, Nat.sub_zero, List.take_length]
theorem de_sl {lo hi : Option Expr} {fl fh : FO} {p2 : Pos} (ha : DE X a fa) (hl : DO X lo fl) (hh : DO X hi fh) : DE X (.Subscript a (.Slice lo hi none p2) pos) (fSl fa fl fh) := by
  obtain ⟨t, pt, rt⟩ := ha.run
  obtain ⟨u, pu, ru⟩ := hl.run
  obtain ⟨v, pv, rv⟩ := hh.run
  refine ⟨_, pe_slice (sl_tupX.or sl_list) pt pu pv, fun σ H ρ hs ρ' Q S e q => ?_⟩
  simp only [fSl, Option.bind_eq_some_iff, Option.map_eq_some_iff] at e
  obtain ⟨⟨h1, ρ1⟩, e1, ⟨o, ρ2⟩, e2, ⟨o', ρ3⟩, e4, h3, e5, e3⟩ := e
  cases e3
  refine rt σ H ρ h1 ρ1 _ S e1 fun x H1 g1 S1 k1 r1 => ?_
  refine ru σ H1 ρ1 o ρ2 _ S1 e2 fun H2 g2 S2 k2 => ?_
  refine rv σ H2 ρ2 o' _ _ S2 e4 fun H3 g3 S3 k3 => ?_
  have r3 := (r1.go g2).go g3
  have gg := (g1.trans g2).trans g3
  have kk := (k1.trans k2).trans k3
  unfold gSl at e5
  split at e5
  · rename_i xs hx
    cases e5
    have hx : h1 = _ := tupOf_some hx
    subst hx
    cases r3 with
    | @tup a vs _ s1 l1 =>
      have lc := l1.cut o o'
      refine .inl ⟨a, vs, rfl, s1.t, fun z => ?_, fun p ob np hx => ?_⟩
      · rw [whole_cut z] at lc
        exact q _ H3 gg S3 kk (.tup s1 lc)
      · exact q _ _ (gg.trans (.new np)) (S3.new np) kk (.tup (.new hx) (lc.m (tst_new np)))
  · rename_i hn
    simp only [Option.map_eq_some_iff] at e5
    obtain ⟨xs, ex, e6⟩ := e5
    subst e6
    obtain ⟨a, vs, rfl, sq, l⟩ := rdL_some S3 r3 ex
    exact .inr ⟨a, vs, rfl, sq, fun p np => q _ _ (gg.trans (.new np)) (S3.new np) kk (HR.tmpL S3 np (gg.dom _ np) (l.cut o o'))⟩
/-- x[lo::-1] -/
def fBackT (fa : FE) (fl : FO) : FE := fun ρ => (fa ρ).bind fun p => (fl p.2).bind fun q => (tupOf p.1).map fun xs => (.dat (.tuple (xs.take (backN xs.length q.1)).reverse), q.2)
theorem de_backT {lo : Option Expr} {fl : FO} {k : Nat} {p1 p2 p3 : Pos} (ha : DE X a fa) (hl : DO X lo fl) : DE X (.Subscript a (.Slice lo none (some (.UnaryOp .USub (.Constant (.int 1) k p1) p2)) p3) pos) (fBackT fa fl) := by
  obtain ⟨t, pt, rt⟩ := ha.run
  obtain ⟨u, pu, ru⟩ := hl.run
  refine ⟨_, pe_backT pt pu, fun σ H ρ hs ρ' Q S e q => ?_⟩
  simp only [fBackT, Option.bind_eq_some_iff, Option.map_eq_some_iff] at e
  obtain ⟨⟨h1, ρ1⟩, e1, ⟨o, ρ2⟩, e2, xs, ex, e3⟩ := e
  cases e3
  have ex : h1 = _ := tupOf_some ex
  subst ex
  refine rt σ H ρ _ ρ1 _ S e1 fun x H1 g1 S1 k1 r1 => ?_
  refine ru σ H1 ρ1 o _ _ S1 e2 fun H2 g2 S2 k2 => ?_
  have r2 := r1.go g2
  cases r2 with
  | @tup a vs _ s1 l1 =>
    refine ⟨a, vs, rfl, s1.t, fun p ob np hx => q _ _ ((g1.trans g2).trans (.new np)) (S2.new np) (k1.trans k2) (.tup (.new hx) ?_)⟩
    rw [l1.length]
    exact ((l1.take _).reverse).m (tst_new np)
def fRevL (fa : FE) : FE := fun ρ => (fa ρ).bind fun p => (rdL p.1 p.2).map fun xs => (.tmp (.lst xs.reverse), p.2)
theorem de_revL {k : Nat} {p1 p2 p3 : Pos} (ha : DE X a fa) : DE X (.Subscript a (.Slice none none (some (.UnaryOp .USub (.Constant (.int 1) k p1) p2)) p3) pos) (fRevL fa) := by
  obtain ⟨t, pt, rt⟩ := ha.run
  refine ⟨_, pe_revL pt, fun σ H ρ hs ρ' Q S e q => ?_⟩
  simp only [fRevL, Option.bind_eq_some_iff, Option.map_eq_some_iff] at e
  obtain ⟨⟨h1, ρ1⟩, e1, xs, ex, e3⟩ := e
  cases e3
  refine rt σ H ρ _ _ _ S e1 fun x H1 g1 S1 k1 r1 => ?_
  obtain ⟨a, vs, rfl, sq, l⟩ := rdL_some S1 r1 ex
  exact ⟨a, vs, rfl, sq, fun p np => q _ _ (g1.trans (.new np)) (S1.new np) k1 (HR.tmpL S1 np (g1.dom _ np) l.reverse)⟩

/-! ### built-in functions -/
abbrev GA := List Hd → Ev → Option Hd
def DCl (X : Cx) (F : Value) (g : GA) : Prop :=
  ∃ r : List V → Hp → VK → Prop, CallR X F r ∧ ∀ (σ : Sto) (H0 H : Hp) (ρ : Ev) (hs : List Hd) (h3 : Hd) (us : List V) (Q : VK), SR X.kw H σ ρ → HRs X.kw H0 H σ ρ hs us → g hs ρ = some h3 →
    (∀ u H', Go X.kw σ ρ H σ ρ H' → SR X.kw H' σ ρ → HR X.kw H H' σ ρ h3 u → Q u H') → r us H Q
theorem DCl.or {F : Value} {g g' : GA} (h : DCl X F g) (h' : DCl X F g') : DCl X F (fun a ρ => (g a ρ).or (g' a ρ)) := by
  obtain ⟨r, o, p⟩ := h
  obtain ⟨r', o', p'⟩ := h'
  refine ⟨_, o.or o', fun σ H0 H ρ h1 h3 x Q S r1 e q => ?_⟩
  simp only [Option.or_eq_some_iff] at e
  rcases e with e | ⟨_, e⟩
  · exact .inl (p σ H0 H ρ h1 h3 x Q S r1 e q)
  · exact .inr (p' σ H0 H ρ h1 h3 x Q S r1 e q)
def fCB (g : GA) (fa : FA) : FE := fun ρ => (fa ρ).bind fun p => (g p.1 p.2).map fun h => (h, p.2)
theorem callB_core {fs : FA} {g : GA} {r : List V → Hp → VK → Prop} {t : TA} (ro : ∀ (σ : Sto) (H0 H : Hp) (ρ : Ev) (hs : List Hd) (h3 : Hd) (us : List V) (Q : VK), SR X.kw H σ ρ → HRs X.kw H0 H σ ρ hs us → g hs ρ = some h3 →
    (∀ u H', Go X.kw σ ρ H σ ρ H' → SR X.kw H' σ ρ → HR X.kw H H' σ ρ h3 u → Q u H') → r us H Q)
    (rt : ∀ (σ : Sto) (H : Hp) (ρ : Ev) (hs : List Hd) (ρ' : Ev) (Q : List V → Hp → Prop), SR X.kw H σ ρ → fs ρ = some (hs, ρ') →
      (∀ us H', Go X.kw σ ρ H σ ρ' H' → SR X.kw H' σ ρ' → Kp ρ ρ' → HRs X.kw H H' σ ρ' hs us → TD hs us → Q us H') → t σ H Q)
    (σ : Sto) (H : Hp) (ρ : Ev) (h : Hd) (ρ' : Ev) (Q : VK) (S : SR X.kw H σ ρ) (e : fCB g fs ρ = some (h, ρ'))
    (q : ∀ u H', Go X.kw σ ρ H σ ρ' H' → SR X.kw H' σ ρ' → Kp ρ ρ' → HR X.kw H H' σ ρ' h u → Q u H') : tCB r t σ H Q := by
  simp only [fCB, Option.bind_eq_some_iff, Option.map_eq_some_iff] at e
  obtain ⟨⟨hs, ρ1⟩, e1, h3, e2, e3⟩ := e
  cases e3
  refine rt σ H ρ hs _ _ S e1 fun us H1 g1 S1 k1 r1 d1 => ?_
  exact ro σ H H1 _ hs _ us Q S1 r1 e2 fun u H2 g2 S2 r2 => q u H2 (g1.trans g2) S2 k1 (r2.back g1.dom)
variable {x : Str} {p : Pos} {bid Ty : String} {g : GA} {fs : FA}
theorem de_callB (hc : DCl X (.builtin bid) g) (hg : Gl X x) (hm : X.mg x = none) (hv : bootBuiltins x = some (.builtin bid)) (ha : DA X (e :: es) fs) (hn : x ≠ "__name__" := by decide) (hdb : (x == ("__debug__" : Str)) = false := by decide)
    (he : starEach (e :: es) X.env = (false, eval e X.env) :: starEach es X.env := by rfl) (hpl : (backTo pos (starEach es X.env)).any (·.1) = false := by rfl) : DE X (.Call (.Name x p) (e :: es) [] pos) (fCB g fs) := by
  obtain ⟨t, pt, rt⟩ := ha.run
  obtain ⟨r, o, ro⟩ := hc
  exact ⟨_, pe_callB o hg hm hv pt hn hdb he hpl, fun σ H ρ h ρ' Q S e q => callB_core ro rt σ H ρ h ρ' Q S e q⟩
theorem de_callTy (hc : DCl X (.type Ty) g) (hg : Gl X x) (hm : X.mg x = none) (hv : bootBuiltins x = some (.type Ty)) (ha : DA X (e :: es) fs) (hn : x ≠ "__name__" := by decide) (hdb : (x == ("__debug__" : Str)) = false := by decide)
    (he : starEach (e :: es) X.env = (false, eval e X.env) :: starEach es X.env := by rfl) (hpl : (backTo pos (starEach es X.env)).any (·.1) = false := by rfl) : DE X (.Call (.Name x p) (e :: es) [] pos) (fCB g fs) := by
  obtain ⟨t, pt, rt⟩ := ha.run
  obtain ⟨r, o, ro⟩ := hc
  exact ⟨_, pe_callTy o hg hm hv pt hn hdb he hpl, fun σ H ρ h ρ' Q S e q => callB_core ro rt σ H ρ h ρ' Q S e q⟩
theorem HRs.one {K : KW} {H0 H : Hp} {σ : Sto} {ρ : Ev} {h : Hd} {us : List V} (r : HRs K H0 H σ ρ [h] us) : ∃ u, us = [u] ∧ HR K H0 H σ ρ h u := by
  cases r with
  | cons r t => cases t; exact ⟨_, rfl, r⟩
theorem HRs.two {K : KW} {H0 H : Hp} {σ : Sto} {ρ : Ev} {h h' : Hd} {us : List V} (r : HRs K H0 H σ ρ [h, h'] us) : ∃ u v, us = [u, v] ∧ HR K H0 H σ ρ h u ∧ HR K H0 H σ ρ h' v := by
  cases r with
  | cons r t =>
    obtain ⟨v, rfl, r'⟩ := t.one
    exact ⟨_, v, rfl, r, r'⟩
/-! len, int, abs, max, min -/
def gLen : GA := fun hs ρ => match hs with
  | [h] => (rdSeq h ρ).map fun xs => .dat (.int xs.length)
  | _ => none
theorem dc_len : DCl X (.builtin "len") gLen := by
  refine ⟨_, call_len_seq, fun σ H0 H ρ hs h3 us Q S r1 e q => ?_⟩
  unfold gLen at e
  split at e
  · obtain ⟨u, rfl, r⟩ := r1.one
    simp only [Option.map_eq_some_iff] at e
    obtain ⟨xs, e1, rfl⟩ := e
    obtain ⟨a, vs, rfl, sq, l⟩ := rdSeq_some S r e1
    refine ⟨a, vs, rfl, sq.imp_right SqX.t, q _ H .refl S ?_⟩
    rw [l.length]
    exact .int _
  · cases e
def gInt : GA := fun hs _ => match hs with
  | [.dat (.int i)] => some (.dat (.int i))
  | [.dat (.bool b)] => some (.dat (.int (if b then 1 else 0)))
  | _ => none
theorem dc_int : DCl X (.type "int") gInt := by
  refine ⟨_, call_int1, fun σ H0 H ρ hs h3 us Q S r1 e q => ?_⟩
  unfold gInt at e
  split at e
  · cases e
    obtain ⟨u, rfl, r⟩ := r1.one
    cases r
    exact .inl ⟨_, rfl, q _ H .refl S (.int _)⟩
  · cases e
    obtain ⟨u, rfl, r⟩ := r1.one
    cases r
    exact .inr ⟨_, rfl, q _ H .refl S (.int _)⟩
  · cases e
def gAbs : GA := fun hs _ => match hs with
  | [.dat (.int i)] => some (.dat (.int (if i < 0 then -i else i)))
  | _ => none
theorem dc_abs : DCl X (.builtin "abs") gAbs := by
  refine ⟨_, call_abs, fun σ H0 H ρ hs h3 us Q S r1 e q => ?_⟩
  unfold gAbs at e
  split at e
  · cases e
    obtain ⟨u, rfl, r⟩ := r1.one
    cases r
    exact ⟨_, rfl, q _ H .refl S (.int _)⟩
  · cases e
def gMax2 : GA := fun hs _ => match hs with
  | [.dat (.int i), .dat (.int j)] => some (.dat (.int (max i j)))
  | _ => none
theorem dc_max2 (hc : X.calm = true) : DCl X (.builtin "max") gMax2 := by
  refine ⟨_, call_max2 hc, fun σ H0 H ρ hs h3 us Q S r1 e q => ?_⟩
  unfold gMax2 at e
  split at e
  · rename_i i j
    cases e
    obtain ⟨u, v, rfl, r, r'⟩ := r1.two
    cases r
    cases r'
    refine ⟨_, _, rfl, q _ H .refl S ?_⟩
    have : (if j > i then j else i) = max i j := by split <;> omega
    rw [this]
    exact .int _
  · cases e
def gMin2 : GA := fun hs _ => match hs with
  | [.dat (.int i), .dat (.int j)] => some (.dat (.int (min i j)))
  | _ => none
theorem dc_min2 (hc : X.calm = true) : DCl X (.builtin "min") gMin2 := by
  refine ⟨_, call_min2 hc, fun σ H0 H ρ hs h3 us Q S r1 e q => ?_⟩
  unfold gMin2 at e
  split at e
  · rename_i i j
    cases e
    obtain ⟨u, v, rfl, r, r'⟩ := r1.two
    cases r
    cases r'
    refine ⟨_, _, rfl, q _ H .refl S ?_⟩
    have : (if j < i then j else i) = min i j := by split <;> omega
    rw [this]
    exact .int _
  · cases e
/-! max, min of a sequence -/
theorem Vals.getB : ∀ {xs : List V} {us : List Value} {i : Nat} {u : Value}, Vals xs us → us[i]? = some u → ∃ x, xs[i]? = some x ∧ RelV x u
  | _, _, _, _, .nil, h => by simp at h
  | _, _, 0, _, .cons r _, h => by
    simp at h; subst h; exact ⟨_, rfl, r⟩
  | _, _, i + 1, _, .cons _ t, h => by
    obtain ⟨x, e, r⟩ := Vals.getB (i := i) t (by simpa using h)
    exact ⟨x, by simpa using e, r⟩
open PySem.W in
def rExt (K : KW) (f : PyData → List PyData → PyData) : List V → Hp → VK → Prop := fun vs H Q => ∃ a ws x xs, vs = [.ref a] ∧ (SqL K H a ws ∨ SqX K H a ws) ∧ RpL K H ws (x :: xs) ∧ AlikeAll (x :: xs) ∧ PyData.depthAll (x :: xs) ≤ 60 ∧
  ∀ v, Rp K H v (f x xs) → Q v H
open PySem.W in
theorem ext_core {f : PyData → List PyData → PyData} {id : String} (hc : X.calm = true) (hu : X.A.units + 64 < cLine)
    (rl : ∀ {s : Shared} {l : Addr} {vs : Array Value} {x : PyData} {xs : List PyData} {as : List Addr} {Q : Value → Shared → Prop}, X.A.handled = none → s.heap.IsList l vs → ReadsAll s.heap vs.toList (x :: xs) as → AlikeAll (x :: xs) → X.A.units + 1 + PyData.depthAll (x :: xs) < cLine →
      (∀ (i : Nat) v h' tk bs, vs[i]? = some v → Reads h' v (f x xs) bs → (∀ b o, s.heap.get? b = some o → h'.get? b = some o) → Q v { s with heap := h', toks := tk }) → wpAny (model X.prog X.w) X.A (call (.builtin id) [.ref l]) Q X.xe s)
    (rt : ∀ {s : Shared} {l : Addr} {vs : Array Value} {x : PyData} {xs : List PyData} {as : List Addr} {Q : Value → Shared → Prop}, X.A.handled = none → s.heap.IsTuple l vs → ReadsAll s.heap vs.toList (x :: xs) as → AlikeAll (x :: xs) → X.A.units + 1 + PyData.depthAll (x :: xs) < cLine →
      (∀ (i : Nat) v h' tk bs, vs[i]? = some v → Reads h' v (f x xs) bs → (∀ b o, s.heap.get? b = some o → h'.get? b = some o) → Q v { s with heap := h', toks := tk }) → wpAny (model X.prog X.w) X.A (call (.builtin id) [.ref l]) Q X.xe s) :
    CallR X (.builtin id) (rExt X.kw f) := by
  intro pins s σ H vs us Q I r h
  obtain ⟨a, ws, x, xs, rfl, sq, l, al, dp, q⟩ := h
  rw [Vals.ref1 r]
  -- the end: the item handed back is the data
  have fin : ∀ (its : List Value), Vals ws its → ∀ (i : Nat) (v : Value) (h' : Heap) (tk : Nat) (bs : List Addr), its.toArray[i]? = some v → Reads h' v (f x xs) bs → (∀ b o, s.heap.get? b = some o → h'.get? b = some o) → EP X pins σ Q v { s with heap := h', toks := tk } := by
    intro its rv i v h' tk bs hi hr hk
    obtain ⟨y, ey, ry⟩ := Vals.getB rv (by simpa using hi)
    obtain ⟨d, ed, rd⟩ := l.getV ey
    obtain ⟨cs, r1⟩ := Dp.reads I d y v (Rp.dp _ _ rd) ry
    have r2 : Reads h' v d cs := reads_keeps hk r1
    have e : d = f x xs := SeqAt.plain_unique d _ v _ _ (Rp.plain _ _ rd) r2 hr
    subst e
    exact ⟨y, H, I.kept (t' := tk) hk, ry, q y rd⟩
  rcases sq with sq | sq
  · obtain ⟨its, rv, pl, hz⟩ := I.list sq
    obtain ⟨as, ra⟩ := Dp.readsAll I (x :: xs) ws its (RpL.dp _ _ l) rv
    exact rl (I.ok.hd hc) pl.isList (show ReadsAll s.heap its.toArray.toList (x :: xs) as from ra) al (by omega) fun i v h' tk bs hi hr hk => fin its rv i v h' tk bs hi hr hk
  · obtain ⟨its, rv, pl, hz⟩ := I.tuple sq.t
    obtain ⟨as, ra⟩ := Dp.readsAll I (x :: xs) ws its (RpL.dp _ _ l) rv
    exact rt (I.ok.hd hc) (show s.heap.IsTuple a its.toArray from pl) (show ReadsAll s.heap its.toArray.toList (x :: xs) as from ra) al (by omega) fun i v h' tk bs hi hr hk => fin its rv i v h' tk bs hi hr hk
open PySem.W in
noncomputable def gExt (f : PyData → List PyData → PyData) : GA := fun hs ρ => match hs with
  | [h] => match rdSeq h ρ with
    | some (x :: xs) => (guardP (AlikeAll (x :: xs) ∧ PyData.depthAll (x :: xs) ≤ 60)).map fun _ => .dat (f x xs)
    | _ => none
  | _ => none
theorem dc_ext {f : PyData → List PyData → PyData} {id : String} (o : CallR X (.builtin id) (rExt X.kw f)) : DCl X (.builtin id) (gExt f) := by
  refine ⟨_, o, fun σ H0 H ρ hs h3 us Q S r1 e q => ?_⟩
  unfold gExt at e
  split at e
  · obtain ⟨u, rfl, r⟩ := r1.one
    split at e
    · rename_i x xs hx
      simp only [Option.map_eq_some_iff, guardP_some] at e
      obtain ⟨_, ⟨al, dp⟩, rfl⟩ := e
      obtain ⟨a, vs, rfl, sq, l⟩ := rdSeq_some S r hx
      exact ⟨a, vs, x, xs, rfl, sq, l, al, dp, fun v rv => q v H .refl S rv⟩
    · cases e
  · cases e
open PySem.W in
noncomputable abbrev gMax1 : GA := gExt maxD
open PySem.W in
noncomputable abbrev gMin1 : GA := gExt minD
open PySem.W in
theorem dc_max1 (hc : X.calm = true) (hu : X.A.units + 64 < cLine) : DCl X (.builtin "max") gMax1 := dc_ext (ext_core hc hu (fun a b c d e f => max_list_data a b c d e f) (fun a b c d e f => max_tuple_data a b c d e f))
open PySem.W in
theorem dc_min1 (hc : X.calm = true) (hu : X.A.units + 64 < cLine) : DCl X (.builtin "min") gMin1 := dc_ext (ext_core hc hu (fun a b c d e f => min_list_data a b c d e f) (fun a b c d e f => min_tuple_data a b c d e f))
noncomputable def gMax : GA := fun hs ρ => (gMax2 hs ρ).or (gMax1 hs ρ)
noncomputable def gMin : GA := fun hs ρ => (gMin2 hs ρ).or (gMin1 hs ρ)
theorem dc_max (hc : X.calm = true) (hu : X.A.units + 64 < cLine) : DCl X (.builtin "max") gMax := (dc_max2 hc).or (dc_max1 hc hu)
theorem dc_min (hc : X.calm = true) (hu : X.A.units + 64 < cLine) : DCl X (.builtin "min") gMin := (dc_min2 hc).or (dc_min1 hc hu)
/-! sum -/
def intsOf : List T → Option (List Int)
  | [] => some []
  | .int i :: ts => (intsOf ts).map (i :: ·)
  | _ :: _ => none
theorem intsOf_some : ∀ {ts : List T} {ns : List Int}, intsOf ts = some ns → ts = ns.map .int
  | [], _, e => by cases e; rfl
  | .int i :: ts, _, e => by
    simp only [intsOf, Option.map_eq_some_iff] at e
    obtain ⟨ns, e, rfl⟩ := e
    rw [intsOf_some e]; rfl
  | .none :: _, _, e => by cases e
  | .bool _ :: _, _, e => by cases e
  | .str _ :: _, _, e => by cases e
  | .list _ :: _, _, e => by cases e
  | .tuple _ :: _, _, e => by cases e
  | .dict _ :: _, _, e => by cases e
theorem intsOf_map : ∀ (ns : List Int), intsOf (ns.map .int) = some ns
  | [] => rfl
  | n :: ns => by
    show (intsOf (ns.map .int)).map (n :: ·) = _
    rw [intsOf_map ns]; rfl
def boolsOf : List T → Option (List Bool)
  | [] => some []
  | .bool i :: ts => (boolsOf ts).map (i :: ·)
  | _ :: _ => none
theorem boolsOf_some : ∀ {ts : List T} {ns : List Bool}, boolsOf ts = some ns → ts = ns.map .bool
  | [], _, e => by cases e; rfl
  | .bool i :: ts, _, e => by
    simp only [boolsOf, Option.map_eq_some_iff] at e
    obtain ⟨ns, e, rfl⟩ := e
    rw [boolsOf_some e]; rfl
  | .none :: _, _, e => by cases e
  | .int _ :: _, _, e => by cases e
  | .str _ :: _, _, e => by cases e
  | .list _ :: _, _, e => by cases e
  | .tuple _ :: _, _, e => by cases e
  | .dict _ :: _, _, e => by cases e
theorem boolsOf_map : ∀ (ns : List Bool), boolsOf (ns.map .bool) = some ns
  | [] => rfl
  | n :: ns => by
    show (boolsOf (ns.map .bool)).map (n :: ·) = _
    rw [boolsOf_map ns]; rfl
theorem sum_rawT {prog : Program} {w : World} {A : Around} {E : Value → Shared → Prop} {s : Shared} {l : Addr} {its : List Value} {ns : List Int} {Q : Value → Shared → Prop} (hh : A.handled = none) (hl : s.heap.IsTuple l its.toArray) (hi : IntsAre its ns)
    (h : ∀ h' tk t', (∀ b o, s.heap.get? b = some o → h'.get? b = some o) → Q (.int ns.sum t') { s with heap := h', toks := tk }) : wpAny (model prog w) A (call (.builtin "sum") [.ref l]) Q E s := by
  obtain ⟨xs, e⟩ := hi.allInts.items
  have hn : numsOf (intItems xs).toList = ns := by rw [← e]; exact hi.numsOf
  rw [nums_intItems] at hn
  rw [e] at hl
  refine PySem.W.ktm_sumG hh hl fun h' tk t' hk => ?_
  have := h h' tk t' hk
  rw [preSum_eq, List.take_of_length_le (by simp), hn]; exact this
def rSumX (K : KW) : List V → Hp → VK → Prop := fun vs H Q => ∃ (a : Addr) (ns : List Int), vs = [V.ref a] ∧ (SqL K H a (ns.map V.int) ∨ SqX K H a (ns.map V.int)) ∧ Q (.int ns.sum) H
theorem cr_sumX (hc : X.calm = true) : CallR X (.builtin "sum") (rSumX X.kw) := by
  intro pins s σ H vs us Q I r h
  obtain ⟨a, ns, rfl, sq, q⟩ := h
  rcases sq with sq | sq
  · exact cr_sum hc pins s σ H _ us Q I r ⟨a, ns, rfl, sq, q⟩
  · obtain ⟨its, rv, hl, _⟩ := I.tuple sq.t
    rw [Vals.ref1 r]
    exact sum_rawT (I.ok.hd hc) (show s.heap.IsTuple a its.toArray from hl) rv.ints fun h' tk t' hk => ⟨.int _, H, I.kept hk, ⟨_, rfl⟩, q⟩
def gSum : GA := fun hs ρ => match hs with
  | [h] => (rdSeq h ρ).bind fun xs => (intsOf xs).map fun ns => .dat (.int ns.sum)
  | _ => none
theorem dc_sum (hc : X.calm = true) : DCl X (.builtin "sum") gSum := by
  refine ⟨_, cr_sumX hc, fun σ H0 H ρ hs h3 us Q S r1 e q => ?_⟩
  unfold gSum at e
  split at e
  · obtain ⟨u, rfl, r⟩ := r1.one
    simp only [Option.bind_eq_some_iff, Option.map_eq_some_iff] at e
    obtain ⟨xs, e1, ns, e2, rfl⟩ := e
    obtain ⟨a, vs, rfl, sq, l⟩ := rdSeq_some S r e1
    have e2 := intsOf_some e2
    subst e2
    rw [l.ints] at sq
    exact ⟨a, ns, rfl, sq, q _ H .refl S (.int _)⟩
  · cases e
/-! any, all of a list of truth values -/
def gAny : GA := fun hs ρ => match hs with
  | [h] => (rdL h ρ).bind fun xs => (boolsOf xs).map fun ns => .dat (.bool (ns.any id))
  | _ => none
def gAll : GA := fun hs ρ => match hs with
  | [h] => (rdL h ρ).bind fun xs => (boolsOf xs).map fun ns => .dat (.bool (ns.all id))
  | _ => none
theorem dc_any (hc : X.calm = true) : DCl X (.builtin "any") gAny := by
  refine ⟨_, cr_any hc, fun σ H0 H ρ hs h3 us Q S r1 e q => ?_⟩
  unfold gAny at e
  split at e
  · obtain ⟨u, rfl, r⟩ := r1.one
    simp only [Option.bind_eq_some_iff, Option.map_eq_some_iff] at e
    obtain ⟨xs, e1, ns, e2, rfl⟩ := e
    obtain ⟨a, vs, rfl, sq, l⟩ := rdL_some S r e1
    have e2 := boolsOf_some e2
    subst e2
    rw [l.bools] at sq
    exact ⟨a, ns, rfl, sq, q _ H .refl S (.bl _)⟩
  · cases e
theorem dc_all (hc : X.calm = true) : DCl X (.builtin "all") gAll := by
  refine ⟨_, cr_all hc, fun σ H0 H ρ hs h3 us Q S r1 e q => ?_⟩
  unfold gAll at e
  split at e
  · obtain ⟨u, rfl, r⟩ := r1.one
    simp only [Option.bind_eq_some_iff, Option.map_eq_some_iff] at e
    obtain ⟨xs, e1, ns, e2, rfl⟩ := e
    obtain ⟨a, vs, rfl, sq, l⟩ := rdL_some S r e1
    have e2 := boolsOf_some e2
    subst e2
    rw [l.bools] at sq
    exact ⟨a, ns, rfl, sq, q _ H .refl S (.bl _)⟩
  · cases e
/-! tuple, list -/
theorem call_tuple_X : CallR X (.type "tuple") (fun xs H Q => ∃ p ys, xs = [.ref p] ∧ ((SqL X.kw H p ys ∧ ∀ l ob, H l = none → ExT ob → Q (.ref l) (upd H l (.frz ob (.tup ys)))) ∨ (SqX X.kw H p ys ∧ Q (.ref p) H))) := by
  intro pins s σ H xs us Q I r h
  obtain ⟨p, ys, rfl, h⟩ := h
  obtain ⟨u, rfl, rx⟩ := vals1 r
  cases rx
  rcases h with ⟨hq, q⟩ | ⟨hq, q⟩
  · obtain ⟨its, r', pl, hz⟩ := I.list hq
    have hlen := r'.length
    refine call_tuple_list pl.isList (fun h' kp => ?_) (by simp only [List.size_toArray] <;> omega)
    have I1 : Inv X pins σ H { s with heap := h', toks := s.toks } := I.kept (t' := s.toks) kp
    obtain ⟨ob, hx, hf, I2⟩ := laidT (t' := s.toks) (h' := h') (s := s) I1 r' hz
    exact ⟨.ref h'.objs.size, _, I2, rfl, q _ ob hf hx⟩
  · obtain ⟨its, r', pl, hz⟩ := I.tuple hq.t
    exact call_tuple_same pl ⟨.ref p, H, I, rfl, q⟩
def gTuple : GA := fun hs ρ => match hs with
  | [h] => (rdSeq h ρ).map fun xs => .dat (.tuple xs)
  | _ => none
theorem dc_tuple : DCl X (.type "tuple") gTuple := by
  refine ⟨_, call_tuple_X, fun σ H0 H ρ hs h3 us Q S r1 e q => ?_⟩
  unfold gTuple at e
  split at e
  · obtain ⟨u, rfl, r⟩ := r1.one
    simp only [Option.map_eq_some_iff] at e
    obtain ⟨xs, e1, rfl⟩ := e
    obtain ⟨a, vs, rfl, sq, l⟩ := rdSeq_some S r e1
    rcases sq with sq | sq
    · exact ⟨a, vs, rfl, .inl ⟨sq, fun p ob np hx => q _ _ (.new np) (S.new np) (.tup (.new hx) (l.m (tst_new np)))⟩⟩
    · exact ⟨a, vs, rfl, .inr ⟨sq, q _ H .refl S (.tup sq l)⟩⟩
  · cases e
def gList : GA := fun hs ρ => match hs with
  | [h] => (rdSeq h ρ).map fun xs => .tmp (.lst xs)
  | _ => none
theorem dc_list : DCl X (.type "list") gList := by
  refine ⟨_, call_list_of, fun σ H0 H ρ hs h3 us Q S r1 e q => ?_⟩
  unfold gList at e
  split at e
  · obtain ⟨u, rfl, r⟩ := r1.one
    simp only [Option.map_eq_some_iff] at e
    obtain ⟨xs, e1, rfl⟩ := e
    obtain ⟨a, vs, rfl, sq, l⟩ := rdSeq_some S r e1
    exact ⟨a, vs, rfl, sq.imp_right SqX.t, fun p np => q _ _ (.new np) (S.new np) (HR.tmpL S np np l)⟩
  · cases e
/-! sorted of ints -/
def sortI (ns : List Int) : List Int := ns.mergeSort (fun a b => decide (a ≤ b))
theorem sortI_unique {ns ms : List Int} (h : ms.Perm ns) (s : ms.Pairwise (· ≤ ·)) : ms = sortI ns := by
  have h1 : (sortI ns).Perm ns := List.mergeSort_perm ns _
  have h2 : (sortI ns).Pairwise (· ≤ ·) := by
    have := List.pairwise_mergeSort (le := fun a b : Int => decide (a ≤ b)) (fun a b c h1 h2 => by simp at *; omega) (fun a b => by simp; omega) ns
    exact this.imp fun h => by simpa using h
  exact List.Perm.eq_of_pairwise (fun a b _ _ h1 h2 => Int.le_antisymm h1 h2) s h2 (h.trans h1.symm)
end
end PD

namespace PD
open PySem PySem.Spec PyProof.Rows L2
section
variable {X : Cx} {e a b c : Expr} {es : List Expr} {fa fb fc : FE} {pos : Pos}

/-! ### sorted of ints -/
def gSortedI : GA := fun hs ρ => match hs with
  | [h] => (rdL h ρ).bind fun xs => (intsOf xs).map fun ns => .tmp (.lst ((sortI ns).map .int))
  | _ => none
theorem dc_sortedI : DCl X (.builtin "sorted") gSortedI := by
  refine ⟨_, cr_sortedI, fun σ H0 H ρ hs h3 us Q S r1 e q => ?_⟩
  unfold gSortedI at e
  split at e
  · obtain ⟨u, rfl, r⟩ := r1.one
    simp only [Option.bind_eq_some_iff, Option.map_eq_some_iff] at e
    obtain ⟨xs, e1, ns, e2, rfl⟩ := e
    obtain ⟨a, vs, rfl, sq, l⟩ := rdL_some S r e1
    have e2 := intsOf_some e2
    subst e2
    rw [l.ints] at sq
    refine ⟨a, ns, rfl, sq, fun ms p hp hs np => ?_⟩
    rw [sortI_unique hp hs]
    exact q _ _ (.new np) (S.new np) (HR.tmpL S np np (.ofInts _))
  · cases e

/-! ### list(range(..)), tuple(range(..)) -/
/-- a range as an argument: its bounds -/
abbrev FR := Ev → Option (Int × Int × Ev)
structure DR (X : Cx) (e : Expr) (f : FR) : Prop where
  run : ∃ t : L2.St → Hp → (Int → Int → Hp → Prop) → Prop, PRg X e t ∧ ∀ (σ : Sto) (H : Hp) (ρ : Ev) (i j : Int) (ρ' : Ev) (Q : Int → Int → Hp → Prop), SR X.kw H σ ρ → f ρ = some (i, j, ρ') →
    (∀ H', Go X.kw σ ρ H σ ρ' H' → SR X.kw H' σ ρ' → Kp ρ ρ' → Q i j H') → t σ H Q
def fRg1 (f : FE) : FR := fun ρ => (f ρ).bind fun p => (intOf p.1).map fun n => (0, n, p.2)
def fRg2 (f g : FE) : FR := fun ρ => (f ρ).bind fun p => (intOf p.1).bind fun i => (g p.2).bind fun q => (intOf q.1).map fun j => (i, j, q.2)
theorem dr_1 {p : Pos} (hg : Gl X "range") (hm : X.mg "range" = none) (ha : DE X a fa) (na : starEach [a] X.env = (false, eval a X.env) :: starEach [] X.env := by rfl) : DR X (.Call (.Name "range" p) [a] [] pos) (fRg1 fa) := by
  obtain ⟨t, pt, rt⟩ := ha.run
  refine ⟨_, prg_1 hg hm pt na, fun σ H ρ i j ρ' Q S e q => ?_⟩
  simp only [fRg1, Option.bind_eq_some_iff, Option.map_eq_some_iff] at e
  obtain ⟨⟨h1, ρ1⟩, e1, n, e3, e2⟩ := e
  cases e2
  have e3 : h1 = _ := intOf_some e3
  subst e3
  refine rt σ H ρ _ ρ1 _ S e1 fun x H1 g1 S1 k1 r1 => ?_
  cases r1
  exact ⟨_, rfl, q H1 g1 S1 k1⟩
theorem dr_2 {p : Pos} (hg : Gl X "range") (hm : X.mg "range" = none) (ha : DE X a fa) (hb : DE X b fb) (na : starEach [a, b] X.env = (false, eval a X.env) :: starEach [b] X.env := by rfl)
    (nb : starEach [b] X.env = (false, eval b X.env) :: starEach [] X.env := by rfl) (hp : (backTo pos (starEach [b] X.env)).any (·.1) = false := by rfl) : DR X (.Call (.Name "range" p) [a, b] [] pos) (fRg2 fa fb) := by
  obtain ⟨t, pt, rt⟩ := ha.run
  obtain ⟨u, pu, ru⟩ := hb.run
  refine ⟨_, prg_2 hg hm pt pu na nb hp, fun σ H ρ i j ρ' Q S e q => ?_⟩
  simp only [fRg2, Option.bind_eq_some_iff, Option.map_eq_some_iff] at e
  obtain ⟨⟨h1, ρ1⟩, e1, n, e3, ⟨h2, ρ2⟩, e4, m, e5, e2⟩ := e
  cases e2
  have e3 : h1 = _ := intOf_some e3
  have e5 : h2 = _ := intOf_some e5
  subst e3 e5
  refine rt σ H ρ _ ρ1 _ S e1 fun x H1 g1 S1 k1 r1 => ?_
  refine ru σ H1 ρ1 _ ρ2 _ S1 e4 fun y H2 g2 S2 k2 r2 => ?_
  cases r1
  cases r2
  exact ⟨_, _, rfl, rfl, q H2 (g1.trans g2) S2 (k1.trans k2)⟩
def rgT (a b : Int) : List T := (List.range (b - a).toNat).map fun i => PyData.int (a + (i : Nat))
theorem rg_rp {K : KW} {H : Hp} (a b : Int) : RpL K H (rgV a b) (rgT a b) := by
  unfold rgV rgT
  generalize List.range (b - a).toNat = l
  induction l with
  | nil => exact .nil
  | cons x l ih => exact .cons (.int _) ih
noncomputable def fListRg (f : FR) : FE := fun ρ => (f ρ).bind fun p => (guardP (RgOk p.1 p.2.1)).map fun _ => (.tmp (.lst (rgT p.1 p.2.1)), p.2.2)
noncomputable def fTupRg (f : FR) : FE := fun ρ => (f ρ).bind fun p => (guardP (RgOk p.1 p.2.1)).map fun _ => (.dat (.tuple (rgT p.1 p.2.1)), p.2.2)
theorem de_listRg {f : FR} {p : Pos} (hc : X.calm = true) (hg : Gl X "list") (hm : X.mg "list" = none) (he : DR X e f) (na : starEach [e] X.env = (false, eval e X.env) :: starEach [] X.env := by rfl) : DE X (.Call (.Name "list" p) [e] [] pos) (fListRg f) := by
  obtain ⟨t, pt, rt⟩ := he.run
  refine ⟨_, pe_listRg hc hg hm pt na, fun σ H ρ hs ρ' Q S e q => ?_⟩
  simp only [fListRg, Option.bind_eq_some_iff, Option.map_eq_some_iff, guardP_some] at e
  obtain ⟨⟨i, j, ρ1⟩, e1, _, ok, e2⟩ := e
  cases e2
  refine rt σ H ρ i j _ _ S e1 fun H1 g1 S1 k1 => ?_
  exact ⟨ok, fun p np => q _ _ (g1.trans (.new np)) (S1.new np) k1 (HR.tmpL S1 np (g1.dom _ np) (rg_rp i j))⟩
def tTupRgX (te : L2.St → Hp → (Int → Int → Hp → Prop) → Prop) : TE := fun σ H Q => te σ H fun a b H1 => RgOk a b ∧ ∀ q ob, H1 q = none → ExT ob → Q (.ref q) (upd H1 q (.frz ob (.tup (rgV a b))))
theorem pe_tupRgX {te : L2.St → Hp → (Int → Int → Hp → Prop) → Prop} {p : Pos} (hc : X.calm = true) (hg : Gl X "tuple") (hm : X.mg "tuple" = none) (he : PRg X e te) (na : starEach [e] X.env = (false, eval e X.env) :: starEach [] X.env := by rfl) : PE X (.Call (.Name "tuple" p) [e] [] pos) (tTupRgX te) := by
  refine ⟨fun pins s σ H Q I h => ?_⟩
  refine Call_ (ld_blt I hg hm boot_tuple (PyProof.Rows.callWith_type1 (args_cons (thn (he pins s σ H _ I h) fun x s1 ⟨r, a, b, t, u, v, H1, ex, hr, I1, ok, q⟩ => args_nil ?_) na) na))
  subst ex
  obtain ⟨b1, b2, b3, b4, b5⟩ := ok
  refine call_tuple_range (n := (b - a).toNat) (I1.ok.hd hc) hr (small_one b1 b2 b3 b4) (rangeSize_nat a b) b5 fun h' tk acc hk hi => ?_
  have I2 : Inv X pins σ H1 { s1 with heap := h', toks := tk } := I1.kept hk
  obtain ⟨ob, hx, hf, I3⟩ := laidT (t' := tk) (h' := h') (s := s1) I2 (vals_rg hi) (by rw [rgV_length, sizeLine_eq]; omega)
  rw [Array.toArray_toList] at I3
  exact ⟨.ref h'.objs.size, _, I3, rfl, q _ ob hf hx⟩
theorem de_tupRg {f : FR} {p : Pos} (hc : X.calm = true) (hg : Gl X "tuple") (hm : X.mg "tuple" = none) (he : DR X e f) (na : starEach [e] X.env = (false, eval e X.env) :: starEach [] X.env := by rfl) : DE X (.Call (.Name "tuple" p) [e] [] pos) (fTupRg f) := by
  obtain ⟨t, pt, rt⟩ := he.run
  refine ⟨_, pe_tupRgX hc hg hm pt na, fun σ H ρ hs ρ' Q S e q => ?_⟩
  simp only [fTupRg, Option.bind_eq_some_iff, Option.map_eq_some_iff, guardP_some] at e
  obtain ⟨⟨i, j, ρ1⟩, e1, _, ok, e2⟩ := e
  cases e2
  refine rt σ H ρ i j _ _ S e1 fun H1 g1 S1 k1 => ?_
  exact ⟨ok, fun p ob np hx => q _ _ (g1.trans (.new np)) (S1.new np) k1 (.tup (.new hx) ((rg_rp i j).m (tst_new np)))⟩

/-! ### isinstance(x, T) -/
def isiR (X : Cx) (ty : String) (f : PyData → Bool) : Prop := ∀ {s : Shared} {v : Value} {d : PyData} {as : List Addr} {Q : Value → Shared → Prop}, Reads s.heap v d as → (∀ tk, s.toks ≤ tk → Q (.bool (f d)) { s with toks := tk }) → wpAny (model X.prog X.w) X.A (call (.builtin "isinstance") [v, .type ty]) Q X.xe s
def fIsi (f : PyData → Bool) (fa : FE) : FE := fun ρ => (fa ρ).bind fun p => (py p.1 p.2).map fun d => (.dat (.bool (f d)), p.2)
theorem de_isi {ty : String} {f : PyData → Bool} {p p2 : Pos} {y : Str} (hf : isiR X ty f) (hg : Gl X "isinstance") (hm : X.mg "isinstance" = none) (hg2 : Gl X y) (hm2 : X.mg y = none) (hv : bootBuiltins y = some (.type ty)) (ha : DE X a fa)
    (hn : y ≠ "__name__" := by decide) (hd : (y == ("__debug__" : Str)) = false := by decide)
    (he : starEach [a, .Name y p2] X.env = (false, eval a X.env) :: starEach [.Name y p2] X.env := by rfl) (he2 : starEach [.Name y p2] X.env = (false, eval (.Name y p2) X.env) :: starEach [] X.env := by rfl) (hpl : (backTo pos (starEach [.Name y p2] X.env)).any (·.1) = false := by rfl) :
    DE X (.Call (.Name "isinstance" p) [a, .Name y p2] [] pos) (fIsi f fa) := by
  obtain ⟨t, pt, rt⟩ := ha.run
  have pb : PE X (.Name y p2) (tC (.ty ty)) := pe_bltn hg2 hm2 hv rfl hn hd
  have cr : CallR X (.builtin "isinstance") (fun xs H Q => ∃ x d, xs = [x, .ty ty] ∧ Dp X.kw H x d ∧ Q (.bl (f d)) H) := by
    intro pins s σ H vs us Q I r h
    obtain ⟨x, d, rfl, hd, q⟩ := h
    obtain ⟨u, w, rfl, r1, r2⟩ := vals2 r
    cases r2
    obtain ⟨as, rd⟩ := Dp.reads I d x u hd r1
    exact hf rd fun tk _ => ⟨.bl _, H, I.tok _, rfl, q⟩
  refine ⟨_, pe_callB cr hg hm (by decide +kernel) (pa_cons pt (pa_cons pb pa_nil he2) he) (by decide) (by decide) he hpl, fun σ H ρ hs ρ' Q S e q => ?_⟩
  simp only [fIsi, Option.bind_eq_some_iff, Option.map_eq_some_iff] at e
  obtain ⟨⟨h1, ρ1⟩, e1, d, e3, e2⟩ := e
  cases e2
  refine rt σ H ρ _ _ _ S e1 fun x H1 g1 S1 k1 r1 => ?_
  exact ⟨x, d, rfl, (py_dp S1 r1 e3).1, q _ H1 g1 S1 k1 (.bl _)⟩
theorem isi_bool : isiR X "bool" PyData.isBool := fun r h => PySem.W.isinstance_bool_data r h
theorem isi_int : isiR X "int" PyData.isInt := fun r h => PySem.W.isinstance_int_data r h
theorem isi_str : isiR X "str" PyData.isStr := fun r h => PySem.W.isinstance_str_data r h
theorem isi_tuple : isiR X "tuple" PyData.isTuple := fun r h => PySem.W.isinstance_tuple_data r h
theorem isi_list : isiR X "list" PyData.isList := fun r h => PySem.W.isinstance_list_data r h

/-! ### methods of a list -/
/-- a method by the list's content: the answer, the content behind it -/
abbrev GM := List T → List T → Option (T × List T)
def DMt (X : Cx) (r : V → List V → Hp → VK → Prop) (g : GM) : Prop :=
  ∀ (H : Hp) (a : Addr) (xs : List T) (us : List V) (vs : List V) (ts : List T) (t : T) (xs' : List T) (Q : VK), H a = some (.lst us) → RpL X.kw H us xs → RpL X.kw H vs ts → g xs ts = some (t, xs') →
    (∀ u us', RpL X.kw H us' xs' → Rp X.kw H u t → Q u (upd H a (.lst us'))) → r (.ref a) vs H Q
/-- behind a method of the object that a handle tells -/
def putL (h : Hd) (xs : List T) (ρ : Ev) : Ev := match h with
  | .plc i => ρ.set i (some (.obj (.lst xs)))
  | _ => ρ
def fMt (g : GM) (fa : FE) (fs : FA) : FE := fun ρ => (fa ρ).bind fun p => (lstOf p.1 p.2).bind fun _ => (fs p.2).bind fun q => (datsOf q.1).bind fun ts => (lstOf p.1 q.2).bind fun xs => (g xs ts).map fun r => (.dat r.1, putL p.1 r.2 q.2)
theorem tyV_of {K : KW} {H : Hp} {a : Addr} {vs : List V} (h : H a = some (.lst vs)) : tyV K "list" (.ref a) H := .inl ⟨rfl, vs, .inl (.inl h)⟩
/-- an object that is not owned is written -/
theorem SR.asideM {K : KW} {H : Hp} {σ : Sto} {ρ : Ev} (S : SR K H σ ρ) {a : Addr} {u o : HO} (h : H a = some u) (m : IsM u) (n : ¬ Own σ ρ a) : SR K (upd H a o) σ ρ where
  len := S.len
  dat := fun i x h1 => let ⟨v, e1, r⟩ := S.dat i x h1; ⟨v, e1, r.m (tst_mut h m)⟩
  rol := fun i x h1 => let ⟨b, e1, r⟩ := S.rol i x h1; ⟨b, e1, r.m (tst_mut h m)⟩
  obj := fun i c h1 => by
    obtain ⟨b, e1, r⟩ := S.obj i c h1
    have : b ≠ a := by rintro rfl; exact n ⟨i, c, h1, e1⟩
    exact ⟨b, e1, r.m (tst_mut h m) fun o q => by rw [upd_ne this]; exact q⟩
  sep := S.sep
theorem SR.aside {K : KW} {H : Hp} {σ : Sto} {ρ : Ev} (S : SR K H σ ρ) {a : Addr} {vs : List V} {o : HO} (h : H a = some (.lst vs)) (n : ¬ Own σ ρ a) : SR K (upd H a o) σ ρ := S.asideM h trivial n
theorem mt_core {fs : FA} {g : GM} {r : V → List V → Hp → VK → Prop} {t : TE} {u : TA} (hr : DMt X r g)
    (rt : ∀ (σ : Sto) (H : Hp) (ρ : Ev) (h : Hd) (ρ' : Ev) (Q : VK), SR X.kw H σ ρ → fa ρ = some (h, ρ') → (∀ u H', Go X.kw σ ρ H σ ρ' H' → SR X.kw H' σ ρ' → Kp ρ ρ' → HR X.kw H H' σ ρ' h u → Q u H') → t σ H Q)
    (ru : ∀ (σ : Sto) (H : Hp) (ρ : Ev) (hs : List Hd) (ρ' : Ev) (Q : List V → Hp → Prop), SR X.kw H σ ρ → fs ρ = some (hs, ρ') →
      (∀ us H', Go X.kw σ ρ H σ ρ' H' → SR X.kw H' σ ρ' → Kp ρ ρ' → HRs X.kw H H' σ ρ' hs us → TD hs us → Q us H') → u σ H Q)
    (σ : Sto) (H : Hp) (ρ : Ev) (h : Hd) (ρ' : Ev) (Q : VK) (S : SR X.kw H σ ρ) (e : fMt g fa fs ρ = some (h, ρ'))
    (q : ∀ u H', Go X.kw σ ρ H σ ρ' H' → SR X.kw H' σ ρ' → Kp ρ ρ' → HR X.kw H H' σ ρ' h u → Q u H') :
    t σ H fun x H1 => tyV X.kw "list" x H1 ∧ u σ H1 fun xs H2 => r x xs H2 Q := by
  simp only [fMt, Option.bind_eq_some_iff, Option.map_eq_some_iff] at e
  obtain ⟨⟨h1, ρ1⟩, e1, _, e0, ⟨hs, ρ2⟩, e2, ts, e3, xs, e4, ⟨tt, xs'⟩, e5, e6⟩ := e
  cases e6
  refine rt σ H ρ h1 ρ1 _ S e1 fun x H1 g1 S1 k1 r1 => ?_
  have isL : tyV X.kw "list" x H1 := by
    obtain ⟨a, vs, rfl, ha, _⟩ := lstOf_some S1 r1 e0
    exact tyV_of ha
  refine ⟨isL, ?_⟩
  refine ru σ H1 ρ1 hs ρ2 _ S1 e2 fun us H2 g2 S2 k2 r2 d2 => ?_
  have r1' := r1.go g2
  obtain ⟨a, vs, rfl, ha, l⟩ := lstOf_some S2 r1' e4
  refine hr H2 a xs vs us ts tt xs' Q ha l (r2.dats e3) e5 fun w us' l' rw' => ?_
  have gg := g1.trans g2
  cases h1 with
  | dat t => cases e4
  | tmp c =>
    obtain ⟨b, eb, rc, n0, no⟩ := r1'
    cases eb
    refine q w _ ⟨fun b o hb nb => ?_, gg.own, gg.tst.trans (tst_lst ha), fun b hb => gg.dom b (upd_none hb)⟩ (S2.aside ha no) (k1.trans k2) (rw'.m (tst_lst ha))
    have : b ≠ a := by rintro rfl; rw [n0] at hb; cases hb
    rw [upd_ne this]
    exact gg.keep b o hb nb
  | plc i =>
    have ri : σ[i]? = some (some (V.ref a)) := r1'
    unfold lstOf at e4
    simp only at e4
    split at e4
    · rename_i hx
      cases e4
      have new : RpC X.kw (upd H2 a (.lst us')) a (.lst xs') := ⟨us', upd_same, l'.m (tst_lst ha)⟩
      exact q w _ (gg.trans (Go.put S2 hx ri)) (S2.put hx ri new) ((k1.trans k2).trans Kp.put) (rw'.m (tst_lst ha))
    · cases e4
theorem de_mt {g : GM} {fs : FA} {id : String} {name : Str} {apos cpos : Pos} {r : V → List V → Hp → VK → Prop} (hr : DMt X r g) (slot : Slot "list" name id) (hty : typeOf (.builtin id) = pure (.type "method_descriptor")) (hm : MtR X id r) (ha : DE X a fa) (hs : DA X (e :: es) fs)
    (hbase : attributeBase a name X.env (eval a X.env) = eval a X.env := by rfl)
    (hfew : ((backTo cpos (starEach (e :: es) X.env)).all (fun x => !x.1) && (backToKw cpos (keywordEach [] X.env)).all (fun x => x.1.isSome)
      && decide ((e :: es).length + ([] : List Keyword).length + (if ([] : List Keyword).isEmpty then 0 else 1) < 30)) = true := by rfl)
    (hline : (apos.endLine == cpos.line) = true := by rfl) (hst : starEach (e :: es) X.env = (false, eval e X.env) :: starEach es X.env := by rfl) (hplain : (backTo cpos (starEach es X.env)).any (·.1) = false := by rfl) :
    DE X (.Call (.Attribute a name apos) (e :: es) [] cpos) (fMt g fa fs) := by
  obtain ⟨t, pt, rt⟩ := ha.run
  obtain ⟨u, pu, ru⟩ := hs.run
  exact ⟨_, pe_bm PySem.F.plainAttrs_list slot hty hm pt pu hbase hfew hline hst hplain, fun σ H ρ h ρ' Q S e q => mt_core hr rt ru σ H ρ h ρ' Q S e q⟩
theorem de_mt0 {g : GM} {id : String} {name : Str} {apos cpos : Pos} {r : V → List V → Hp → VK → Prop} (hr : DMt X r g) (slot : Slot "list" name id) (hty : typeOf (.builtin id) = pure (.type "method_descriptor")) (hm : MtR X id r) (ha : DE X a fa)
    (hbase : attributeBase a name X.env (eval a X.env) = eval a X.env := by rfl) (hline : (apos.endLine == cpos.line) = true := by rfl) : DE X (.Call (.Attribute a name apos) [] [] cpos) (fMt g fa fNil) := by
  obtain ⟨t, pt, rt⟩ := ha.run
  refine ⟨_, pe_bm0 PySem.F.plainAttrs_list slot hty hm pt hbase hline, fun σ H ρ h ρ' Q S e q => ?_⟩
  have := mt_core (u := fun _ H Q => Q [] H) (fs := fNil) hr rt (fun σ H ρ hs ρ' Q S e q => by
    cases e
    exact q [] H .refl S .refl .nil fun i j c d a h => by simp at h) σ H ρ h ρ' Q S e q
  exact this
open Classical in
noncomputable def gAppend : GM := fun xs ts => match ts with
  | [t] => if xs.length < sizeLine then some (.none, xs ++ [t]) else none
  | _ => none
theorem dm_append : DMt X rAppend gAppend := by
  intro H a xs us vs ts t xs' Q ha l lt e q
  unfold gAppend at e
  split at e
  · split at e
    · rename_i hz
      cases e
      cases lt with
      | cons r rr =>
        cases rr
        exact ⟨a, us, _, rfl, rfl, ha, by rw [l.length]; exact hz, q .non _ (l.append (.one r)) .non⟩
    · cases e
  · cases e
def gPop : GM := fun xs ts => match ts with
  | [] => (xs[xs.length - 1]?).map fun y => (y, xs.dropLast)
  | _ => none
theorem dm_pop : DMt X rPop gPop := by
  intro H a xs us vs ts t xs' Q ha l lt e q
  unfold gPop at e
  split at e
  · simp only [Option.map_eq_some_iff] at e
    obtain ⟨y, ey, e⟩ := e
    cases e
    cases lt
    obtain ⟨v, ev, rv⟩ := l.get ey
    exact ⟨a, us, v, rfl, rfl, ha, by rw [l.length]; exact ev, q v _ l.dropLast rv⟩
  · cases e
noncomputable def gPopAt : GM := fun xs ts => match ts with
  | [.int i] => (guardP (-(2 ^ 63) ≤ i ∧ i < 2 ^ 63)).bind fun _ => (seqIndex? i xs.length).bind fun k => (xs[k]?).map fun y => (y, xs.eraseIdx k)
  | _ => none
theorem dm_popAt : DMt X rPopAt gPopAt := by
  intro H a xs us vs ts t xs' Q ha l lt e q
  unfold gPopAt at e
  split at e
  · simp only [Option.bind_eq_some_iff, Option.map_eq_some_iff, guardP_some] at e
    obtain ⟨_, ⟨b1, b2⟩, k, ek, y, ey, e⟩ := e
    cases e
    cases lt with
    | cons r rr =>
      cases rr
      cases r
      obtain ⟨v, ev, rv⟩ := l.get ey
      exact ⟨a, us, _, k, v, rfl, rfl, ha, b1, b2, by rw [l.length]; exact ek, ev, q v _ (l.eraseIdx k) rv⟩
  · cases e
def gReverse : GM := fun xs ts => match ts with
  | [] => some (.none, xs.reverse)
  | _ => none
theorem dm_reverse : DMt X rReverse gReverse := by
  intro H a xs us vs ts t xs' Q ha l lt e q
  unfold gReverse at e
  split at e
  · cases e
    cases lt
    exact ⟨a, us, rfl, rfl, ha, q .non _ l.reverse .non⟩
  · cases e

/-! ### methods that read: index, count -/
theorem pe_bmQ {Ty : V → Hp → Prop} {o : Expr} {T : String} {id : String} {name : Str} {to : TE} {t : TA} {apos cpos : Pos} {r : V → List V → Hp → VK → Prop} (pa : PlainAttrs T) (slot : Slot T name id) (hty : typeOf (.builtin id) = pure (.type "method_descriptor"))
    (hT : ∀ (pins : List (Addr × Obj)) (s : Shared) (σ : L2.St) (H : Hp) (x : V) (v : Value), Inv X pins σ H s → RelV x v → Ty x H → s.TypeIs v T ∧ ∀ a, v = .ref a → ∃ ob, s.heap.get? a = some ob ∧ ob.dict = none)
    (hm : MtR X id r) (ho : PE X o to) (ha : PA X (e :: es) t)
    (hbase : attributeBase o name X.env (eval o X.env) = eval o X.env := by rfl)
    (hfew : ((backTo cpos (starEach (e :: es) X.env)).all (fun x => !x.1) && (backToKw cpos (keywordEach [] X.env)).all (fun x => x.1.isSome)
      && decide ((e :: es).length + ([] : List Keyword).length + (if ([] : List Keyword).isEmpty then 0 else 1) < 30)) = true := by rfl)
    (hline : (apos.endLine == cpos.line) = true := by rfl) (hs : starEach (e :: es) X.env = (false, eval e X.env) :: starEach es X.env := by rfl) (hplain : (backTo cpos (starEach es X.env)).any (·.1) = false := by rfl) :
    PE X (.Call (.Attribute o name apos) (e :: es) [] cpos) (fun σ H Q => to σ H fun x H1 => Ty x H1 ∧ t σ H1 fun xs H2 => r x xs H2 Q) := by
  refine ⟨fun pins s σ H Q I h => ?_⟩
  refine wpAny_Call_method_late hbase hfew hline rfl (thn (ho.run pins s σ H _ I h) fun v s1 ⟨x, H1, I1, r1, ty, q1⟩ => ?_)
  obtain ⟨h1, h2⟩ := hT pins s1 σ H1 x v I1 r1 ty
  refine ⟨T, id, pa, slot, hty, h1, h2, ?_⟩
  have hA := ha.run cpos pins s1 σ H1 _ I1 q1
  rw [hs] at hA ⊢
  refine Calls.callWith_builtin (by show (false || (backTo cpos (starEach es X.env)).any (·.1)) = false; rw [hplain] <;> rfl) (Calls.evalArgs_plain ?_)
  exact thn hA fun us s2 ⟨vs, H2, I2, r2, q2⟩ => hm pins s2 σ H2 x vs v us Q I2 r1 r2 q2
def TyX (K : KW) (x : V) (H : Hp) : Prop := ∃ p xs, x = .ref p ∧ SqX K H p xs
theorem tyX_is (pins : List (Addr × Obj)) (s : Shared) (σ : L2.St) (H : Hp) (x : V) (v : Value) (I : Inv X pins σ H s) (r : RelV x v) (ty : TyX X.kw x H) : s.TypeIs v "tuple" ∧ ∀ a, v = .ref a → ∃ ob, s.heap.get? a = some ob ∧ ob.dict = none := by
  obtain ⟨p, xs, rfl, h⟩ := ty
  cases r
  rcases h with ⟨ob, h, x⟩ | ⟨o, its, n, hk, x, _⟩
  · obtain ⟨e, _⟩ := I.hok p _ h
    exact ⟨⟨ob, e, x.1⟩, fun a z => by cases z; exact ⟨ob, e, x.2⟩⟩
  · have e := I.kIn p o hk
    exact ⟨⟨o, e, x.1⟩, fun a z => by cases z; exact ⟨o, e, x.2⟩⟩
def rPlace (K : KW) (lst : Bool) (f : List PyData → PyData → Option Int) : V → List V → Hp → VK → Prop := fun x xs H Q => ∃ (a : Addr) (ws : List V) (y : V) (d : PyData) (ds : List PyData) (j : Int), x = V.ref a ∧ xs = [y] ∧
  (if lst then SqL K H a ws else SqX K H a ws) ∧ RpL K H ws ds ∧ Rp K H y d ∧ min (PyData.depthAll ds) d.depth ≤ 60 ∧ f ds d = some j ∧ Q (.int j) H
def fPlace (ds : List PyData) (d : PyData) : Option Int := Option.map (fun (j : Nat) => (j : Int)) (SeqAt.dataPlace ds d)
def fCount (ds : List PyData) (d : PyData) : Option Int := some ((ds.countP fun y => PyData.eqv y d : Nat) : Int)
theorem mt_indexL (hu : X.A.units + 64 < cLine) : MtR X "list.index" (rPlace X.kw true fPlace) := by
  intro pins s σ H x xs v us Q I rx rxs h
  obtain ⟨a, ws, y, d, ds, j, rfl, rfl, sq, l, rd, dp, hj, q⟩ := h
  simp only [if_true] at sq
  cases rx
  obtain ⟨uy, rfl, ry⟩ := vals1 rxs
  simp only [fPlace, Option.map_eq_some_iff] at hj
  obtain ⟨k, hk, rfl⟩ := hj
  obtain ⟨its, rv, ⟨⟨cls, dd, data, sls⟩, n, ho, hc, hdn, hdt⟩, hlen⟩ := I.list sq
  simp only at hc hdt
  subst hc hdt
  obtain ⟨as, ra⟩ := Dp.readsAll I ds ws its (RpL.dp _ _ l) rv
  obtain ⟨bs, rb⟩ := Dp.reads I d y uy (Rp.dp _ _ rd) ry
  have ra : ReadsAll s.heap its.toArray.toList ds as := ra
  obtain ⟨h1, h2, h3⟩ := SeqAt.hit_at ra (RpL.plain _ _ l) hk
  have hvl := rv.length
  have hsl := sizeLine_eq
  have hkl : k < its.length := by simpa using h1
  exact call_meets PySem.F.slot_list_index ⟨_, ho, rfl⟩ PySem.F.entry_list_index (PySem.F.args_list_index_2 _ _)
    (SeqAt.list_indexAt a its.toArray n dd sls uy (fun u => PyData.eqv (SeqAt.readOf s.heap u) d) k h1 (by omega) h2 h3) ⟨ho, SeqAt.items_plain ra rb (RpL.plain _ _ l) (Rp.plain _ _ rd) (by omega), ⟨.int (k : Nat), H, I.tok _, ⟨_, rfl⟩, q⟩⟩
theorem mt_indexT (hu : X.A.units + 64 < cLine) : MtR X "tuple.index" (rPlace X.kw false fPlace) := by
  intro pins s σ H x xs v us Q I rx rxs h
  obtain ⟨a, ws, y, d, ds, j, rfl, rfl, sq, l, rd, dp, hj, q⟩ := h
  simp only [Bool.false_eq_true, if_false] at sq
  cases rx
  obtain ⟨uy, rfl, ry⟩ := vals1 rxs
  simp only [fPlace, Option.map_eq_some_iff] at hj
  obtain ⟨k, hk, rfl⟩ := hj
  obtain ⟨its, rv, ⟨⟨cls, dd, data, sls⟩, ho, hc, n, hdt⟩, hlen⟩ := I.tuple sq.t
  simp only at hc hdt
  subst hc hdt
  obtain ⟨as, ra⟩ := Dp.readsAll I ds ws its (RpL.dp _ _ l) rv
  obtain ⟨bs, rb⟩ := Dp.reads I d y uy (Rp.dp _ _ rd) ry
  have ra : ReadsAll s.heap its.toArray.toList ds as := ra
  obtain ⟨h1, h2, h3⟩ := SeqAt.hit_at ra (RpL.plain _ _ l) hk
  exact call_meets PySem.F.slot_tuple_index ⟨_, ho, rfl⟩ PySem.F.entry_tuple_index (PySem.F.args_tuple_index_2 _ _)
    (TI.tuple_indexAt a its.toArray n dd sls uy (fun u => PyData.eqv (SeqAt.readOf s.heap u) d) k h1 h2 h3) ⟨ho, SeqAt.items_plain ra rb (RpL.plain _ _ l) (Rp.plain _ _ rd) (by omega), ⟨.int (k : Nat), H, I.tok _, ⟨_, rfl⟩, q⟩⟩
theorem mt_countL (hu : X.A.units + 64 < cLine) : MtR X "list.count" (rPlace X.kw true fCount) := by
  intro pins s σ H x xs v us Q I rx rxs h
  obtain ⟨a, ws, y, d, ds, j, rfl, rfl, sq, l, rd, dp, hj, q⟩ := h
  simp only [if_true] at sq
  cases rx
  obtain ⟨uy, rfl, ry⟩ := vals1 rxs
  cases hj
  obtain ⟨its, rv, pl, hlen⟩ := I.list sq
  obtain ⟨as, ra⟩ := Dp.readsAll I ds ws its (RpL.dp _ _ l) rv
  obtain ⟨bs, rb⟩ := Dp.reads I d y uy (Rp.dp _ _ rd) ry
  exact SeqAt.count_list_data pl.isList (show ReadsAll s.heap its.toArray.toList ds as from ra) rb (RpL.plain _ _ l) (Rp.plain _ _ rd) (by omega) ⟨.int _, H, I.tok _, ⟨_, rfl⟩, q⟩
/-- x.index(y), x.count(y) of a list -/
noncomputable def fPl (lst : Bool) (f : List PyData → PyData → Option Int) (fa fb : FE) : FE := fun ρ => (fa ρ).bind fun p => ((if lst then rdL p.1 p.2 else tupOf p.1)).bind fun _ => (fb p.2).bind fun q => ((if lst then rdL p.1 q.2 else tupOf p.1)).bind fun ds =>
  match q.1 with
  | .dat d => (guardP (min (PyData.depthAll ds) d.depth ≤ 60)).bind fun _ => (f ds d).map fun j => (.dat (.int j), q.2)
  | _ => none
theorem de_plL {f : List PyData → PyData → Option Int} {id : String} {name : Str} {apos cpos : Pos} (slot : Slot "list" name id) (hty : typeOf (.builtin id) = pure (.type "method_descriptor")) (hm : MtR X id (rPlace X.kw true f)) (ha : DE X a fa) (hb : DE X b fb)
    (hbase : attributeBase a name X.env (eval a X.env) = eval a X.env := by rfl)
    (hfew : ((backTo cpos (starEach [b] X.env)).all (fun x => !x.1) && (backToKw cpos (keywordEach [] X.env)).all (fun x => x.1.isSome)
      && decide ([b].length + ([] : List Keyword).length + (if ([] : List Keyword).isEmpty then 0 else 1) < 30)) = true := by rfl)
    (hline : (apos.endLine == cpos.line) = true := by rfl) (hst : starEach [b] X.env = (false, eval b X.env) :: starEach [] X.env := by rfl) (hplain : (backTo cpos (starEach [] X.env)).any (·.1) = false := by rfl) :
    DE X (.Call (.Attribute a name apos) [b] [] cpos) (fPl true f fa fb) := by
  obtain ⟨t, pt, rt⟩ := ha.run
  obtain ⟨u, pu, ru⟩ := hb.run
  refine ⟨_, pe_bm PySem.F.plainAttrs_list slot hty hm pt (pa_cons pu pa_nil hst) hbase hfew hline hst hplain, fun σ H ρ hs ρ' Q S e q => ?_⟩
  simp only [fPl, if_true, Option.bind_eq_some_iff] at e
  obtain ⟨⟨h1, ρ1⟩, e1, _, e0, ⟨h2, ρ2⟩, e2, ds, e3, e4⟩ := e
  refine rt σ H ρ h1 ρ1 _ S e1 fun x H1 g1 S1 k1 r1 => ?_
  obtain ⟨a, vs, rfl, sq0, _⟩ := rdL_some S1 r1 e0
  refine ⟨.inl ⟨rfl, vs, sq0⟩, ?_⟩
  refine ru σ H1 ρ1 h2 ρ2 _ S1 e2 fun y H2 g2 S2 k2 r2 => ?_
  cases h2 with
  | dat d =>
    simp only [Option.bind_eq_some_iff, Option.map_eq_some_iff, guardP_some] at e4
    obtain ⟨_, dp, j, hj, e5⟩ := e4
    cases e5
    obtain ⟨b, ws, eb, sq, l⟩ := rdL_some S2 (r1.go g2) e3
    cases eb
    exact ⟨a, ws, y, d, ds, j, rfl, rfl, by simpa using sq, l, r2, dp, hj, q _ H2 (g1.trans g2) S2 (k1.trans k2) (.int _)⟩
  | tmp c => cases e4
  | plc i => cases e4
theorem de_plT {f : List PyData → PyData → Option Int} {id : String} {name : Str} {apos cpos : Pos} (slot : Slot "tuple" name id) (hty : typeOf (.builtin id) = pure (.type "method_descriptor")) (hm : MtR X id (rPlace X.kw false f)) (ha : DE X a fa) (hb : DE X b fb)
    (hbase : attributeBase a name X.env (eval a X.env) = eval a X.env := by rfl)
    (hfew : ((backTo cpos (starEach [b] X.env)).all (fun x => !x.1) && (backToKw cpos (keywordEach [] X.env)).all (fun x => x.1.isSome)
      && decide ([b].length + ([] : List Keyword).length + (if ([] : List Keyword).isEmpty then 0 else 1) < 30)) = true := by rfl)
    (hline : (apos.endLine == cpos.line) = true := by rfl) (hst : starEach [b] X.env = (false, eval b X.env) :: starEach [] X.env := by rfl) (hplain : (backTo cpos (starEach [] X.env)).any (·.1) = false := by rfl) :
    DE X (.Call (.Attribute a name apos) [b] [] cpos) (fPl false f fa fb) := by
  obtain ⟨t, pt, rt⟩ := ha.run
  obtain ⟨u, pu, ru⟩ := hb.run
  refine ⟨_, pe_bmQ PySem.F.plainAttrs_tuple slot hty tyX_is hm pt (pa_cons pu pa_nil hst) hbase hfew hline hst hplain, fun σ H ρ hs ρ' Q S e q => ?_⟩
  simp only [fPl, Bool.false_eq_true, if_false, Option.bind_eq_some_iff] at e
  obtain ⟨⟨h1, ρ1⟩, e1, _, e0, ⟨h2, ρ2⟩, e2, ds, e3, e4⟩ := e
  have e3 : h1 = _ := tupOf_some e3
  subst e3
  refine rt σ H ρ _ ρ1 _ S e1 fun x H1 g1 S1 k1 r1 => ?_
  cases r1 with
  | @tup a vs _ s1 l1 =>
  refine ⟨⟨a, vs, rfl, s1⟩, ?_⟩
  refine ru σ H1 ρ1 h2 ρ2 _ S1 e2 fun y H2 g2 S2 k2 r2 => ?_
  cases h2 with
  | dat d =>
    simp only [Option.bind_eq_some_iff, Option.map_eq_some_iff, guardP_some] at e4
    obtain ⟨_, dp, j, hj, e5⟩ := e4
    cases e5
    exact ⟨a, vs, y, d, ds, j, rfl, rfl, by simpa using g2.tst.sq s1, l1.m g2.tst, r2, dp, hj, q _ H2 (g1.trans g2) S2 (k1.trans k2) (.int _)⟩
  | tmp c => cases e4
  | plc i => cases e4
end
end PD

namespace PD
open PySem PySem.Spec PyProof.Rows L2

/-! ### what a def is worth -/
/-- from the arguments: what comes back, and what the owned arguments hold behind it -/
abbrev Den := List Sl → Option (Sl × List C)
def objs : List V → List Sl → List Addr
  | .ref a :: vs, .obj _ :: as => a :: objs vs as
  | _ :: vs, _ :: as => objs vs as
  | _, _ => []
inductive RpCs (K : KW) (H : Hp) : List Addr → List C → Prop
  | nil : RpCs K H [] []
  | cons {a : Addr} {as : List Addr} {c : C} {cs : List C} : RpC K H a c → RpCs K H as cs → RpCs K H (a :: as) (c :: cs)
def RR (K : KW) (H H' : Hp) : Sl → V → Prop
  | .dat t, u => Rp K H' u t
  | .obj c, u => ∃ a, u = .ref a ∧ H a = none ∧ RpC K H' a c
  | .rol _, _ => False
structure Post (K : KW) (H : Hp) (vs : List V) (as : List Sl) (H' : Hp) (r : Sl) (cs : List C) (u : V) : Prop where
  keep : ∀ a o, H a = some o → a ∉ objs vs as → H' a = some o
  tst : TSt K H H'
  dom : ∀ a, H' a = none → H a = none
  cs : RpCs K H' (objs vs as) cs
  res : RR K H H' r u
def spD (K : KW) (n : Nat) (m : Den) : Sp := fun vs H Q _ => ∃ as r cs, m as = some (r, cs) ∧ as.length = n ∧ SR K H (vs.map some) (as.map some) ∧ ∀ u H', Post K H vs as H' r cs u → Q u H'
theorem spD_len {K : KW} {n : Nat} {m : Den} {vs : List V} {H : Hp} {Q : VK} {E : XK} (h : spD K n m vs H Q E) : vs.length = n := by
  obtain ⟨as, r, cs, _, hn, S, _⟩ := h
  have := S.len
  rw [List.length_map, List.length_map] at this
  omega

/-! ### a call -/
/-- the arguments' slots -/
def argsOf : List Hd → Ev → Option (List Sl)
  | [], _ => some []
  | .dat t :: hs, ρ => (argsOf hs ρ).map (Sl.dat t :: ·)
  | .tmp c :: hs, ρ => (argsOf hs ρ).map (Sl.obj c :: ·)
  | .plc i :: hs, ρ => match ρ[i]? with
    | some (some (.dat _)) => none
    | some (some s) => (argsOf hs ρ).map (s :: ·)
    | _ => none
/-- the places that are handed on as objects -/
def plcs : List Hd → List Sl → List Nat
  | .plc i :: hs, .obj _ :: as => i :: plcs hs as
  | _ :: hs, _ :: as => plcs hs as
  | _, _ => []
/-- what the places hold behind the call -/
def upds : List Hd → List Sl → List C → List (Nat × C)
  | .plc i :: hs, .obj _ :: as, c :: cs => (i, c) :: upds hs as cs
  | _ :: hs, .obj _ :: as, _ :: cs => upds hs as cs
  | _ :: hs, _ :: as, cs => upds hs as cs
  | _, _, _ => []
def putMany (ρ : Ev) : List (Nat × C) → Ev
  | [] => ρ
  | (i, c) :: L => putMany (ρ.set i (some (.obj c))) L
def resHd : Sl → Option Hd
  | .dat t => some (.dat t)
  | .obj c => some (.tmp c)
  | .rol _ => none
noncomputable def fCall (m : Den) (fs : FA) : FE := fun ρ => (fs ρ).bind fun p => (argsOf p.1 p.2).bind fun as => (guardP (plcs p.1 as).Nodup).bind fun _ => (m as).bind fun r => (resHd r.1).map fun h => (h, putMany p.2 (upds p.1 as r.2))

theorem putMany_len : ∀ (L : List (Nat × C)) (ρ : Ev), (putMany ρ L).length = ρ.length
  | [], _ => rfl
  | (i, c) :: L, ρ => by rw [putMany, putMany_len L, List.length_set]
theorem putMany_out : ∀ (L : List (Nat × C)) (ρ : Ev) (j : Nat), j ∉ L.map (·.1) → (putMany ρ L)[j]? = ρ[j]?
  | [], _, _, _ => rfl
  | (i, c) :: L, ρ, j, h => by
    simp only [List.map_cons, List.mem_cons, not_or] at h
    rw [putMany, putMany_out L _ j h.2, List.getElem?_set_ne (Ne.symm h.1)]
theorem putMany_in : ∀ (L : List (Nat × C)) (ρ : Ev) (j : Nat) (c : C), (L.map (·.1)).Nodup → (j, c) ∈ L → j < ρ.length → (putMany ρ L)[j]? = some (some (.obj c))
  | (i, d) :: L, ρ, j, c, nd, h, lt => by
    rw [List.map_cons, List.nodup_cons] at nd
    rw [putMany]
    rcases List.mem_cons.mp h with e | h
    · cases e
      rw [putMany_out L _ _ nd.1, List.getElem?_set_self lt]
    · exact putMany_in L _ j c nd.2 h (by rw [List.length_set]; exact lt)
theorem upds_keys : ∀ (hs : List Hd) (as : List Sl) (cs : List C) (i : Nat), i ∈ (upds hs as cs).map (·.1) → i ∈ plcs hs as
  | .plc i :: hs, .obj _ :: as, c :: cs, j, h => by
    simp only [upds, List.map_cons, List.mem_cons] at h
    simp only [plcs, List.mem_cons]
    rcases h with h | h
    · exact .inl h
    · exact .inr (upds_keys hs as cs j h)
  | .plc i :: hs, .obj _ :: as, [], j, h => by
    simp only [plcs, List.mem_cons]
    simp only [upds] at h
    exact .inr (upds_keys hs as [] j h)
  | .dat _ :: hs, .obj _ :: as, c :: cs, j, h => by
    simp only [upds] at h
    simp only [plcs]
    exact upds_keys hs as cs j h
  | .tmp _ :: hs, .obj _ :: as, c :: cs, j, h => by
    simp only [upds] at h
    simp only [plcs]
    exact upds_keys hs as cs j h
  | .dat _ :: hs, .obj _ :: as, [], j, h => by
    simp only [upds] at h
    simp only [plcs]
    exact upds_keys hs as [] j h
  | .tmp _ :: hs, .obj _ :: as, [], j, h => by
    simp only [upds] at h
    simp only [plcs]
    exact upds_keys hs as [] j h
  | .dat _ :: hs, .dat _ :: as, cs, j, h => by
    simp only [upds] at h
    simp only [plcs]
    exact upds_keys hs as cs j h
  | .tmp _ :: hs, .dat _ :: as, cs, j, h => by
    simp only [upds] at h
    simp only [plcs]
    exact upds_keys hs as cs j h
  | .plc _ :: hs, .dat _ :: as, cs, j, h => by
    simp only [upds] at h
    simp only [plcs]
    exact upds_keys hs as cs j h
  | .dat _ :: hs, .rol _ :: as, cs, j, h => by
    simp only [upds] at h
    simp only [plcs]
    exact upds_keys hs as cs j h
  | .tmp _ :: hs, .rol _ :: as, cs, j, h => by
    simp only [upds] at h
    simp only [plcs]
    exact upds_keys hs as cs j h
  | .plc _ :: hs, .rol _ :: as, cs, j, h => by
    simp only [upds] at h
    simp only [plcs]
    exact upds_keys hs as cs j h
  | [], _, _, _, h => by simp [upds] at h
  | _ :: _, [], _, _, h => by simp [upds] at h

section
variable {K : KW} {H0 H H2 : Hp} {σ : Sto} {ρ : Ev}
/-- where an argument's slot comes from -/
def From (K : KW) (H0 H : Hp) (σ : Sto) (ρ : Ev) (h : Hd) (u : V) : Sl → Prop
  | .dat t => h = .dat t ∧ Rp K H u t
  | .rol xs => ∃ j, h = .plc j ∧ ρ[j]? = some (some (.rol xs)) ∧ σ[j]? = some (some u)
  | .obj c => (h = .tmp c ∧ HR K H0 H σ ρ (.tmp c) u) ∨ ∃ j, h = .plc j ∧ ρ[j]? = some (some (.obj c)) ∧ σ[j]? = some (some u) ∧ ∃ a, u = .ref a
inductive Froms (K : KW) (H0 H : Hp) (σ : Sto) (ρ : Ev) : List Hd → List V → List Sl → Prop
  | nil : Froms K H0 H σ ρ [] [] []
  | cons {h : Hd} {u : V} {s : Sl} {hs : List Hd} {us : List V} {as : List Sl} : From K H0 H σ ρ h u s → Froms K H0 H σ ρ hs us as → Froms K H0 H σ ρ (h :: hs) (u :: us) (s :: as)
theorem froms_of (S : SR K H σ ρ) {hs : List Hd} {us : List V} (r : HRs K H0 H σ ρ hs us) : ∀ {as : List Sl}, argsOf hs ρ = some as → Froms K H0 H σ ρ hs us as := by
  induction r with
  | nil => intro as e; cases e; exact .nil
  | @cons h u hs us h1 _ ih =>
    intro as e
    cases h with
    | dat t =>
      simp only [argsOf, Option.map_eq_some_iff] at e
      obtain ⟨as', e, rfl⟩ := e
      exact .cons ⟨rfl, h1⟩ (ih e)
    | tmp c =>
      simp only [argsOf, Option.map_eq_some_iff] at e
      obtain ⟨as', e, rfl⟩ := e
      exact .cons (.inl ⟨rfl, h1⟩) (ih e)
    | plc i =>
      have h1 : σ[i]? = some (some u) := h1
      unfold argsOf at e
      split at e
      · cases e
      · rename_i s hn hs'
        simp only [Option.map_eq_some_iff] at e
        obtain ⟨as', e, rfl⟩ := e
        refine .cons ?_ (ih e)
        cases s with
        | dat t => exact (hn t rfl).elim
        | rol xs => exact ⟨i, rfl, hs', h1⟩
        | obj c =>
          obtain ⟨a, ea, _⟩ := S.obj i c hs'
          rw [h1] at ea; cases ea
          exact .inr ⟨i, rfl, hs', h1, a, rfl⟩
      · cases e
theorem Froms.len {hs : List Hd} {us : List V} {as : List Sl} (r : Froms K H0 H σ ρ hs us as) : hs.length = us.length ∧ as.length = us.length := by
  induction r with
  | nil => exact ⟨rfl, rfl⟩
  | cons _ _ ih => exact ⟨by simp [ih.1], by simp [ih.2]⟩
theorem Froms.get {hs : List Hd} {us : List V} {as : List Sl} (r : Froms K H0 H σ ρ hs us as) : ∀ {i : Nat} {s : Sl}, as[i]? = some s → ∃ u h, us[i]? = some u ∧ hs[i]? = some h ∧ From K H0 H σ ρ h u s := by
  induction r with
  | nil => intro i s e; simp at e
  | cons h _ ih =>
    intro i s e
    cases i with
    | zero => simp at e; subst e; exact ⟨_, _, rfl, rfl, h⟩
    | succ i => simpa using ih (by simpa using e)
theorem plcs_get {hs : List Hd} {us : List V} {as : List Sl} (r : Froms K H0 H σ ρ hs us as) : ∀ {i j k : Nat} {c d : C}, (plcs hs as).Nodup → hs[i]? = some (.plc k) → hs[j]? = some (.plc k) → as[i]? = some (.obj c) → as[j]? = some (.obj d) → i = j := by
  have mem : ∀ {hs : List Hd} {as : List Sl} {j k : Nat} {d : C}, hs[j]? = some (.plc k) → as[j]? = some (.obj d) → k ∈ plcs hs as := by
    intro hs
    induction hs with
    | nil => intro as j k d e _; simp at e
    | cons h hs ih =>
      intro as j k d e1 e2
      cases as with
      | nil => simp at e2
      | cons s as =>
        cases j with
        | zero =>
          simp at e1 e2
          subst e1 e2
          simp [plcs]
        | succ j =>
          have := ih (as := as) (j := j) (k := k) (d := d) (by simpa using e1) (by simpa using e2)
          cases h with
          | plc i =>
            cases s with
            | obj c => simp only [plcs, List.mem_cons]; exact .inr this
            | dat _ => simpa only [plcs] using this
            | rol _ => simpa only [plcs] using this
          | dat _ => cases s <;> simpa only [plcs] using this
          | tmp _ => cases s <;> simpa only [plcs] using this
  induction r with
  | nil => intro i j k c d _ e; simp at e
  | @cons h u s hs us as h1 _ ih =>
    intro i j k c d nd e1 e2 e3 e4
    cases i with
    | zero =>
      cases j with
      | zero => rfl
      | succ j =>
        simp only [List.getElem?_cons_zero, List.getElem?_cons_succ, Option.some.injEq] at e1 e2 e3 e4
        subst e1 e3
        simp only [plcs, List.nodup_cons] at nd
        exact absurd (mem e2 e4) nd.1
    | succ i =>
      cases j with
      | zero =>
        simp only [List.getElem?_cons_zero, List.getElem?_cons_succ, Option.some.injEq] at e1 e2 e3 e4
        subst e2 e4
        simp only [plcs, List.nodup_cons] at nd
        exact absurd (mem e1 e3) nd.1
      | succ j =>
        simp only [List.getElem?_cons_succ] at e1 e2 e3 e4
        have nd' : (plcs hs as).Nodup := by
          cases h with
          | plc i =>
            cases s with
            | obj c => simp only [plcs, List.nodup_cons] at nd; exact nd.2
            | dat _ => simpa only [plcs] using nd
            | rol _ => simpa only [plcs] using nd
          | dat _ => cases s <;> simpa only [plcs] using nd
          | tmp _ => cases s <;> simpa only [plcs] using nd
        rw [ih nd' e1 e2 e3 e4]
/-- what a callee gets -/
theorem args_SR {hs : List Hd} {us : List V} {as : List Sl} (S : SR K H σ ρ) (r : Froms K H0 H σ ρ hs us as) (d : TD hs us) (nd : (plcs hs as).Nodup) : SR K H (us.map some) (as.map some) := by
  have at_ : ∀ {i : Nat} {s : Sl}, (as.map some)[i]? = some (some s) → as[i]? = some s := fun {i s} e => by
    rw [List.getElem?_map] at e
    cases q : as[i]? with
    | none => rw [q] at e; cases e
    | some z => rw [q] at e; cases e; rfl
  have to_ : ∀ {i : Nat} {u : V}, us[i]? = some u → (us.map some)[i]? = some (some u) := fun {i u} e => by rw [List.getElem?_map, e]; rfl
  have of_ : ∀ {i : Nat} {u : V}, (us.map some)[i]? = some (some u) → us[i]? = some u := fun {i u} e => by
    rw [List.getElem?_map] at e
    cases q : us[i]? with
    | none => rw [q] at e; cases e
    | some z => rw [q] at e; cases e; rfl
  refine ⟨by simp [r.len.2], fun i t e => ?_, fun i xs e => ?_, fun i c e => ?_, fun i j c c' a e1 e2 e3 e4 => ?_⟩
  · obtain ⟨u, h, e1, e2, f⟩ := r.get (at_ e)
    exact ⟨u, to_ e1, f.2⟩
  · obtain ⟨u, h, e1, e2, j, e3, e4, e5⟩ := r.get (at_ e)
    obtain ⟨a, e6, ro⟩ := S.rol j xs e4
    rw [e5] at e6; cases e6
    exact ⟨a, to_ e1, ro⟩
  · obtain ⟨u, h, e1, e2, f⟩ := r.get (at_ e)
    rcases f with ⟨_, a, rfl, rc, _⟩ | ⟨j, _, e4, e5, _⟩
    · exact ⟨a, to_ e1, rc⟩
    · obtain ⟨a, e6, rc⟩ := S.obj j c e4
      rw [e5] at e6; cases e6
      exact ⟨a, to_ e1, rc⟩
  · obtain ⟨u, h, p1, p2, f⟩ := r.get (at_ e1)
    obtain ⟨u', h', p1', p2', f'⟩ := r.get (at_ e2)
    have e3 := of_ e3
    have e4 := of_ e4
    rw [p1] at e3; cases e3
    rw [p1'] at e4; cases e4
    rcases f with ⟨rfl, b, eb, rc, n0, no⟩ | ⟨k, rfl, q1, q2, _⟩
    · cases eb
      rcases f' with ⟨rfl, b, eb, rc', n0', no'⟩ | ⟨k', rfl, q1', q2', _⟩
      · exact d i j c c' a p2 p2' p1 p1'
      · exact absurd ⟨k', c', q1', q2'⟩ no
    · rcases f' with ⟨rfl, b, eb, rc', n0', no'⟩ | ⟨k', rfl, q1', q2', _⟩
      · cases eb
        exact absurd ⟨k, c, q1, q2⟩ no'
      · have := S.sep k k' c c' a q1 q1' q2 q2'
        subst this
        exact plcs_get r nd p2 p2' (at_ e1) (at_ e2)
/-- what the call leaves, place by place -/
theorem upds_ok {hs : List Hd} {us : List V} {as : List Sl} (r : Froms K H0 H σ ρ hs us as) : ∀ {cs : List C}, RpCs K H2 (objs us as) cs → (∀ s ∈ as, ∀ c, s = .obj c → True) →
    (∀ i c, (i, c) ∈ upds hs as cs → (∃ a, σ[i]? = some (some (.ref a)) ∧ RpC K H2 a c) ∧ ∃ c0, ρ[i]? = some (some (.obj c0))) ∧
    (∀ a ∈ objs us as, (∃ i c, (i, c) ∈ upds hs as cs ∧ σ[i]? = some (some (.ref a))) ∨ (H0 a = none ∧ ¬ Own σ ρ a)) ∧ (upds hs as cs).map (·.1) = plcs hs as := by
  induction r with
  | nil => intro cs _ _; exact ⟨fun i c h => by simp [upds] at h, fun a h => by simp [objs] at h, by simp [upds, plcs]⟩
  | @cons h u s hs us as h1 _ ih =>
    intro cs rc _
    cases s with
    | dat t =>
      obtain ⟨rfl, h1⟩ := h1
      have eo : objs (u :: us) (.dat t :: as) = objs us as := by cases u <;> rfl
      rw [eo] at rc ⊢
      have eu : upds (.dat t :: hs) (.dat t :: as) cs = upds hs as cs := by simp only [upds]
      have ep : plcs (.dat t :: hs) (.dat t :: as) = plcs hs as := by simp only [plcs]
      rw [eu, ep]
      exact ih rc fun _ _ _ _ => trivial
    | rol xs =>
      obtain ⟨j, rfl, h1, h2⟩ := h1
      have eo : objs (u :: us) (.rol xs :: as) = objs us as := by cases u <;> rfl
      rw [eo] at rc ⊢
      have eu : upds (.plc j :: hs) (.rol xs :: as) cs = upds hs as cs := by simp only [upds]
      have ep : plcs (.plc j :: hs) (.rol xs :: as) = plcs hs as := by simp only [plcs]
      rw [eu, ep]
      exact ih rc fun _ _ _ _ => trivial
    | obj c =>
      rcases h1 with ⟨rfl, a, rfl, rc0, n0, no⟩ | ⟨j, rfl, h1, h2, a, rfl⟩
      · have eo : objs (.ref a :: us) (.obj c :: as) = a :: objs us as := rfl
        rw [eo] at rc ⊢
        cases rc with
        | @cons _ _ c' cs' ra rs =>
        have eu : upds (.tmp c :: hs) (.obj c :: as) (c' :: cs') = upds hs as cs' := by simp only [upds]
        have ep : plcs (.tmp c :: hs) (.obj c :: as) = plcs hs as := by simp only [plcs]
        rw [eu, ep]
        obtain ⟨i1, i2, i3⟩ := ih rs fun _ _ _ _ => trivial
        refine ⟨i1, fun b hb => ?_, i3⟩
        rcases List.mem_cons.mp hb with e | hb
        · subst e; exact .inr ⟨n0, no⟩
        · exact i2 b hb
      · have eo : objs (.ref a :: us) (.obj c :: as) = a :: objs us as := rfl
        rw [eo] at rc ⊢
        cases rc with
        | @cons _ _ c' cs' ra rs =>
        have eu : upds (.plc j :: hs) (.obj c :: as) (c' :: cs') = (j, c') :: upds hs as cs' := by simp only [upds]
        have ep : plcs (.plc j :: hs) (.obj c :: as) = j :: plcs hs as := by simp only [plcs]
        rw [eu, ep]
        obtain ⟨i1, i2, i3⟩ := ih rs fun _ _ _ _ => trivial
        refine ⟨fun i d hd => ?_, fun b hb => ?_, by simp [i3]⟩
        · rcases List.mem_cons.mp hd with e | hd
          · cases e; exact ⟨⟨a, h2, ra⟩, c, h1⟩
          · exact i1 i d hd
        · rcases List.mem_cons.mp hb with e | hb
          · subst e; exact .inl ⟨j, c', List.mem_cons_self, h2⟩
          · rcases i2 b hb with ⟨i, d, q1, q2⟩ | q
            · exact .inl ⟨i, d, List.mem_cons_of_mem _ q1, q2⟩
            · exact .inr q
/-- the state behind a call -/
theorem after_call {hs : List Hd} {us : List V} {as : List Sl} {Hs : Hp} {r : Sl} {cs : List C} {u : V} {ρs : Ev} (S : SR K H σ ρ) (g : Go K σ ρs Hs σ ρ H) (f : Froms K Hs H σ ρ hs us as) (nd : (plcs hs as).Nodup) (P : Post K H us as H2 r cs u)
    (lst : ∀ a ∈ objs us as, ∃ o, H a = some o ∧ IsM o) : SR K H2 σ (putMany ρ (upds hs as cs)) ∧ Go K σ ρs Hs σ (putMany ρ (upds hs as cs)) H2 ∧ Kp ρ (putMany ρ (upds hs as cs)) := by
  obtain ⟨b1, b2, b3⟩ := upds_ok f P.cs fun _ _ _ _ => trivial
  have nd' : ((upds hs as cs).map (·.1)).Nodup := by rw [b3]; exact nd
  have key : ∀ j, j ∈ (upds hs as cs).map (·.1) → ∃ c, (j, c) ∈ upds hs as cs := fun j h => by
    obtain ⟨p, hp, rfl⟩ := List.mem_map.mp h
    exact ⟨p.2, hp⟩
  have lt : ∀ {j : Nat} {s : Sl}, ρ[j]? = some (some s) → j < ρ.length := fun h => (List.getElem?_eq_some_iff.mp h).1
  -- a slot behind the call
  have slot : ∀ (j : Nat) (s : Sl), (putMany ρ (upds hs as cs))[j]? = some (some s) → (∃ c, s = .obj c ∧ (j, c) ∈ upds hs as cs) ∨ (j ∉ (upds hs as cs).map (·.1) ∧ ρ[j]? = some (some s)) := fun j s h => by
    by_cases hj : j ∈ (upds hs as cs).map (·.1)
    · obtain ⟨c, hc⟩ := key j hj
      obtain ⟨_, c0, h0⟩ := b1 j c hc
      rw [putMany_in _ ρ j c nd' hc (lt h0)] at h
      cases h
      exact .inl ⟨c, rfl, hc⟩
    · rw [putMany_out _ ρ j hj] at h
      exact .inr ⟨hj, h⟩
  have was : ∀ (j : Nat) (c : C), (putMany ρ (upds hs as cs))[j]? = some (some (.obj c)) → ∃ c0, ρ[j]? = some (some (.obj c0)) := fun j c h => by
    rcases slot j _ h with ⟨c', e, hc⟩ | ⟨_, h⟩
    · exact (b1 j c' hc).2
    · exact ⟨c, h⟩
  have kp : Kp ρ (putMany ρ (upds hs as cs)) := fun j c h => by
    by_cases hj : j ∈ (upds hs as cs).map (·.1)
    · obtain ⟨c', hc⟩ := key j hj
      exact ⟨c', putMany_in _ ρ j c' nd' hc (lt h)⟩
    · exact ⟨c, by rw [putMany_out _ ρ j hj]; exact h⟩
  -- what is not handed on stands
  have stands : ∀ (j : Nat) (c : C) (a : Addr), ρ[j]? = some (some (.obj c)) → σ[j]? = some (some (.ref a)) → j ∉ (upds hs as cs).map (·.1) → a ∉ objs us as := fun j c a h1 h2 h3 h4 => by
    rcases b2 a h4 with ⟨i, d, q1, q2⟩ | ⟨_, q⟩
    · obtain ⟨_, c0, h0⟩ := b1 i d q1
      have := S.sep i j c0 c a h0 h1 q2 h2
      subst this
      exact h3 (List.mem_map.mpr ⟨_, q1, rfl⟩)
    · exact q ⟨j, c, h1, h2⟩
  refine ⟨⟨by rw [putMany_len]; exact S.len, fun j t h => ?_, fun j xs h => ?_, fun j c h => ?_, fun i j c d a h1 h2 h3 h4 => ?_⟩, ⟨fun a o h n => ?_, fun a h => ?_, g.tst.trans P.tst, fun a h => g.dom a (P.dom a h)⟩, kp⟩
  · rcases slot j _ h with ⟨c, e, _⟩ | ⟨_, h⟩
    · cases e
    · obtain ⟨v, e, r⟩ := S.dat j t h
      exact ⟨v, e, r.m P.tst⟩
  · rcases slot j _ h with ⟨c, e, _⟩ | ⟨_, h⟩
    · cases e
    · obtain ⟨a, e, r⟩ := S.rol j xs h
      exact ⟨a, e, r.m P.tst⟩
  · rcases slot j _ h with ⟨c', e, hc⟩ | ⟨hj, h⟩
    · cases e
      exact (b1 j _ hc).1
    · obtain ⟨a, e, r⟩ := S.obj j c h
      exact ⟨a, e, r.m P.tst fun o q => P.keep a o q (stands j c a h e hj)⟩
  · obtain ⟨c', q1⟩ := was i c h1
    obtain ⟨d', q2⟩ := was j d h2
    exact S.sep i j c' d' a q1 q2 h3 h4
  · refine P.keep a o (g.keep a o h n) fun hm => ?_
    rcases b2 a hm with ⟨i, d, q1, q2⟩ | ⟨q, _⟩
    · obtain ⟨_, c0, h0⟩ := b1 i d q1
      rcases g.own a ⟨i, c0, h0, q2⟩ with z | z
      · exact n z
      · rw [h] at z; cases z
    · rw [h] at q; cases q
  · obtain ⟨j, c, h1, h2⟩ := h
    obtain ⟨c0, h0⟩ := was j c h1
    exact g.own a ⟨j, c0, h0, h2⟩
end
theorem objs_lst {K : KW} {H : Hp} : ∀ {us : List V} {as : List Sl}, SR K H (us.map some) (as.map some) → ∀ a ∈ objs us as, ∃ o, H a = some o ∧ IsM o
  | us, as, S, a, h => by
    have go : ∀ (us : List V) (as : List Sl), a ∈ objs us as → ∃ (i : Nat) (c : C), us[i]? = some (.ref a) ∧ as[i]? = some (.obj c) := by
      intro us
      induction us with
      | nil => intro as h; cases as <;> simp [objs] at h
      | cons u us ih =>
        intro as h
        cases as with
        | nil => simp [objs] at h
        | cons s as =>
          have rec_ : a ∈ objs us as → ∃ (i : Nat) (c : C), (u :: us)[i]? = some (.ref a) ∧ (s :: as)[i]? = some (.obj c) := fun h => by
            obtain ⟨i, c, e1, e2⟩ := ih as h
            exact ⟨i + 1, c, by simpa using e1, by simpa using e2⟩
          cases u with
          | ref b =>
            cases s with
            | obj c =>
              simp only [objs, List.mem_cons] at h
              rcases h with e | h
              · subst e; exact ⟨0, c, rfl, rfl⟩
              · exact rec_ h
            | dat _ => exact rec_ (by simpa [objs] using h)
            | rol _ => exact rec_ (by simpa [objs] using h)
          | _ => cases s <;> exact rec_ (by simpa [objs] using h)
    obtain ⟨i, c, e1, e2⟩ := go us as h
    exact S.own_some ⟨i, c, by rw [List.getElem?_map, e2]; rfl, by rw [List.getElem?_map, e1]; rfl⟩
section
variable {X : Cx} {k : Nat} {f : Addr} {fd : FuncData} {ps : List Str} {x : Str} {p pos : Pos} {e : Expr} {es : List Expr} {m : Den} {n : Nat}
theorem call_core {fs : FA} {u : TA} (ru : ∀ (σ : Sto) (H : Hp) (ρ : Ev) (hs : List Hd) (ρ' : Ev) (Q : List V → Hp → Prop), SR X.kw H σ ρ → fs ρ = some (hs, ρ') →
      (∀ us H', Go X.kw σ ρ H σ ρ' H' → SR X.kw H' σ ρ' → Kp ρ ρ' → HRs X.kw H H' σ ρ' hs us → TD hs us → Q us H') → u σ H Q)
    (hn : n = ps.length) (hl : ∀ ρ hs ρ', fs ρ = some (hs, ρ') → hs.length = n)
    (σ : Sto) (H : Hp) (ρ : Ev) (h : Hd) (ρ' : Ev) (Q : VK) (S : SR X.kw H σ ρ) (e : fCall m fs ρ = some (h, ρ'))
    (q : ∀ u H', Go X.kw σ ρ H σ ρ' H' → SR X.kw H' σ ρ' → Kp ρ ρ' → HR X.kw H H' σ ρ' h u → Q u H') : tCall (spD X.kw n m) [] E0 u σ H Q := by
  simp only [fCall, Option.bind_eq_some_iff, Option.map_eq_some_iff, guardP_some] at e
  obtain ⟨⟨hs, ρ1⟩, e1, as, e2, _, nd, ⟨r, cs⟩, e3, hd, e4, e5⟩ := e
  cases e5
  refine ru σ H ρ hs ρ1 _ S e1 fun us H1 g1 S1 k1 r1 d1 => ?_
  have f1 := froms_of S1 r1 e2
  have SA := args_SR S1 f1 d1 nd
  rw [List.append_nil]
  refine ⟨as, r, cs, e3, ?_, SA, fun v H2 P => ?_⟩
  · have := hl _ _ _ e1
    have := f1.len
    omega
  · obtain ⟨a1, a2, a3⟩ := after_call S1 g1 f1 nd P (objs_lst SA)
    refine q v H2 a2 a1 (k1.trans a3) ?_
    have res := P.res
    cases r with
    | dat t => cases e4; exact res
    | rol xs => cases e4
    | obj c =>
      cases e4
      obtain ⟨a, rfl, na, rc⟩ := res
      refine ⟨a, rfl, rc, g1.dom a na, fun z => ?_⟩
      obtain ⟨j, c', z1, z2⟩ := z
      obtain ⟨c0, z0⟩ : ∃ c0, ρ1[j]? = some (some (.obj c0)) := by
        by_cases hj : j ∈ (upds hs as cs).map (·.1)
        · obtain ⟨p, hp, rfl⟩ := List.mem_map.mp hj
          exact ((upds_ok f1 P.cs fun _ _ _ _ => trivial).1 p.1 p.2 hp).2
        · rw [putMany_out _ _ _ hj] at z1
          exact ⟨c', z1⟩
      exact S1.not_own na ⟨j, c0, z0, z2⟩
theorem de_call {fs : FA} (F : FnOk X.prog X.w X.kw X.mg X.base CX0 k f fd ps (spD X.kw n m)) (hn : n = ps.length) (hl : ∀ ρ hs ρ', fs ρ = some (hs, ρ') → hs.length = n) (hr : Room k X.A) (hg : Gl X x) (hm : X.mg x = some (.ref f)) (hk : PySem.W.keepIn X.kw (.ref f) = true) (hb : Binds X.kw fd ps [])
    (ha : DA X (e :: es) fs) (hdb : (x == ("__debug__" : Str)) = false := by decide) (he : starEach (e :: es) X.env = (false, eval e X.env) :: starEach es X.env := by rfl) (hpl : (backTo pos (starEach es X.env)).any (·.1) = false := by rfl) :
    DE X (.Call (.Name x p) (e :: es) [] pos) (fCall m fs) := by
  obtain ⟨u, pu, ru⟩ := ha.run
  exact ⟨_, pe_call F hr hg hm hk hb .nil pass0 pu hdb he hpl, fun σ H ρ h ρ' Q S e q => call_core ru hn hl σ H ρ h ρ' Q S e q⟩
theorem de_call0 (F : FnOk X.prog X.w X.kw X.mg X.base CX0 k f fd ps (spD X.kw n m)) (hn : n = ps.length) (h0 : n = 0) (hr : Room k X.A) (hg : Gl X x) (hm : X.mg x = some (.ref f)) (hk : PySem.W.keepIn X.kw (.ref f) = true) (hb : Binds X.kw fd ps [])
    (hdb : (x == ("__debug__" : Str)) = false := by decide) : DE X (.Call (.Name x p) [] [] pos) (fCall m fNil) := by
  refine ⟨_, pe_call0 F hr hg hm hk hb .nil pass0 hdb, fun σ H ρ h ρ' Q S e q => ?_⟩
  refine call_core (fs := fNil) (u := tNil) (fun σ H ρ hs ρ' Q S e q => ?_) hn (fun ρ hs ρ' e => by cases e; exact h0.symm) σ H ρ h ρ' Q S e q
  cases e
  exact q [] H .refl S .refl .nil fun i j c d a h => by simp at h
theorem fCons_len {f : FE} {g : FA} {n : Nat} (h : ∀ ρ hs ρ', g ρ = some (hs, ρ') → hs.length = n) : ∀ ρ hs ρ', fCons f g ρ = some (hs, ρ') → hs.length = n + 1 := fun ρ hs ρ' e => by
  simp only [fCons, Option.bind_eq_some_iff, Option.map_eq_some_iff] at e
  obtain ⟨⟨h1, ρ1⟩, e1, ⟨h2, ρ2⟩, e2, e3⟩ := e
  cases e3
  rw [List.length_cons, h _ _ _ e2]
theorem fNil_len : ∀ ρ hs ρ', fNil ρ = some (hs, ρ') → hs.length = 0 := fun ρ hs ρ' e => by cases e; rfl
end
end PD

namespace PD
open PySem PySem.Spec PyProof.Rows L2

/-! ### statements -/
inductive Fl where
  | nx (ρ : Ev) | bk (ρ : Ev) | ct (ρ : Ev) | rt (r : Sl) (ρ : Ev)
abbrev FS := Ev → Option Fl
/-- slots whose objects must stay where they are -/
def Pin (pn : List (Nat × Addr)) (σ : Sto) (ρ : Ev) : Prop := ∀ p ∈ pn, σ[p.1]? = some (some (.ref p.2)) ∧ ∃ c, ρ[p.1]? = some (some (.obj c))
theorem Pin.kp {pn : List (Nat × Addr)} {σ : Sto} {ρ ρ' : Ev} (h : Pin pn σ ρ) (k : Kp ρ ρ') : Pin pn σ ρ' := fun p hp => ⟨(h p hp).1, let ⟨c, e⟩ := (h p hp).2; k p.1 c e⟩
def RRs (K : KW) (pn : List (Nat × Addr)) (σ : Sto) (ρ : Ev) (H H' : Hp) : Sl → V → Prop
  | .dat t, u => Rp K H' u t
  | .obj c, u => ∃ a, u = .ref a ∧ RpC K H' a c ∧ (Own σ ρ a ∨ H a = none) ∧ ∀ p ∈ pn, p.2 ≠ a
  | .rol _, _ => False
def PostS (K : KW) (pn : List (Nat × Addr)) (σ : Sto) (ρ : Ev) (H : Hp) (D : Ends) : Fl → Prop
  | .nx ρ' => ∀ σ' H', Go K σ ρ H σ' ρ' H' → SR K H' σ' ρ' → Pin pn σ' ρ' → D.nx σ' H'
  | .bk ρ' => ∀ σ' H', Go K σ ρ H σ' ρ' H' → SR K H' σ' ρ' → Pin pn σ' ρ' → D.bk σ' H'
  | .ct ρ' => ∀ σ' H', Go K σ ρ H σ' ρ' H' → SR K H' σ' ρ' → Pin pn σ' ρ' → D.ct σ' H'
  | .rt r ρ' => ∀ u σ' H', Go K σ ρ H σ' ρ' H' → SR K H' σ' ρ' → Pin pn σ' ρ' → RRs K pn σ ρ H H' r u → D.rt u H'
theorem RRs.from {K : KW} {pn : List (Nat × Addr)} {σ σ1 : Sto} {ρ ρ1 : Ev} {H H1 H2 : Hp} {r : Sl} {u : V} (h : RRs K pn σ1 ρ1 H1 H2 r u) (g : Go K σ ρ H σ1 ρ1 H1) : RRs K pn σ ρ H H2 r u := by
  cases r with
  | dat t => exact h
  | rol xs => exact h
  | obj c =>
    obtain ⟨a, e, rc, o, n⟩ := h
    refine ⟨a, e, rc, ?_, n⟩
    rcases o with o | o
    · exact g.own a o
    · exact .inr (g.dom a o)
theorem PostS.from {K : KW} {pn : List (Nat × Addr)} {σ σ1 : Sto} {ρ ρ1 : Ev} {H H1 : Hp} {D : Ends} {o : Fl} (h : PostS K pn σ ρ H D o) (g : Go K σ ρ H σ1 ρ1 H1) : PostS K pn σ1 ρ1 H1 D o := by
  cases o with
  | nx ρ' => exact fun σ' H' g' => h σ' H' (g.trans g')
  | bk ρ' => exact fun σ' H' g' => h σ' H' (g.trans g')
  | ct ρ' => exact fun σ' H' g' => h σ' H' (g.trans g')
  | rt r ρ' => exact fun u σ' H' g' S p r => h u σ' H' (g.trans g') S p (r.from g)
structure DS (X : Cx) (pl : List Nat) (st : Stmt) (g : FS) : Prop where
  run : ∃ t : TS, PS X st t ∧ ∀ (pn : List (Nat × Addr)) (σ : Sto) (H : Hp) (ρ : Ev) (o : Fl) (D : Ends), (∀ p ∈ pn, p.1 ∈ pl) → SR X.kw H σ ρ → Pin pn σ ρ → g ρ = some o → PostS X.kw pn σ ρ H D o → t D σ H
structure DSs (X : Cx) (pl : List Nat) (st : List Stmt) (g : FS) : Prop where
  run : ∃ t : TS, PSs X st t ∧ ∀ (pn : List (Nat × Addr)) (σ : Sto) (H : Hp) (ρ : Ev) (o : Fl) (D : Ends), (∀ p ∈ pn, p.1 ∈ pl) → SR X.kw H σ ρ → Pin pn σ ρ → g ρ = some o → PostS X.kw pn σ ρ H D o → t D σ H

section
variable {X : Cx} {pl : List Nat} {e a b c : Expr} {es : List Expr} {fa fb fc : FE} {pos : Pos} {st : Stmt} {sts : List Stmt} {f g : FS}
def fSeq (f g : FS) : FS := fun ρ => (f ρ).bind fun o => match o with
  | .nx ρ' => g ρ'
  | .bk ρ' => some (.bk ρ')
  | .ct ρ' => some (.ct ρ')
  | .rt r ρ' => some (.rt r ρ')
def fNext : FS := fun ρ => some (.nx ρ)
theorem dss_nil : DSs X pl [] fNext := by
  refine ⟨_, pss_nil, fun pn σ H ρ o D hp S P e q => ?_⟩
  cases e
  exact q σ H .refl S P
theorem dss_one (h : DS X pl st f) : DSs X pl [st] f := let ⟨t, p, r⟩ := h.run; ⟨t, pss_one p, r⟩
theorem dss_cons (h1 : DS X pl st f) (h2 : DSs X pl sts g) : DSs X pl (st :: sts) (fSeq f g) := by
  obtain ⟨t, pt, rt⟩ := h1.run
  obtain ⟨u, pu, ru⟩ := h2.run
  refine ⟨_, pss_cons pt pu, fun pn σ H ρ o D hp S P e q => ?_⟩
  simp only [fSeq, Option.bind_eq_some_iff] at e
  obtain ⟨o1, e1, e2⟩ := e
  refine rt pn σ H ρ o1 _ hp S P e1 ?_
  cases o1 with
  | nx ρ1 => exact fun σ1 H1 g1 S1 P1 => ru pn σ1 H1 ρ1 o D hp S1 P1 e2 (q.from g1)
  | bk ρ1 => cases e2; exact q
  | ct ρ1 => cases e2; exact q
  | rt r ρ1 => cases e2; exact q
theorem ds_pass : DS X pl (.Pass pos) fNext := by
  refine ⟨_, ps_pass, fun pn σ H ρ o D hp S P e q => ?_⟩
  cases e
  exact q σ H .refl S P
def fBreak : FS := fun ρ => some (.bk ρ)
def fCont : FS := fun ρ => some (.ct ρ)
theorem ds_break : DS X pl (.Break pos) fBreak := by
  refine ⟨_, ps_break, fun pn σ H ρ o D hp S P e q => ?_⟩
  cases e
  exact q σ H .refl S P
theorem ds_continue : DS X pl (.Continue pos) fCont := by
  refine ⟨_, ps_continue, fun pn σ H ρ o D hp S P e q => ?_⟩
  cases e
  exact q σ H .refl S P
def fExpr (f : FE) : FS := fun ρ => (f ρ).map fun p => .nx p.2
theorem ds_expr (ha : DE X e fa) (hs : swapsWith e none pos.line X.env = pure false := by rfl) : DS X pl (.Expr e pos) (fExpr fa) := by
  obtain ⟨t, pt, rt⟩ := ha.run
  refine ⟨_, ps_expr pt hs, fun pn σ H ρ o D hp S P e q => ?_⟩
  simp only [fExpr, Option.map_eq_some_iff] at e
  obtain ⟨⟨h1, ρ1⟩, e1, e2⟩ := e
  cases e2
  exact rt σ H ρ h1 ρ1 _ S e1 fun u H1 g1 S1 k1 _ => q σ H1 g1 S1 (P.kp k1)
def retOf (pl : List Nat) (h : Hd) (ρ : Ev) : Option Sl := match h with
  | .dat t => some (.dat t)
  | .tmp c => some (.obj c)
  | .plc i => if i ∈ pl then none else match ρ[i]? with
    | some (some (.obj c)) => some (.obj c)
    | _ => none
def fRet (pl : List Nat) (f : FE) : FS := fun ρ => (f ρ).bind fun p => (retOf pl p.1 p.2).map fun r => .rt r p.2
theorem ds_ret (ha : DE X e fa) : DS X pl (.Return (some e) pos) (fRet pl fa) := by
  obtain ⟨t, pt, rt⟩ := ha.run
  refine ⟨_, ps_ret pt, fun pn σ H ρ o D hp S P e q => ?_⟩
  simp only [fRet, Option.bind_eq_some_iff, Option.map_eq_some_iff] at e
  obtain ⟨⟨h1, ρ1⟩, e1, r, er, e2⟩ := e
  subst e2
  refine rt σ H ρ h1 ρ1 _ S e1 fun u H1 g1 S1 k1 r1 => ?_
  refine q u σ H1 g1 S1 (P.kp k1) ?_
  cases h1 with
  | dat t => cases er; exact r1
  | tmp c =>
    cases er
    obtain ⟨a, rfl, rc, n0, no⟩ := r1
    refine ⟨a, rfl, rc, .inr n0, fun p hpn z => ?_⟩
    obtain ⟨h1, c', h2⟩ := (P.kp k1) p hpn
    rw [z] at h1
    exact no ⟨p.1, c', h2, h1⟩
  | plc i =>
    have r1 : σ[i]? = some (some u) := r1
    unfold retOf at er
    simp only at er
    split at er
    · cases er
    · rename_i hi
      split at er
      · rename_i c hx
        cases er
        obtain ⟨a, ea, rc⟩ := S1.obj i c hx
        rw [r1] at ea; cases ea
        refine ⟨a, rfl, rc, g1.own a ⟨i, c, hx, r1⟩, fun p hpn z => ?_⟩
        obtain ⟨h1, c', h2⟩ := (P.kp k1) p hpn
        rw [z] at h1
        exact hi (S1.sep p.1 i c' c a h2 hx h1 r1 ▸ hp p hpn)
      · cases er
def fRetN : FS := fun ρ => some (.rt (.dat .none) ρ)
theorem ds_retN : DS X pl (.Return none pos) fRetN := by
  refine ⟨_, ps_retN, fun pn σ H ρ o D hp S P e q => ?_⟩
  cases e
  exact q .non σ H .refl S P .non
def fIfS (c : FB) (f g : FS) : FS := fun ρ => (c ρ).bind fun p => if p.1 = true then f p.2 else g p.2
theorem ds_if {fb : FB} {s1 s2 : List Stmt} (hc : DT X c fb) (h1 : DSs X pl s1 f) (h2 : DSs X pl s2 g) : DS X pl (.If c s1 s2 pos) (fIfS fb f g) := by
  obtain ⟨t, pt, rt⟩ := hc.run
  obtain ⟨u, pu, ru⟩ := h1.run
  obtain ⟨v, pv, rv⟩ := h2.run
  refine ⟨_, ps_if pt pu pv, fun pn σ H ρ o D hp S P e q => ?_⟩
  simp only [fIfS, Option.bind_eq_some_iff] at e
  obtain ⟨⟨b, ρ1⟩, e1, e2⟩ := e
  refine rt σ H ρ b ρ1 _ S e1 fun H1 g1 S1 k1 => ?_
  cases b with
  | true => exact ru pn σ H1 ρ1 o D hp S1 (P.kp k1) e2 (q.from g1)
  | false => exact rv pn σ H1 ρ1 o D hp S1 (P.kp k1) e2 (q.from g1)

/-! ### stores -/
def isObj (ρ : Ev) (i : Nat) : Bool := match ρ[i]? with
  | some (some (.obj _)) => true
  | _ => false
/-- chk: the slot may be pinned -/
def stH (chk : Bool) (i : Nat) (h : Hd) (ρ : Ev) : Option Ev := if chk && isObj ρ i then none else match h with
  | .dat t => some (ρ.set i (some (.dat t)))
  | .tmp c => some (ρ.set i (some (.obj c)))
  | .plc _ => none
theorem not_pinned {pn : List (Nat × Addr)} {σ : Sto} {ρ : Ev} {chk : Bool} {i : Nat} (P : Pin pn σ ρ) (hp : ∀ p ∈ pn, p.1 ∈ pl) (hc : chk = false → i ∉ pl) (h : ¬ (chk && isObj ρ i) = true) : ∀ p ∈ pn, p.1 ≠ i := fun p hpn z => by
  obtain ⟨_, c, e⟩ := P p hpn
  cases chk with
  | false => exact hc rfl (z ▸ hp p hpn)
  | true =>
    apply h
    rw [z] at e
    simp only [isObj, e, Bool.true_and]
/-- a slot is stored -/
theorem store_SR {K : KW} {pn : List (Nat × Addr)} {σ σs : Sto} {ρ ρs : Ev} {H Hs : Hp} {h : Hd} {u : V} {s : Sl} {i : Nat} (S : SR K H σ ρ) (g : Go K σs ρs Hs σ ρ H) (P : Pin pn σ ρ) (hi : i < ρ.length) (np : ∀ p ∈ pn, p.1 ≠ i)
    (hs : (∃ t, s = .dat t ∧ Rp K H u t) ∨ ∃ c a, s = .obj c ∧ u = .ref a ∧ RpC K H a c ∧ Hs a = none ∧ ¬ Own σ ρ a) :
    SR K H (σ.set i (some u)) (ρ.set i (some s)) ∧ Go K σs ρs Hs (σ.set i (some u)) (ρ.set i (some s)) H ∧ Pin pn (σ.set i (some u)) (ρ.set i (some s)) := by
  have hi' : i < σ.length := by rw [← S.len]; exact hi
  have at_ : ∀ {j : Nat} {x : Sl}, (ρ.set i (some s))[j]? = some (some x) → (j = i ∧ x = s) ∨ (j ≠ i ∧ ρ[j]? = some (some x)) := fun {j x} e => by
    by_cases hj : j = i
    · subst hj
      rw [List.getElem?_set_self hi] at e
      cases e
      exact .inl ⟨rfl, rfl⟩
    · rw [List.getElem?_set_ne (Ne.symm hj)] at e
      exact .inr ⟨hj, e⟩
  have self : (σ.set i (some u))[i]? = some (some u) := List.getElem?_set_self hi'
  have other : ∀ {j : Nat}, j ≠ i → (σ.set i (some u))[j]? = σ[j]? := fun h => List.getElem?_set_ne (Ne.symm h)
  refine ⟨⟨by rw [List.length_set, List.length_set]; exact S.len, fun j t e => ?_, fun j xs e => ?_, fun j c e => ?_, fun j k c d a e1 e2 e3 e4 => ?_⟩, ⟨g.keep, fun a o => ?_, g.tst, g.dom⟩, fun p hp => ?_⟩
  · rcases at_ e with ⟨hj, ex⟩ | ⟨hj, ex⟩
    · rcases hs with ⟨t', es, r⟩ | ⟨c, a, es, _⟩
      · rw [es] at ex; cases ex
        rw [hj]; exact ⟨u, self, r⟩
      · rw [es] at ex; cases ex
    · rw [other hj]; exact S.dat j t ex
  · rcases at_ e with ⟨hj, ex⟩ | ⟨hj, ex⟩
    · rcases hs with ⟨t', es, r⟩ | ⟨c, a, es, _⟩ <;> rw [es] at ex <;> cases ex
    · rw [other hj]; exact S.rol j xs ex
  · rcases at_ e with ⟨hj, ex⟩ | ⟨hj, ex⟩
    · rcases hs with ⟨t', es, r⟩ | ⟨c', a, es, eu, rc, _⟩
      · rw [es] at ex; cases ex
      · rw [es] at ex; cases ex
        rw [hj, self, eu]; exact ⟨a, rfl, rc⟩
    · rw [other hj]; exact S.obj j c ex
  · have new : ∀ {k : Nat} {d : C}, k ≠ i → ρ[k]? = some (some (.obj d)) → σ[k]? = some (some (.ref a)) → (∃ c, Sl.obj c = s) → u = .ref a → False := fun {k d} hk h1 h2 ⟨c, hc⟩ hu => by
      rcases hs with ⟨t', e, _⟩ | ⟨c', a', _, e2, _, _, no⟩
      · rw [e] at hc; cases hc
      · rw [hu] at e2; cases e2
        exact no ⟨k, d, h1, h2⟩
    rcases at_ e1 with ⟨hj, x1⟩ | ⟨hj, x1⟩
    · rcases at_ e2 with ⟨hk, x2⟩ | ⟨hk, x2⟩
      · rw [hj, hk]
      · rw [hj, self] at e3
        rw [other hk] at e4
        exact (new hk x2 e4 ⟨c, x1⟩ (by cases e3; rfl)).elim
    · rcases at_ e2 with ⟨hk, x2⟩ | ⟨hk, x2⟩
      · rw [hk, self] at e4
        rw [other hj] at e3
        exact (new hj x1 e3 ⟨d, x2⟩ (by cases e4; rfl)).elim
      · rw [other hj] at e3
        rw [other hk] at e4
        exact S.sep j k c d a x1 x2 e3 e4
  · obtain ⟨j, c, e, e'⟩ := o
    rcases at_ e with ⟨hj, ex⟩ | ⟨hj, ex⟩
    · rw [hj, self] at e'
      rcases hs with ⟨t', es, r⟩ | ⟨c', a', es, e2, rc, n0, _⟩
      · rw [es] at ex; cases ex
      · rw [e2] at e'; cases e'; exact .inr n0
    · rw [other hj] at e'
      exact g.own a ⟨j, c, ex, e'⟩
  · obtain ⟨h1, c, h2⟩ := P p hp
    have := np p hp
    exact ⟨by rw [other this]; exact h1, c, by rw [List.getElem?_set_ne (Ne.symm this)]; exact h2⟩
theorem stH_SR {K : KW} {pn : List (Nat × Addr)} {σ σs : Sto} {ρ ρs ρ' : Ev} {H Hs : Hp} {h : Hd} {u : V} {chk : Bool} {i : Nat} (S : SR K H σ ρ) (g : Go K σs ρs Hs σ ρ H) (P : Pin pn σ ρ) (hp : ∀ p ∈ pn, p.1 ∈ pl) (hc : chk = false → i ∉ pl) (hi : i < ρ.length)
    (r : HR K Hs H σ ρ h u) (e : stH chk i h ρ = some ρ') : SR K H (σ.set i (some u)) ρ' ∧ Go K σs ρs Hs (σ.set i (some u)) ρ' H ∧ Pin pn (σ.set i (some u)) ρ' := by
  unfold stH at e
  split at e
  · cases e
  · rename_i hn
    have np := not_pinned P hp hc hn
    cases h with
    | dat t => cases e; exact store_SR (h := .dat t) S g P hi np (.inl ⟨t, rfl, r⟩)
    | tmp c =>
      cases e
      obtain ⟨a, rfl, rc, n0, no⟩ := r
      exact store_SR (h := .tmp c) S g P hi np (.inr ⟨c, a, rfl, rfl, rc, n0, no⟩)
    | plc j => cases e
def fSet (chk : Bool) (i : Nat) (f : FE) : FS := fun ρ => (f ρ).bind fun p => if i < p.2.length then (stH chk i p.1 p.2).map Fl.nx else none
/-- x = e -/
theorem ds_set {chk : Bool} {i : Nat} {x : Str} {pos' : Pos} (hN : X.N.Nodup) (hi : X.N[i]? = some x) (hx : Loc X.env.scope x) (ha : DE X e fa) (hc : chk = false → i ∉ pl := by decide) (hs : swapsWith e (some (.Name x pos')) pos.line X.env = pure false := by rfl) (hf : X.fn x = true ∨ X.env.scope.names.lookup x = some .local := by first | exact .inl rfl | exact .inr rfl | assumption) :
    DS X pl (.Assign [.Name x pos'] e pos) (fSet chk i fa) := by
  obtain ⟨t, pt, rt⟩ := ha.run
  refine ⟨_, ps_set hN hi hx pt hs hf, fun pn σ H ρ o D hp S P e q => ?_⟩
  simp only [fSet, Option.bind_eq_some_iff] at e
  obtain ⟨⟨h1, ρ1⟩, e1, e2⟩ := e
  split at e2
  · rename_i hl
    simp only [Option.map_eq_some_iff] at e2
    obtain ⟨ρ2, e3, e4⟩ := e2
    subst e4
    refine rt σ H ρ h1 ρ1 _ S e1 fun u H1 g1 S1 k1 r1 => ?_
    obtain ⟨a1, a2, a3⟩ := stH_SR S1 g1 (P.kp k1) hp hc hl r1 e3
    exact q _ H1 a2 a1 a3
  · cases e2
/-- a, b = x, y with two plain local names -/
def fPar (c1 c2 : Bool) (i j : Nat) (f : FA) : FS := fun ρ => (f ρ).bind fun p => match p.1 with
  | [h1, h2] => if i < p.2.length ∧ j < p.2.length then (stH c1 i h1 p.2).bind fun ρ1 => (stH c2 j h2 ρ1).map Fl.nx else none
  | _ => none
theorem HR.stored {K : KW} {Hs H : Hp} {σ : Sto} {ρ : Ev} {h h1 : Hd} {u v : V} {i : Nat} {s : Sl} (r : HR K Hs H σ ρ h u) (np : ∀ j, h ≠ .plc j)
    (d : ∀ c, h = .tmp c → s = .dat .none ∨ ∀ a, u = .ref a → v ≠ .ref a ∨ ∃ t, s = .dat t) : HR K Hs H (σ.set i (some v)) (ρ.set i (some s)) h u := by
  cases h with
  | dat t => exact r
  | plc j => exact absurd rfl (np j)
  | tmp c =>
    obtain ⟨a, rfl, rc, n0, no⟩ := r
    refine ⟨a, rfl, rc, n0, fun ⟨j, c', e1, e2⟩ => ?_⟩
    by_cases hj : j = i
    · subst hj
      by_cases hl : j < ρ.length
      · rw [List.getElem?_set_self hl] at e1
        cases e1
        by_cases hl2 : j < σ.length
        · rw [List.getElem?_set_self hl2] at e2
          cases e2
          rcases d c rfl with z | z
          · cases z
          · rcases z a rfl with z | ⟨t, z⟩
            · exact z rfl
            · cases z
        · rw [List.getElem?_eq_none (by rw [List.length_set]; omega)] at e2
          cases e2
      · rw [List.getElem?_eq_none (by rw [List.length_set]; omega)] at e1
        cases e1
    · rw [List.getElem?_set_ne (Ne.symm hj)] at e1 e2
      exact no ⟨j, c', e1, e2⟩
theorem stH_eq {chk : Bool} {i : Nat} {h : Hd} {ρ ρ' : Ev} (e : stH chk i h ρ = some ρ') : (∃ t, h = .dat t ∧ ρ' = ρ.set i (some (.dat t))) ∨ ∃ c, h = .tmp c ∧ ρ' = ρ.set i (some (.obj c)) := by
  unfold stH at e
  split at e
  · cases e
  · cases h with
    | dat t => cases e; exact .inl ⟨t, rfl, rfl⟩
    | tmp c => cases e; exact .inr ⟨c, rfl, rfl⟩
    | plc j => cases e
theorem ds_par {c1 c2 : Bool} {i j : Nat} {x y : Str} {fs : FA} {px py pt : Pos} {kt k2 pt2} (hc : X.calm = true) (hN : X.N.Nodup) (hi : X.N[i]? = some x) (hj : X.N[j]? = some y) (hij : i ≠ j)
    (hx : X.env.scope.names.lookup x = some .local) (hy : X.env.scope.names.lookup y = some .local) (ha : DA X [a, b] fs)
    (hw : swappedStores [.Tuple [.Name x px, .Name y py] kt pt] (.Tuple [a, b] k2 pt2) X.env = pure (some [x, y])) (h1 : c1 = false → i ∉ pl := by decide) (h2 : c2 = false → j ∉ pl := by decide)
    (hs : swapsWithSole [.Tuple [.Name x px, .Name y py] kt pt] (.Tuple [a, b] k2 pt2) pos.line X.env = pure false := by rfl) :
    DS X pl (.Assign [.Tuple [.Name x px, .Name y py] kt pt] (.Tuple [a, b] k2 pt2) pos) (fPar c1 c2 i j fs) := by
  obtain ⟨t, pt, rt⟩ := ha.run
  refine ⟨_, ps_par hc hN hi hj hij hx hy pt hw hs, fun pn σ H ρ o D hp S P e q => ?_⟩
  simp only [fPar, Option.bind_eq_some_iff] at e
  obtain ⟨⟨hs, ρ1⟩, e1, e2⟩ := e
  refine rt σ H ρ hs ρ1 _ S e1 fun us H1 g1 S1 k1 r1 d1 => ?_
  cases r1 with
  | nil => cases e2
  | @cons ha u _ _ ra rt =>
    cases rt with
    | nil => cases e2
    | @cons hb v _ _ rb rt =>
      cases rt with
      | cons _ _ => cases e2
      | nil =>
        simp only at e2
        split at e2
        · rename_i hl
          simp only [Option.bind_eq_some_iff, Option.map_eq_some_iff] at e2
          obtain ⟨ρ2, e3, ρ3, e4, e5⟩ := e2
          subst e5
          refine ⟨u, v, rfl, ?_⟩
          obtain ⟨a1, a2, a3⟩ := stH_SR S1 g1 (P.kp k1) hp h1 hl.1 ra e3
          have nb : ∀ j, hb ≠ .plc j := fun j z => by
            rcases stH_eq e4 with ⟨t, z2, _⟩ | ⟨c, z2, _⟩ <;> rw [z] at z2 <;> cases z2
          have rb2 : HR X.kw H H1 (σ.set i (some u)) ρ2 hb v := by
            rcases stH_eq e3 with ⟨t, ea, rfl⟩ | ⟨c, ea, rfl⟩
            · exact rb.stored (h1 := ha) nb fun c _ => .inr fun a _ => .inr ⟨t, rfl⟩
            · refine rb.stored (h1 := ha) nb fun c' hb' => .inr fun a hv => .inl fun hu => ?_
              have := d1 0 1 c c' a (by rw [ea]; rfl) (by rw [hb']; rfl) (by rw [hu]; rfl) (by rw [hv]; rfl)
              cases this
          have hl2 : j < ρ2.length := by
            rcases stH_eq e3 with ⟨t, _, rfl⟩ | ⟨c, _, rfl⟩ <;> rw [List.length_set] <;> exact hl.2
          obtain ⟨b1, b2, b3⟩ := stH_SR a1 a2 a3 hp h2 hl2 rb2 e4
          exact q _ H1 b2 b1 b3
        · cases e2
end
end PD

namespace PD
open PySem PySem.Spec PyProof.Rows L2
section
variable {X : Cx} {pl : List Nat} {e a b c : Expr} {es : List Expr} {fa fb fc : FE} {pos : Pos} {st : Stmt} {sts : List Stmt} {f g : FS}
/-- a, b, c = x, y, z -/
def fPar3 (c1 c2 c3 : Bool) (i j l : Nat) (f : FA) : FS := fun ρ => (f ρ).bind fun p => match p.1 with
  | [h1, h2, h3] => if i < p.2.length ∧ j < p.2.length ∧ l < p.2.length then (stH c1 i h1 p.2).bind fun ρ1 => (stH c2 j h2 ρ1).bind fun ρ2 => (stH c3 l h3 ρ2).map Fl.nx else none
  | _ => none
theorem ds_par3 {c1 c2 c3 : Bool} {i j l : Nat} {x y z : Str} {fs : FA} {px py pz pt : Pos} {kt k2 pt2} (hc : X.calm = true) (hN : X.N.Nodup) (hi : X.N[i]? = some x) (hj : X.N[j]? = some y) (hl : X.N[l]? = some z) (hij : i ≠ j) (hil : i ≠ l) (hjl : j ≠ l)
    (hx : X.env.scope.names.lookup x = some .local) (hy : X.env.scope.names.lookup y = some .local) (hz : X.env.scope.names.lookup z = some .local) (ha : DA X [a, b, c] fs)
    (hw : swappedStores [.Tuple [.Name x px, .Name y py, .Name z pz] kt pt] (.Tuple [a, b, c] k2 pt2) X.env = pure (some [x, y, z])) (h1 : c1 = false → i ∉ pl := by decide) (h2 : c2 = false → j ∉ pl := by decide) (h3 : c3 = false → l ∉ pl := by decide)
    (hs : swapsWithSole [.Tuple [.Name x px, .Name y py, .Name z pz] kt pt] (.Tuple [a, b, c] k2 pt2) pos.line X.env = pure false := by rfl) :
    DS X pl (.Assign [.Tuple [.Name x px, .Name y py, .Name z pz] kt pt] (.Tuple [a, b, c] k2 pt2) pos) (fPar3 c1 c2 c3 i j l fs) := by
  obtain ⟨t, pt, rt⟩ := ha.run
  refine ⟨_, ps_par3 hc hN hi hj hl hij hil hjl hx hy hz pt hw hs, fun pn σ H ρ o D hp S P e q => ?_⟩
  simp only [fPar3, Option.bind_eq_some_iff] at e
  obtain ⟨⟨hs, ρ1⟩, e1, e2⟩ := e
  refine rt σ H ρ hs ρ1 _ S e1 fun us H1 g1 S1 k1 r1 d1 => ?_
  cases r1 with
  | nil => cases e2
  | @cons ha u _ _ ra rt =>
    cases rt with
    | nil => cases e2
    | @cons hb v _ _ rb rt =>
      cases rt with
      | nil => cases e2
      | @cons hd w _ _ rc rt =>
      cases rt with
      | cons _ _ => cases e2
      | nil =>
        simp only at e2
        split at e2
        · rename_i hl
          simp only [Option.bind_eq_some_iff, Option.map_eq_some_iff] at e2
          obtain ⟨ρ2, e3, ρ3, e4, ρ4, e6, e5⟩ := e2
          subst e5
          refine ⟨u, v, w, rfl, ?_⟩
          have noP : ∀ {chk : Bool} {i : Nat} {h : Hd} {ρ ρ' : Ev}, stH chk i h ρ = some ρ' → ∀ j, h ≠ .plc j := fun e j z => by
            rcases stH_eq e with ⟨t, z2, _⟩ | ⟨c, z2, _⟩ <;> rw [z] at z2 <;> cases z2
          have len : ∀ {chk : Bool} {i : Nat} {h : Hd} {ρ ρ' : Ev}, stH chk i h ρ = some ρ' → ρ'.length = ρ.length := fun e => by
            rcases stH_eq e with ⟨t, _, rfl⟩ | ⟨c, _, rfl⟩ <;> rw [List.length_set]
          have away : ∀ {hx hy : Hd} {ux uy : V} {chk : Bool} {i m n : Nat} {ρ ρ' : Ev} {σ' : Sto}, stH chk i hx ρ = some ρ' → (∀ j, hy ≠ .plc j) → ([ha, hb, hd] : List Hd)[m]? = some hx → ([ha, hb, hd] : List Hd)[n]? = some hy → ([u, v, w] : List V)[m]? = some ux → ([u, v, w] : List V)[n]? = some uy → m ≠ n →
              HR X.kw H H1 σ' ρ hy uy → HR X.kw H H1 (σ'.set i (some ux)) ρ' hy uy := by
            intro hx hy ux uy chk i m n ρ ρ' σ' e np m1 m2 m3 m4 mn r
            rcases stH_eq e with ⟨t, ea, rfl⟩ | ⟨c, ea, rfl⟩
            · exact r.stored (h1 := hx) np fun c _ => .inr fun a _ => .inr ⟨t, rfl⟩
            · refine r.stored (h1 := hx) np fun c' hb' => .inr fun a hv => .inl fun hu => ?_
              exact mn (d1 m n c c' a (by rw [m1, ea]) (by rw [m2, hb']) (by rw [m3, hu]) (by rw [m4, hv]))
          obtain ⟨a1, a2, a3⟩ := stH_SR S1 g1 (P.kp k1) hp h1 hl.1 ra e3
          have rb2 := away (m := 0) (n := 1) e3 (noP e4) rfl rfl rfl rfl (by decide) rb
          have rc2 := away (m := 0) (n := 2) e3 (noP e6) rfl rfl rfl rfl (by decide) rc
          obtain ⟨b1, b2, b3⟩ := stH_SR a1 a2 a3 hp h2 (by rw [len e3]; exact hl.2.1) rb2 e4
          have rc3 := away (m := 1) (n := 2) e4 (noP e6) rfl rfl rfl rfl (by decide) rc2
          obtain ⟨c1, c2, c3⟩ := stH_SR b1 b2 b3 hp h3 (by rw [len e4, len e3]; exact hl.2.2) rc3 e6
          exact q _ H1 c2 c1 c3
        · cases e2

/-! ### targets of data -/
abbrev GT := T → Ev → Option Ev
/-- is: the slots that are stored -/
structure DG (X : Cx) (pl : List Nat) (is : List Nat) (tg : Expr) (g : GT) : Prop where
  out : ∀ d ρ ρ', g d ρ = some ρ' → ∀ (j : Nat), j ∉ is → ρ'[j]? = ρ[j]?
  run : ∃ t : TG, PG X tg t ∧ ∀ (pn : List (Nat × Addr)) (σ : Sto) (H : Hp) (ρ : Ev) (v : V) (d : T) (ρ' : Ev) (Q : L2.St → Hp → Prop), (∀ p ∈ pn, p.1 ∈ pl) → SR X.kw H σ ρ → Pin pn σ ρ → Rp X.kw H v d → g d ρ = some ρ' →
    (∀ σ', Go X.kw σ ρ H σ' ρ' H → SR X.kw H σ' ρ' → Pin pn σ' ρ' → σ'.length = σ.length → (∀ (j : Nat), j ∉ is → σ'[j]? = σ[j]?) → Q σ' H) → t v σ H Q
def tgN (chk : Bool) (i : Nat) : GT := fun d ρ => if i < ρ.length then stH chk i (.dat d) ρ else none
theorem dg_name {chk : Bool} {i : Nat} {x : Str} (hN : X.N.Nodup) (hi : X.N[i]? = some x) (hx : Loc X.env.scope x) (hc : chk = false → i ∉ pl := by decide) (hf : X.fn x = true ∨ X.env.scope.names.lookup x = some .local := by first | exact .inl rfl | exact .inr rfl | assumption) : DG X pl [i] (.Name x pos) (tgN chk i) := by
  refine ⟨fun d ρ ρ' e j hj => ?_, _, pg_name hN hi hx hf, fun pn σ H ρ v d ρ' Q hp S P r e q => ?_⟩
  · have hj : j ≠ i := fun z => hj (by rw [z]; exact List.mem_cons_self)
    unfold tgN at e
    split at e
    · rcases stH_eq e with ⟨t, _, rfl⟩ | ⟨c, _, rfl⟩ <;> exact List.getElem?_set_ne (Ne.symm hj)
    · cases e
  unfold tgN at e
  split at e
  · rename_i hl
    obtain ⟨a1, a2, a3⟩ := stH_SR (h := .dat d) S .refl P hp hc hl r e
    exact q _ a2 a1 a3 (by rw [List.length_set]) fun j hj => List.getElem?_set_ne (fun z => hj (by rw [z]; exact List.mem_cons_self))
  · cases e
structure DGs (X : Cx) (pl : List Nat) (is : List Nat) (tgs : List Expr) (n : Nat) (g : List T → Ev → Option Ev) : Prop where
  len : tgs.length = n
  out : ∀ d ρ ρ', g d ρ = some ρ' → ∀ (j : Nat), j ∉ is → ρ'[j]? = ρ[j]?
  run : ∃ t : TGs, PGs X tgs t ∧ ∀ (pn : List (Nat × Addr)) (σ : Sto) (H : Hp) (ρ : Ev) (vs : List V) (ds : List T) (ρ' : Ev) (Q : L2.St → Hp → Prop), (∀ p ∈ pn, p.1 ∈ pl) → SR X.kw H σ ρ → Pin pn σ ρ → RpL X.kw H vs ds → g ds ρ = some ρ' →
    (∀ σ', Go X.kw σ ρ H σ' ρ' H → SR X.kw H σ' ρ' → Pin pn σ' ρ' → σ'.length = σ.length → (∀ (j : Nat), j ∉ is → σ'[j]? = σ[j]?) → Q σ' H) → t vs σ H Q
def tgNil : List T → Ev → Option Ev := fun ds ρ => match ds with
  | [] => some ρ
  | _ => none
def tgCons (g : GT) (gs : List T → Ev → Option Ev) : List T → Ev → Option Ev := fun ds ρ => match ds with
  | d :: ds => (g d ρ).bind fun ρ1 => gs ds ρ1
  | [] => none
theorem dgs_nil : DGs X pl [] [] 0 tgNil := by
  refine ⟨rfl, (fun d ρ ρ' e j _ => by
    unfold tgNil at e
    split at e
    · cases e; rfl
    · cases e), _, pgs_nil, fun pn σ H ρ vs ds ρ' Q hp S P r e q => ?_⟩
  cases r with
  | nil => cases e; exact ⟨rfl, q σ .refl S P rfl fun _ _ => rfl⟩
  | cons _ _ => cases e
theorem dgs_cons {g : GT} {gs : List T → Ev → Option Ev} {n : Nat} {is js : List Nat} (h1 : DG X pl is e g) (h2 : DGs X pl js es n gs) (hs : (assignEach (e :: es) X.env).map (·.2) = assign e X.env :: (assignEach es X.env).map (·.2) := by rfl) : DGs X pl (is ++ js) (e :: es) (n + 1) (tgCons g gs) := by
  obtain ⟨t, pt, rt⟩ := h1.run
  obtain ⟨u, pu, ru⟩ := h2.run
  refine ⟨by rw [List.length_cons, h2.len], (fun d ρ ρ' e j hj => by
    unfold tgCons at e
    split at e
    · simp only [Option.bind_eq_some_iff] at e
      obtain ⟨ρ1, e1, e2⟩ := e
      rw [List.mem_append, not_or] at hj
      rw [h2.out _ _ _ e2 j hj.2, h1.out _ _ _ e1 j hj.1]
    · cases e), _, pgs_cons pt pu hs, fun pn σ H ρ vs ds ρ' Q hp S P r e q => ?_⟩
  cases r with
  | nil => cases e
  | @cons v vs d ds r rr =>
    simp only [tgCons, Option.bind_eq_some_iff] at e
    obtain ⟨ρ1, e1, e2⟩ := e
    refine ⟨v, vs, rfl, ?_⟩
    refine rt pn σ H ρ v d ρ1 _ hp S P r e1 fun σ1 g1 S1 P1 l1 o1 => ?_
    exact ru pn σ1 H ρ1 vs ds ρ' Q hp S1 P1 rr e2 fun σ2 g2 S2 P2 l2 o2 => q σ2 (g1.trans g2) S2 P2 (l2.trans l1) fun j hj => by
      rw [List.mem_append, not_or] at hj
      rw [o2 j hj.2, o1 j hj.1]
def tgTup (gs : List T → Ev → Option Ev) : GT := fun d ρ => match d with
  | .tuple ds => gs ds ρ
  | _ => none
/-- the target's length asks a tuple of that length -/
def LenOk (gs : List T → Ev → Option Ev) (n : Nat) : Prop := ∀ ds ρ ρ', gs ds ρ = some ρ' → ds.length = n
theorem lenNil : LenOk tgNil 0 := fun ds ρ ρ' e => by
  unfold tgNil at e
  split at e
  · rfl
  · cases e
theorem lenCons {g : GT} {gs : List T → Ev → Option Ev} {n : Nat} (h : LenOk gs n) : LenOk (tgCons g gs) (n + 1) := fun ds ρ ρ' e => by
  unfold tgCons at e
  split at e
  · simp only [Option.bind_eq_some_iff] at e
    obtain ⟨ρ1, _, e2⟩ := e
    rw [List.length_cons, h _ _ _ e2]
  · cases e
theorem dg_tup {gs : List T → Ev → Option Ev} {n k : Nat} {is : List Nat} (hc : X.calm = true) (h : DGs X pl is es n gs) (hl : LenOk gs n) (hn : (assignEach es X.env).length = n := by rfl) (hst : (assignEach es X.env).findIdx? (·.1) = none := by rfl) : DG X pl is (.Tuple es k pos) (tgTup gs) := by
  obtain ⟨t, pt, rt⟩ := h.run
  refine ⟨(fun d ρ ρ' e j hj => by
    unfold tgTup at e
    split at e
    · exact h.out _ _ _ e j hj
    · cases e), _, pg_tup hc pt hn hst, fun pn σ H ρ v d ρ' Q hp S P r e q => ?_⟩
  unfold tgTup at e
  split at e
  · cases r with
    | @tup a xs _ s l =>
      exact ⟨a, xs, rfl, s.t, by rw [l.length]; exact hl _ _ _ e, rt pn σ H ρ xs _ ρ' Q hp S P l e q⟩
  · cases e
/-! a, b = a tuple (as a statement) -/
def fAsg (g : GT) (f : FE) : FS := fun ρ => (f ρ).bind fun p => match p.1 with
  | .dat d => (g d p.2).map Fl.nx
  | _ => none
theorem ds_asg {tg : Expr} {g : GT} {is : List Nat} (ha : DE X e fa) (hg : DG X pl is tg g) (hs : swapsWithSole [tg] e pos.line X.env = pure false := by rfl) (hw : swappedStores [tg] e X.env = pure none := by rfl)
    (h1 : (assignEach [tg] X.env).map (·.2) = [assign tg X.env] := by rfl) : DS X pl (.Assign [tg] e pos) (fAsg g fa) := by
  obtain ⟨t, pt, rt⟩ := ha.run
  obtain ⟨u, pu, ru⟩ := hg.run
  refine ⟨_, ps_asg pt pu hs hw h1, fun pn σ H ρ o D hp S P e q => ?_⟩
  simp only [fAsg, Option.bind_eq_some_iff] at e
  obtain ⟨⟨h1, ρ1⟩, e1, e2⟩ := e
  refine rt σ H ρ h1 ρ1 _ S e1 fun x H1 g1 S1 k1 r1 => ?_
  cases h1 with
  | dat d =>
    simp only [Option.map_eq_some_iff] at e2
    obtain ⟨ρ2, e3, e4⟩ := e2
    subst e4
    exact ru pn σ H1 ρ1 x d ρ2 _ hp S1 (P.kp k1) r1 e3 fun σ2 g2 S2 P2 _ _ => q σ2 H1 (g1.trans g2) S2 P2
  | tmp c => cases e2
  | plc i => cases e2
/-! x[i] = e -/
def fSetIx (fe fo fi : FE) : FS := fun ρ => (fe ρ).bind fun p => (fo p.2).bind fun q => (fi q.2).bind fun r => match p.1 with
  | .dat t => (lstOf q.1 r.2).bind fun xs => (intOf r.1).bind fun k => (ixN xs.length k).map fun j => .nx (putL q.1 (xs.set j t) r.2)
  | _ => none
theorem ds_setIx {fe fo fi : FE} {o i : Expr} {tpos : Pos} (he : DE X e fe) (ho : DE X o fo) (hi : DE X i fi)
    (hs : swapsWithSole [.Subscript o i tpos] e pos.line X.env = pure false := by rfl) (hw : swappedStores [.Subscript o i tpos] e X.env = pure none := by rfl)
    (h1 : (assignEach [.Subscript o i tpos] X.env).map (·.2) = [assign (.Subscript o i tpos) X.env] := by rfl)
    (hsub : ∀ v, assign (.Subscript o i tpos) X.env v = (do
      let ov ← holding [v] (eval o X.env)
      let iv ← holding [v, ov] (eval i X.env)
      standAt tpos
      holding [v, ov, iv] (setItem ov iv v)
      release [v, ov, iv] []) := by intro _; rfl) : DS X pl (.Assign [.Subscript o i tpos] e pos) (fSetIx fe fo fi) := by
  obtain ⟨t, pt, rt⟩ := he.run
  obtain ⟨u, pu, ru⟩ := ho.run
  obtain ⟨v, pv, rv⟩ := hi.run
  refine ⟨_, ps_asg pt (pg_sub pu pv set_list hsub) hs hw h1, fun pn σ H ρ o D hp S P e q => ?_⟩
  simp only [fSetIx, Option.bind_eq_some_iff] at e
  obtain ⟨⟨h1, ρ1⟩, e1, ⟨h2, ρ2⟩, e2, ⟨h3, ρ3⟩, e3, e4⟩ := e
  refine rt σ H ρ h1 ρ1 _ S e1 fun x H1 g1 S1 k1 r1 => ?_
  refine ru σ H1 ρ1 h2 ρ2 _ S1 e2 fun y H2 g2 S2 k2 r2 => ?_
  refine rv σ H2 ρ2 h3 ρ3 _ S2 e3 fun z H3 g3 S3 k3 r3 => ?_
  cases h1 with
  | tmp c => cases e4
  | plc i => cases e4
  | dat t =>
    simp only [Option.bind_eq_some_iff, Option.map_eq_some_iff] at e4
    obtain ⟨xs, ex, k, ek, j, ej, e5⟩ := e4
    subst e5
    have ek : h3 = _ := intOf_some ek
    subst ek
    cases r3
    have r2' := r2.go g3
    obtain ⟨a, vs, rfl, ha, l⟩ := lstOf_some S3 r2' ex
    refine ⟨a, vs, k, j, rfl, rfl, ha, by rw [l.length]; exact ej, ?_⟩
    have gg := (g1.trans g2).trans g3
    have kk := (k1.trans k2).trans k3
    have rt' : Rp X.kw H3 x t := Rp.m (g2.trans g3).tst r1
    have new : RpC X.kw (upd H3 a (.lst (vs.set j x))) a (.lst (xs.set j t)) := ⟨_, upd_same, (l.set j rt').m (tst_lst ha)⟩
    cases h2 with
    | dat t => cases ex
    | tmp c =>
      obtain ⟨b, eb, rc, n0, no⟩ := r2'
      cases eb
      refine q σ _ ⟨fun b o hb nb => ?_, gg.own, gg.tst.trans (tst_lst ha), fun b hb => gg.dom b (upd_none hb)⟩ (S3.aside ha no) (P.kp kk)
      have : b ≠ a := by rintro rfl; rw [g1.dom _ n0] at hb; cases hb
      rw [upd_ne this]
      exact gg.keep b o hb nb
    | plc i =>
      have ri : σ[i]? = some (some (V.ref a)) := r2'
      unfold lstOf at ex
      simp only at ex
      split at ex
      · rename_i hx
        cases ex
        exact q σ _ (gg.trans (Go.put S3 hx ri)) (S3.put hx ri new) ((P.kp kk).kp Kp.put)
      · cases ex
/-! x op= e -/
def DIp (X : Cx) (op : Operator) (g : GB) : Prop :=
  ∃ r : TIp, PIp X op r ∧ ∀ (σ : Sto) (H0 H : Hp) (ρ : Ev) (h1 h2 h3 : Hd) (x y : V) (Q : VK), SR X.kw H σ ρ → HR X.kw H0 H σ ρ h1 x → HR X.kw H0 H σ ρ h2 y → g h1 h2 ρ = some h3 →
    (∀ u H', Go X.kw σ ρ H σ ρ H' → SR X.kw H' σ ρ → HR X.kw H H' σ ρ h3 u → Q u H') → r x y H Q
theorem dip_of {op : Operator} {g : GB} (h : DOp X (inplaceOp op) g) : DIp X op g := let ⟨r, o, p⟩ := h; ⟨r, fun pins s σ H x y v u Q I rx ry q => o pins s σ H x y v u Q I rx ry q, p⟩
def fAug (chk : Bool) (i : Nat) (g : GB) (f : FE) : FS := fun ρ => match ρ[i]? with
  | some (some (.dat d)) => (f ρ).bind fun p => (g (.dat d) p.1 p.2).bind fun h => if i < p.2.length then (stH chk i h p.2).map Fl.nx else none
  | _ => none
theorem ds_aug {chk : Bool} {i : Nat} {x : Str} {op : Operator} {g : GB} {pos' : Pos} (hN : X.N.Nodup) (hi : X.N[i]? = some x) (hx : Loc X.env.scope x) (ha : DE X e fa) (ho : DIp X op g) (hc : chk = false → i ∉ pl := by decide) (hf : X.fn x = true ∨ X.env.scope.names.lookup x = some .local := by first | exact .inl rfl | exact .inr rfl | assumption) :
    DS X pl (.AugAssign (.Name x pos') op e pos) (fAug chk i g fa) := by
  obtain ⟨t, pt, rt⟩ := ha.run
  obtain ⟨r, o, ro⟩ := ho
  refine ⟨_, ps_aug hN hi hx pt o hf, fun pn σ H ρ o D hp S P e q => ?_⟩
  unfold fAug at e
  split at e
  · rename_i d hd
    simp only [Option.bind_eq_some_iff] at e
    obtain ⟨⟨h1, ρ1⟩, e1, h3, e2, e3⟩ := e
    split at e3
    · rename_i hl
      simp only [Option.map_eq_some_iff] at e3
      obtain ⟨ρ2, e4, e5⟩ := e3
      subst e5
      obtain ⟨v, ev, rv⟩ := S.dat i d hd
      refine ⟨v, ev, ?_⟩
      refine rt σ H ρ h1 ρ1 _ S e1 fun y H1 g1 S1 k1 r1 => ?_
      refine ro σ H H1 ρ1 (.dat d) h1 h3 v y _ S1 (rv.m g1.tst) r1 e2 fun u H2 g2 S2 r2 => ?_
      obtain ⟨a1, a2, a3⟩ := stH_SR S2 (g1.trans g2) (P.kp k1) hp hc hl (r2.back g1.dom) e4
      exact q _ H2 a2 a1 a3
    · cases e3
  · cases e
theorem dip_addI : DIp X .Add (gI0 fun i j => .int (i + j)) := dip_of (dop_I0 iop_add fun _ _ _ => .int _)
theorem dip_subI : DIp X .Sub gSub := dip_of (dop_I0 iop_sub fun _ _ _ => .int _)
theorem iop_mulM : OpR X (inplaceOp .Mult) (rI MulOk fun i j => .int (i * j)) := opI fun _ _ _ _ _ _ _ hc q => imul_int q hc.ok
theorem dip_mulI : DIp X .Mult (gI MulOk fun i j => .int (i * j)) := dip_of (dop_I iop_mulM fun _ _ _ => .int _)

/-! ### while -/
def fWhN (c : FB) (b : FS) : Nat → Ev → Option Fl
  | 0, _ => none
  | n + 1, ρ => (c ρ).bind fun p => if p.1 = true then (b p.2).bind fun o => match o with
      | .nx ρ' => fWhN c b n ρ'
      | .ct ρ' => fWhN c b n ρ'
      | .bk ρ' => some (.nx ρ')
      | .rt r ρ' => some (.rt r ρ')
    else some (.nx p.2)
open Classical in
noncomputable def fWh (c : FB) (b : FS) : FS := fun ρ => if h : ∃ o n, fWhN c b n ρ = some o then some h.choose else none
theorem fWhN_more {c : FB} {b : FS} : ∀ (n : Nat) (ρ : Ev) (o : Fl), fWhN c b n ρ = some o → fWhN c b (n + 1) ρ = some o
  | 0, _, _, h => by cases h
  | n + 1, ρ, o, h => by
    rw [fWhN] at h ⊢
    simp only [Option.bind_eq_some_iff] at h ⊢
    obtain ⟨p, h1, h2⟩ := h
    refine ⟨p, h1, ?_⟩
    split
    · rename_i hp
      rw [if_pos hp] at h2
      simp only [Option.bind_eq_some_iff] at h2 ⊢
      obtain ⟨o1, h3, h4⟩ := h2
      refine ⟨o1, h3, ?_⟩
      cases o1 with
      | nx ρ' => exact fWhN_more n ρ' o h4
      | ct ρ' => exact fWhN_more n ρ' o h4
      | bk ρ' => exact h4
      | rt r ρ' => exact h4
    · rename_i hp
      rw [if_neg hp] at h2
      exact h2
theorem fWhN_le {c : FB} {b : FS} {ρ : Ev} {o : Fl} {n m : Nat} (h : fWhN c b n ρ = some o) (hm : n ≤ m) : fWhN c b m ρ = some o := by
  induction hm with
  | refl => exact h
  | step _ ih => exact fWhN_more _ _ _ ih
theorem fWh_of {c : FB} {b : FS} {ρ : Ev} {o : Fl} {n : Nat} (h : fWhN c b n ρ = some o) : fWh c b ρ = some o := by
  have hx : ∃ o n, fWhN c b n ρ = some o := ⟨o, n, h⟩
  unfold fWh
  rw [dif_pos hx]
  obtain ⟨m, hm⟩ := hx.choose_spec
  have e1 := fWhN_le hm (Nat.le_max_left m n)
  have e2 := fWhN_le h (Nat.le_max_right m n)
  rw [e1] at e2
  exact e2
theorem of_fWh {c : FB} {b : FS} {ρ : Ev} {o : Fl} (h : fWh c b ρ = some o) : ∃ n, fWhN c b n ρ = some o := by
  unfold fWh at h
  split at h
  · rename_i hx
    cases h
    exact hx.choose_spec
  · cases h
/-- one turn -/
theorem fWh_eq {c : FB} {b : FS} {ρ : Ev} : fWh c b ρ = (c ρ).bind fun p => if p.1 = true then (b p.2).bind fun o => match o with
      | .nx ρ' => fWh c b ρ'
      | .ct ρ' => fWh c b ρ'
      | .bk ρ' => some (.nx ρ')
      | .rt r ρ' => some (.rt r ρ')
    else some (.nx p.2) := by
  apply Option.ext
  intro o
  constructor
  · intro h
    obtain ⟨n, hn⟩ := of_fWh h
    cases n with
    | zero => cases hn
    | succ n =>
      rw [fWhN] at hn
      simp only [Option.bind_eq_some_iff] at hn ⊢
      obtain ⟨p, h1, h2⟩ := hn
      refine ⟨p, h1, ?_⟩
      split
      · rename_i hp
        rw [if_pos hp] at h2
        simp only [Option.bind_eq_some_iff] at h2 ⊢
        obtain ⟨o1, h3, h4⟩ := h2
        refine ⟨o1, h3, ?_⟩
        cases o1 with
        | nx ρ' => exact fWh_of h4
        | ct ρ' => exact fWh_of h4
        | bk ρ' => exact h4
        | rt r ρ' => exact h4
      · rename_i hp
        rw [if_neg hp] at h2
        exact h2
  · intro h
    simp only [Option.bind_eq_some_iff] at h
    obtain ⟨p, h1, h2⟩ := h
    split at h2
    · rename_i hp
      simp only [Option.bind_eq_some_iff] at h2
      obtain ⟨o1, h3, h4⟩ := h2
      cases o1 with
      | nx ρ' =>
        obtain ⟨n, hn⟩ := of_fWh h4
        refine fWh_of (n := n + 1) ?_
        rw [fWhN, h1, Option.bind_some, if_pos hp, h3, Option.bind_some]
        exact hn
      | ct ρ' =>
        obtain ⟨n, hn⟩ := of_fWh h4
        refine fWh_of (n := n + 1) ?_
        rw [fWhN, h1, Option.bind_some, if_pos hp, h3, Option.bind_some]
        exact hn
      | bk ρ' =>
        refine fWh_of (n := 1) ?_
        rw [fWhN, h1, Option.bind_some, if_pos hp, h3, Option.bind_some]
        exact h4
      | rt r ρ' =>
        refine fWh_of (n := 1) ?_
        rw [fWhN, h1, Option.bind_some, if_pos hp, h3, Option.bind_some]
        exact h4
    · rename_i hp
      refine fWh_of (n := 1) ?_
      rw [fWhN, h1, Option.bind_some, if_neg hp]
      exact h2
theorem ds_while {fb : FB} {body : List Stmt} (hpo : PassesOwn (model X.prog X.w) X.A X.env X.xe) (hc : DT X c fb) (hb : DSs X pl body f) : DS X pl (.While c body [] pos) (fWh fb f) := by
  obtain ⟨t, pt, rt⟩ := hc.run
  obtain ⟨u, pu, ru⟩ := hb.run
  refine ⟨_, ps_while hpo pt pu, fun pn σ H ρ o D hp S P e q => ?_⟩
  obtain ⟨n, hn⟩ := of_fWh e
  refine ⟨fun m σ' H' => ∃ ρ', Go X.kw σ ρ H σ' ρ' H' ∧ SR X.kw H' σ' ρ' ∧ Pin pn σ' ρ' ∧ fWhN fb f m ρ' = some o, ⟨n, ρ, .refl, S, P, hn⟩, ?_⟩
  rintro m σ1 H1 ⟨ρ1, g1, S1, P1, h1⟩
  cases m with
  | zero => cases h1
  | succ m =>
    rw [fWhN] at h1
    simp only [Option.bind_eq_some_iff] at h1
    obtain ⟨⟨bb, ρ2⟩, e1, e2⟩ := h1
    refine rt σ1 H1 ρ1 bb ρ2 _ S1 e1 fun H2 g2 S2 k2 => ?_
    cases bb with
    | true =>
      simp only [if_true, Option.bind_eq_some_iff] at e2 ⊢
      obtain ⟨o1, e3, e4⟩ := e2
      refine ⟨fun σ' H' => ∃ ρ', Go X.kw σ ρ H σ' ρ' H' ∧ SR X.kw H' σ' ρ' ∧ Pin pn σ' ρ' ∧ fWhN fb f m ρ' = some o, fun σ' H' h => ⟨m, Nat.lt_succ_self m, h⟩, ?_⟩
      have gg := g1.trans g2
      refine ru pn σ1 H2 ρ2 o1 _ hp S2 (P1.kp k2) e3 ?_
      cases o1 with
      | nx ρ3 => exact fun σ3 H3 g3 S3 P3 => ⟨ρ3, gg.trans g3, S3, P3, e4⟩
      | ct ρ3 => exact fun σ3 H3 g3 S3 P3 => ⟨ρ3, gg.trans g3, S3, P3, e4⟩
      | bk ρ3 =>
        cases e4
        exact fun σ3 H3 g3 S3 P3 => q σ3 H3 (gg.trans g3) S3 P3
      | rt r ρ3 =>
        cases e4
        exact fun u σ3 H3 g3 S3 P3 r3 => q u σ3 H3 (gg.trans g3) S3 P3 (r3.from gg)
    | false =>
      cases e2
      exact q σ1 H2 (g1.trans g2) S2 (P1.kp k2)
end
end PD

namespace PD
open PySem PySem.Spec PyProof.Rows L2
/-! ### what a loop walks -/
/-- the iterator walks these items, as long as (Ok) what it walks reads as them -/
inductive ItOk (K : KW) (ts : List T) : It → (Hp → Prop) → Prop
  | lst (a : Addr) : ItOk K ts (Itl K a) (fun H => ∃ vs, SqL K H a vs ∧ RpL K H vs ts)
  | tup (a : Addr) : ItOk K ts (Itt K a) (fun H => ∃ vs, SqT K H a vs ∧ RpL K H vs ts)
  | rng (lo : Int) (n : Nat) : (ts = (List.range n).map fun i => PyData.int (lo + (i : Nat))) → ItOk K ts (Itr lo n) (fun _ => True)
  | rngC (lo c : Int) (n : Nat) : (ts = (List.range n).map fun i => PyData.int (lo + (i : Nat) * c)) → ItOk K ts (Itc lo c n) (fun _ => True)
section
variable {K : KW} {ts : List T} {J : It} {Ok : Hp → Prop} {H : Hp}
theorem ItOk.go (h : ItOk K ts J Ok) (o : Ok H) {i : Nat} {x : T} (e : ts[i]? = some x) : J.go i H := by
  cases h with
  | lst a => obtain ⟨vs, s, l⟩ := o; obtain ⟨v, ev, _⟩ := l.get e; exact ⟨vs, v, s, ev⟩
  | tup a => obtain ⟨vs, s, l⟩ := o; obtain ⟨v, ev, _⟩ := l.get e; exact ⟨vs, v, s, ev⟩
  | rng lo n et =>
    subst et
    have := (List.getElem?_eq_some_iff.mp e).1
    rw [List.length_map, List.length_range] at this
    exact this
  | rngC lo c n et =>
    subst et
    have := (List.getElem?_eq_some_iff.mp e).1
    rw [List.length_map, List.length_range] at this
    exact this
theorem ItOk.stop (h : ItOk K ts J Ok) (o : Ok H) {i : Nat} (e : ts.length ≤ i) : J.stop i H := by
  cases h with
  | lst a => obtain ⟨vs, s, l⟩ := o; exact ⟨vs, s, by rw [l.length]; exact e⟩
  | tup a => obtain ⟨vs, s, l⟩ := o; exact ⟨vs, s, by rw [l.length]; exact e⟩
  | rng lo n et =>
    subst et
    rw [List.length_map, List.length_range] at e
    exact e
  | rngC lo c n et =>
    subst et
    rw [List.length_map, List.length_range] at e
    exact e
theorem ItOk.yld (h : ItOk K ts J Ok) (o : Ok H) {i : Nat} {x : T} (e : ts[i]? = some x) {v : V} {H' : Hp} (y : J.yld i H v H') : H' = H ∧ Rp K H v x := by
  cases h with
  | lst a =>
    obtain ⟨vs, s, l⟩ := o
    obtain ⟨v', ev, r⟩ := l.get e
    obtain ⟨e1, e2⟩ := y
    have := e2 vs s
    rw [ev] at this; cases this
    exact ⟨e1, r⟩
  | tup a =>
    obtain ⟨vs, s, l⟩ := o
    obtain ⟨v', ev, r⟩ := l.get e
    obtain ⟨e1, e2⟩ := y
    have := e2 vs s
    rw [ev] at this; cases this
    exact ⟨e1, r⟩
  | rng lo n et =>
    obtain ⟨e1, e2⟩ := y
    refine ⟨e1, ?_⟩
    subst et e2
    have hi := (List.getElem?_eq_some_iff.mp e).1
    rw [List.length_map, List.length_range] at hi
    rw [List.getElem?_map, List.getElem?_range hi] at e
    cases e
    exact .int _
  | rngC lo c n et =>
    obtain ⟨e1, e2⟩ := y
    refine ⟨e1, ?_⟩
    subst et e2
    have hi := (List.getElem?_eq_some_iff.mp e).1
    rw [List.length_map, List.length_range] at hi
    rw [List.getElem?_map, List.getElem?_range hi] at e
    cases e
    exact .int _
end
/-- what is walked: the items; the place of the list that must stay as it is -/
abbrev FI := Ev → Option (List T × Option Nat × Ev)
/-- what keeps the walked thing as it is -/
def ItSt (σ : Sto) (ρ : Ev) (ts : List T) : Option Nat → Prop
  | none => True
  | some i => ρ[i]? = some (some (.obj (.lst ts)))
structure DI (X : Cx) (tg it : Expr) (f : FI) : Prop where
  run : ∃ wi : TI, PI X tg it wi ∧ ∀ (σ : Sto) (H : Hp) (ρ : Ev) (ts : List T) (lp : Option Nat) (ρ' : Ev) (R : It → Hp → Prop), SR X.kw H σ ρ → f ρ = some (ts, lp, ρ') →
    (∀ J H' Ok, Go X.kw σ ρ H σ ρ' H' → SR X.kw H' σ ρ' → Kp ρ ρ' → ItOk X.kw ts J Ok → (∀ i, lp = some i → ρ'[i]? = some (some (.obj (.lst ts)))) →
      -- it stays as it is: at any later heap that keeps what is not owned, where the place's object stands as it was
      (∀ (Ds : Addr → Prop) H'', (∀ a, Ds a → H a ≠ none) → (∀ a o, H' a = some o → ¬ Own σ ρ' a → ¬ Ds a → H'' a = some o) → TSt X.kw H' H'' → (∀ i, lp = some i → ∀ a, σ[i]? = some (some (.ref a)) → RpC X.kw H'' a (.lst ts)) → Ok H'') → R J H') → wi σ H R
section
variable {X : Cx} {tg e a b : Expr} {fa fb : FE} {pos : Pos}
def itOf (h : Hd) (ρ : Ev) : Option (List T × Option Nat) := match h with
  | .dat (.tuple ts) => some (ts, none)
  | .dat _ => none
  | .tmp (.lst ts) => some (ts, none)
  | .tmp _ => none
  | .plc i => match ρ[i]? with
    | some (some (.obj (.lst ts))) => some (ts, some i)
    | some (some (.rol ts)) => some (ts, none)
    | _ => none
def fItE (f : FE) : FI := fun ρ => (f ρ).bind fun p => (itOf p.1 p.2).map fun q => (q.1, q.2, p.2)
theorem di_e (ha : DE X e fa) : DI X tg e (fItE fa) := by
  obtain ⟨t, pt, rt⟩ := ha.run
  refine ⟨fun σ H R => iList X.kw t σ H R ∨ iTup X.kw t σ H R, ⟨fun pins s σ H R I h => h.elim ((pi_list pt).run pins s σ H R I) ((pi_tup pt).run pins s σ H R I)⟩, fun σ H ρ ts lp ρ' R S e q => ?_⟩
  simp only [fItE, Option.bind_eq_some_iff, Option.map_eq_some_iff] at e
  obtain ⟨⟨h1, ρ1⟩, e1, ⟨ts1, lp1⟩, e2, e3⟩ := e
  cases e3
  cases h1 with
  | dat d =>
    unfold itOf at e2
    simp only at e2
    split at e2
    · rename_i us hd
      cases hd
      cases e2
      refine .inr (rt σ H ρ _ _ _ S e1 fun x H1 g1 S1 k1 r1 => ?_)
      cases r1 with
      | @tup a vs _ s l =>
        refine ⟨a, rfl, ⟨vs, s.t⟩, q _ H1 _ g1 S1 k1 (.tup a) (fun i z => nomatch z) fun Ds H'' _ _ tst _ => ⟨vs, (tst.sq s).t, l.m tst⟩⟩
    · cases e2
    · rename_i hd; cases hd
    · rename_i hd; cases hd
    · rename_i hd; cases hd
  | tmp c =>
    cases c with
    | dic _ => first | (cases e; done) | (cases e2; done) | (cases ex; done) | (cases e1; done)
    | set _ => first | (cases e; done) | (cases e2; done) | (cases ex; done) | (cases e1; done)
    | lst us =>
      cases e2
      refine .inl (rt σ H ρ _ _ _ S e1 fun x H1 g1 S1 k1 r1 => ?_)
      obtain ⟨a, rfl, ⟨vs, ea, l⟩, n0, no⟩ := r1
      exact ⟨a, rfl, ⟨vs, .inl (.inl ea)⟩, q _ H1 _ g1 S1 k1 (.lst a) (fun i z => nomatch z) fun Ds H'' hD keep tst _ => ⟨vs, .inl (.inl (keep a _ ea no fun z => hD a z n0)), l.m tst⟩⟩
  | plc i =>
    unfold itOf at e2
    simp only at e2
    split at e2
    · rename_i us hx
      cases e2
      refine .inl (rt σ H ρ _ _ _ S e1 fun x H1 g1 S1 k1 r1 => ?_)
      have r1 : σ[i]? = some (some x) := r1
      obtain ⟨a, ea, rc⟩ := S1.obj i _ hx
      rw [r1] at ea; cases ea
      obtain ⟨vs, q1, l⟩ := rc.sq
      refine ⟨a, rfl, ⟨vs, q1⟩, q _ H1 _ g1 S1 k1 (.lst a) (fun j z => by cases z; exact hx) fun Ds H'' _ _ tst pl => ?_⟩
      obtain ⟨ws, q2, l2⟩ := (pl i rfl a r1).sq
      exact ⟨ws, q2, l2⟩
    · rename_i us hx
      cases e2
      refine .inl (rt σ H ρ _ _ _ S e1 fun x H1 g1 S1 k1 r1 => ?_)
      have r1 : σ[i]? = some (some x) := r1
      obtain ⟨a, ea, ro⟩ := S1.rol i _ hx
      rw [r1] at ea; cases ea
      obtain ⟨vs, q1, l⟩ := ro.sq
      refine ⟨a, rfl, ⟨vs, q1⟩, q _ H1 _ g1 S1 k1 (.lst a) (fun j z => nomatch z) fun Ds H'' _ keep tst _ => ?_⟩
      have ro2 : RoL X.kw H'' a ts1 := by
        obtain ⟨vs, h, r⟩ := ro
        refine ⟨vs, ?_, r.m tst⟩
        rcases h with ⟨o, h⟩ | h
        · exact .inl ⟨o, tst _ _ _ h⟩
        · exact .inr h
      obtain ⟨ws, q2, l2⟩ := ro2.sq
      exact ⟨ws, q2, l2⟩
    · cases e2
noncomputable def fItR1 (f : FE) : FI := fun ρ => (f ρ).bind fun p => (intOf p.1).bind fun n => (guardP (-(2 ^ 62) ≤ n ∧ n < 2 ^ 62)).map fun _ => ((List.range n.toNat).map fun i => PyData.int (0 + (i : Nat)), none, p.2)
noncomputable def fItR2 (f g : FE) : FI := fun ρ => (f ρ).bind fun p => (intOf p.1).bind fun i => (g p.2).bind fun q => (intOf q.1).bind fun j => (guardP (-(2 ^ 62) ≤ i ∧ i < 2 ^ 62 ∧ -(2 ^ 62) ≤ j ∧ j < 2 ^ 62)).map fun _ => ((List.range (j - i).toNat).map fun k => PyData.int (i + (k : Nat)), none, q.2)
theorem di_r1 {p : Pos} (hg : Gl X "range") (hm : X.mg "range" = none) (ha : DE X a fa) (hs : starEach [a] X.env = (false, eval a X.env) :: starEach [] X.env := by rfl) : DI X tg (.Call (.Name "range" p) [a] [] pos) (fItR1 fa) := by
  obtain ⟨t, pt, rt⟩ := ha.run
  refine ⟨_, pi_range1 hg hm (pa_cons pt pa_nil hs) hs, fun σ H ρ ts lp ρ' R S e q => ?_⟩
  simp only [fItR1, Option.bind_eq_some_iff, Option.map_eq_some_iff, guardP_some] at e
  obtain ⟨⟨h1, ρ1⟩, e1, n, e2, _, ⟨b1, b2⟩, e3⟩ := e
  cases e3
  have e2 : h1 = _ := intOf_some e2
  subst e2
  refine rt σ H ρ _ _ _ S e1 fun x H1 g1 S1 k1 r1 => ?_
  cases r1
  exact ⟨n, rfl, b1, b2, q _ H1 _ g1 S1 k1 (.rng 0 n.toNat rfl) (fun i z => nomatch z) fun _ _ _ _ _ _ => trivial⟩
theorem di_r2 {p : Pos} (hg : Gl X "range") (hm : X.mg "range" = none) (ha : DE X a fa) (hb : DE X b fb) (hs : starEach [a, b] X.env = (false, eval a X.env) :: starEach [b] X.env := by rfl) (hs2 : starEach [b] X.env = (false, eval b X.env) :: starEach [] X.env := by rfl) :
    DI X tg (.Call (.Name "range" p) [a, b] [] pos) (fItR2 fa fb) := by
  obtain ⟨t, pt, rt⟩ := ha.run
  obtain ⟨u, pu, ru⟩ := hb.run
  refine ⟨_, pi_range2 hg hm (pa_cons pt (pa_cons pu pa_nil hs2) hs) (by rw [hs, hs2]; rfl) hs2, fun σ H ρ ts lp ρ' R S e q => ?_⟩
  simp only [fItR2, Option.bind_eq_some_iff, Option.map_eq_some_iff, guardP_some] at e
  obtain ⟨⟨h1, ρ1⟩, e1, i, e2, ⟨h2, ρ2⟩, e4, j, e5, _, ⟨b1, b2, b3, b4⟩, e3⟩ := e
  cases e3
  have e2 : h1 = _ := intOf_some e2
  have e5 : h2 = _ := intOf_some e5
  subst e2 e5
  refine rt σ H ρ _ _ _ S e1 fun x H1 g1 S1 k1 r1 => ?_
  refine ru σ H1 ρ1 _ _ _ S1 e4 fun y H2 g2 S2 k2 r2 => ?_
  cases r1
  cases r2
  exact ⟨i, j, rfl, ⟨b1, b2, b3, b4⟩, q _ H2 _ (g1.trans g2) S2 (k1.trans k2) (.rng i (j - i).toNat rfl) (fun i z => nomatch z) fun _ _ _ _ _ _ => trivial⟩
end

noncomputable def fItR3 (f g h : FE) : FI := fun ρ => (f ρ).bind fun p => (intOf p.1).bind fun i => (g p.2).bind fun q => (intOf q.1).bind fun j => (h q.2).bind fun r => (intOf r.1).bind fun c => (guardP (RgC i j c (Builtin.Range.rangeSize i j c).toNat)).map fun _ => ((List.range (Builtin.Range.rangeSize i j c).toNat).map fun k => PyData.int (i + (k : Nat) * c), none, r.2)
section
variable {X : Cx} {tg a b c : Expr} {fa fb fc : FE} {pos : Pos}
theorem di_r3 {p : Pos} (hg : Gl X "range") (hm : X.mg "range" = none) (ha : DE X a fa) (hb : DE X b fb) (hc : DE X c fc) (hs : starEach [a, b, c] X.env = (false, eval a X.env) :: starEach [b, c] X.env := by rfl)
    (hs2 : starEach [b, c] X.env = (false, eval b X.env) :: starEach [c] X.env := by rfl) (hs3 : starEach [c] X.env = (false, eval c X.env) :: starEach [] X.env := by rfl) :
    DI X tg (.Call (.Name "range" p) [a, b, c] [] pos) (fItR3 fa fb fc) := by
  obtain ⟨t, pt, rt⟩ := ha.run
  obtain ⟨u, pu, ru⟩ := hb.run
  obtain ⟨v, pv, rv⟩ := hc.run
  refine ⟨_, pi_range3 hg hm (pa_cons pt (pa_cons pu (pa_cons pv pa_nil hs3) hs2) hs) hs (by rw [hs2, hs3]; rfl), fun σ H ρ ts lp ρ' R S e q => ?_⟩
  simp only [fItR3, Option.bind_eq_some_iff, Option.map_eq_some_iff, guardP_some] at e
  obtain ⟨⟨h1, ρ1⟩, e1, i, e2, ⟨h2, ρ2⟩, e4, j, e5, ⟨h3, ρ3⟩, e6, c, e7, _, hC, e3⟩ := e
  cases e3
  have e2 : h1 = _ := intOf_some e2
  have e5 : h2 = _ := intOf_some e5
  have e7 : h3 = _ := intOf_some e7
  subst e2 e5 e7
  refine rt σ H ρ _ _ _ S e1 fun x H1 g1 S1 k1 r1 => ?_
  refine ru σ H1 ρ1 _ _ _ S1 e4 fun y H2 g2 S2 k2 r2 => ?_
  refine rv σ H2 ρ2 _ _ _ S2 e6 fun z H3 g3 S3 k3 r3 => ?_
  cases r1
  cases r2
  cases r3
  exact ⟨i, j, c, _, rfl, hC, q _ H3 _ ((g1.trans g2).trans g3) S3 ((k1.trans k2).trans k3) (.rngC i c _ rfl) (fun i z => nomatch z) fun _ _ _ _ _ _ => trivial⟩
end
theorem RRs.sub {K : KW} {pn pn2 : List (Nat × Addr)} {σ : Sto} {ρ : Ev} {H H' : Hp} {r : Sl} {u : V} (r3 : RRs K pn2 σ ρ H H' r u) (sub : ∀ p ∈ pn, p ∈ pn2) : RRs K pn σ ρ H H' r u := by
  cases r with
  | dat t => exact r3
  | rol xs => exact r3
  | obj c => obtain ⟨a, e, rc, o, n⟩ := r3; exact ⟨a, e, rc, o, fun p hp => n p (sub p hp)⟩
/-! ### for -/
/-- the place of the walked list holds it still -/
def ckOf (ts : List T) : Option Nat → Ev → Prop
  | none, _ => True
  | some i, ρ => ρ[i]? = some (some (.obj (.lst ts)))
noncomputable def fForL (ck : Ev → Prop) (g : GT) (b : FS) : List T → Ev → Option Fl
  | [], ρ => (guardP (ck ρ)).map fun _ => .nx ρ
  | x :: xs, ρ => (guardP (ck ρ)).bind fun _ => (g x ρ).bind fun ρ1 => (b ρ1).bind fun o => match o with
    | .nx ρ2 => fForL ck g b xs ρ2
    | .ct ρ2 => fForL ck g b xs ρ2
    | .bk ρ2 => some (.nx ρ2)
    | .rt r ρ2 => some (.rt r ρ2)
noncomputable def fFor (it : FI) (g : GT) (b : FS) : FS := fun ρ => (it ρ).bind fun p => fForL (ckOf p.1 p.2.1) g b p.1 p.2.2
section
variable {X : Cx} {pl pl2 is : List Nat} {tg iter : Expr} {it : FI} {g : GT} {f : FS} {body : List Stmt} {pos : Pos}
theorem ds_for (hpo : PassesOwn (model X.prog X.w) X.A X.env X.xe) (hc : X.calm = true) (hi : DI X tg iter it) (hg : DG X pl2 is tg g) (hb : DSs X pl2 body f) (hpl : ∀ i ∈ pl, i ∈ pl2) (hlive : ∀ ρ ts i ρ', it ρ = some (ts, some i, ρ') → i ∈ pl2)
    (hs : ∀ x, foldedSetIterable iter X.env x = pure x := by intro _; rfl) : DS X pl (.For tg iter body [] pos) (fFor it g f) := by
  obtain ⟨wi, pi, ri⟩ := hi.run
  obtain ⟨t, pt, rt⟩ := hg.run
  obtain ⟨u, pu, ru⟩ := hb.run
  refine ⟨_, ps_for hpo hc pi pt pu hs, fun pn σ H ρ o D hp S P e q => ?_⟩
  simp only [fFor, Option.bind_eq_some_iff] at e
  obtain ⟨⟨ts, lp, ρ0⟩, e0, e⟩ := e
  refine ri σ H ρ ts lp ρ0 _ S e0 fun J H0 Ok g0 S0 k0 ok hlp stay => ?_
  have P0 := P.kp k0
  -- the pins of the loop
  obtain ⟨pn2, hp2, P2, sub, pinned⟩ : ∃ pn2 : List (Nat × Addr), (∀ p ∈ pn2, p.1 ∈ pl2) ∧ Pin pn2 σ ρ0 ∧ (∀ p ∈ pn, p ∈ pn2) ∧ (∀ i, lp = some i → ∃ a, σ[i]? = some (some (.ref a)) ∧ (i, a) ∈ pn2) := by
    cases lp with
    | none => exact ⟨pn, fun p h => hpl _ (hp p h), P0, fun _ h => h, fun i z => nomatch z⟩
    | some i =>
      obtain ⟨a, ea, _⟩ := S0.obj i _ (hlp i rfl)
      refine ⟨(i, a) :: pn, fun p h => ?_, fun p h => ?_, fun p h => List.mem_cons_of_mem _ h, fun j z => by cases z; exact ⟨a, ea, List.mem_cons_self⟩⟩
      · rcases List.mem_cons.mp h with e | h
        · subst e; exact hlive _ _ _ _ e0
        · exact hpl _ (hp p h)
      · rcases List.mem_cons.mp h with e | h
        · subst e; exact ⟨ea, _, hlp i rfl⟩
        · exact P0 p h
  have back : ∀ {σ' : Sto} {ρ' : Ev}, Pin pn2 σ' ρ' → Pin pn σ' ρ' := fun h p hp => h p (sub p hp)
  refine ⟨fun i m σ' H' => ∃ ρ', Go X.kw σ ρ0 H0 σ' ρ' H' ∧ SR X.kw H' σ' ρ' ∧ Pin pn2 σ' ρ' ∧ fForL (ckOf ts lp) g f (ts.drop i) ρ' = some o ∧ m = ts.length - i, ⟨ts.length, ρ0, .refl, S0, P2, by simpa using e, by simp⟩, ?_⟩
  rintro i m σ1 H1 ⟨ρ1, g1, S1, P1, h1, hm⟩
  have okH : ckOf ts lp ρ1 → Ok H1 := fun ck => by
    refine stay (fun _ => False) H1 (fun _ z => z.elim) (fun a o h n _ => g1.keep a o h n) g1.tst fun j hj a ha => ?_
    subst hj
    obtain ⟨b, hb, hm⟩ := pinned j rfl
    rw [ha] at hb; cases hb
    obtain ⟨hσ, _⟩ := P1 _ hm
    have ck : ρ1[j]? = some (some (.obj (.lst ts))) := ck
    obtain ⟨b, eb, rc⟩ := S1.obj j _ ck
    have hσ : σ1[j]? = some (some (.ref a)) := hσ
    rw [hσ] at eb; cases eb
    exact rc
  by_cases hi : i < ts.length
  · have ei : ts[i]? = some ts[i] := List.getElem?_eq_getElem hi
    rw [List.drop_eq_getElem_cons hi, fForL] at h1
    simp only [Option.bind_eq_some_iff, guardP_some] at h1
    obtain ⟨_, ck, ρ2, e2, o1, e3, e4⟩ := h1
    refine .inr ⟨ok.go (okH ck) ei, fun σ' H' => ∃ ρ', Go X.kw σ ρ0 H0 σ' ρ' H' ∧ SR X.kw H' σ' ρ' ∧ Pin pn2 σ' ρ' ∧ fForL (ckOf ts lp) g f (ts.drop (i + 1)) ρ' = some o, fun σ' H' ⟨ρ', a1, a2, a3, a4⟩ => ⟨ts.length - (i + 1), by omega, ρ', a1, a2, a3, a4, rfl⟩, fun x H' y => ?_⟩
    obtain ⟨rfl, rx⟩ := ok.yld (okH ck) ei y
    refine rt pn2 σ1 _ ρ1 x ts[i] ρ2 _ hp2 S1 P1 rx e2 fun σ2 g2 S2 P2' l2 _ => ?_
    have gg := g1.trans g2
    refine ru pn2 σ2 _ ρ2 o1 _ hp2 S2 P2' e3 ?_
    cases o1 with
    | nx ρ3 => exact fun σ3 H3 g3 S3 P3 => ⟨ρ3, gg.trans g3, S3, P3, e4⟩
    | ct ρ3 => exact fun σ3 H3 g3 S3 P3 => ⟨ρ3, gg.trans g3, S3, P3, e4⟩
    | bk ρ3 =>
      cases e4
      exact fun σ3 H3 g3 S3 P3 => q σ3 H3 (g0.trans (gg.trans g3)) S3 (back P3)
    | rt r ρ3 =>
      cases e4
      refine fun u σ3 H3 g3 S3 P3 r3 => q u σ3 H3 (g0.trans (gg.trans g3)) S3 (back P3) ?_
      exact ((r3.sub sub).from gg).from g0
  · have ed : ts.drop i = [] := List.drop_eq_nil_of_le (by omega)
    rw [ed, fForL] at h1
    simp only [Option.map_eq_some_iff, guardP_some] at h1
    obtain ⟨_, ck, e2⟩ := h1
    subst e2
    exact .inl ⟨ok.stop (okH ck) (by omega), q σ1 H1 (g0.trans g1) S1 (back P1)⟩
end
end PD

namespace PD
open PySem PySem.Spec PyProof.Rows L2

/-! ### one reading for all the states in which a comprehension's block may run -/
section
variable {X : Cx} {scope : Scope} {e tg iter : Expr}
abbrev Blk (X : Cx) (scope : Scope) (s : Shared) (H : Hp) (C : Addr) (cl : List (Str × Addr)) (fp : List Addr) : Cx := X.blk s H scope (compEnvC scope cl C X.env) fp
theorem de_unif {f : FE} (h : ∀ s H C cl fp, DE (Blk X scope s H C cl fp) e f) : ∃ t : TE, (∀ s H C cl fp, PE (Blk X scope s H C cl fp) e t) ∧ ∀ (σ : Sto) (H : Hp) (ρ : Ev) (h : Hd) (ρ' : Ev) (Q : VK), SR X.kw H σ ρ → f ρ = some (h, ρ') →
    (∀ u H', Go X.kw σ ρ H σ ρ' H' → SR X.kw H' σ ρ' → Kp ρ ρ' → HR X.kw H H' σ ρ' h u → Q u H') → t σ H Q := by
  refine ⟨fun σ H Q => ∀ s' H' C cl fp, (h s' H' C cl fp).run.choose σ H Q, fun s' H' C cl fp => ⟨fun pins s σ H Q I ht => (h s' H' C cl fp).run.choose_spec.1.run pins s σ H Q I (ht s' H' C cl fp)⟩, fun σ H ρ hd ρ' Q S e q s' H' C cl fp => ?_⟩
  exact (h s' H' C cl fp).run.choose_spec.2 σ H ρ hd ρ' Q S e q
/-- a clause's tests -/
structure DTs (X : Cx) (ifs : List Expr) (f : FB) : Prop where
  run : ∃ t : TT, PTs X ifs t ∧ ∀ (σ : Sto) (H : Hp) (ρ : Ev) (b : Bool) (ρ' : Ev) (Q : Bool → Hp → Prop), SR X.kw H σ ρ → f ρ = some (b, ρ') →
    (∀ H', Go X.kw σ ρ H σ ρ' H' → SR X.kw H' σ ρ' → Kp ρ ρ' → Q b H') → t σ H Q
def fYes : FB := fun ρ => some (true, ρ)
theorem dts_nil : DTs X [] fYes := by
  refine ⟨_, pts_nil, fun σ H ρ b ρ' Q S e q => ?_⟩
  cases e
  exact q H .refl S .refl
theorem dts_one {c : Expr} {f : FB} (h : DT X c f) : DTs X [c] f := let ⟨t, p, r⟩ := h.run; ⟨t, pts_one p, r⟩
theorem dts_unif {ifs : List Expr} {f : FB} (h : ∀ s H C cl fp, DTs (Blk X scope s H C cl fp) ifs f) : ∃ t : TT, (∀ s H C cl fp, PTs (Blk X scope s H C cl fp) ifs t) ∧ ∀ (σ : Sto) (H : Hp) (ρ : Ev) (b : Bool) (ρ' : Ev) (Q : Bool → Hp → Prop), SR X.kw H σ ρ → f ρ = some (b, ρ') →
    (∀ H', Go X.kw σ ρ H σ ρ' H' → SR X.kw H' σ ρ' → Kp ρ ρ' → Q b H') → t σ H Q := by
  refine ⟨fun σ H Q => ∀ s' H' C cl fp, (h s' H' C cl fp).run.choose σ H Q, fun s' H' C cl fp => ⟨fun pins s σ H Q I ht => (h s' H' C cl fp).run.choose_spec.1.run pins s σ H Q I (ht s' H' C cl fp)⟩, fun σ H ρ hd ρ' Q S e q s' H' C cl fp => ?_⟩
  exact (h s' H' C cl fp).run.choose_spec.2 σ H ρ hd ρ' Q S e q
theorem dg_unif {is : List Nat} {g : GT} (h : ∀ s H C cl fp, DG (Blk X scope s H C cl fp) [] is tg g) : ∃ t : TG, (∀ s H C cl fp, PG (Blk X scope s H C cl fp) tg t) ∧ ∀ (σ : Sto) (H : Hp) (ρ : Ev) (v : V) (d : T) (ρ' : Ev) (Q : L2.St → Hp → Prop), SR X.kw H σ ρ → Rp X.kw H v d → g d ρ = some ρ' →
    (∀ σ', Go X.kw σ ρ H σ' ρ' H → SR X.kw H σ' ρ' → σ'.length = σ.length → (∀ (j : Nat), j ∉ is → σ'[j]? = σ[j]?) → Q σ' H) → t v σ H Q := by
  refine ⟨fun v σ H Q => ∀ s' H' C cl fp, (h s' H' C cl fp).run.choose v σ H Q, fun s' H' C cl fp => ⟨fun pins s σ H v u Q I r ht => (h s' H' C cl fp).run.choose_spec.1.run pins s σ H v u Q I r (ht s' H' C cl fp)⟩, fun σ H ρ v d ρ' Q S r e q s' H' C cl fp => ?_⟩
  exact (h s' H' C cl fp).run.choose_spec.2 [] σ H ρ v d ρ' Q (fun p hp => by cases hp) S (fun p hp => by cases hp) r e fun σ' g S' _ l o => q σ' g S' l o
end

/-! ### slots forgotten, slots taken up again -/
def wipeE (ρ : Ev) : List Nat → Ev
  | [] => ρ
  | v :: vs => (wipeE ρ vs).set v none
theorem wipeE_len (ρ : Ev) : ∀ vs : List Nat, (wipeE ρ vs).length = ρ.length
  | [] => rfl
  | v :: vs => by rw [wipeE, List.length_set, wipeE_len ρ vs]
theorem wipeE_out {ρ : Ev} {j : Nat} : ∀ {vs : List Nat}, j ∉ vs → (wipeE ρ vs)[j]? = ρ[j]?
  | [], _ => rfl
  | v :: vs, h => by
    simp only [List.mem_cons, not_or] at h
    rw [wipeE, List.getElem?_set_ne (Ne.symm h.1), wipeE_out h.2]
theorem wipeE_in {ρ : Ev} {j : Nat} : ∀ {vs : List Nat}, j ∈ vs → ∀ s, (wipeE ρ vs)[j]? ≠ some (some s)
  | v :: vs, h, s, e => by
    rw [wipeE] at e
    by_cases hj : v = j
    · subst hj
      by_cases hl : v < (wipeE ρ vs).length
      · rw [List.getElem?_set_self hl] at e; cases e
      · rw [List.getElem?_eq_none (by rw [List.length_set]; omega)] at e; cases e
    · rw [List.getElem?_set_ne hj] at e
      rcases List.mem_cons.mp h with z | z
      · exact hj z.symm
      · exact wipeE_in z s e
theorem wipe_out {σ : Sto} {j : Nat} : ∀ {vs : List Nat}, j ∉ vs → (wipe σ vs)[j]? = σ[j]?
  | [], _ => rfl
  | v :: vs, h => by
    simp only [List.mem_cons, not_or] at h
    rw [wipe, List.getElem?_set_ne (Ne.symm h.1), wipe_out h.2]
theorem wipe_same {σ σ' : Sto} {vs is : List Nat} (hl : σ'.length = σ.length) (o : ∀ (j : Nat), j ∉ is → σ'[j]? = σ[j]?) (hs : ∀ j ∈ is, j ∈ vs) : wipe σ' vs = wipe σ vs := by
  apply List.ext_getElem?
  intro j
  by_cases h : j ∈ vs
  · have z : ∀ (τ : Sto) (vs : List Nat), j ∈ vs → (wipe τ vs)[j]? = if j < τ.length then some none else none := by
      intro τ vs
      induction vs with
      | nil => intro h; cases h
      | cons v vs ih =>
        intro h
        rw [wipe]
        by_cases hj : v = j
        · subst hj
          by_cases hl : v < τ.length
          · rw [List.getElem?_set_self (by rw [wipe_length]; exact hl), if_pos hl]
          · rw [List.getElem?_eq_none (by rw [List.length_set, wipe_length]; omega), if_neg hl]
        · rw [List.getElem?_set_ne hj]
          exact ih ((List.mem_cons.mp h).resolve_left (Ne.symm hj))
    rw [z σ' vs h, z σ vs h, hl]
  · rw [wipe_out h, wipe_out h, o j fun z => h (hs j z)]
def backE (ρ1 ρ' : Ev) : List Nat → Ev
  | [] => ρ'
  | v :: vs => (backE ρ1 ρ' vs).set v ((ρ1[v]?).getD none)
theorem backE_len (ρ1 ρ' : Ev) : ∀ vs : List Nat, (backE ρ1 ρ' vs).length = ρ'.length
  | [] => rfl
  | v :: vs => by rw [backE, List.length_set, backE_len ρ1 ρ' vs]
theorem backE_out {ρ1 ρ' : Ev} {j : Nat} : ∀ {vs : List Nat}, j ∉ vs → (backE ρ1 ρ' vs)[j]? = ρ'[j]?
  | [], _ => rfl
  | v :: vs, h => by
    simp only [List.mem_cons, not_or] at h
    rw [backE, List.getElem?_set_ne (Ne.symm h.1), backE_out h.2]
theorem backE_in {ρ1 ρ' : Ev} {j : Nat} {s : Sl} : ∀ {vs : List Nat}, j ∈ vs → (backE ρ1 ρ' vs)[j]? = some (some s) → ρ1[j]? = some (some s)
  | v :: vs, h, e => by
    rw [backE] at e
    by_cases hj : v = j
    · subst hj
      by_cases hl : v < (backE ρ1 ρ' vs).length
      · rw [List.getElem?_set_self hl] at e
        cases q : ρ1[v]? with
        | none => rw [q] at e; cases e
        | some o => rw [q] at e; exact e
      · rw [List.getElem?_eq_none (by rw [List.length_set]; omega)] at e; cases e
    · rw [List.getElem?_set_ne hj] at e
      exact backE_in ((List.mem_cons.mp h).resolve_left (Ne.symm hj)) e
theorem backE_of {ρ1 ρ' : Ev} {j : Nat} {s : Sl} (hl : ρ1.length = ρ'.length) : ∀ {vs : List Nat}, j ∈ vs → ρ1[j]? = some (some s) → (backE ρ1 ρ' vs)[j]? = some (some s)
  | v :: vs, h, e => by
    rw [backE]
    by_cases hj : v = j
    · subst hj
      have := (List.getElem?_eq_some_iff.mp e).1
      rw [List.getElem?_set_self (by rw [backE_len]; omega), e]
      rfl
    · rw [List.getElem?_set_ne hj]
      exact backE_of hl ((List.mem_cons.mp h).resolve_left (Ne.symm hj)) e
section
variable {K : KW} {H H1 : Hp} {σ : Sto} {ρ ρ' : Ev} {vs : List Nat}
theorem wipe_get {j : Nat} {s : Sl} (h : (wipeE ρ vs)[j]? = some (some s)) : j ∉ vs ∧ ρ[j]? = some (some s) := by
  have hj : j ∉ vs := fun z => wipeE_in z s h
  exact ⟨hj, by rw [wipeE_out hj] at h; exact h⟩
theorem SR.wipe (S : SR K H σ ρ) : SR K H (wipe σ vs) (wipeE ρ vs) := by
  refine ⟨by rw [wipeE_len, wipe_length]; exact S.len, fun j t h => ?_, fun j xs h => ?_, fun j c h => ?_, fun i j c d a h1 h2 h3 h4 => ?_⟩
  · obtain ⟨hj, h⟩ := wipe_get h
    rw [wipe_out hj]; exact S.dat j t h
  · obtain ⟨hj, h⟩ := wipe_get h
    rw [wipe_out hj]; exact S.rol j xs h
  · obtain ⟨hj, h⟩ := wipe_get h
    rw [wipe_out hj]; exact S.obj j c h
  · obtain ⟨hi, h1⟩ := wipe_get h1
    obtain ⟨hj, h2⟩ := wipe_get h2
    rw [wipe_out hi] at h3
    rw [wipe_out hj] at h4
    exact S.sep i j c d a h1 h2 h3 h4
theorem Own.wipe {a : Addr} (h : Own (L2.wipe σ vs) (wipeE ρ vs) a) : Own σ ρ a := by
  obtain ⟨j, c, h1, h2⟩ := h
  obtain ⟨hj, h1⟩ := wipe_get h1
  rw [wipe_out hj] at h2
  exact ⟨j, c, h1, h2⟩
theorem Go.wipe : Go K σ ρ H (L2.wipe σ vs) (wipeE ρ vs) H := ⟨fun _ _ h _ => h, fun _ h => .inl h.wipe, .refl K H, fun _ h => h⟩
/-- behind a block: the outer slots again -/
theorem back_SR {Hs : Hp} {ρs : Ev} (S : SR K H σ ρ) (S1 : SR K H1 (L2.wipe σ vs) ρ') (g0 : Go K σ ρs Hs σ ρ H) (g : Go K (L2.wipe σ vs) (wipeE ρ vs) H (L2.wipe σ vs) ρ' H1) (k : Kp (wipeE ρ vs) ρ') : SR K H1 σ (backE ρ ρ' vs) ∧ Go K σ ρs Hs σ (backE ρ ρ' vs) H1 ∧ Kp ρ (backE ρ ρ' vs) ∧
    ∀ a, H a = none → ¬ Own (L2.wipe σ vs) ρ' a → ¬ Own σ (backE ρ ρ' vs) a := by
  have len : ρ.length = ρ'.length := by
    have h1 := S.len
    have h2 := S1.len
    rw [wipe_length] at h2
    omega
  -- a slot of the outside keeps its object
  have out : ∀ (j : Nat) (c : C) (a : Addr), j ∈ vs → ρ[j]? = some (some (.obj c)) → σ[j]? = some (some (.ref a)) → ∀ o, H a = some o → H1 a = some o := fun j c a hj h1 h2 o h => by
    refine g.keep a o h fun ⟨k, d, e1, e2⟩ => ?_
    obtain ⟨hk, e1⟩ := wipe_get e1
    rw [wipe_out hk] at e2
    have := S.sep j k c d a h1 e1 h2 e2
    subst this
    exact hk hj
  have inn : ∀ (j : Nat) (s : Sl), j ∉ vs → (backE ρ ρ' vs)[j]? = some (some s) → ρ'[j]? = some (some s) ∧ (L2.wipe σ vs)[j]? = σ[j]? := fun j s hj h => by
    rw [backE_out hj] at h
    exact ⟨h, wipe_out hj⟩
  have own : ∀ a, Own σ (backE ρ ρ' vs) a → Own σ ρ a ∨ (Own (L2.wipe σ vs) ρ' a) := fun a ⟨j, c, h1, h2⟩ => by
    by_cases hj : j ∈ vs
    · exact .inl ⟨j, c, backE_in hj h1, h2⟩
    · obtain ⟨q1, q2⟩ := inn j _ hj h1
      exact .inr ⟨j, c, q1, by rw [q2]; exact h2⟩
  refine ⟨⟨by rw [backE_len, ← len]; exact S.len, fun j t h => ?_, fun j xs h => ?_, fun j c h => ?_, fun i j c d a h1 h2 h3 h4 => ?_⟩, ⟨fun a o h n => ?_, fun a h => ?_, g0.tst.trans g.tst, fun a h => g0.dom a (g.dom a h)⟩, fun j c h => ?_, fun a hn no ho => ?_⟩
  · by_cases hj : j ∈ vs
    · obtain ⟨v, e, r⟩ := S.dat j t (backE_in hj h)
      exact ⟨v, e, r.m g.tst⟩
    · obtain ⟨q1, q2⟩ := inn j _ hj h
      rw [← q2]; exact S1.dat j t q1
  · by_cases hj : j ∈ vs
    · obtain ⟨a, e, r⟩ := S.rol j xs (backE_in hj h)
      exact ⟨a, e, r.m g.tst⟩
    · obtain ⟨q1, q2⟩ := inn j _ hj h
      rw [← q2]; exact S1.rol j xs q1
  · by_cases hj : j ∈ vs
    · have h := backE_in hj h
      obtain ⟨a, e, r⟩ := S.obj j c h
      exact ⟨a, e, r.m g.tst fun o q => out j c a hj h e o q⟩
    · obtain ⟨q1, q2⟩ := inn j _ hj h
      rw [← q2]; exact S1.obj j c q1
  · have mix : ∀ (i j : Nat) (c d : C), i ∈ vs → j ∉ vs → (backE ρ ρ' vs)[i]? = some (some (.obj c)) → (backE ρ ρ' vs)[j]? = some (some (.obj d)) → σ[i]? = some (some (.ref a)) → σ[j]? = some (some (.ref a)) → False := fun i j c d hi hj h1 h2 h3 h4 => by
      have h1 := backE_in hi h1
      obtain ⟨q1, q2⟩ := inn j _ hj h2
      rcases g.own a ⟨j, d, q1, by rw [q2]; exact h4⟩ with ⟨k, c', z1, z2⟩ | z
      · obtain ⟨hk, z1⟩ := wipe_get z1
        rw [wipe_out hk] at z2
        have := S.sep i k c c' a h1 z1 h3 z2
        subst this
        exact hk hi
      · obtain ⟨us, z', _⟩ := S.own_some ⟨i, c, h1, h3⟩
        rw [z] at z'; cases z'
    by_cases hi : i ∈ vs
    · by_cases hj : j ∈ vs
      · exact S.sep i j c d a (backE_in hi h1) (backE_in hj h2) h3 h4
      · exact (mix i j c d hi hj h1 h2 h3 h4).elim
    · by_cases hj : j ∈ vs
      · exact (mix j i d c hj hi h2 h1 h4 h3).elim
      · obtain ⟨q1, q2⟩ := inn i _ hi h1
        obtain ⟨q3, q4⟩ := inn j _ hj h2
        exact S1.sep i j c d a q1 q3 (by rw [q2]; exact h3) (by rw [q4]; exact h4)
  · refine g.keep a o (g0.keep a o h n) fun z => ?_
    rcases g0.own a z.wipe with z | z
    · exact n z
    · rw [h] at z; cases z
  · rcases own a h with z | z
    · exact g0.own a z
    · rcases g.own a z with z | z
      · exact g0.own a z.wipe
      · exact .inr (g0.dom a z)
  · by_cases hj : j ∈ vs
    · exact ⟨c, backE_of len hj h⟩
    · obtain ⟨c', q⟩ := k j c (by rw [wipeE_out hj]; exact h)
      exact ⟨c', by rw [backE_out hj]; exact q⟩
  · rcases own a ho with z | z
    · exact S.not_own hn z
    · exact no z
end

/-! ### comprehensions -/
noncomputable def fLcL (ck : Ev → Prop) (g : GT) (tt : FB) (te : FE) (vs : List Nat) : List T → Ev → Option (List T × Ev)
  | [], ρ => (guardP (ck ρ)).map fun _ => ([], ρ)
  | x :: xs, ρ => (guardP (ck ρ)).bind fun _ => (g x ρ).bind fun ρ1 => (tt ρ1).bind fun p => if p.1 = true then (te p.2).bind fun q => match q.1 with
      | .dat t => (fLcL ck g tt te vs xs (wipeE q.2 vs)).map fun r => (t :: r.1, r.2)
      | _ => none
    else fLcL ck g tt te vs xs (wipeE p.2 vs)
noncomputable def fLc (it : FI) (g : GT) (tt : FB) (te : FE) (vs : List Nat) : FE := fun ρ => (it ρ).bind fun p => (guardP (p.1.length ≤ sizeLine)).bind fun _ => (fLcL (ckOf p.1 p.2.1) g tt te vs p.1 (wipeE p.2.2 vs)).map fun r => (.tmp (.lst r.1), backE p.2.2 r.2 vs)
/-- a target stores its slots alone -/
def GOut (g : GT) (is : List Nat) : Prop := ∀ d ρ ρ', g d ρ = some ρ' → ∀ (j : Nat), j ∉ is → ρ'[j]? = ρ[j]?
def GOuts (g : List T → Ev → Option Ev) (is : List Nat) : Prop := ∀ d ρ ρ', g d ρ = some ρ' → ∀ (j : Nat), j ∉ is → ρ'[j]? = ρ[j]?
theorem go_name {chk : Bool} {i : Nat} : GOut (tgN chk i) [i] := fun d ρ ρ' e j hj => by
  have hj : j ≠ i := fun z => hj (by rw [z]; exact List.mem_cons_self)
  unfold tgN at e
  split at e
  · rcases stH_eq e with ⟨t, _, rfl⟩ | ⟨c, _, rfl⟩ <;> exact List.getElem?_set_ne (Ne.symm hj)
  · cases e
theorem go_nil : GOuts tgNil [] := fun d ρ ρ' e j _ => by
  unfold tgNil at e
  split at e
  · cases e; rfl
  · cases e
theorem go_cons {g : GT} {gs : List T → Ev → Option Ev} {is js : List Nat} (h1 : GOut g is) (h2 : GOuts gs js) : GOuts (tgCons g gs) (is ++ js) := fun d ρ ρ' e j hj => by
  unfold tgCons at e
  split at e
  · simp only [Option.bind_eq_some_iff] at e
    obtain ⟨ρ1, e1, e2⟩ := e
    rw [List.mem_append, not_or] at hj
    rw [h2 _ _ _ e2 j hj.2, h1 _ _ _ e1 j hj.1]
  · cases e
theorem go_tup {gs : List T → Ev → Option Ev} {is : List Nat} (h : GOuts gs is) : GOut (tgTup gs) is := fun d ρ ρ' e j hj => by
  unfold tgTup at e
  split at e
  · exact h _ _ _ e j hj
  · cases e
section
variable {X : Cx} {elt tg iter : Expr} {ifs : List Expr} {scope : Scope} {own : List (Str × Nat)} {pos : Pos} {it : FI} {g : GT} {tt : FB} {te : FE} {is : List Nat}
theorem lc_core' {wi : TI} {tG : TG} {tT : TT} {tE : TE} {vs : List Nat} (hsub : ∀ j ∈ is, j ∈ vs)
    (ri : ∀ (σ : Sto) (H : Hp) (ρ : Ev) (ts : List T) (lp : Option Nat) (ρ' : Ev) (R : It → Hp → Prop), SR X.kw H σ ρ → it ρ = some (ts, lp, ρ') →
      (∀ J H' Ok, Go X.kw σ ρ H σ ρ' H' → SR X.kw H' σ ρ' → Kp ρ ρ' → ItOk X.kw ts J Ok → (∀ i, lp = some i → ρ'[i]? = some (some (.obj (.lst ts)))) →
        (∀ (Ds : Addr → Prop) H'', (∀ a, Ds a → H a ≠ none) → (∀ a o, H' a = some o → ¬ Own σ ρ' a → ¬ Ds a → H'' a = some o) → TSt X.kw H' H'' → (∀ i, lp = some i → ∀ a, σ[i]? = some (some (.ref a)) → RpC X.kw H'' a (.lst ts)) → Ok H'') → R J H') → wi σ H R)
    (go_ : ∀ d ρ ρ', g d ρ = some ρ' → ∀ (j : Nat), j ∉ is → ρ'[j]? = ρ[j]?)
    (rg : ∀ (σ : Sto) (H : Hp) (ρ : Ev) (v : V) (d : T) (ρ' : Ev) (Q : L2.St → Hp → Prop), SR X.kw H σ ρ → Rp X.kw H v d → g d ρ = some ρ' →
      (∀ σ', Go X.kw σ ρ H σ' ρ' H → SR X.kw H σ' ρ' → σ'.length = σ.length → (∀ (j : Nat), j ∉ is → σ'[j]? = σ[j]?) → Q σ' H) → tG v σ H Q)
    (rt : ∀ (σ : Sto) (H : Hp) (ρ : Ev) (b : Bool) (ρ' : Ev) (Q : Bool → Hp → Prop), SR X.kw H σ ρ → tt ρ = some (b, ρ') → (∀ H', Go X.kw σ ρ H σ ρ' H' → SR X.kw H' σ ρ' → Kp ρ ρ' → Q b H') → tT σ H Q)
    (re : ∀ (σ : Sto) (H : Hp) (ρ : Ev) (h : Hd) (ρ' : Ev) (Q : VK), SR X.kw H σ ρ → te ρ = some (h, ρ') → (∀ u H', Go X.kw σ ρ H σ ρ' H' → SR X.kw H' σ ρ' → Kp ρ ρ' → HR X.kw H H' σ ρ' h u → Q u H') → tE σ H Q)
    (σ : Sto) (H : Hp) (ρ : Ev) (h : Hd) (ρ' : Ev) (Q : VK) (S : SR X.kw H σ ρ) (e : fLc it g tt te vs ρ = some (h, ρ'))
    (q : ∀ u H', Go X.kw σ ρ H σ ρ' H' → SR X.kw H' σ ρ' → Kp ρ ρ' → HR X.kw H H' σ ρ' h u → Q u H') : tLc wi tG tT tE vs σ H Q := by
  simp only [fLc, Option.bind_eq_some_iff, Option.map_eq_some_iff, guardP_some] at e
  obtain ⟨⟨ts, lp, ρ1⟩, e0, _, hz, ⟨out, ρo⟩, e1, e2⟩ := e
  cases e2
  refine ri σ H ρ ts lp ρ1 _ S e0 fun J H1 Ok g1 S1 k1 ok hlp stay => fun D nD => ?_
  have Sw : SR X.kw H1 (wipe σ vs) (wipeE ρ1 vs) := S1.wipe
  have noD0 : ¬ Own (wipe σ vs) (wipeE ρ1 vs) D := Sw.not_own nD
  refine ⟨fun i m H' => ∃ (ρ' : Ev) (us : List V) (acc : List T) (rest : List T), Go X.kw (wipe σ vs) (wipeE ρ1 vs) H1 (wipe σ vs) ρ' H' ∧ SR X.kw H' (wipe σ vs) ρ' ∧ Kp (wipeE ρ1 vs) ρ' ∧ H' D = some (.lst us) ∧ RpL X.kw H' us acc ∧ acc.length ≤ i ∧ ¬ Own (wipe σ vs) ρ' D ∧
    fLcL (ckOf ts lp) g tt te vs (ts.drop i) ρ' = some (rest, ρo) ∧ acc ++ rest = out ∧ m = ts.length - i,
    ⟨ts.length, wipeE ρ1 vs, [], [], out, .new nD, Sw.new nD, .refl, upd_same, .nil, Nat.zero_le _, noD0, by simpa using e1, rfl, by simp⟩, ?_⟩
  rintro i m H2 ⟨ρ2, us, acc, rest, gw, S2, kw, hD, l, hacc, noD, e3, e4, hm⟩
  have okH : ckOf ts lp ρ2 → Ok H2 := fun ck => by
    refine stay (fun _ => False) H2 (fun _ z => z.elim) (fun a o ha n _ => gw.keep a o ha fun z => n z.wipe) gw.tst fun j hj a ha => ?_
    subst hj
    have ck : ρ2[j]? = some (some (.obj (.lst ts))) := ck
    obtain ⟨b, eb, rc⟩ := S2.obj j _ ck
    have hjv : j ∉ vs := fun z => by
      have := wipe_some (σ := σ) (vs := vs) eb
      exact this.2 z
    rw [wipe_out hjv, ha] at eb
    cases eb
    exact rc
  by_cases hi : i < ts.length
  · have ei : ts[i]? = some ts[i] := List.getElem?_eq_getElem hi
    rw [List.drop_eq_getElem_cons hi, fLcL] at e3
    simp only [Option.bind_eq_some_iff, guardP_some] at e3
    obtain ⟨_, ck, ρ3, e5, ⟨b, ρ4⟩, e6, e7⟩ := e3
    refine .inr ⟨ok.go (okH ck) ei, fun H' => ∃ (ρ' : Ev) (us : List V) (acc : List T) (rest : List T), Go X.kw (wipe σ vs) (wipeE ρ1 vs) H1 (wipe σ vs) ρ' H' ∧ SR X.kw H' (wipe σ vs) ρ' ∧ Kp (wipeE ρ1 vs) ρ' ∧ H' D = some (.lst us) ∧ RpL X.kw H' us acc ∧ acc.length ≤ i + 1 ∧ ¬ Own (wipe σ vs) ρ' D ∧
      fLcL (ckOf ts lp) g tt te vs (ts.drop (i + 1)) ρ' = some (rest, ρo) ∧ acc ++ rest = out,
      fun H' ⟨ρ', us, acc, rest, a1, a2, a3, a4, a5, a6, a7, a8, a9⟩ => ⟨ts.length - (i + 1), by omega, ρ', us, acc, rest, a1, a2, a3, a4, a5, a6, a7, a8, a9, rfl⟩, fun x H' y => ?_⟩
    obtain ⟨eH, rx⟩ := ok.yld (okH ck) ei y
    rw [eH]
    refine rg (wipe σ vs) H2 ρ2 x ts[i] ρ3 _ S2 rx e5 fun σ3 g3 S3 l3 o3 => ?_
    have same : wipe σ3 vs = wipe σ vs := by
      have := wipe_same (vs := vs) l3 o3 hsub
      rw [this]
      exact wipe_same (is := vs) (by rw [wipe_length]) (fun j hj => wipe_out hj) (fun _ h => h)
    refine ⟨same, ?_⟩
    refine rt σ3 H2 ρ3 b ρ4 _ S3 e6 fun H3 g4 S4 k4 => ?_
    have keepD : ∀ {σ' : Sto} {ρ' : Ev} {H' : Hp}, Go X.kw (wipe σ vs) ρ2 H2 σ' ρ' H' → H' D = some (.lst us) ∧ ¬ Own σ' ρ' D := fun g => by
      refine ⟨g.keep D _ hD noD, fun z => ?_⟩
      rcases g.own D z with z | z
      · exact noD z
      · rw [hD] at z; cases z
    have kk3 : ∀ {ρ'' : Ev}, Kp ρ3 ρ'' → Kp (wipeE ρ1 vs) (wipeE ρ'' vs) := fun {ρ''} k j c hj => by
      obtain ⟨hv, hj'⟩ := wipe_get hj
      obtain ⟨c1, h1⟩ := kw j c hj
      have h2 : ρ3[j]? = some (some (.obj c1)) := by rw [go_ _ _ _ e5 j fun z => hv (hsub j z)]; exact h1
      obtain ⟨c2, h3⟩ := k j c1 h2
      exact ⟨c2, by rw [wipeE_out hv]; exact h3⟩
    cases b with
    | false =>
      simp only [Bool.false_eq_true, if_false] at e7 ⊢
      have gg := (g3.trans g4)
      obtain ⟨d1, d2⟩ := keepD gg
      have gw' : Go X.kw (wipe σ vs) (wipeE ρ1 vs) H1 (wipe σ vs) (wipeE ρ4 vs) H3 := by
        have := (gw.trans gg).trans (Go.wipe (vs := vs))
        rw [same] at this
        exact this
      refine ⟨wipeE ρ4 vs, us, acc, rest, gw', ?_, kk3 k4, d1, l.m gg.tst, by omega, ?_, e7, e4⟩
      · have := S4.wipe (vs := vs)
        rw [same] at this
        exact this
      · intro z
        rw [← same] at z
        exact d2 z.wipe
    | true =>
      simp only [if_true, Option.bind_eq_some_iff] at e7 ⊢
      obtain ⟨⟨h5, ρ5⟩, e8, e9⟩ := e7
      refine re σ3 H3 ρ4 h5 ρ5 _ S4 e8 fun u H4 g5 S5 k5 r5 => ?_
      cases h5 with
      | tmp c => cases e9
      | plc j => cases e9
      | dat t =>
        simp only [Option.map_eq_some_iff] at e9
        obtain ⟨⟨rest', ρr⟩, e10, e11⟩ := e9
        cases e11
        have gg := (g3.trans g4).trans g5
        obtain ⟨d1, d2⟩ := keepD gg
        have noW : ¬ Own (wipe σ vs) (wipeE ρ5 vs) D := fun z => by
          rw [← same] at z
          exact d2 z.wipe
        have gw' : Go X.kw (wipe σ vs) (wipeE ρ1 vs) H1 (wipe σ vs) (wipeE ρ5 vs) H4 := by
          have := (gw.trans gg).trans (Go.wipe (vs := vs))
          rw [same] at this
          exact this
        have Sw5 : SR X.kw H4 (wipe σ vs) (wipeE ρ5 vs) := by
          have := S5.wipe (vs := vs)
          rw [same] at this
          exact this
        refine ⟨us, d1, ?_, wipeE ρ5 vs, us ++ [u], acc ++ [t], rest', ⟨fun a o ha n => ?_, gw'.own, gw'.tst.trans (tst_lst d1), fun a ha => gw'.dom a (upd_none ha)⟩, Sw5.aside d1 noW, kk3 (k4.trans k5), upd_same, ?_, by rw [List.length_append]; simp; omega, noW, e10, by rw [List.append_assoc]; exact e4⟩
        · have hz' : ts.length ≤ sizeLine := hz
          rw [l.length]
          omega
        · have : a ≠ D := by rintro rfl; rw [nD] at ha; cases ha
          rw [upd_ne this]
          exact gw'.keep a o ha n
        · exact ((l.m gg.tst).append (.one r5)).m (tst_lst d1)
  · have ed : ts.drop i = [] := List.drop_eq_nil_of_le (by omega)
    rw [ed, fLcL] at e3
    simp only [Option.map_eq_some_iff, guardP_some] at e3
    obtain ⟨_, ck, e5⟩ := e3
    cases e5
    rw [List.append_nil] at e4
    subst e4
    refine .inl ⟨ok.stop (okH ck) (by omega), ?_⟩
    obtain ⟨b1, b2, b3, b4⟩ := back_SR S1 S2 g1 gw kw
    exact q (.ref D) H2 b2 b1 (k1.trans b3) ⟨D, rfl, ⟨us, hD, l⟩, g1.dom D nD, b4 D nD noD⟩
theorem de_lc (hc : X.calm = true) (hN : X.N.Nodup) (hi : DI X tg iter it) (ok : BlkOk X.N X.env.scope scope own) (hsub : ∀ j ∈ is, j ∈ own.map (·.2)) (hout : GOut g is)
    (hg : ∀ (s : Shared) (H : Hp) (C : Addr) (cl : List (Str × Addr)) (fp : List Addr), DG (X.blk s H scope (compEnvC scope cl C X.env) fp) [] is tg g)
    (ht : ∀ (s : Shared) (H : Hp) (C : Addr) (cl : List (Str × Addr)) (fp : List Addr), DTs (X.blk s H scope (compEnvC scope cl C X.env) fp) ifs tt)
    (he : ∀ (s : Shared) (H : Hp) (C : Addr) (cl : List (Str × Addr)) (fp : List Addr), DE (X.blk s H scope (compEnvC scope cl C X.env) fp) elt te) (hs : ∀ x, foldedSetIterable iter X.env x = pure x := by intro _; rfl) :
    DE X (.ListComp elt [⟨tg, iter, ifs, 0⟩] scope pos) (fLc it g tt te (own.map (·.2))) := by
  obtain ⟨wi, pi, ri⟩ := hi.run
  obtain ⟨tG, pG, rG⟩ := dg_unif hg
  obtain ⟨tT, pT, rT⟩ := dts_unif ht
  obtain ⟨tE, pE, rE⟩ := de_unif he
  exact ⟨_, pe_lc hc hN pi ok pG pT pE hs, fun σ H ρ h ρ' Q S e q => lc_core' hsub ri hout rG rT rE σ H ρ h ρ' Q S e q⟩
/-- x = [..], on one line, x a plain local -/
theorem ds_setLc {pl : List Nat} {chk : Bool} {i : Nat} {y : Str} {py spos : Pos} (hc : X.calm = true) (hN : X.N.Nodup) (hy : X.N[i]? = some y) (hyl : X.env.scope.names.lookup y = some .local)
    (hsw : swapsWith (.ListComp elt [⟨tg, iter, ifs, 0⟩] scope pos) (some (.Name y py)) spos.line X.env = pure true) (hi : DI X tg iter it) (ok : BlkOk X.N X.env.scope scope own) (hsub : ∀ j ∈ is, j ∈ own.map (·.2)) (hout : GOut g is)
    (hg : ∀ (s : Shared) (H : Hp) (C : Addr) (cl : List (Str × Addr)) (fp : List Addr), DG (X.blk s H scope (compEnvC scope cl C X.env) fp) [] is tg g)
    (ht : ∀ (s : Shared) (H : Hp) (C : Addr) (cl : List (Str × Addr)) (fp : List Addr), DTs (X.blk s H scope (compEnvC scope cl C X.env) fp) ifs tt)
    (he : ∀ (s : Shared) (H : Hp) (C : Addr) (cl : List (Str × Addr)) (fp : List Addr), DE (X.blk s H scope (compEnvC scope cl C X.env) fp) elt te) (hck : chk = false → i ∉ pl := by decide) (hs : ∀ x, foldedSetIterable iter X.env x = pure x := by intro _; rfl) :
    DS X pl (.Assign [.Name y py] (.ListComp elt [⟨tg, iter, ifs, 0⟩] scope pos) spos) (fSet chk i (fLc it g tt te (own.map (·.2)))) := by
  obtain ⟨wi, pi, ri⟩ := hi.run
  obtain ⟨tG, pG, rG⟩ := dg_unif hg
  obtain ⟨tT, pT, rT⟩ := dts_unif ht
  obtain ⟨tE, pE, rE⟩ := de_unif he
  refine ⟨_, ps_setLc hc hN hy hyl hsw pi ok pG pT pE hs, fun pn σ H ρ o D hp S P e q => ?_⟩
  simp only [fSet, Option.bind_eq_some_iff] at e
  obtain ⟨⟨h1, ρ1⟩, e1, e2⟩ := e
  split at e2
  · rename_i hl
    simp only [Option.map_eq_some_iff] at e2
    obtain ⟨ρ2, e3, e4⟩ := e2
    subst e4
    refine lc_core' hsub ri hout rG rT rE σ H ρ h1 ρ1 _ S e1 fun u H1 g1 S1 k1 r1 => ?_
    obtain ⟨a1, a2, a3⟩ := stH_SR S1 g1 (P.kp k1) hp hck hl r1 e3
    exact q _ H1 a2 a1 a3
  · cases e2
end
end PD

namespace PD
open PySem PySem.Spec PyProof.Rows L2

/-! ### a def by its body -/
/-- what the owned arguments hold at the end -/
def outs : List Sl → Ev → Option (List C)
  | [], _ => some []
  | .obj _ :: as, some (.obj c) :: ρ => (outs as ρ).map (c :: ·)
  | .obj _ :: _, _ => none
  | .dat _ :: as, _ :: ρ => outs as ρ
  | .rol _ :: as, _ :: ρ => outs as ρ
  | _ :: _, [] => none
/-- nn slots, n of them parameters -/
def runD (nn n : Nat) (g : FS) : Den := fun as => if as.length = n then (g (as.map some ++ List.replicate (nn - n) none)).bind fun o => match o with
    | .rt r ρ' => (outs as ρ').map fun cs => (r, cs)
    | .nx ρ' => (outs as ρ').map fun cs => (.dat .none, cs)
    | _ => none
  else none
def pinsOf : Nat → List V → List Sl → List (Nat × Addr)
  | i, .ref a :: vs, .obj _ :: as => (i, a) :: pinsOf (i + 1) vs as
  | i, _ :: vs, _ :: as => pinsOf (i + 1) vs as
  | _, _, _ => []
theorem pinsOf_mem : ∀ (vs : List V) (as : List Sl) (k : Nat) (p : Nat × Addr), p ∈ pinsOf k vs as ↔ ∃ (j : Nat) (c : C), p.1 = k + j ∧ as[j]? = some (.obj c) ∧ vs[j]? = some (.ref p.2) := by
  intro vs
  induction vs with
  | nil =>
    intro as k p
    simp only [List.getElem?_nil]
    constructor
    · intro h; cases as <;> simp [pinsOf] at h
    · rintro ⟨j, c, _, _, h⟩; cases h
  | cons v vs ih =>
    intro as k p
    cases as with
    | nil =>
      constructor
      · intro h; simp [pinsOf] at h
      · rintro ⟨j, c, _, h, _⟩; simp at h
    | cons s as =>
      have step : (∃ (j : Nat) (c : C), p.1 = k + j ∧ (s :: as)[j]? = some (.obj c) ∧ (v :: vs)[j]? = some (.ref p.2)) ↔ (p.1 = k ∧ (∃ c, s = .obj c) ∧ v = .ref p.2) ∨ p ∈ pinsOf (k + 1) vs as := by
        rw [ih as (k + 1) p]
        constructor
        · rintro ⟨j, c, h1, h2, h3⟩
          cases j with
          | zero =>
            simp at h2 h3
            exact .inl ⟨by omega, ⟨c, h2⟩, h3⟩
          | succ j => exact .inr ⟨j, c, by omega, by simpa using h2, by simpa using h3⟩
        · rintro (⟨h1, ⟨c, h2⟩, h3⟩ | ⟨j, c, h1, h2, h3⟩)
          · exact ⟨0, c, by omega, by simp [h2], by simp [h3]⟩
          · exact ⟨j + 1, c, by omega, by simpa using h2, by simpa using h3⟩
      rw [step]
      cases v with
      | ref a =>
        cases s with
        | obj c =>
          simp only [pinsOf, List.mem_cons]
          constructor
          · rintro (h | h)
            · subst h; exact .inl ⟨rfl, ⟨c, rfl⟩, rfl⟩
            · exact .inr h
          · rintro (⟨h1, _, h3⟩ | h)
            · cases h3
              exact .inl (by cases p; simp at h1; simp [h1])
            · exact .inr h
        | dat t =>
          simp only [pinsOf]
          exact ⟨.inr, fun h => h.elim (fun ⟨_, ⟨c, z⟩, _⟩ => nomatch z) fun h => h⟩
        | rol t =>
          simp only [pinsOf]
          exact ⟨.inr, fun h => h.elim (fun ⟨_, ⟨c, z⟩, _⟩ => nomatch z) fun h => h⟩
      | _ =>
        cases s <;> (simp only [pinsOf]; exact ⟨.inr, fun h => h.elim (fun ⟨_, _, z⟩ => nomatch z) fun h => h⟩)
theorem objs_mem : ∀ (vs : List V) (as : List Sl) (a : Addr), (∃ (j : Nat) (c : C), as[j]? = some (.obj c) ∧ vs[j]? = some (.ref a)) → a ∈ objs vs as := by
  intro vs
  induction vs with
  | nil => rintro as a ⟨j, c, _, h⟩; simp at h
  | cons v vs ih =>
    rintro as a ⟨j, c, h1, h2⟩
    cases as with
    | nil => simp at h1
    | cons s as =>
      have rec_ : (∃ (j : Nat) (c : C), as[j]? = some (.obj c) ∧ vs[j]? = some (.ref a)) → a ∈ objs (v :: vs) (s :: as) := fun h => by
        have := ih as a h
        cases v with
        | ref b => cases s <;> simp [objs, this]
        | _ => cases s <;> simpa [objs] using this
      cases j with
      | zero =>
        simp at h1 h2
        subst h1 h2
        simp [objs]
      | succ j => exact rec_ ⟨j, c, by simpa using h1, by simpa using h2⟩
section
variable {K : KW} {H H' : Hp}
theorem start_SR {N : List Str} {vs : List V} {as : List Sl} (S : SR K H (vs.map some) (as.map some)) (n : Nat) (hn : as.length = n) : SR K H (start N vs) (as.map some ++ List.replicate (N.length - n) none) := by
  have hl : vs.length = as.length := by
    have := S.len
    rw [List.length_map, List.length_map] at this
    exact this.symm
  have inn : ∀ {i : Nat} {s : Sl}, (as.map some ++ List.replicate (N.length - n) none)[i]? = some (some s) → i < as.length ∧ (as.map some)[i]? = some (some s) := fun {i s} e => by
    by_cases hi : i < as.length
    · rw [List.getElem?_append_left (by rw [List.length_map]; exact hi)] at e
      exact ⟨hi, e⟩
    · rw [List.getElem?_append_right (by rw [List.length_map]; omega), List.getElem?_replicate] at e
      split at e <;> cases e
  have st : ∀ {i : Nat}, i < as.length → (start N vs)[i]? = (vs.map some)[i]? := fun {i} hi => by
    unfold L2.start
    rw [List.getElem?_append_left (by rw [List.length_map]; omega)]
  refine ⟨by simp [L2.start, hl, hn], fun i t e => ?_, fun i t e => ?_, fun i t e => ?_, fun i j c d a e1 e2 e3 e4 => ?_⟩
  · obtain ⟨hi, e⟩ := inn e
    rw [st hi]; exact S.dat i t e
  · obtain ⟨hi, e⟩ := inn e
    rw [st hi]; exact S.rol i t e
  · obtain ⟨hi, e⟩ := inn e
    rw [st hi]; exact S.obj i t e
  · obtain ⟨hi, e1⟩ := inn e1
    obtain ⟨hj, e2⟩ := inn e2
    rw [st hi] at e3
    rw [st hj] at e4
    exact S.sep i j c d a e1 e2 e3 e4
theorem own_start {N : List Str} {vs : List V} {as : List Sl} {n : Nat} (S : SR K H (vs.map some) (as.map some)) {a : Addr} (h : Own (start N vs) (as.map some ++ List.replicate (N.length - n) none) a) : ∃ (j : Nat) (c : C), as[j]? = some (.obj c) ∧ vs[j]? = some (.ref a) := by
  have hl : vs.length = as.length := by
    have := S.len
    rw [List.length_map, List.length_map] at this
    exact this.symm
  obtain ⟨j, c, h1, h2⟩ := h
  by_cases hi : j < as.length
  · rw [List.getElem?_append_left (by rw [List.length_map]; exact hi), List.getElem?_map] at h1
    unfold L2.start at h2
    rw [List.getElem?_append_left (by rw [List.length_map]; omega), List.getElem?_map] at h2
    refine ⟨j, c, ?_, ?_⟩
    · cases q : as[j]? with
      | none => rw [q] at h1; cases h1
      | some s => rw [q] at h1; cases h1; rfl
    · cases q : vs[j]? with
      | none => rw [q] at h2; cases h2
      | some s => rw [q] at h2; cases h2; rfl
  · rw [List.getElem?_append_right (by rw [List.length_map]; omega), List.getElem?_replicate] at h1
    split at h1 <;> cases h1
theorem outs_cs {σ' : Sto} : ∀ (vs : List V) (as : List Sl) (k : Nat) (ρ full : Ev) (cs : List C), SR K H' σ' full → (∀ (j : Nat), ρ[j]? = full[k + j]?) → Pin (pinsOf k vs as) σ' full → vs.length = as.length → outs as ρ = some cs → (∀ (j : Nat) (c : C), as[j]? = some (.obj c) → ∃ a, vs[j]? = some (.ref a)) → RpCs K H' (objs vs as) cs
  | [], [], _, _, _, cs, _, _, _, _, e, _ => by cases e; exact .nil
  | v :: vs, s :: as, k, ρ, full, cs, S, hf, P, hl, e, isr => by
    have hf' : ∀ (o : Option Sl) (ρ' : Ev), ρ = o :: ρ' → ∀ (j : Nat), ρ'[j]? = full[k + 1 + j]? := fun o ρ' er j => by
      have := hf (j + 1)
      rw [er, List.getElem?_cons_succ] at this
      rw [this]
      congr 1
      omega
    have isr' : ∀ (j : Nat) (c : C), as[j]? = some (.obj c) → ∃ a, vs[j]? = some (.ref a) := fun j c h => by
      obtain ⟨a, h⟩ := isr (j + 1) c (by simpa using h)
      exact ⟨a, by simpa using h⟩
    have hl' : vs.length = as.length := by simpa using hl
    cases s with
    | obj c =>
      obtain ⟨a, ha⟩ := isr 0 c rfl
      simp at ha
      subst ha
      cases ρ with
      | nil => simp [outs] at e
      | cons o ρ' =>
        cases o with
        | none => simp [outs] at e
        | some s' =>
          cases s' with
          | dat _ => simp [outs] at e
          | rol _ => simp [outs] at e
          | obj c' =>
            simp only [outs, Option.map_eq_some_iff] at e
            obtain ⟨cs', e, rfl⟩ := e
            have h0 : full[k]? = some (some (.obj c')) := by
              have := hf 0
              simpa using this.symm
            obtain ⟨hσ, _⟩ := P (k, a) (by simp [pinsOf])
            obtain ⟨b, eb, rc⟩ := S.obj k c' h0
            have hσ : σ'[k]? = some (some (.ref a)) := hσ
            rw [hσ] at eb; cases eb
            refine .cons rc (outs_cs vs as (k + 1) ρ' full cs' S (hf' _ _ rfl) (fun p hp => P p ?_) hl' e isr')
            simp only [pinsOf, List.mem_cons]
            exact .inr hp
    | dat t =>
      cases ρ with
      | nil => simp [outs] at e
      | cons o ρ' =>
        have e : outs as ρ' = some cs := by cases o <;> simpa [outs] using e
        have eo : objs (v :: vs) (.dat t :: as) = objs vs as := by cases v <;> rfl
        have ep : pinsOf k (v :: vs) (.dat t :: as) = pinsOf (k + 1) vs as := by cases v <;> rfl
        rw [ep] at P
        rw [eo]
        exact outs_cs vs as (k + 1) ρ' full cs S (hf' _ _ rfl) P hl' e isr'
    | rol t =>
      cases ρ with
      | nil => simp [outs] at e
      | cons o ρ' =>
        have e : outs as ρ' = some cs := by cases o <;> simpa [outs] using e
        have eo : objs (v :: vs) (.rol t :: as) = objs vs as := by cases v <;> rfl
        have ep : pinsOf k (v :: vs) (.rol t :: as) = pinsOf (k + 1) vs as := by cases v <;> rfl
        rw [ep] at P
        rw [eo]
        exact outs_cs vs as (k + 1) ρ' full cs S (hf' _ _ rfl) P hl' e isr'
  | [], _ :: _, _, _, _, _, _, _, _, h, _, _ => by cases h
  | _ :: _, [], _, _, _, _, _, _, _, h, _, _ => by cases h
end
section
variable {P : Program} {w : World} {K : PySem.W.Frag} {mg : Str → Option Value} {base : Heap}
theorem body_ok {X : Cx} {K : KW} (hK : X.kw = K) {N : List Str} {n : Nat} {sts : List Stmt} {g : FS} {vs : List V} {H : Hp} {Q : VK} (hb : DSs X (List.range n) sts g) (h : ∃ as r cs, runD N.length n g as = some (r, cs) ∧ as.length = n ∧ SR K H (vs.map some) (as.map some) ∧ ∀ u H', Post K H vs as H' r cs u → Q u H') :
    ∃ t, PSs X sts t ∧ t { nx := fun _ H' => Q .non H', rt := Q } (start N vs) H := by
  subst hK
  obtain ⟨as, r, cs, e, hn, S, q⟩ := h
  obtain ⟨t, pt, rt⟩ := hb.run
  refine ⟨t, pt, ?_⟩
  have hl : vs.length = as.length := by
    have := S.len
    rw [List.length_map, List.length_map] at this
    exact this.symm
  unfold runD at e
  rw [if_pos hn] at e
  simp only [Option.bind_eq_some_iff] at e
  obtain ⟨o, e1, e2⟩ := e
  have S0 := start_SR (N := N) S n hn
  -- the parameters' objects stay in their places
  have isr : ∀ (j : Nat) (c : C), as[j]? = some (.obj c) → ∃ a, vs[j]? = some (.ref a) := fun j c h => by
    obtain ⟨a, ea, _⟩ := S.obj j c (by rw [List.getElem?_map, h]; rfl)
    rw [List.getElem?_map] at ea
    cases q : vs[j]? with
    | none => rw [q] at ea; cases ea
    | some z => rw [q] at ea; cases ea; exact ⟨a, rfl⟩
  have P0 : Pin (pinsOf 0 vs as) (start N vs) (as.map some ++ List.replicate (N.length - n) none) := fun p hp => by
    obtain ⟨j, c, h1, h2, h3⟩ := (pinsOf_mem vs as 0 p).mp hp
    have hj : j < as.length := (List.getElem?_eq_some_iff.mp h2).1
    rw [Nat.zero_add] at h1
    rw [h1]
    refine ⟨?_, c, ?_⟩
    · unfold L2.start
      rw [List.getElem?_append_left (by rw [List.length_map]; omega), List.getElem?_map, h3]
      rfl
    · rw [List.getElem?_append_left (by rw [List.length_map]; omega), List.getElem?_map, h2]
      rfl
  have hp : ∀ p ∈ pinsOf 0 vs as, p.1 ∈ List.range n := fun p hp => by
    obtain ⟨j, c, h1, h2, h3⟩ := (pinsOf_mem vs as 0 p).mp hp
    have hj : j < as.length := (List.getElem?_eq_some_iff.mp h2).1
    rw [List.mem_range]
    omega
  have fin : ∀ (ρ' : Ev) (σ' : Sto) (H' : Hp) (r' : Sl) (cs' : List C) (u : V), Go X.kw (start N vs) (as.map some ++ List.replicate (N.length - n) none) H σ' ρ' H' → SR X.kw H' σ' ρ' → Pin (pinsOf 0 vs as) σ' ρ' → outs as ρ' = some cs' →
      RRs X.kw (pinsOf 0 vs as) (start N vs) (as.map some ++ List.replicate (N.length - n) none) H H' r' u → Post X.kw H vs as H' r' cs' u := fun ρ' σ' H' r' cs' u g S' P' eo rr => by
    refine ⟨fun a o ha hna => g.keep a o ha fun ho => hna (objs_mem vs as a (own_start S ho)), g.tst, g.dom, outs_cs vs as 0 ρ' ρ' cs' S' (fun j => by rw [Nat.zero_add]) P' hl eo isr, ?_⟩
    cases r' with
    | dat t => exact rr
    | rol xs => exact rr
    | obj c =>
      obtain ⟨a, e, rc, o, ne⟩ := rr
      refine ⟨a, e, ?_, rc⟩
      rcases o with o | o
      · obtain ⟨j, c', h1, h2⟩ := own_start S o
        exact absurd rfl (ne (j, a) ((pinsOf_mem vs as 0 (j, a)).mpr ⟨j, c', by simp, h1, h2⟩))
      · exact o
  refine rt (pinsOf 0 vs as) (start N vs) H _ o _ hp S0 P0 e1 ?_
  cases o with
  | nx ρ' =>
    simp only [Option.map_eq_some_iff] at e2
    obtain ⟨cs', eo, e3⟩ := e2
    cases e3
    exact fun σ' H' g S' P' => q .non H' (fin ρ' σ' H' _ _ _ g S' P' eo .non)
  | rt r' ρ' =>
    simp only [Option.map_eq_some_iff] at e2
    obtain ⟨cs', eo, e3⟩ := e2
    cases e3
    exact fun u σ' H' g S' P' rr => q u H' (fin ρ' σ' H' _ _ _ g S' P' eo rr)
  | bk ρ' => cases e2
  | ct ρ' => cases e2
/-- THE RULE for a def -/
theorem fn_den {x qual : Str} {st : Stmt} {f : Addr} {fd : FuncData} {N ps : List Str} {k n : Nat} {g : FS} (F : Fun K x qual st f fd) (S : FnScope N ps (defScope st)) (hn : n = ps.length)
    (hbody : ∀ (cdv : Value) (A : Around) (outer : List PySem.Env) (s : Shared) (H : Hp) (E : XK), Room k (A.deeper (envOfC qual (defScope st) s.heap.objs.size f cdv)) →
      DSs (cxOf CX0 P w K mg base N qual (defScope st) f cdv A outer s H E).nox (List.range n) (defBody st) g) : FnOk P w K mg base CX0 (k + 1) f fd ps (spD ⟨K, P, w⟩ n (runD N.length n g)) := by
  refine F.ok S (fun vs H Q E h => ?_) (fun cdv A outer s H vs Q E hr h => ?_)
  · rw [← hn]; exact spD_len h
  · exact body_ok rfl (hbody cdv A outer s H E hr) h
/-- a stronger denotation's promise keeps a weaker one's -/
theorem FnOk.den {f : Addr} {fd : FuncData} {ps : List Str} {k n : Nat} {m m' : Den} (F : FnOk P w K mg base CX0 k f fd ps (spD ⟨K, P, w⟩ n m)) (h : ∀ as r, m' as = some r → m as = some r) : FnOk P w K mg base CX0 k f fd ps (spD ⟨K, P, w⟩ n m') :=
  F.imp fun vs H Q E ⟨as, r, cs, e, z⟩ => ⟨as, r, cs, h _ _ e, z⟩
end
/-- the law's promise, from its denotation -/
theorem law_sp {K : KW} {H : Hp} {a : Addr} {ns : List Int} {m : Den} {E : XK} {cs : List C} (hO : Only H) (hS : SqL K H a (ns.map V.int)) (h : m [.rol (ns.map .int)] = some (.dat (.bool true), cs)) : spD K 1 m [.ref a] H (fun v _ => v = .bl true) E := by
  have ro : RoL K H a (ns.map .int) := by
    refine ⟨ns.map V.int, ?_, .ofInts ns⟩
    rcases hS with (h | ⟨o, h⟩) | h
    · rcases hO a with z | ⟨o, xs, z⟩ <;> rw [h] at z <;> cases z
    · exact .inl ⟨o, h⟩
    · exact .inr h
  refine ⟨_, _, _, h, rfl, ⟨rfl, fun i t e => ?_, fun i xs e => ?_, fun i c e => ?_, fun i j c d a e => ?_⟩, fun u H' P => ?_⟩
  · cases i <;> simp at e
  · cases i with
    | zero =>
      simp at e
      subst e
      exact ⟨a, rfl, ro⟩
    | succ i => simp at e
  · cases i <;> simp at e
  · cases i <;> simp at e
  · have := P.res
    cases this
    rfl
end PD

namespace PD
open PySem PySem.Spec PyProof.Rows L2
section
variable {X : Cx} {e a b c : Expr} {es : List Expr} {fa fb fc : FE} {pos : Pos}
/-- a op b op' c -/
def fChain (g g' : GB) (fa fb fc : FE) : FE := fun ρ => (fa ρ).bind fun p => (fb p.2).bind fun q => (g p.1 q.1 q.2).bind fun h => (boolOf h).bind fun k => if k = true then (fc q.2).bind fun r => (g' q.1 r.1 r.2).map fun h' => (h', r.2) else some (.dat (.bool false), q.2)
theorem chain_core {op op' : CmpOp} {g g' : GB} (ho : DOp X (compareOp op) g) (ho' : DOp X (compareOp op') g') (ha : DE X a fa) (hb : DE X b fb) (hc : DE X c fc) (hm : lastMarks [op, op'] [b, c] = false := by with_unfolding_all rfl) :
    ∃ t : TE, PE X (.Compare a [op, op'] [b, c] pos) t ∧ PT X (.Compare a [op, op'] [b, c] pos) (tTest t) ∧ ∀ (σ : Sto) (H : Hp) (ρ : Ev) (h : Hd) (ρ' : Ev) (Q : VK), SR X.kw H σ ρ → fChain g g' fa fb fc ρ = some (h, ρ') →
      (∀ u H', Go X.kw σ ρ H σ ρ' H' → SR X.kw H' σ ρ' → Kp ρ ρ' → HR X.kw H H' σ ρ' h u → Q u H') → t σ H Q := by
  obtain ⟨t, pt, rt⟩ := ha.run
  obtain ⟨u, pu, ru⟩ := hb.run
  obtain ⟨v, pv, rv⟩ := hc.run
  obtain ⟨r, o, ro⟩ := ho
  obtain ⟨r', o', ro'⟩ := ho'
  refine ⟨_, pe_chain o o' pt pu pv hm, pt_chain o o' pt pu pv hm, fun σ H ρ h ρ' Q S e q => ?_⟩
  simp only [fChain, Option.bind_eq_some_iff] at e
  obtain ⟨⟨h1, ρ1⟩, e1, ⟨h2, ρ2⟩, e2, h3, e3, k, e4, e5⟩ := e
  have e4 := boolOf_some e4
  subst e4
  refine rt σ H ρ h1 ρ1 _ S e1 fun x H1 g1 S1 k1 r1 => ?_
  refine ru σ H1 ρ1 h2 ρ2 _ S1 e2 fun y H2 g2 S2 k2 r2 => ?_
  refine ro σ H H2 ρ2 h1 h2 _ x y _ S2 (r1.go g2) (r2.back g1.dom) e3 fun w H3 g3 S3 r3 => ?_
  cases r3
  refine ⟨k, rfl, ?_⟩
  have gg := (g1.trans g2).trans g3
  cases k with
  | true =>
    simp only [if_true, Option.bind_eq_some_iff, Option.map_eq_some_iff] at e5 ⊢
    obtain ⟨⟨h4, ρ4⟩, e6, h5, e7, e8⟩ := e5
    cases e8
    refine rv σ H3 ρ2 h4 _ _ S3 e6 fun z H4 g4 S4 k4 r4 => ?_
    exact ro' σ H H4 _ h2 h4 _ y z Q S4 (((r2.back g1.dom).go g3).go g4) (r4.back gg.dom) e7 fun w H5 g5 S5 r5 => q w H5 ((gg.trans g4).trans g5) S5 ((k1.trans k2).trans k4) (r5.back (gg.trans g4).dom)
  | false =>
    cases e5
    exact q _ H3 gg S3 (k1.trans k2) (.bl false)
theorem de_chain {op op' : CmpOp} {g g' : GB} (ho : DOp X (compareOp op) g) (ho' : DOp X (compareOp op') g') (ha : DE X a fa) (hb : DE X b fb) (hc : DE X c fc) (hm : lastMarks [op, op'] [b, c] = false := by with_unfolding_all rfl) : DE X (.Compare a [op, op'] [b, c] pos) (fChain g g' fa fb fc) :=
  let ⟨t, p, _, r⟩ := chain_core ho ho' ha hb hc hm; ⟨t, p, r⟩
theorem dt_chain {op op' : CmpOp} {g g' : GB} (ho : DOp X (compareOp op) g) (ho' : DOp X (compareOp op') g') (ha : DE X a fa) (hb : DE X b fb) (hc : DE X c fc) (hm : lastMarks [op, op'] [b, c] = false := by with_unfolding_all rfl) : DT X (.Compare a [op, op'] [b, c] pos) (fTst (fChain g g' fa fb fc)) := by
  obtain ⟨t, _, p, r⟩ := chain_core (pos := pos) ho ho' ha hb hc hm
  refine ⟨_, p, fun σ H ρ b ρ' Q S e q => ?_⟩
  simp only [fTst, Option.bind_eq_some_iff, Option.map_eq_some_iff] at e
  obtain ⟨⟨h1, ρ1⟩, e1, bb, e2, e3⟩ := e
  cases e3
  have e2 : h1 = _ := boolOf_some e2
  subst e2
  refine r σ H ρ _ _ _ S e1 fun u H' g S' k r => ?_
  cases r
  exact ⟨_, rfl, q H' g S' k⟩
/-! ### a def by its name -/
structure Df (P : Program) (w : World) (K : PySem.W.Frag) (mg : Str → Option Value) (base : Heap) (x : Str) (k n : Nat) (m : Den) : Prop where
  ex : ∃ (f : Addr) (fd : FuncData) (ps : List Str), FnOk P w K mg base CX0 k f fd ps (spD ⟨K, P, w⟩ n m) ∧ n = ps.length ∧ mg x = some (.ref f) ∧ PySem.W.keepIn K (.ref f) = true ∧ Binds K fd ps []
variable {x : Str} {p : Pos} {k n : Nat} {m : Den} {fs : FA}
theorem de_callD (D : Df X.prog X.w X.K X.mg X.base x k n m) (hr : Room k X.A) (hg : Gl X x) (hl : ∀ ρ hs ρ', fs ρ = some (hs, ρ') → hs.length = n)
    (ha : DA X (e :: es) fs) (hdb : (x == ("__debug__" : Str)) = false := by decide) (he : starEach (e :: es) X.env = (false, eval e X.env) :: starEach es X.env := by rfl) (hpl : (backTo pos (starEach es X.env)).any (·.1) = false := by rfl) :
    DE X (.Call (.Name x p) (e :: es) [] pos) (fCall m fs) := by
  obtain ⟨f, fd, ps, F, hn, hm, hk, hb⟩ := D.ex
  exact de_call F hn hl hr hg hm hk hb ha hdb he hpl
theorem de_callD0 (D : Df X.prog X.w X.K X.mg X.base x k n m) (h0 : n = 0) (hr : Room k X.A) (hg : Gl X x) (hdb : (x == ("__debug__" : Str)) = false := by decide) :
    DE X (.Call (.Name x p) [] [] pos) (fCall m fNil) := by
  obtain ⟨f, fd, ps, F, hn, hm, hk, hb⟩ := D.ex
  exact de_call0 F hn h0 hr hg hm hk hb hdb
end
/-- a def of the text, as the head tells it -/
structure At (K : PySem.W.Frag) (mg : Str → Option Value) (x : Str) (st : Stmt) (ps : List Str) : Prop where
  ex : ∃ (f : Addr) (fd : FuncData), Fun K x x st f fd ∧ mg x = some (.ref f) ∧ ∀ us : List Value, us.length = ps.length → bindArgs fd ⟨us, []⟩ = pure (ps.zip us)
section
variable {P : Program} {w : World} {K : PySem.W.Frag} {mg : Str → Option Value} {base : Heap}
theorem df_mk {x : Str} {st : Stmt} {N ps : List Str} {k n : Nat} {g : FS} (A : At K mg x st ps) (S : FnScope N ps (defScope st)) (hn : n = ps.length)
    (hbody : ∀ (f : Addr) (cdv : Value) (A : Around) (outer : List PySem.Env) (s : Shared) (H : Hp) (E : XK), Room k (A.deeper (envOfC x (defScope st) s.heap.objs.size f cdv)) →
      DSs (cxOf CX0 P w K mg base N x (defScope st) f cdv A outer s H E).nox (List.range n) (defBody st) g) : Df P w K mg base x (k + 1) n (runD N.length n g) := by
  obtain ⟨f, fd, F, hm, hb⟩ := A.ex
  exact ⟨f, fd, ps, fn_den F S hn fun cdv A outer s H E hr => hbody f cdv A outer s H E hr, hn, hm, F.kp, .all hb⟩
/-- the recursion's start: nothing is asked -/
theorem df_none {x : Str} {st : Stmt} {ps : List Str} {n : Nat} (A : At K mg x st ps) (hn : n = ps.length) : Df P w K mg base x 0 n (fun _ => none) := by
  obtain ⟨f, fd, F, hm, hb⟩ := A.ex
  have no : ∀ vs H Q E, ¬ spD ⟨K, P, w⟩ n (fun _ => none) vs H Q E := fun vs H Q E ⟨as, r, cs, e, _⟩ => by cases e
  exact ⟨f, fd, ps, ⟨fun vs H Q E h => absurd h (no vs H Q E), fun A outer s H args us vs Q E _ _ _ _ h => absurd h (no vs H Q E)⟩, hn, hm, F.kp, .all hb⟩
theorem Df.up {x : Str} {k k' n : Nat} {m : Den} (D : Df P w K mg base x k n m) (h : k ≤ k') : Df P w K mg base x k' n m := by
  obtain ⟨f, fd, ps, F, hn, hm, hk, hb⟩ := D.ex
  exact ⟨f, fd, ps, F.mono h, hn, hm, hk, hb⟩
end
/-- the built-in names are free -/
structure Bs (mg : Str → Option Value) : Prop where
  len : mg "len" = none
  range : mg "range" = none
  tuple : mg "tuple" = none
  list : mg "list" = none
  int : mg "int" = none
  bool : mg "bool" = none
  str : mg "str" = none
  isinstance : mg "isinstance" = none
  max : mg "max" = none
  min : mg "min" = none
  sum : mg "sum" = none
  any : mg "any" = none
  all : mg "all" = none
  sorted : mg "sorted" = none
  set : mg "set" = none
  abs : mg "abs" = none
  dict : mg "dict" = none
/-! ### no place is handed on by these -/
def NoPlc (f : FE) : Prop := ∀ ρ h ρ', f ρ = some (h, ρ') → ∀ i, h ≠ .plc i
theorem live_no {f : FE} (h : NoPlc f) {pl : List Nat} : ∀ ρ ts i ρ', fItE f ρ = some (ts, some i, ρ') → i ∈ pl := fun ρ ts i ρ' e => by
  simp only [fItE, Option.bind_eq_some_iff, Option.map_eq_some_iff] at e
  obtain ⟨⟨h1, ρ1⟩, e1, ⟨ts1, lp1⟩, e2, e3⟩ := e
  cases e3
  cases h1 with
  | dat d => unfold itOf at e2; split at e2 <;> first | (cases e2; done) | (rename_i hd; cases hd; done) | (rename_i hd; cases hd; cases e2)
  | tmp c => cases c <;> cases e2
  | plc j => exact absurd rfl (h _ _ _ e1 j)
theorem live_var {j : Nat} {pl : List Nat} (hj : j ∈ pl) : ∀ ρ ts i ρ', fItE (fVar j) ρ = some (ts, some i, ρ') → i ∈ pl := fun ρ ts i ρ' e => by
  simp only [fItE, Option.bind_eq_some_iff, Option.map_eq_some_iff] at e
  obtain ⟨⟨h1, ρ1⟩, e1, ⟨ts1, lp1⟩, e2, e3⟩ := e
  cases e3
  unfold fVar at e1
  split at e1
  · cases e1
    unfold itOf at e2
    split at e2 <;> first | (cases e2; done) | (rename_i hd; cases hd; done) | (rename_i hd; cases hd; cases e2)
  · cases e1
    simp only [itOf] at e2
    split at e2
    · cases e2; exact hj
    · cases e2
    · cases e2
  · cases e1
theorem live_r1 {f : FE} {pl : List Nat} : ∀ ρ ts i ρ', fItR1 f ρ = some (ts, some i, ρ') → i ∈ pl := fun ρ ts i ρ' e => by
  simp only [fItR1, Option.bind_eq_some_iff, Option.map_eq_some_iff] at e
  obtain ⟨_, _, _, _, _, _, e⟩ := e
  cases e
theorem live_r2 {f g : FE} {pl : List Nat} : ∀ ρ ts i ρ', fItR2 f g ρ = some (ts, some i, ρ') → i ∈ pl := fun ρ ts i ρ' e => by
  simp only [fItR2, Option.bind_eq_some_iff, Option.map_eq_some_iff] at e
  obtain ⟨_, _, _, _, _, _, _, _, _, _, e⟩ := e
  cases e
theorem np_tup {g : FA} : NoPlc (fTup g) := fun ρ h ρ' e i z => by
  simp only [fTup, Option.bind_eq_some_iff, Option.map_eq_some_iff] at e
  obtain ⟨_, _, _, _, _, _, e⟩ := e
  cases e; cases z
theorem np_lst {g : FA} : NoPlc (fLst g) := fun ρ h ρ' e i z => by
  simp only [fLst, Option.bind_eq_some_iff, Option.map_eq_some_iff] at e
  obtain ⟨_, _, _, _, _, _, e⟩ := e
  cases e; cases z
theorem np_call {m : Den} {g : FA} : NoPlc (fCall m g) := fun ρ h ρ' e i z => by
  simp only [fCall, Option.bind_eq_some_iff, Option.map_eq_some_iff] at e
  obtain ⟨_, _, _, _, _, _, ⟨r, cs⟩, _, hd, e1, e⟩ := e
  cases e
  subst z
  cases r <;> cases e1
theorem np_lc {it : FI} {g : GT} {tt : FB} {te : FE} {vs : List Nat} : NoPlc (fLc it g tt te vs) := fun ρ h ρ' e i z => by
  simp only [fLc, Option.bind_eq_some_iff, Option.map_eq_some_iff] at e
  obtain ⟨_, _, _, _, _, _, e⟩ := e
  cases e; cases z
end PD

namespace PD
open PySem PySem.Spec PyProof.Rows L2
theorem bt_len : bootBuiltins "len" = some (.builtin "len") := PySem.boot_len
theorem bt_int : bootBuiltins "int" = some (.type "int") := by decide +kernel
theorem bt_abs : bootBuiltins "abs" = some (.builtin "abs") := by decide +kernel
theorem bt_tuple : bootBuiltins "tuple" = some (.type "tuple") := by decide +kernel
theorem bt_list : bootBuiltins "list" = some (.type "list") := by decide +kernel
theorem bt_sum : bootBuiltins "sum" = some (.builtin "sum") := by decide +kernel
theorem bt_any : bootBuiltins "any" = some (.builtin "any") := by decide +kernel
theorem bt_all : bootBuiltins "all" = some (.builtin "all") := by decide +kernel
theorem bt_max : bootBuiltins "max" = some (.builtin "max") := by decide +kernel
theorem bt_min : bootBuiltins "min" = some (.builtin "min") := by decide +kernel
theorem bt_sorted : bootBuiltins "sorted" = some (.builtin "sorted") := by decide +kernel
theorem bt_bool : bootBuiltins "bool" = some (.type "bool") := by decide +kernel
theorem bt_str : bootBuiltins "str" = some (.type "str") := by decide +kernel
theorem bt_set : bootBuiltins "set" = some (.type "set") := by decide +kernel
theorem bt_dict : bootBuiltins "dict" = some (.type "dict") := by decide +kernel
/-! ### the head's facts -/
abbrev KOf {K : PySem.W.Frag} {h : Heap} (_ : K.In h) : PySem.W.Frag := K
theorem at_mk {K : PySem.W.Frag} {h : Heap} {mg : Str → Option Value} (X : K.In h) (G : h.Ns mainGlobals mg) {x : Str} {st : Stmt} {ps : List Str} {f : Addr} {oc : Value} {od an : Option Addr} {osl : Array (Option Value)} {kV doc pm cdv ct : Value}
    (a : PySem.W.nsIn K mainGlobals x = some (some (.ref f)))
    (l : K.lookup f = some ⟨oc, od, .func (PySem.W.fnOf x x (defArgs st) (defBody st) (defScope st) .none kV doc pm an cdv ct), osl⟩)
    (c : PySem.W.codeIn K cdv x = true) (k : PySem.W.keepIn K (.ref f) = true)
    (hb : ∀ (kV doc pm : Value) (an : Option Addr) (cdv ct : Value) (us : List Value), us.length = ps.length → bindArgs (PySem.W.fnOf x x (defArgs st) (defBody st) (defScope st) .none kV doc pm an cdv ct) ⟨us, []⟩ = pure (ps.zip us)) : At K mg x st ps :=
  ⟨f, _, fun_mk l c k, PySem.W.mg_of X G a, hb kV doc pm an cdv ct⟩
theorem bs_mk {K : PySem.W.Frag} {h : Heap} {mg : Str → Option Value} (X : K.In h) (G : h.Ns mainGlobals mg)
    (a1 : PySem.W.nsIn K mainGlobals "len" = some none) (a2 : PySem.W.nsIn K mainGlobals "range" = some none) (a3 : PySem.W.nsIn K mainGlobals "tuple" = some none) (a4 : PySem.W.nsIn K mainGlobals "list" = some none)
    (a5 : PySem.W.nsIn K mainGlobals "int" = some none) (a6 : PySem.W.nsIn K mainGlobals "bool" = some none) (a7 : PySem.W.nsIn K mainGlobals "str" = some none) (a8 : PySem.W.nsIn K mainGlobals "isinstance" = some none)
    (a9 : PySem.W.nsIn K mainGlobals "max" = some none) (a10 : PySem.W.nsIn K mainGlobals "min" = some none) (a11 : PySem.W.nsIn K mainGlobals "sum" = some none) (a12 : PySem.W.nsIn K mainGlobals "any" = some none)
    (a13 : PySem.W.nsIn K mainGlobals "all" = some none) (a14 : PySem.W.nsIn K mainGlobals "sorted" = some none) (a15 : PySem.W.nsIn K mainGlobals "set" = some none) (a16 : PySem.W.nsIn K mainGlobals "abs" = some none)
    (a17 : PySem.W.nsIn K mainGlobals "dict" = some none) : Bs mg :=
  have o := fun {n : Str} (e : PySem.W.nsIn K mainGlobals n = some none) => PySem.W.mg_none_of X G e
  ⟨o a1, o a2, o a3, o a4, o a5, o a6, o a7, o a8, o a9, o a10, o a11, o a12, o a13, o a14, o a15, o a16, o a17⟩
theorem walk_pd {l : PySem.W.OpenLaw} {q : Program} {loose : List Str} {XP : (Str → Option Value) → Heap → Prop} {YP : World → Heap → Prop} {d : DefRec} {K : Params → PySem.W.Frag} {k : Nat} {m : Den}
    (hn : l.most = some 63) (hdf : d.params.defaults = []) (hr : Room k callerA)
    (hY : ∀ (w : World) (h : Heap), YP w h → (K w.params).In h)
    (F : ∀ (w : World) (mg : Str → Option Value) (fa : Addr) (h : Heap), (K w.params).In h → h.Ns mainGlobals mg → mg d.name = some (.ref fa) →
      ∃ fd : FuncData, (∀ (s : Shared) (u : Value), BindsTo s fd ⟨[u], []⟩ [("script", u)]) ∧ ∀ (P : Program) (w' : World) (base : Heap), FnOk P w' (K w.params) mg base CX0 k fa fd ["script"] (spD ⟨K w.params, P, w'⟩ 1 m))
    (hm : ∀ ns : List Int, ns.length ≤ 63 → (∀ z ∈ ns, Builtin.Int.intBits z ≤ 1048576) → ∃ cs, m [.rol (ns.map .int)] = some (.dat (.bool true), cs)) :
    PySem.W.WalkO q loose XP YP l.row.toRowW d [] (fun f vs => PySem.call f vs) :=
  walk_ofB (n := 63) (k := k) (x := "script") (CX := fun _ => CX0) (sp := fun w => spD ⟨K w.params, l.prog, w⟩ 1 m) hn (by decide) hdf hr hY
    (fun w mg fa h a b c => let ⟨fd, h1, h2⟩ := F w mg fa h a b c; ⟨fd, h1, fun base _ _ => h2 l.prog w base⟩)
    (fun w H a ns hl hb hO hS => let ⟨cs, e⟩ := hm ns hl hb; law_sp hO hS e) fun _ _ _ _ _ z => z
/-! ### no place is handed on -/
theorem np_c {t : T} : NoPlc (fC t) := fun ρ h ρ' e i z => by
  simp only [fC] at e
  cases e; cases z
theorem np_sl {f : FE} {g g' : FO} : NoPlc (fSl f g g') := fun ρ h ρ' e i z => by
  subst z
  simp only [fSl, Option.bind_eq_some_iff, Option.map_eq_some_iff] at e
  obtain ⟨⟨h1, ρ1⟩, _, ⟨o1, ρ2⟩, _, ⟨o2, ρ3⟩, _, h3, e1, e⟩ := e
  cases e
  unfold gSl at e1
  split at e1
  · cases e1
  · simp only [Option.map_eq_some_iff] at e1
    obtain ⟨_, _, e1⟩ := e1
    cases e1
theorem np_backT {f : FE} {g : FO} : NoPlc (fBackT f g) := fun ρ h ρ' e i z => by
  simp only [fBackT, Option.bind_eq_some_iff, Option.map_eq_some_iff] at e
  obtain ⟨_, _, _, _, _, _, e⟩ := e
  cases e; cases z
theorem np_revL {f : FE} : NoPlc (fRevL f) := fun ρ h ρ' e i z => by
  simp only [fRevL, Option.bind_eq_some_iff, Option.map_eq_some_iff] at e
  obtain ⟨_, _, _, _, e⟩ := e
  cases e; cases z
theorem np_listRg {f : FR} : NoPlc (fListRg f) := fun ρ h ρ' e i z => by
  simp only [fListRg, Option.bind_eq_some_iff, Option.map_eq_some_iff] at e
  obtain ⟨_, _, _, _, e⟩ := e
  cases e; cases z
theorem np_tupRg {f : FR} : NoPlc (fTupRg f) := fun ρ h ρ' e i z => by
  simp only [fTupRg, Option.bind_eq_some_iff, Option.map_eq_some_iff] at e
  obtain ⟨_, _, _, _, e⟩ := e
  cases e; cases z
/-- an operator gives no place -/
def NB (g : GB) : Prop := ∀ a b ρ h, g a b ρ = some h → ∀ i, h ≠ .plc i
def NC (g : GA) : Prop := ∀ a ρ h, g a ρ = some h → ∀ i, h ≠ .plc i
theorem np_bin {g : GB} {f f' : FE} (n : NB g) : NoPlc (fBin g f f') := fun ρ h ρ' e => by
  simp only [fBin, Option.bind_eq_some_iff, Option.map_eq_some_iff] at e
  obtain ⟨⟨h1, ρ1⟩, e1, ⟨h2, ρ2⟩, e2, h3, e3, e4⟩ := e
  cases e4
  exact n _ _ _ _ e3
theorem np_cb {g : GA} {f : FA} (n : NC g) : NoPlc (fCB g f) := fun ρ h ρ' e => by
  simp only [fCB, Option.bind_eq_some_iff, Option.map_eq_some_iff] at e
  obtain ⟨⟨h1, ρ1⟩, e1, h3, e3, e4⟩ := e
  cases e4
  exact n _ _ _ e3
theorem nb_I {C : Int → Int → Prop} {f : Int → Int → T} : NB (gI C f) := fun a b ρ h e i z => by
  simp only [gI, Option.bind_eq_some_iff, Option.map_eq_some_iff] at e
  obtain ⟨_, _, _, _, _, _, e⟩ := e
  subst e; cases z
theorem nb_I0 {f : Int → Int → T} : NB (gI0 f) := fun a b ρ h e i z => by
  simp only [gI0, Option.bind_eq_some_iff, Option.map_eq_some_iff] at e
  obtain ⟨_, _, _, _, e⟩ := e
  subst e; cases z
theorem nb_or {g g' : GB} (n : NB g) (n' : NB g') : NB (fun a b ρ => (g a b ρ).or (g' a b ρ)) := fun a b ρ h e => by
  cases q : g a b ρ with
  | some x => simp only [q, Option.some_or] at e; cases e; exact n _ _ _ _ q
  | none => simp only [q, Option.none_or] at e; exact n' _ _ _ _ e
theorem nb_addT : NB gAddT := fun a b ρ h e i z => by
  simp only [gAddT, Option.bind_eq_some_iff, Option.map_eq_some_iff] at e
  obtain ⟨_, _, _, _, _, _, e⟩ := e
  subst e; cases z
theorem nb_addL : NB gAddL := fun a b ρ h e i z => by
  simp only [gAddL, Option.bind_eq_some_iff, Option.map_eq_some_iff] at e
  obtain ⟨_, _, _, _, _, _, e⟩ := e
  subst e; cases z
theorem nb_addS : NB gAddS := fun a b ρ h e i z => by
  simp only [gAddS, Option.bind_eq_some_iff, Option.map_eq_some_iff] at e
  obtain ⟨_, _, _, _, _, _, e⟩ := e
  subst e; cases z
theorem nb_mulT : NB gMulT := fun a b ρ h e i z => by
  simp only [gMulT, Option.bind_eq_some_iff, Option.map_eq_some_iff] at e
  obtain ⟨_, _, _, _, _, _, e⟩ := e
  subst e; cases z
theorem nb_mulL : NB gMulL := fun a b ρ h e i z => by
  simp only [gMulL, Option.bind_eq_some_iff, Option.map_eq_some_iff] at e
  obtain ⟨_, _, _, _, _, _, e⟩ := e
  subst e; cases z
theorem nb_add : NB gAdd := nb_or nb_I0 (nb_or nb_addT (nb_or nb_addL nb_addS))
theorem nb_mult : NB gMul := nb_or nb_I (nb_or nb_mulT nb_mulL)
theorem nb_ix : NB gIx := fun a b ρ h e i z => by
  simp only [gIx, Option.bind_eq_some_iff, Option.map_eq_some_iff] at e
  obtain ⟨_, _, _, _, _, _, e⟩ := e
  subst e; cases z
theorem nc_sorted : NC gSortedI := fun a ρ h e i z => by
  unfold gSortedI at e
  split at e
  · simp only [Option.bind_eq_some_iff, Option.map_eq_some_iff] at e
    obtain ⟨_, _, _, _, e⟩ := e
    subst e; cases z
  · cases e
theorem nc_tuple : NC gTuple := fun a ρ h e i z => by
  unfold gTuple at e
  split at e
  · simp only [Option.map_eq_some_iff] at e
    obtain ⟨_, _, e⟩ := e
    subst e; cases z
  · cases e
theorem live_r3 {f g k : FE} {pl : List Nat} : ∀ ρ ts i ρ', fItR3 f g k ρ = some (ts, some i, ρ') → i ∈ pl := fun ρ ts i ρ' e => by
  simp only [fItR3, Option.bind_eq_some_iff, Option.map_eq_some_iff] at e
  obtain ⟨_, _, _, _, _, _, _, _, _, _, _, _, _, _, e⟩ := e
  cases e
end PD

namespace PD
open PySem PySem.Spec PyProof.Rows L2
/-! ### comprehensions with two for -/
noncomputable def fLc2L (ck : Ev → Prop) (g : GT) (tt : FB) (it1 : FI) (g1 : GT) (tt1 : FB) (te : FE) (vs vs1 : List Nat) : List T → Ev → Option (List T × Ev)
  | [], ρ => (guardP (ck ρ)).map fun _ => ([], ρ)
  | x :: xs, ρ => (guardP (ck ρ)).bind fun _ => (g x ρ).bind fun ρ1 => (tt ρ1).bind fun p => if p.1 = true then (it1 p.2).bind fun q => (fLcL (ckOf q.1 q.2.1) g1 tt1 te vs1 q.1 (wipeE q.2.2 vs1)).bind fun r =>
      (fLc2L ck g tt it1 g1 tt1 te vs vs1 xs (wipeE r.2 vs)).map fun s => (r.1 ++ s.1, s.2)
    else fLc2L ck g tt it1 g1 tt1 te vs vs1 xs (wipeE p.2 vs)
noncomputable def fLc2 (it : FI) (g : GT) (tt : FB) (it1 : FI) (g1 : GT) (tt1 : FB) (te : FE) (vs vs1 : List Nat) : FE := fun ρ => (it ρ).bind fun p => (fLc2L (ckOf p.1 p.2.1) g tt it1 g1 tt1 te vs vs1 p.1 (wipeE p.2.2 vs)).bind fun r => (guardP (r.1.length ≤ sizeLine)).map fun _ => (.tmp (.lst r.1), backE p.2.2 r.2 vs)
section
variable {X : Cx}
/-- the inner loop -/
theorem inner_run {σb : Sto} {ρb : Ev} {Hb : Hp} {D : Addr} {σ2 : Sto} {ρ3 ρ4 : Ev} {H4 : Hp} {us0 : List V} {acc0 out1 : List T} {ts1 : List T} {lp1 : Option Nat} {J1 : It} {Ok1 : Hp → Prop} {g1 : GT} {tt1 : FB} {te : FE} {vs1 is1 : List Nat} {tG : TG} {tT : TT} {tE : TE} {Nx : Hp → Prop}
    (hsub : ∀ j ∈ is1, j ∈ vs1) (go_ : ∀ d ρ ρ', g1 d ρ = some ρ' → ∀ (j : Nat), j ∉ is1 → ρ'[j]? = ρ[j]?)
    (rg : ∀ (σ : Sto) (H : Hp) (ρ : Ev) (v : V) (d : T) (ρ' : Ev) (Q : L2.St → Hp → Prop), SR X.kw H σ ρ → Rp X.kw H v d → g1 d ρ = some ρ' →
      (∀ σ', Go X.kw σ ρ H σ' ρ' H → SR X.kw H σ' ρ' → σ'.length = σ.length → (∀ (j : Nat), j ∉ is1 → σ'[j]? = σ[j]?) → Q σ' H) → tG v σ H Q)
    (rt : ∀ (σ : Sto) (H : Hp) (ρ : Ev) (b : Bool) (ρ' : Ev) (Q : Bool → Hp → Prop), SR X.kw H σ ρ → tt1 ρ = some (b, ρ') → (∀ H', Go X.kw σ ρ H σ ρ' H' → SR X.kw H' σ ρ' → Kp ρ ρ' → Q b H') → tT σ H Q)
    (re : ∀ (σ : Sto) (H : Hp) (ρ : Ev) (h : Hd) (ρ' : Ev) (Q : VK), SR X.kw H σ ρ → te ρ = some (h, ρ') → (∀ u H', Go X.kw σ ρ H σ ρ' H' → SR X.kw H' σ ρ' → Kp ρ ρ' → HR X.kw H H' σ ρ' h u → Q u H') → tE σ H Q)
    (S3 : SR X.kw H4 σ2 ρ3) (gb : Go X.kw σb ρb Hb σ2 ρ3 H4) (nD : Hb D = none) (hD0 : H4 D = some (.lst us0)) (noD0 : ¬ Own σ2 ρ3 D) (l0 : RpL X.kw H4 us0 acc0) (hz : acc0.length + out1.length ≤ sizeLine)
    (ok : ItOk X.kw ts1 J1 Ok1) (stay : ∀ H'', (∀ a o, H4 a = some o → ¬ Own σ2 ρ3 a → a ≠ D → H'' a = some o) → TSt X.kw H4 H'' → (∀ i, lp1 = some i → ∀ a, σ2[i]? = some (some (.ref a)) → RpC X.kw H'' a (.lst ts1)) → Ok1 H'')
    (e1 : fLcL (ckOf ts1 lp1) g1 tt1 te vs1 ts1 (wipeE ρ3 vs1) = some (out1, ρ4))
    (fin : ∀ H' us, Go X.kw σb ρb Hb (wipe σ2 vs1) ρ4 H' → SR X.kw H' (wipe σ2 vs1) ρ4 → Kp (wipeE ρ3 vs1) ρ4 → H' D = some (.lst us) → RpL X.kw H' us (acc0 ++ out1) → ¬ Own (wipe σ2 vs1) ρ4 D → Nx H') :
    ∃ W1 : Nat → Nat → Hp → Prop, (∃ m, W1 0 m H4) ∧ ∀ j k H, W1 j k H →
      (J1.stop j H ∧ Nx H) ∨ (J1.go j H ∧ ∃ Nx1 : Hp → Prop, (∀ H', Nx1 H' → ∃ k', k' < k ∧ W1 (j + 1) k' H') ∧ ∀ x H', J1.yld j H x H' → tG x (wipe σ2 vs1) H' fun σ3 H5 => wipe σ3 vs1 = wipe σ2 vs1 ∧ tT σ3 H5 fun b H6 =>
        if b = true then tE σ3 H6 fun y H7 => ∃ acc, H7 D = some (.lst acc) ∧ acc.length < sizeLine ∧ Nx1 (upd H7 D (.lst (acc ++ [y]))) else Nx1 H6) := by
  refine ⟨fun j k H' => ∃ (ρ' : Ev) (us : List V) (acc rest : List T), Go X.kw σb ρb Hb (wipe σ2 vs1) ρ' H' ∧ (∀ a o, H4 a = some o → ¬ Own σ2 ρ3 a → a ≠ D → H' a = some o) ∧ (∀ a, Own (wipe σ2 vs1) ρ' a → Own σ2 ρ3 a ∨ H4 a = none) ∧ TSt X.kw H4 H' ∧ (∀ a, H' a = none → H4 a = none) ∧
    SR X.kw H' (wipe σ2 vs1) ρ' ∧ Kp (wipeE ρ3 vs1) ρ' ∧ H' D = some (.lst us) ∧ RpL X.kw H' us (acc0 ++ acc) ∧ ¬ Own (wipe σ2 vs1) ρ' D ∧ fLcL (ckOf ts1 lp1) g1 tt1 te vs1 (ts1.drop j) ρ' = some (rest, ρ4) ∧ acc ++ rest = out1 ∧ k = ts1.length - j,
    ⟨ts1.length, wipeE ρ3 vs1, us0, [], out1, gb.trans .wipe, fun a o h _ _ => h, fun a h => .inl h.wipe, .refl _ _, fun _ h => h, S3.wipe, .refl, hD0, by simpa using l0, fun z => noD0 z.wipe, by simpa using e1, rfl, by simp⟩, ?_⟩
  rintro j k H' ⟨ρ', us, acc, rest, gw, kp, ow, ts, dm, S', kw, hD, l, noD, e3, e4, hm⟩
  have okH : ckOf ts1 lp1 ρ' → Ok1 H' := fun ck => by
    refine stay H' kp ts fun i hi a ha => ?_
    subst hi
    have ck : ρ'[i]? = some (some (.obj (.lst ts1))) := ck
    obtain ⟨b, eb, rc⟩ := S'.obj i _ ck
    have hjv : i ∉ vs1 := fun z => by
      have := wipe_some (σ := σ2) (vs := vs1) eb
      exact this.2 z
    rw [wipe_out hjv, ha] at eb
    cases eb
    exact rc
  by_cases hj : j < ts1.length
  · have ei : ts1[j]? = some ts1[j] := List.getElem?_eq_getElem hj
    rw [List.drop_eq_getElem_cons hj, fLcL] at e3
    simp only [Option.bind_eq_some_iff, guardP_some] at e3
    obtain ⟨_, ck, ρ5, e5, ⟨b, ρ6⟩, e6, e7⟩ := e3
    refine .inr ⟨ok.go (okH ck) ei, fun H' => ∃ (ρ' : Ev) (us : List V) (acc rest : List T), Go X.kw σb ρb Hb (wipe σ2 vs1) ρ' H' ∧ (∀ a o, H4 a = some o → ¬ Own σ2 ρ3 a → a ≠ D → H' a = some o) ∧ (∀ a, Own (wipe σ2 vs1) ρ' a → Own σ2 ρ3 a ∨ H4 a = none) ∧ TSt X.kw H4 H' ∧ (∀ a, H' a = none → H4 a = none) ∧
      SR X.kw H' (wipe σ2 vs1) ρ' ∧ Kp (wipeE ρ3 vs1) ρ' ∧ H' D = some (.lst us) ∧ RpL X.kw H' us (acc0 ++ acc) ∧ ¬ Own (wipe σ2 vs1) ρ' D ∧ fLcL (ckOf ts1 lp1) g1 tt1 te vs1 (ts1.drop (j + 1)) ρ' = some (rest, ρ4) ∧ acc ++ rest = out1,
      fun H' ⟨ρ', us, acc, rest, a1, a2, a3, a4, a5, a6, a7, a8, a9, a10, a11, a12⟩ => ⟨ts1.length - (j + 1), by omega, ρ', us, acc, rest, a1, a2, a3, a4, a5, a6, a7, a8, a9, a10, a11, a12, rfl⟩, fun x H'' y => ?_⟩
    obtain ⟨eH, rx⟩ := ok.yld (okH ck) ei y
    rw [eH]
    refine rg (wipe σ2 vs1) H' ρ' x ts1[j] ρ5 _ S' rx e5 fun σ3 g3 S3' l3 o3 => ?_
    have same : wipe σ3 vs1 = wipe σ2 vs1 := by
      have := wipe_same (vs := vs1) l3 o3 hsub
      rw [this]
      exact wipe_same (is := vs1) (by rw [wipe_length]) (fun j hj => wipe_out hj) (fun _ h => h)
    refine ⟨same, ?_⟩
    refine rt σ3 H' ρ5 b ρ6 _ S3' e6 fun H5 g4 S4 k4 => ?_
    have keepD : ∀ {σ' : Sto} {ρ'' : Ev} {H'' : Hp}, Go X.kw (wipe σ2 vs1) ρ' H' σ' ρ'' H'' → H'' D = some (.lst us) ∧ ¬ Own σ' ρ'' D := fun g => by
      refine ⟨g.keep D _ hD noD, fun z => ?_⟩
      rcases g.own D z with z | z
      · exact noD z
      · rw [hD] at z; cases z
    have four : ∀ {σ' : Sto} {ρ'' : Ev} {H'' : Hp}, Go X.kw (wipe σ2 vs1) ρ' H' σ' ρ'' H'' → wipe σ' vs1 = wipe σ2 vs1 →
        (∀ a o, H4 a = some o → ¬ Own σ2 ρ3 a → a ≠ D → H'' a = some o) ∧ (∀ a, Own (wipe σ2 vs1) (wipeE ρ'' vs1) a → Own σ2 ρ3 a ∨ H4 a = none) ∧ TSt X.kw H4 H'' ∧ (∀ a, H'' a = none → H4 a = none) := fun g sm => by
      refine ⟨fun a o h n ne => g.keep a o (kp a o h n ne) fun z => ?_, fun a z => ?_, ts.trans g.tst, fun a h => dm a (g.dom a h)⟩
      · rcases ow a z with z | z
        · exact n z
        · rw [h] at z; cases z
      · rw [← sm] at z
        rcases g.own a z.wipe with z | z
        · exact ow a z
        · exact .inr (dm a z)
    have kk3 : ∀ {ρ'' : Ev}, Kp ρ5 ρ'' → Kp (wipeE ρ3 vs1) (wipeE ρ'' vs1) := fun {ρ''} k j c hj => by
      obtain ⟨hv, hj'⟩ := wipe_get hj
      obtain ⟨c1, h1⟩ := kw j c hj
      have h2 : ρ5[j]? = some (some (.obj c1)) := by rw [go_ _ _ _ e5 j fun z => hv (hsub j z)]; exact h1
      obtain ⟨c2, h3⟩ := k j c1 h2
      exact ⟨c2, by rw [wipeE_out hv]; exact h3⟩
    cases b with
    | false =>
      simp only [Bool.false_eq_true, if_false] at e7 ⊢
      have gg := g3.trans g4
      obtain ⟨d1, d2⟩ := keepD gg
      obtain ⟨f1, f2, f3, f4⟩ := four gg same
      have gw' : Go X.kw σb ρb Hb (wipe σ2 vs1) (wipeE ρ6 vs1) H5 := by
        have := (gw.trans gg).trans (Go.wipe (vs := vs1))
        rw [same] at this
        exact this
      have S6 : SR X.kw H5 (wipe σ2 vs1) (wipeE ρ6 vs1) := by
        have := S4.wipe (vs := vs1)
        rw [same] at this
        exact this
      exact ⟨wipeE ρ6 vs1, us, acc, rest, gw', f1, f2, f3, f4, S6, kk3 k4, d1, l.m gg.tst, fun z => by rw [← same] at z; exact d2 z.wipe, e7, e4⟩
    | true =>
      simp only [if_true, Option.bind_eq_some_iff] at e7 ⊢
      obtain ⟨⟨h5, ρ7⟩, e8, e9⟩ := e7
      refine re σ3 H5 ρ6 h5 ρ7 _ S4 e8 fun u H6 g5 S5 k5 r5 => ?_
      cases h5 with
      | tmp c => cases e9
      | plc j => cases e9
      | dat t =>
        simp only [Option.map_eq_some_iff] at e9
        obtain ⟨⟨rest', ρr⟩, e10, e11⟩ := e9
        cases e11
        have gg := (g3.trans g4).trans g5
        obtain ⟨d1, d2⟩ := keepD gg
        obtain ⟨f1, f2, f3, f4⟩ := four gg same
        have noW : ¬ Own (wipe σ2 vs1) (wipeE ρ7 vs1) D := fun z => by
          rw [← same] at z
          exact d2 z.wipe
        have gw' : Go X.kw σb ρb Hb (wipe σ2 vs1) (wipeE ρ7 vs1) H6 := by
          have := (gw.trans gg).trans (Go.wipe (vs := vs1))
          rw [same] at this
          exact this
        have Sw5 : SR X.kw H6 (wipe σ2 vs1) (wipeE ρ7 vs1) := by
          have := S5.wipe (vs := vs1)
          rw [same] at this
          exact this
        refine ⟨us, d1, ?_, wipeE ρ7 vs1, us ++ [u], acc ++ [t], rest', ⟨fun a o ha n => ?_, gw'.own, gw'.tst.trans (tst_lst d1), fun a ha => gw'.dom a (upd_none ha)⟩, fun a o h n ne => ?_, f2, f3.trans (tst_lst d1), fun a ha => f4 a (upd_none ha), Sw5.aside d1 noW, kk3 (k4.trans k5), upd_same, ?_, noW, e10, by rw [List.append_assoc]; exact e4⟩
        · have h1 := (l.m gg.tst).length
          have h2 : acc.length + (t :: rest').length = out1.length := by rw [← e4, List.length_append]
          rw [List.length_append] at h1
          rw [List.length_cons] at h2
          omega
        · have : a ≠ D := by rintro rfl; rw [nD] at ha; cases ha
          rw [upd_ne this]
          exact gw'.keep a o ha n
        · rw [upd_ne ne]
          exact f1 a o h n ne
        · rw [← List.append_assoc]
          exact ((l.m gg.tst).append (.one r5)).m (tst_lst d1)
  · have ed : ts1.drop j = [] := List.drop_eq_nil_of_le (by omega)
    rw [ed, fLcL] at e3
    simp only [Option.map_eq_some_iff, guardP_some] at e3
    obtain ⟨_, ck, e5⟩ := e3
    cases e5
    rw [List.append_nil] at e4
    subst e4
    exact .inl ⟨ok.stop (okH ck) (by omega), fin H' us gw S' kw hD l noD⟩
theorem lc2_core' {it it1 : FI} {g g1 : GT} {tt tt1 : FB} {te : FE} {is is1 : List Nat} {wi wi1 : TI} {tG tG1 : TG} {tT tT1 : TT} {tE : TE} {vs vs1 : List Nat} (hsub : ∀ j ∈ is, j ∈ vs) (hsub1 : ∀ j ∈ is1, j ∈ vs1) (hv : ∀ j ∈ vs1, j ∈ vs)
    (ri : ∀ (σ : Sto) (H : Hp) (ρ : Ev) (ts : List T) (lp : Option Nat) (ρ' : Ev) (R : It → Hp → Prop), SR X.kw H σ ρ → it ρ = some (ts, lp, ρ') →
      (∀ J H' Ok, Go X.kw σ ρ H σ ρ' H' → SR X.kw H' σ ρ' → Kp ρ ρ' → ItOk X.kw ts J Ok → (∀ i, lp = some i → ρ'[i]? = some (some (.obj (.lst ts)))) →
        (∀ (Ds : Addr → Prop) H'', (∀ a, Ds a → H a ≠ none) → (∀ a o, H' a = some o → ¬ Own σ ρ' a → ¬ Ds a → H'' a = some o) → TSt X.kw H' H'' → (∀ i, lp = some i → ∀ a, σ[i]? = some (some (.ref a)) → RpC X.kw H'' a (.lst ts)) → Ok H'') → R J H') → wi σ H R)
    (ri1 : ∀ (σ : Sto) (H : Hp) (ρ : Ev) (ts : List T) (lp : Option Nat) (ρ' : Ev) (R : It → Hp → Prop), SR X.kw H σ ρ → it1 ρ = some (ts, lp, ρ') →
      (∀ J H' Ok, Go X.kw σ ρ H σ ρ' H' → SR X.kw H' σ ρ' → Kp ρ ρ' → ItOk X.kw ts J Ok → (∀ i, lp = some i → ρ'[i]? = some (some (.obj (.lst ts)))) →
        (∀ (Ds : Addr → Prop) H'', (∀ a, Ds a → H a ≠ none) → (∀ a o, H' a = some o → ¬ Own σ ρ' a → ¬ Ds a → H'' a = some o) → TSt X.kw H' H'' → (∀ i, lp = some i → ∀ a, σ[i]? = some (some (.ref a)) → RpC X.kw H'' a (.lst ts)) → Ok H'') → R J H') → wi1 σ H R)
    (go_ : ∀ d ρ ρ', g d ρ = some ρ' → ∀ (j : Nat), j ∉ is → ρ'[j]? = ρ[j]?) (go1 : ∀ d ρ ρ', g1 d ρ = some ρ' → ∀ (j : Nat), j ∉ is1 → ρ'[j]? = ρ[j]?)
    (rg : ∀ (σ : Sto) (H : Hp) (ρ : Ev) (v : V) (d : T) (ρ' : Ev) (Q : L2.St → Hp → Prop), SR X.kw H σ ρ → Rp X.kw H v d → g d ρ = some ρ' →
      (∀ σ', Go X.kw σ ρ H σ' ρ' H → SR X.kw H σ' ρ' → σ'.length = σ.length → (∀ (j : Nat), j ∉ is → σ'[j]? = σ[j]?) → Q σ' H) → tG v σ H Q)
    (rg1 : ∀ (σ : Sto) (H : Hp) (ρ : Ev) (v : V) (d : T) (ρ' : Ev) (Q : L2.St → Hp → Prop), SR X.kw H σ ρ → Rp X.kw H v d → g1 d ρ = some ρ' →
      (∀ σ', Go X.kw σ ρ H σ' ρ' H → SR X.kw H σ' ρ' → σ'.length = σ.length → (∀ (j : Nat), j ∉ is1 → σ'[j]? = σ[j]?) → Q σ' H) → tG1 v σ H Q)
    (rt : ∀ (σ : Sto) (H : Hp) (ρ : Ev) (b : Bool) (ρ' : Ev) (Q : Bool → Hp → Prop), SR X.kw H σ ρ → tt ρ = some (b, ρ') → (∀ H', Go X.kw σ ρ H σ ρ' H' → SR X.kw H' σ ρ' → Kp ρ ρ' → Q b H') → tT σ H Q)
    (rt1 : ∀ (σ : Sto) (H : Hp) (ρ : Ev) (b : Bool) (ρ' : Ev) (Q : Bool → Hp → Prop), SR X.kw H σ ρ → tt1 ρ = some (b, ρ') → (∀ H', Go X.kw σ ρ H σ ρ' H' → SR X.kw H' σ ρ' → Kp ρ ρ' → Q b H') → tT1 σ H Q)
    (re : ∀ (σ : Sto) (H : Hp) (ρ : Ev) (h : Hd) (ρ' : Ev) (Q : VK), SR X.kw H σ ρ → te ρ = some (h, ρ') → (∀ u H', Go X.kw σ ρ H σ ρ' H' → SR X.kw H' σ ρ' → Kp ρ ρ' → HR X.kw H H' σ ρ' h u → Q u H') → tE σ H Q)
    (σ : Sto) (H : Hp) (ρ : Ev) (h : Hd) (ρ' : Ev) (Q : VK) (S : SR X.kw H σ ρ) (e : fLc2 it g tt it1 g1 tt1 te vs vs1 ρ = some (h, ρ'))
    (q : ∀ u H', Go X.kw σ ρ H σ ρ' H' → SR X.kw H' σ ρ' → Kp ρ ρ' → HR X.kw H H' σ ρ' h u → Q u H') : tLc2 wi tG tT wi1 tG1 tT1 tE vs vs1 σ H Q := by
  simp only [fLc2, Option.bind_eq_some_iff, Option.map_eq_some_iff, guardP_some] at e
  obtain ⟨⟨ts, lp, ρ1⟩, e0, ⟨out, ρo⟩, e1, _, hz, e2⟩ := e
  cases e2
  refine ri σ H ρ ts lp ρ1 _ S e0 fun J H1 Ok ga1 S1 k1 ok hlp stay => fun D nD => ?_
  have Sw : SR X.kw H1 (wipe σ vs) (wipeE ρ1 vs) := S1.wipe
  have noD0 : ¬ Own (wipe σ vs) (wipeE ρ1 vs) D := Sw.not_own nD
  refine ⟨fun i m H' => ∃ (ρ' : Ev) (us : List V) (acc : List T) (rest : List T), Go X.kw (wipe σ vs) (wipeE ρ1 vs) H1 (wipe σ vs) ρ' H' ∧ SR X.kw H' (wipe σ vs) ρ' ∧ Kp (wipeE ρ1 vs) ρ' ∧ H' D = some (.lst us) ∧ RpL X.kw H' us acc ∧ ¬ Own (wipe σ vs) ρ' D ∧
    fLc2L (ckOf ts lp) g tt it1 g1 tt1 te vs vs1 (ts.drop i) ρ' = some (rest, ρo) ∧ acc ++ rest = out ∧ m = ts.length - i,
    ⟨ts.length, wipeE ρ1 vs, [], [], out, .new nD, Sw.new nD, .refl, upd_same, .nil, noD0, by simpa using e1, rfl, by simp⟩, ?_⟩
  rintro i m H2 ⟨ρ2, us, acc, rest, gw, S2, kw, hD, l, noD, e3, e4, hm⟩
  have okH : ckOf ts lp ρ2 → Ok H2 := fun ck => by
    refine stay (fun _ => False) H2 (fun _ z => z.elim) (fun a o ha n _ => gw.keep a o ha fun z => n z.wipe) gw.tst fun j hj a ha => ?_
    subst hj
    have ck : ρ2[j]? = some (some (.obj (.lst ts))) := ck
    obtain ⟨b, eb, rc⟩ := S2.obj j _ ck
    have hjv : j ∉ vs := fun z => by
      have := wipe_some (σ := σ) (vs := vs) eb
      exact this.2 z
    rw [wipe_out hjv, ha] at eb
    cases eb
    exact rc
  by_cases hi : i < ts.length
  · have ei : ts[i]? = some ts[i] := List.getElem?_eq_getElem hi
    rw [List.drop_eq_getElem_cons hi, fLc2L] at e3
    simp only [Option.bind_eq_some_iff, guardP_some] at e3
    obtain ⟨_, ck, ρ3, e5, ⟨b, ρ4⟩, e6, e7⟩ := e3
    refine .inr ⟨ok.go (okH ck) ei, fun H' => ∃ (ρ' : Ev) (us : List V) (acc : List T) (rest : List T), Go X.kw (wipe σ vs) (wipeE ρ1 vs) H1 (wipe σ vs) ρ' H' ∧ SR X.kw H' (wipe σ vs) ρ' ∧ Kp (wipeE ρ1 vs) ρ' ∧ H' D = some (.lst us) ∧ RpL X.kw H' us acc ∧ ¬ Own (wipe σ vs) ρ' D ∧
      fLc2L (ckOf ts lp) g tt it1 g1 tt1 te vs vs1 (ts.drop (i + 1)) ρ' = some (rest, ρo) ∧ acc ++ rest = out,
      fun H' ⟨ρ', us, acc, rest, a1, a2, a3, a4, a5, a6, a7, a8⟩ => ⟨ts.length - (i + 1), by omega, ρ', us, acc, rest, a1, a2, a3, a4, a5, a6, a7, a8, rfl⟩, fun x H' y => ?_⟩
    obtain ⟨eH, rx⟩ := ok.yld (okH ck) ei y
    rw [eH]
    refine rg (wipe σ vs) H2 ρ2 x ts[i] ρ3 _ S2 rx e5 fun σ3 g3 S3 l3 o3 => ?_
    have same : wipe σ3 vs = wipe σ vs := by
      have := wipe_same (vs := vs) l3 o3 hsub
      rw [this]
      exact wipe_same (is := vs) (by rw [wipe_length]) (fun j hj => wipe_out hj) (fun _ h => h)
    refine ⟨same, ?_⟩
    refine rt σ3 H2 ρ3 b ρ4 _ S3 e6 fun H3 g4 S4 k4 => ?_
    have keepD : ∀ {σ' : Sto} {ρ' : Ev} {H' : Hp}, Go X.kw (wipe σ vs) ρ2 H2 σ' ρ' H' → H' D = some (.lst us) ∧ ¬ Own σ' ρ' D := fun g => by
      refine ⟨g.keep D _ hD noD, fun z => ?_⟩
      rcases g.own D z with z | z
      · exact noD z
      · rw [hD] at z; cases z
    have kk3 : ∀ {ρ'' : Ev}, (∀ j c, j ∉ vs → ρ3[j]? = some (some (.obj c)) → ∃ c', ρ''[j]? = some (some (.obj c'))) → Kp (wipeE ρ1 vs) (wipeE ρ'' vs) := fun {ρ''} k j c hj => by
      obtain ⟨hv, hj'⟩ := wipe_get hj
      obtain ⟨c1, h1⟩ := kw j c hj
      have h2 : ρ3[j]? = some (some (.obj c1)) := by rw [go_ _ _ _ e5 j fun z => hv (hsub j z)]; exact h1
      obtain ⟨c2, h3⟩ := k j c1 hv h2
      exact ⟨c2, by rw [wipeE_out hv]; exact h3⟩
    cases b with
    | false =>
      simp only [Bool.false_eq_true, if_false] at e7 ⊢
      have gg := (g3.trans g4)
      obtain ⟨d1, d2⟩ := keepD gg
      have gw' : Go X.kw (wipe σ vs) (wipeE ρ1 vs) H1 (wipe σ vs) (wipeE ρ4 vs) H3 := by
        have := (gw.trans gg).trans (Go.wipe (vs := vs))
        rw [same] at this
        exact this
      refine ⟨wipeE ρ4 vs, us, acc, rest, gw', ?_, kk3 (fun j c _ h => k4 j c h), d1, l.m gg.tst, ?_, e7, e4⟩
      · have := S4.wipe (vs := vs)
        rw [same] at this
        exact this
      · intro z
        rw [← same] at z
        exact d2 z.wipe
    | true =>
      simp only [if_true, Option.bind_eq_some_iff, Option.map_eq_some_iff] at e7 ⊢
      obtain ⟨⟨ts1, lp1, ρ5⟩, e8, ⟨out1, ρ6⟩, e9, ⟨rest', ρr⟩, e10, e11⟩ := e7
      cases e11
      refine ri1 σ3 H3 ρ4 ts1 lp1 ρ5 _ S4 e8 fun J1 H4 Ok1 g5 S5 k5 ok1 hlp1 stay1 => ?_
      have gg := (g3.trans g4).trans g5
      obtain ⟨d1, d2⟩ := keepD gg
      have hD3 : H3 D ≠ none := by
        rw [(keepD (g3.trans g4)).1]
        exact fun z => nomatch z
      have hlen : acc.length + out1.length ≤ sizeLine := by
        have hz : out.length ≤ sizeLine := hz
        have : acc.length + (out1.length + rest'.length) = out.length := by simp [← e4]
        omega
      refine inner_run (σb := wipe σ vs) (ρb := wipeE ρ1 vs) (Hb := H1) (D := D) hsub1 go1 rg1 rt1 re S5 (gw.trans gg) nD d1 d2 (l.m gg.tst) hlen ok1 (fun H'' k t p => stay1 (fun a => a = D) H'' (fun a ea => by rw [ea]; exact hD3) (fun a o h n d => k a o h n d) t p) e9 fun H' us' ga Sa ka da la noa => ?_
      have same2 : wipe (wipe σ3 vs1) vs = wipe σ vs := by
        rw [← same]
        exact wipe_same (is := vs1) (by rw [wipe_length]) (fun j hj => wipe_out hj) hv
      refine ⟨wipeE ρ6 vs, us', acc ++ out1, rest', ?_, ?_, kk3 (fun j c hj h => ?_), da, la, ?_, e10, by rw [List.append_assoc]; exact e4⟩
      · have := ga.trans (Go.wipe (vs := vs))
        rw [same2] at this
        exact this
      · have := Sa.wipe (vs := vs)
        rw [same2] at this
        exact this
      · obtain ⟨c2, h2⟩ := (k4.trans k5) j c h
        obtain ⟨c3, h3⟩ := ka j c2 (by rw [wipeE_out fun z => hj (hv j z)]; exact h2)
        exact ⟨c3, h3⟩
      · intro z
        rw [← same2] at z
        exact noa z.wipe
  · have ed : ts.drop i = [] := List.drop_eq_nil_of_le (by omega)
    rw [ed, fLc2L] at e3
    simp only [Option.map_eq_some_iff, guardP_some] at e3
    obtain ⟨_, ck, e5⟩ := e3
    cases e5
    rw [List.append_nil] at e4
    subst e4
    refine .inl ⟨ok.stop (okH ck) (by omega), ?_⟩
    obtain ⟨b1, b2, b3, b4⟩ := back_SR S1 S2 ga1 gw kw
    exact q (.ref D) H2 b2 b1 (k1.trans b3) ⟨D, rfl, ⟨us, hD, l⟩, ga1.dom D nD, b4 D nD noD⟩
theorem di_unif {scope : Scope} {tg e : Expr} {f : FI} (h : ∀ s H C cl fp, DI (Blk X scope s H C cl fp) tg e f) : ∃ wi : TI, (∀ s H C cl fp, PI (Blk X scope s H C cl fp) tg e wi) ∧ ∀ (σ : Sto) (H : Hp) (ρ : Ev) (ts : List T) (lp : Option Nat) (ρ' : Ev) (R : It → Hp → Prop), SR X.kw H σ ρ → f ρ = some (ts, lp, ρ') →
    (∀ J H' Ok, Go X.kw σ ρ H σ ρ' H' → SR X.kw H' σ ρ' → Kp ρ ρ' → ItOk X.kw ts J Ok → (∀ i, lp = some i → ρ'[i]? = some (some (.obj (.lst ts)))) →
      (∀ (Ds : Addr → Prop) H'', (∀ a, Ds a → H a ≠ none) → (∀ a o, H' a = some o → ¬ Own σ ρ' a → ¬ Ds a → H'' a = some o) → TSt X.kw H' H'' → (∀ i, lp = some i → ∀ a, σ[i]? = some (some (.ref a)) → RpC X.kw H'' a (.lst ts)) → Ok H'') → R J H') → wi σ H R := by
  refine ⟨fun σ H R => ∀ s' H' C cl fp, (h s' H' C cl fp).run.choose σ H R, fun s' H' C cl fp => ⟨fun pins s σ H R I ht => (h s' H' C cl fp).run.choose_spec.1.run pins s σ H R I (ht s' H' C cl fp)⟩, fun σ H ρ ts lp ρ' R S e q s' H' C cl fp => ?_⟩
  exact (h s' H' C cl fp).run.choose_spec.2 σ H ρ ts lp ρ' R S e q
section
variable {elt tg iter tg1 iter1 : Expr} {ifs ifs1 : List Expr} {scope : Scope} {own : List (Str × Nat)} {pos : Pos} {it it1 : FI} {g g1 : GT} {tt tt1 : FB} {te : FE} {is is1 : List Nat} {vs1 : List Nat}
theorem de_lc2 (hc : X.calm = true) (hN : X.N.Nodup) (hi : DI X tg iter it) (ok : BlkOk X.N X.env.scope scope own) (hsub : ∀ j ∈ is, j ∈ own.map (·.2)) (hsub1 : ∀ j ∈ is1, j ∈ vs1) (hv : ∀ j ∈ vs1, j ∈ own.map (·.2)) (hout : GOut g is) (hout1 : GOut g1 is1)
    (hg : ∀ (s : Shared) (H : Hp) (C : Addr) (cl : List (Str × Addr)) (fp : List Addr), DG (X.blk s H scope (compEnvC scope cl C X.env) fp) [] is tg g)
    (ht : ∀ (s : Shared) (H : Hp) (C : Addr) (cl : List (Str × Addr)) (fp : List Addr), DTs (X.blk s H scope (compEnvC scope cl C X.env) fp) ifs tt)
    (hi1 : ∀ (s : Shared) (H : Hp) (C : Addr) (cl : List (Str × Addr)) (fp : List Addr), DI (X.blk s H scope (compEnvC scope cl C X.env) fp) tg1 iter1 it1)
    (hg1 : ∀ (s : Shared) (H : Hp) (C : Addr) (cl : List (Str × Addr)) (fp : List Addr), DG (X.blk s H scope (compEnvC scope cl C X.env) fp) [] is1 tg1 g1)
    (ht1 : ∀ (s : Shared) (H : Hp) (C : Addr) (cl : List (Str × Addr)) (fp : List Addr), DTs (X.blk s H scope (compEnvC scope cl C X.env) fp) ifs1 tt1)
    (he : ∀ (s : Shared) (H : Hp) (C : Addr) (cl : List (Str × Addr)) (fp : List Addr), DE (X.blk s H scope (compEnvC scope cl C X.env) fp) elt te) (hs : ∀ x, foldedSetIterable iter X.env x = pure x := by intro _; rfl) (hs1 : ∀ env x, foldedSetIterable iter1 env x = pure x := by intro _ _; rfl) :
    DE X (.ListComp elt [⟨tg, iter, ifs, 0⟩, ⟨tg1, iter1, ifs1, 0⟩] scope pos) (fLc2 it g tt it1 g1 tt1 te (own.map (·.2)) vs1) := by
  obtain ⟨wi, pi, ri⟩ := hi.run
  obtain ⟨tG, pG, rG⟩ := dg_unif hg
  obtain ⟨tT, pT, rT⟩ := dts_unif ht
  obtain ⟨wi1, pi1, ri1⟩ := di_unif hi1
  obtain ⟨tG1, pG1, rG1⟩ := dg_unif hg1
  obtain ⟨tT1, pT1, rT1⟩ := dts_unif ht1
  obtain ⟨tE, pE, rE⟩ := de_unif he
  exact ⟨_, pe_lc2 (vs1 := vs1) hc hN pi ok hv pG pT pi1 pG1 pT1 pE hs hs1, fun σ H ρ h ρ' Q S e q => lc2_core' hsub hsub1 hv ri ri1 hout hout1 rG rG1 rT rT1 rE σ H ρ h ρ' Q S e q⟩
/-- x = [.. two for ..] -/
theorem ds_setLc2 {pl : List Nat} {chk : Bool} {i : Nat} {y : Str} {py spos : Pos} (hc : X.calm = true) (hN : X.N.Nodup) (hy : X.N[i]? = some y) (hyl : X.env.scope.names.lookup y = some .local)
    (hsw : swapsWith (.ListComp elt [⟨tg, iter, ifs, 0⟩, ⟨tg1, iter1, ifs1, 0⟩] scope pos) (some (.Name y py)) spos.line X.env = pure true) (hi : DI X tg iter it) (ok : BlkOk X.N X.env.scope scope own) (hsub : ∀ j ∈ is, j ∈ own.map (·.2)) (hsub1 : ∀ j ∈ is1, j ∈ vs1) (hv : ∀ j ∈ vs1, j ∈ own.map (·.2)) (hout : GOut g is) (hout1 : GOut g1 is1)
    (hg : ∀ (s : Shared) (H : Hp) (C : Addr) (cl : List (Str × Addr)) (fp : List Addr), DG (X.blk s H scope (compEnvC scope cl C X.env) fp) [] is tg g)
    (ht : ∀ (s : Shared) (H : Hp) (C : Addr) (cl : List (Str × Addr)) (fp : List Addr), DTs (X.blk s H scope (compEnvC scope cl C X.env) fp) ifs tt)
    (hi1 : ∀ (s : Shared) (H : Hp) (C : Addr) (cl : List (Str × Addr)) (fp : List Addr), DI (X.blk s H scope (compEnvC scope cl C X.env) fp) tg1 iter1 it1)
    (hg1 : ∀ (s : Shared) (H : Hp) (C : Addr) (cl : List (Str × Addr)) (fp : List Addr), DG (X.blk s H scope (compEnvC scope cl C X.env) fp) [] is1 tg1 g1)
    (ht1 : ∀ (s : Shared) (H : Hp) (C : Addr) (cl : List (Str × Addr)) (fp : List Addr), DTs (X.blk s H scope (compEnvC scope cl C X.env) fp) ifs1 tt1)
    (he : ∀ (s : Shared) (H : Hp) (C : Addr) (cl : List (Str × Addr)) (fp : List Addr), DE (X.blk s H scope (compEnvC scope cl C X.env) fp) elt te) (hck : chk = false → i ∉ pl := by decide) (hs : ∀ x, foldedSetIterable iter X.env x = pure x := by intro _; rfl) (hs1 : ∀ env x, foldedSetIterable iter1 env x = pure x := by intro _ _; rfl) :
    DS X pl (.Assign [.Name y py] (.ListComp elt [⟨tg, iter, ifs, 0⟩, ⟨tg1, iter1, ifs1, 0⟩] scope pos) spos) (fSet chk i (fLc2 it g tt it1 g1 tt1 te (own.map (·.2)) vs1)) := by
  obtain ⟨wi, pi, ri⟩ := hi.run
  obtain ⟨tG, pG, rG⟩ := dg_unif hg
  obtain ⟨tT, pT, rT⟩ := dts_unif ht
  obtain ⟨wi1, pi1, ri1⟩ := di_unif hi1
  obtain ⟨tG1, pG1, rG1⟩ := dg_unif hg1
  obtain ⟨tT1, pT1, rT1⟩ := dts_unif ht1
  obtain ⟨tE, pE, rE⟩ := de_unif he
  refine ⟨_, ps_setLc2 (vs1 := vs1) hc hN hy hyl hsw pi ok hv pG pT pi1 pG1 pT1 pE hs hs1, fun pn σ H ρ o D hp S P e q => ?_⟩
  simp only [fSet, Option.bind_eq_some_iff] at e
  obtain ⟨⟨h1, ρ1⟩, e1, e2⟩ := e
  split at e2
  · rename_i hl
    simp only [Option.map_eq_some_iff] at e2
    obtain ⟨ρ2, e3, e4⟩ := e2
    subst e4
    refine lc2_core' hsub hsub1 hv ri ri1 hout hout1 rG rG1 rT rT1 rE σ H ρ h1 ρ1 _ S e1 fun u H1 g1 S1 k1 r1 => ?_
    obtain ⟨a1, a2, a3⟩ := stH_SR S1 g1 (P.kp k1) hp hck hl r1 e3
    exact q _ H1 a2 a1 a3
  · cases e2
end
theorem np_lc2 {it it1 : FI} {g g1 : GT} {tt tt1 : FB} {te : FE} {vs vs1 : List Nat} : NoPlc (fLc2 it g tt it1 g1 tt1 te vs vs1) := fun ρ h ρ' e i z => by
  simp only [fLc2, Option.bind_eq_some_iff, Option.map_eq_some_iff] at e
  obtain ⟨_, _, _, _, _, _, e⟩ := e
  cases e; cases z
end
end PD

namespace PD
open PySem PySem.Spec PyProof.Rows L2
/-! ### dicts as data -/
def dGet (kvs : List (T × T)) (t : T) : Option T := (kvs.find? fun p => decide (keyOf p.1 = keyOf t)).map (·.2)
def dPut (kvs : List (T × T)) (t d : T) : List (T × T) := if kvs.any (fun p => decide (keyOf p.1 = keyOf t)) = true then kvs.map (fun p => if keyOf p.1 = keyOf t then (p.1, d) else p) else kvs ++ [(t, d)]
/-- keys of one sort -/
def kOk (kvs : List (T × T)) (t : T) : Bool := match lfOf t with
  | some _ => kvs.all fun p => (lfOf p.1).isSome
  | none => (tkOf t).isSome && kvs.all fun p => (tkOf p.1).isSome
theorem lf_not_tk {t : T} {l : Leaf} (h : lfOf t = some l) : tkOf t = none := by
  unfold lfOf at h
  split at h <;> first | rfl | cases h
theorem tk_not_lf {t : T} {k : NestedKey} (h : tkOf t = some k) : lfOf t = none := by
  cases q : lfOf t with
  | none => rfl
  | some l => rw [lf_not_tk q] at h; cases h
theorem keyOf_lf {t : T} {l : Leaf} (h : lfOf t = some l) : keyOf t = some l.key := by unfold keyOf; rw [h]
theorem keyOf_tk {t : T} {k : NestedKey} (h : tkOf t = some k) : keyOf t = some k := by unfold keyOf; rw [tk_not_lf h]; exact h
section
variable {α β : Type} {F : α → β → Prop} {p : α → Bool} {q : β → Bool}
theorem paired_find : ∀ {l1 : List α} {l2 : List β}, Paired F l1 l2 → (∀ a b, F a b → p a = q b) → (l1.find? p = none ∧ l2.find? q = none) ∨ ∃ a b, l1.find? p = some a ∧ l2.find? q = some b ∧ F a b
  | _, _, .nil, _ => .inl ⟨rfl, rfl⟩
  | _, _, .cons (a := a) (b := b) h t, e => by
    rw [List.find?_cons, List.find?_cons, ← e _ _ h]
    cases p a with
    | true => exact .inr ⟨a, b, rfl, rfl, h⟩
    | false => exact paired_find t e
theorem paired_any : ∀ {l1 : List α} {l2 : List β}, Paired F l1 l2 → (∀ a b, F a b → p a = q b) → l1.any p = l2.any q
  | _, _, .nil, _ => rfl
  | _, _, .cons h t, e => by rw [List.any_cons, List.any_cons, e _ _ h, paired_any t e]
theorem paired_map {f : α → α} {g : β → β} : ∀ {l1 : List α} {l2 : List β}, Paired F l1 l2 → (∀ a b, F a b → F (f a) (g b)) → Paired F (l1.map f) (l2.map g)
  | _, _, .nil, _ => .nil
  | _, _, .cons h t, e => .cons (e _ _ h) (paired_map t e)
theorem paired_app : ∀ {l1 k1 : List α} {l2 k2 : List β}, Paired F l1 l2 → Paired F k1 k2 → Paired F (l1 ++ k1) (l2 ++ k2)
  | _, _, _, _, .nil, s => s
  | _, _, _, _, .cons h t, s => .cons h (paired_app t s)
theorem paired_mem : ∀ {l1 : List α} {l2 : List β}, Paired F l1 l2 → ∀ b ∈ l2, ∃ a ∈ l1, F a b
  | _, _, .cons h t, x, hx => by
    rcases List.mem_cons.mp hx with e | hx
    · subst e; exact ⟨_, List.mem_cons_self, h⟩
    · obtain ⟨a, ha, f⟩ := paired_mem t x hx
      exact ⟨a, List.mem_cons_of_mem _ ha, f⟩
theorem paired_memL : ∀ {l1 : List α} {l2 : List β}, Paired F l1 l2 → ∀ a ∈ l1, ∃ b ∈ l2, F a b
  | _, _, .cons h t, x, hx => by
    rcases List.mem_cons.mp hx with e | hx
    · subst e; exact ⟨_, List.mem_cons_self, h⟩
    · obtain ⟨a, ha, f⟩ := paired_memL t x hx
      exact ⟨a, List.mem_cons_of_mem _ ha, f⟩
end
theorem leaf_key_inj {a b : Leaf} (h : a.key = b.key) : a = b := Leaf.key_inj h
section
variable {X : Cx} {pins : List (Addr × Obj)} {σ : Sto} {H : Hp} {s : Shared} {A : Around} {E : Value → Shared → Prop} {a : Addr} {kvs : List (T × T)} {t d : T}
mutual
theorem rp_nested (I : Inv X pins σ H s) : ∀ (t : T) (v : V) (u : Value) (k : NestedKey), Rp X.kw H v t → RelV v u → keyN t = some k → NestedIs s.heap k u
  | .none, v, u, k, r, e, h => by cases r; cases e; cases h; exact .none
  | .bool b, v, u, k, r, e, h => by cases r; cases e; cases h; exact .bool rfl
  | .int i, v, u, k, r, e, h => by cases r; obtain ⟨t, rfl⟩ := e; cases h; exact .int _ _
  | .str x, v, u, k, r, e, h => by cases r; obtain ⟨t, rfl⟩ := e; cases h; exact .text _ _
  | .tuple ds, v, u, k, r, e, h => by
    cases r with
    | tup hs ha =>
      cases e
      simp only [keyN, Option.map_eq_some_iff] at h
      obtain ⟨ks, h, rfl⟩ := h
      obtain ⟨its, rv, ⟨o, ho, hc, n, hd⟩, _⟩ := I.tuple hs.t
      exact .tup ho hc hd (by simpa using rp_nesteds I ds _ its ks ha rv h)
  | .list _, v, u, k, r, e, h => by cases h
  | .dict _, v, u, k, r, e, h => by cases h
theorem rp_nesteds (I : Inv X pins σ H s) : ∀ (ds : List T) (vs : List V) (us : List Value) (ks : List NestedKey), RpL X.kw H vs ds → Vals vs us → keysN ds = some ks → NestedAll s.heap ks us
  | [], vs, us, ks, r, e, h => by cases r; cases e; cases h; exact .nil
  | d :: ds, vs, us, ks, r, e, h => by
    cases r with
    | cons r1 r2 =>
      cases e with
      | cons e1 e2 =>
        simp only [keysN, Option.bind_eq_some_iff, Option.map_eq_some_iff] at h
        obtain ⟨k, h1, ks', h2, rfl⟩ := h
        exact .cons (rp_nested I d _ _ k r1 e1 h1) (rp_nesteds I ds _ _ ks' r2 e2 h2)
end
theorem tk_is (I : Inv X pins σ H s) {b : Addr} {k : NestedKey} (r : Rp X.kw H (.ref b) t) (h : tkOf t = some k) : (nestedKind X.prog X.w).is s.heap k b := by
  unfold tkOf at h
  split at h
  · simp only [Option.bind_eq_some_iff] at h
    obtain ⟨ks, h1, h2⟩ := h
    split at h2
    · rename_i hd
      cases h2
      exact ⟨rp_nested I _ _ _ _ r rfl (by simp only [keyN, h1, Option.map_some]), hd⟩
    · cases h2
  · cases h
theorem tk_ref {v : V} {k : NestedKey} (r : Rp X.kw H v t) (h : tkOf t = some k) : ∃ b, v = .ref b := by
  unfold tkOf at h
  split at h
  · cases r; exact ⟨_, rfl⟩
  · cases h
theorem lf_is {v : V} {u : Value} {l : Leaf} (r : Rp X.kw H v t) (e : RelV v u) (h : lfOf t = some l) : (plainKind X.prog X.w).is l u = true := by
  cases t with
  | none => cases r; exact plIs_lf h rfl e
  | int i => cases r; exact plIs_lf h rfl e
  | str x => cases r; exact plIs_lf h rfl e
  | _ => cases h
/-- the two readings of a dict's entries -/
theorem dv_of (I : Inv X pins σ H s) {E : List DictEntry} (e : H a = some (rawO a E)) {M : List (Leaf × Value)} (h1 : KeysOf (plainKind X.prog X.w) E.toArray) (h2 : Pairs (plainKind X.prog X.w) E M) (h3 : (M.map (·.1)).Nodup) : (a == sysModules) = false ∧ s.heap.DictOf (plainKind X.prog X.w) a M := by
  obtain ⟨ha, o, es, ep, ho, hc, hd, he⟩ := rawO_at I.hok e
  have : es = E.toArray := by rw [← he]
  subst this
  exact ⟨ha, o, _, ep, ho, hc, hd, h1, by simpa using h2, h3⟩
theorem dh_of (I : Inv X pins σ H s) {M : List (NestedKey × Addr × Value)} (e : H a = some (rawO a (M.map (entryOfKey (nestedKind X.prog X.w))))) (h3 : (M.map (·.1)).Nodup)
    (r : Paired (fun (p : T × T) (m : NestedKey × Addr × Value) => tkOf p.1 = some m.1 ∧ Rp X.kw H (.ref m.2.1) p.1 ∧ ∃ v, RelV v m.2.2 ∧ Rp X.kw H v p.2) kvs M) : (a == sysModules) = false ∧ s.heap.DictOfH (nestedKind X.prog X.w) a M := by
  obtain ⟨ha, o, es, ep, ho, hc, hd, he⟩ := rawO_at I.hok e
  refine ⟨ha, o, es, ep, ho, hc, hd, he, fun x hx => ?_, h3⟩
  obtain ⟨p, _, f1, f2, _⟩ := paired_mem r x hx
  exact tk_is I f2 f1
theorem empty_dv {K : KW} {H : Hp} : DV K H [] [] := ⟨[], fun e he => by simp at he, .nil, List.nodup_nil, .nil⟩
theorem empty_dh {K : KW} {H : Hp} : DH K H [] [] := ⟨[], rfl, List.nodup_nil, .nil⟩
/-- which reading, by the key -/
theorem kind_lf {K : KW} {H : Hp} {E : List DictEntry} {l : Leaf} (h : DV K H kvs E ∨ DH K H kvs E) (hl : lfOf t = some l) (k : kOk kvs t = true) : DV K H kvs E := by
  rcases h with h | h
  · exact h
  · obtain ⟨M, rfl, nd, r⟩ := h
    unfold kOk at k
    rw [hl] at k
    cases r with
    | nil => exact empty_dv
    | cons f r =>
      simp only [List.all_cons, Bool.and_eq_true] at k
      rw [tk_not_lf f.1] at k
      exact absurd k.1 (by simp)
theorem kind_tk {K : KW} {H : Hp} {E : List DictEntry} (h : DV K H kvs E ∨ DH K H kvs E) (hl : lfOf t = none) (k : kOk kvs t = true) : DH K H kvs E ∧ ∃ k, tkOf t = some k := by
  unfold kOk at k
  rw [hl] at k
  simp only [Bool.and_eq_true] at k
  have hk : ∃ k, tkOf t = some k := Option.isSome_iff_exists.mp k.1
  rcases h with h | h
  · obtain ⟨M, h1, h2, nd, r⟩ := h
    cases r with
    | nil =>
      cases h2
      exact ⟨empty_dh, hk⟩
    | cons f r =>
      have k2 := k.2
      simp only [List.all_cons, Bool.and_eq_true] at k2
      rw [lf_not_tk f.1] at k2
      exact absurd k2.1 (by simp)
  · exact ⟨h, hk⟩
/-- what is found -/
theorem look_lf {M : List (Leaf × Value)} {l : Leaf} (hl : lfOf t = some l) (r : Paired (fun (p : T × T) (m : Leaf × Value) => lfOf p.1 = some m.1 ∧ ∃ v, RelV v m.2 ∧ Rp X.kw H v p.2) kvs M) :
    (dGet kvs t = none ∧ valueAt M l = none) ∨ ∃ d u v, dGet kvs t = some d ∧ valueAt M l = some u ∧ RelV v u ∧ Rp X.kw H v d := by
  have := paired_find (p := fun p => decide (keyOf p.1 = keyOf t)) (q := fun kv : Leaf × Value => decide (kv.1 = l)) r (fun p m f => by
    rw [keyOf_lf f.1, keyOf_lf hl]
    by_cases e : m.1 = l
    · subst e; simp
    · have : m.1.key ≠ l.key := fun z => e (leaf_key_inj z)
      simp [e, this])
  unfold dGet valueAt
  rcases this with ⟨e1, e2⟩ | ⟨p, m, e1, e2, f, v, r1, r2⟩
  · rw [e1, e2]; exact .inl ⟨rfl, rfl⟩
  · rw [e1, e2]; exact .inr ⟨_, _, v, rfl, rfl, r1, r2⟩
theorem look_tk {M : List (NestedKey × Addr × Value)} {k : NestedKey} (hk : tkOf t = some k) (r : Paired (fun (p : T × T) (m : NestedKey × Addr × Value) => tkOf p.1 = some m.1 ∧ Rp X.kw H (.ref m.2.1) p.1 ∧ ∃ v, RelV v m.2.2 ∧ Rp X.kw H v p.2) kvs M) :
    (dGet kvs t = none ∧ atKey M k = none) ∨ ∃ d x v, dGet kvs t = some d ∧ atKey M k = some x ∧ RelV v x.2 ∧ Rp X.kw H v d := by
  have := paired_find (p := fun p => decide (keyOf p.1 = keyOf t)) (q := fun x : NestedKey × Addr × Value => decide (x.1 = k)) r (fun p m f => by
    rw [keyOf_tk f.1, keyOf_tk hk]
    by_cases e : m.1 = k <;> simp [e])
  unfold dGet atKey
  rcases this with ⟨e1, e2⟩ | ⟨p, m, e1, e2, _, _, v, r1, r2⟩
  · rw [e1, e2]; exact .inl ⟨rfl, rfl⟩
  · rw [e1, e2]; exact .inr ⟨_, _, v, rfl, rfl, r1, r2⟩
theorem room8 {A : Around} (hu : A.units + 64 < cLine) : (nestedKind X.prog X.w).room A.in1 := by
  show A.in1.units + 8 < cLine
  have : A.in1.units ≤ A.units + 1 := Nat.le_refl _
  omega
/-- d[t] -/
theorem dic_getItem {v : V} {u : Value} {Q : Value → Shared → Prop} (hu : A.units + 64 < cLine) (I : Inv X pins σ H s) (r : RpC X.kw H a (.dic kvs)) (rt : Rp X.kw H v t) (e : RelV v u) (hk : kOk kvs t = true) (hg : dGet kvs t = some d)
    (h : ∀ v' u' s', Inv X pins σ H s' → RelV v' u' → Rp X.kw H v' d → Q u' s') : wpAny (model X.prog X.w) A (getItem (.ref a) u) Q E s := by
  obtain ⟨En, ea, kd⟩ := r
  cases hl : lfOf t with
  | some l =>
    obtain ⟨M, h1, h2, h3, h4⟩ := kind_lf kd hl hk
    obtain ⟨ha, dd⟩ := dv_of I ea h1 h2 h3
    rcases look_lf (X := X) (H := H) hl h4 with ⟨z, _⟩ | ⟨d', w', v', e1, e2, e3, e4⟩
    · rw [hg] at z; cases z
    · rw [hg] at e1; cases e1
      exact wpAny_getItem_of (lf_is rt e hl) dd.mapOf e2 (h v' _ _ (I.tok _) e3 e4)
  | none =>
    obtain ⟨⟨M, e0, h3, h4⟩, k, hkk⟩ := kind_tk kd hl hk
    subst e0
    obtain ⟨ha, dd⟩ := dh_of I ea h3 h4
    obtain ⟨b, rfl⟩ := tk_ref rt hkk
    cases e
    rcases look_tk (X := X) (H := H) hkk h4 with ⟨z, _⟩ | ⟨d', x, v', e1, e2, e3, e4⟩
    · rw [hg] at z; cases z
    · rw [hg] at e1; cases e1
      exact wpAny_getItem_heap (room8 hu) (tk_is I rt hkk) dd e2 (h v' _ _ (I.tok _) e3 e4)
theorem dic_in {v : V} {u : Value} {Q : Value → Shared → Prop} (hu : A.units + 64 < cLine) (I : Inv X pins σ H s) (r : RpC X.kw H a (.dic kvs)) (rt : Rp X.kw H v t) (e : RelV v u) (hk : kOk kvs t = true)
    (h : ∀ s', Inv X pins σ H s' → Q (.bool (dGet kvs t).isSome) s') : wpAny (model X.prog X.w) A (compareOp .In u (.ref a)) Q E s := by
  obtain ⟨En, ea, kd⟩ := r
  cases hl : lfOf t with
  | some l =>
    obtain ⟨M, h1, h2, h3, h4⟩ := kind_lf kd hl hk
    obtain ⟨ha, dd⟩ := dv_of I ea h1 h2 h3
    refine wpAny_in_of (lf_is rt e hl) ha dd.mapOf ?_
    rcases look_lf (X := X) (H := H) hl h4 with ⟨z, z2⟩ | ⟨d', w', v', e1, e2, e3, e4⟩
    · have := h _ (I.tok (s.toks + 1))
      rw [z] at this
      rw [z2]; exact this
    · have := h _ (I.tok (s.toks + 1))
      rw [e1] at this
      rw [e2]; exact this
  | none =>
    obtain ⟨⟨M, e0, h3, h4⟩, k, hkk⟩ := kind_tk kd hl hk
    subst e0
    obtain ⟨ha, dd⟩ := dh_of I ea h3 h4
    obtain ⟨b, rfl⟩ := tk_ref rt hkk
    cases e
    refine wpAny_in_heap (room8 hu) (tk_is I rt hkk) ha dd ?_
    have h := h _ (I.tok (s.toks + (nestedKind X.prog X.w).draws k))
    rcases look_tk (X := X) (H := H) hkk h4 with ⟨z, z2⟩ | ⟨d', x, v', e1, e2, e3, e4⟩
    · rw [z] at h; rw [z2]; exact h
    · rw [e1] at h; rw [e2]; exact h
theorem dic_notIn {v : V} {u : Value} {Q : Value → Shared → Prop} (hu : A.units + 64 < cLine) (I : Inv X pins σ H s) (r : RpC X.kw H a (.dic kvs)) (rt : Rp X.kw H v t) (e : RelV v u) (hk : kOk kvs t = true)
    (h : ∀ s', Inv X pins σ H s' → Q (.bool (!(dGet kvs t).isSome)) s') : wpAny (model X.prog X.w) A (compareOp .NotIn u (.ref a)) Q E s := by
  obtain ⟨En, ea, kd⟩ := r
  cases hl : lfOf t with
  | some l =>
    obtain ⟨M, h1, h2, h3, h4⟩ := kind_lf kd hl hk
    obtain ⟨ha, dd⟩ := dv_of I ea h1 h2 h3
    refine wpAny_notIn_of (lf_is rt e hl) ha dd.mapOf ?_
    rcases look_lf (X := X) (H := H) hl h4 with ⟨z, z2⟩ | ⟨d', w', v', e1, e2, e3, e4⟩
    · have := h _ (I.tok (s.toks + 1))
      rw [z] at this
      rw [z2]; exact this
    · have := h _ (I.tok (s.toks + 1))
      rw [e1] at this
      rw [e2]; exact this
  | none =>
    obtain ⟨⟨M, e0, h3, h4⟩, k, hkk⟩ := kind_tk kd hl hk
    subst e0
    obtain ⟨ha, dd⟩ := dh_of I ea h3 h4
    obtain ⟨b, rfl⟩ := tk_ref rt hkk
    cases e
    refine wpAny_notIn_heap (room8 hu) (tk_is I rt hkk) ha dd ?_
    have h := h _ (I.tok (s.toks + (nestedKind X.prog X.w).draws k))
    rcases look_tk (X := X) (H := H) hkk h4 with ⟨z, z2⟩ | ⟨d', x, v', e1, e2, e3, e4⟩
    · rw [z] at h; rw [z2]; exact h
    · rw [e1] at h; rw [e2]; exact h
/-- the raw entries, from the library's readings -/
theorem raw_dv {h : Heap} {M : List (Leaf × Value)} {P : Program} {w : World} (dd : h.DictOf (plainKind P w) a M) : ∃ E, (∃ o es ep, h.get? a = some o ∧ o.ExactDict ∧ o.data = .dict es ep ∧ es.toList = E) ∧ KeysOf (plainKind P w) E.toArray ∧ Pairs (plainKind P w) E M ∧ (M.map (·.1)).Nodup := by
  obtain ⟨o, es, ep, ho, hc, hd, h1, h2, h3⟩ := dd
  exact ⟨es.toList, ⟨o, es, ep, ho, hc, hd, rfl⟩, by simpa using h1, h2, h3⟩
theorem put_lf {M : List (Leaf × Value)} {l : Leaf} {u : Value} {v : V} (hl : lfOf t = some l) (rv : RelV v u) (rd : Rp X.kw H v d) (r : Paired (fun (p : T × T) (m : Leaf × Value) => lfOf p.1 = some m.1 ∧ ∃ v, RelV v m.2 ∧ Rp X.kw H v p.2) kvs M) :
    Paired (fun (p : T × T) (m : Leaf × Value) => lfOf p.1 = some m.1 ∧ ∃ v, RelV v m.2 ∧ Rp X.kw H v p.2) (dPut kvs t d) (stored M l u) := by
  have key : ∀ (p : T × T) (m : Leaf × Value), (lfOf p.1 = some m.1 ∧ ∃ v, RelV v m.2 ∧ Rp X.kw H v p.2) → (keyOf p.1 = keyOf t ↔ m.1 = l) := fun p m f => by
    rw [keyOf_lf f.1, keyOf_lf hl]
    exact ⟨fun e => leaf_key_inj (Option.some.inj e), fun e => by rw [e]⟩
  have ea := paired_any (p := fun p => decide (keyOf p.1 = keyOf t)) (q := fun kv : Leaf × Value => decide (kv.1 = l)) r (fun p m f => decide_eq_decide.mpr (key p m f))
  unfold dPut stored
  rw [ea]
  split
  · exact paired_map r fun p m f => by
      by_cases e : m.1 = l
      · rw [if_pos e, if_pos ((key p m f).mpr e)]
        exact ⟨f.1, v, rv, rd⟩
      · rw [if_neg e, if_neg fun z => e ((key p m f).mp z)]
        exact f
  · exact paired_app r (.cons ⟨hl, v, rv, rd⟩ .nil)
theorem put_tk {M : List (NestedKey × Addr × Value)} {k : NestedKey} {b : Addr} {u : Value} {v : V} (hk : tkOf t = some k) (rb : Rp X.kw H (.ref b) t) (rv : RelV v u) (rd : Rp X.kw H v d)
    (r : Paired (fun (p : T × T) (m : NestedKey × Addr × Value) => tkOf p.1 = some m.1 ∧ Rp X.kw H (.ref m.2.1) p.1 ∧ ∃ v, RelV v m.2.2 ∧ Rp X.kw H v p.2) kvs M) :
    Paired (fun (p : T × T) (m : NestedKey × Addr × Value) => tkOf p.1 = some m.1 ∧ Rp X.kw H (.ref m.2.1) p.1 ∧ ∃ v, RelV v m.2.2 ∧ Rp X.kw H v p.2) (dPut kvs t d) (storedH M k b u) := by
  have key : ∀ (p : T × T) (m : NestedKey × Addr × Value), (tkOf p.1 = some m.1 ∧ Rp X.kw H (.ref m.2.1) p.1 ∧ ∃ v, RelV v m.2.2 ∧ Rp X.kw H v p.2) → (keyOf p.1 = keyOf t ↔ m.1 = k) := fun p m f => by
    rw [keyOf_tk f.1, keyOf_tk hk]
    exact ⟨fun e => Option.some.inj e, fun e => by rw [e]⟩
  have ea := paired_any (p := fun p => decide (keyOf p.1 = keyOf t)) (q := fun x : NestedKey × Addr × Value => decide (x.1 = k)) r (fun p m f => decide_eq_decide.mpr (key p m f))
  have es : (atKey M k).isSome = M.any fun x => decide (x.1 = k) := by
    unfold atKey
    rw [Option.isSome_map, Bool.eq_iff_iff, List.find?_isSome, List.any_eq_true]
  unfold dPut storedH
  rw [ea, es]
  split
  · exact paired_map r fun p m f => by
      unfold putAt
      by_cases e : m.1 = k
      · rw [if_pos e, if_pos ((key p m f).mpr e)]
        exact ⟨f.1, f.2.1, v, rv, rd⟩
      · rw [if_neg e, if_neg fun z => e ((key p m f).mp z)]
        exact f
  · exact paired_app r (.cons ⟨hk, rb, v, rv, rd⟩ .nil)
theorem paired_len {α β : Type} {F : α → β → Prop} {l1 : List α} {l2 : List β} (h : Paired F l1 l2) : l1.length = l2.length := Paired.length h
/-- d[t] = x -/
theorem dic_setItem {v v2 : V} {u u2 : Value} {Q : Unit → Shared → Prop} (hu : A.units + 64 < cLine) (I : Inv X pins σ H s) (r : RpC X.kw H a (.dic kvs)) (rt : Rp X.kw H v t) (e : RelV v u) (rd : Rp X.kw H v2 d) (e2 : RelV v2 u2) (hk : kOk kvs t = true) (hz : kvs.length < sizeLine)
    (h : ∀ E' s', Inv X pins σ (upd H a (rawO a E')) s' → RpC X.kw (upd H a (rawO a E')) a (.dic (dPut kvs t d)) → Q () s') : wpAny (model X.prog X.w) A (setItem (.ref a) u u2) Q E s := by
  obtain ⟨En, ea, kd⟩ := r
  have ts : ∀ E', TSt X.kw H (upd H a (rawO a E')) := fun E' => tst_mut ea trivial
  cases hl : lfOf t with
  | some l =>
    obtain ⟨M, h1, h2, h3, h4⟩ := kind_lf kd hl hk
    obtain ⟨ha, dd⟩ := dv_of I ea h1 h2 h3
    have hz' : M.length ≤ sizeLine := by rw [← paired_len h4]; omega
    refine wpAny_setItem_pairs (hsz := hz') (lf_is rt e hl) dd fun h' dd' hs => ?_
    obtain ⟨E', hE, k1, k2, k3⟩ := raw_dv dd'
    refine h E' _ (d_write (t' := s.toks + 1) I (by rw [ea]; trivial) hs (by obtain ⟨o, _, _, ho, _⟩ := hE; exact ⟨o, ho⟩) (rawO_ok ha hE)) ⟨E', upd_same, .inl ⟨stored M l u2, k1, k2, k3, ?_⟩⟩
    exact Paired.mapP (put_lf hl e2 rd h4) fun p m ⟨f1, v, f2, f3⟩ => ⟨f1, v, f2, f3.m (ts E')⟩
  | none =>
    obtain ⟨⟨M, e0, h3, h4⟩, k, hkk⟩ := kind_tk kd hl hk
    subst e0
    obtain ⟨ha, dd⟩ := dh_of I ea h3 h4
    obtain ⟨b, rfl⟩ := tk_ref rt hkk
    cases e
    have hz' : M.length ≤ sizeLine := by rw [← paired_len h4]; omega
    refine wpAny_setItem_heap (hsz := hz') (room8 hu) (tk_is I rt hkk) dd fun h' dd' hs => ?_
    obtain ⟨o, es, ep, ho, hc, hd, he, _, nd⟩ := dd'
    have hE : ∃ o es' ep, h'.get? a = some o ∧ o.ExactDict ∧ o.data = .dict es' ep ∧ es'.toList = (storedH M k b u2).map (entryOfKey (nestedKind X.prog X.w)) := ⟨o, es, ep, ho, hc, hd, he⟩
    refine h ((storedH M k b u2).map (entryOfKey (nestedKind X.prog X.w))) _ (d_write (t' := s.toks + (nestedKind X.prog X.w).draws k) I (by rw [ea]; trivial) hs ⟨o, ho⟩ (rawO_ok ha hE)) ⟨_, upd_same, .inr ⟨storedH M k b u2, rfl, nd, ?_⟩⟩
    exact Paired.mapP (put_tk hkk rt e2 rd h4) fun p m ⟨f1, f0, v, f2, f3⟩ => ⟨f1, f0.m (ts _), v, f2, f3.m (ts _)⟩
theorem room0 {A : Around} (hu : A.units + 64 < cLine) : (nestedKind X.prog X.w).room A := by
  show A.units + 8 < cLine
  omega
/-- the same, inside -/
theorem dic_dictSet {v v2 : V} {u u2 : Value} {Q : Unit → Shared → Prop} (hu : A.units + 64 < cLine) (I : Inv X pins σ H s) (r : RpC X.kw H a (.dic kvs)) (rt : Rp X.kw H v t) (e : RelV v u) (rd : Rp X.kw H v2 d) (e2 : RelV v2 u2) (hk : kOk kvs t = true) (hz : kvs.length < sizeLine)
    (h : ∀ E' s', Inv X pins σ (upd H a (rawO a E')) s' → RpC X.kw (upd H a (rawO a E')) a (.dic (dPut kvs t d)) → Q () s') : wpAny (model X.prog X.w) A (dictSet a u u2) Q E s := by
  obtain ⟨En, ea, kd⟩ := r
  have ts : ∀ E', TSt X.kw H (upd H a (rawO a E')) := fun E' => tst_mut ea trivial
  cases hl : lfOf t with
  | some l =>
    obtain ⟨M, h1, h2, h3, h4⟩ := kind_lf kd hl hk
    obtain ⟨ha, dd⟩ := dv_of I ea h1 h2 h3
    have hz' : M.length ≤ sizeLine := by rw [← paired_len h4]; omega
    refine wpAny_dictSet_pairs (hsz := hz') (lf_is rt e hl) dd fun h' dd' hs => ?_
    obtain ⟨E', hE, k1, k2, k3⟩ := raw_dv dd'
    refine h E' _ (d_write (t' := s.toks + 1) I (by rw [ea]; trivial) hs (by obtain ⟨o, _, _, ho, _⟩ := hE; exact ⟨o, ho⟩) (rawO_ok ha hE)) ⟨E', upd_same, .inl ⟨stored M l u2, k1, k2, k3, ?_⟩⟩
    exact Paired.mapP (put_lf hl e2 rd h4) fun p m ⟨f1, v, f2, f3⟩ => ⟨f1, v, f2, f3.m (ts E')⟩
  | none =>
    obtain ⟨⟨M, e0, h3, h4⟩, k, hkk⟩ := kind_tk kd hl hk
    subst e0
    obtain ⟨ha, dd⟩ := dh_of I ea h3 h4
    obtain ⟨b, rfl⟩ := tk_ref rt hkk
    cases e
    have hz' : M.length ≤ sizeLine := by rw [← paired_len h4]; omega
    refine wpAny_dictSet_heap (hsz := hz') (room0 hu) (tk_is I rt hkk) dd fun h' dd' hs => ?_
    obtain ⟨o, es, ep, ho, hc, hd, he, _, nd⟩ := dd'
    have hE : ∃ o es' ep, h'.get? a = some o ∧ o.ExactDict ∧ o.data = .dict es' ep ∧ es'.toList = (storedH M k b u2).map (entryOfKey (nestedKind X.prog X.w)) := ⟨o, es, ep, ho, hc, hd, he⟩
    refine h ((storedH M k b u2).map (entryOfKey (nestedKind X.prog X.w))) _ (d_write (t' := s.toks + (nestedKind X.prog X.w).draws k) I (by rw [ea]; trivial) hs ⟨o, ho⟩ (rawO_ok ha hE)) ⟨_, upd_same, .inr ⟨storedH M k b u2, rfl, nd, ?_⟩⟩
    exact Paired.mapP (put_tk hkk rt e2 rd h4) fun p m ⟨f1, f0, v, f2, f3⟩ => ⟨f1, f0.m (ts _), v, f2, f3.m (ts _)⟩
/-- d.get(t, x) -/
theorem dic_get2 {v v2 : V} {u u2 : Value} {Q : Value → Shared → Prop} (hu : A.units + 64 < cLine) (I : Inv X pins σ H s) (r : RpC X.kw H a (.dic kvs)) (rt : Rp X.kw H v t) (e : RelV v u) (rd : Rp X.kw H v2 d) (e2 : RelV v2 u2) (hk : kOk kvs t = true)
    (h : ∀ v' u' s', Inv X pins σ H s' → RelV v' u' → Rp X.kw H v' ((dGet kvs t).getD d) → Q u' s') : wpAny (model X.prog X.w) A (call (.builtin "dict.get") [.ref a, u, u2]) Q E s := by
  obtain ⟨En, ea, kd⟩ := r
  cases hl : lfOf t with
  | some l =>
    obtain ⟨M, h1, h2, h3, h4⟩ := kind_lf kd hl hk
    obtain ⟨ha, dd⟩ := dv_of I ea h1 h2 h3
    refine call_meetsIn PySem.F.slot_dict_get dd.typeIs PySem.F.entry_dict_get (PySem.F.args_dict_get_3 _ _ _) (meets_dict_get_default (plainKind X.prog X.w) a (lf_is rt e hl) ha u2) ⟨_, dd.mapOf, ?_⟩
    rcases look_lf (X := X) (H := H) hl h4 with ⟨z, z2⟩ | ⟨d', w', v', e1, e3, e4, e5⟩
    · rw [z2]; exact h v2 _ _ (I.tok _) e2 (by rw [z]; exact rd)
    · rw [e3]; exact h v' _ _ (I.tok _) e4 (by rw [e1]; exact e5)
  | none =>
    obtain ⟨⟨M, e0, h3, h4⟩, k, hkk⟩ := kind_tk kd hl hk
    subst e0
    obtain ⟨ha, dd⟩ := dh_of I ea h3 h4
    obtain ⟨b, rfl⟩ := tk_ref rt hkk
    cases e
    refine call_meetsIn PySem.F.slot_dict_get dd.typeIs PySem.F.entry_dict_get (PySem.F.args_dict_get_3 _ _ _) (meetsH_dict_get_default (nestedKind X.prog X.w) a b ha u2) ⟨room8 hu, k, M, tk_is I rt hkk, dd, ?_⟩
    rcases look_tk (X := X) (H := H) hkk h4 with ⟨z, z2⟩ | ⟨d', x, v', e1, e3, e4, e5⟩
    · rw [z2]; exact h v2 _ _ (I.tok _) e2 (by rw [z]; exact rd)
    · rw [e3]; exact h v' _ _ (I.tok _) e4 (by rw [e1]; exact e5)
/-- len(d) -/
theorem dic_raw (I : Inv X pins σ H s) (r : RpC X.kw H a (.dic kvs)) : (a == sysModules) = false ∧ ∃ es ep, s.heap.DictRaw a es ep ∧ es.size = kvs.length := by
  obtain ⟨En, ea, kd⟩ := r
  obtain ⟨ha, o, es, ep, ho, hc, hd, he⟩ := rawO_at I.hok ea
  refine ⟨ha, es, ep, ⟨o, ho, hc, hd⟩, ?_⟩
  rw [← Array.length_toList, he]
  rcases kd with ⟨M, h1, h2, h3, h4⟩ | ⟨M, e0, h3, h4⟩
  · rw [h2.length, ← paired_len h4]
  · rw [e0, List.length_map, ← paired_len h4]
theorem dic_type (I : Inv X pins σ H s) (r : RpC X.kw H a (.dic kvs)) : s.TypeIs (.ref a) "dict" ∧ ∀ b, Value.ref a = .ref b → ∃ ob, s.heap.get? b = some ob ∧ ob.dict = none := by
  obtain ⟨En, ea, kd⟩ := r
  obtain ⟨ha, o, es, ep, ho, hc, hd, he⟩ := rawO_at I.hok ea
  exact ⟨⟨o, ho, hc.1⟩, fun b z => by cases z; exact ⟨o, ho, hc.2.1⟩⟩
end
end PD

namespace PD
open PySem PySem.Spec PyProof.Rows L2
section
variable {X : Cx} {e a b c : Expr} {es : List Expr} {fa fb fc : FE} {pos : Pos}
/-! ### handles of dicts and sets -/
def dicOf (h : Hd) (ρ : Ev) : Option (List (T × T)) := match h with
  | .tmp (.dic xs) => some xs
  | .plc i => match ρ[i]? with
    | some (some (.obj (.dic xs))) => some xs
    | _ => none
  | _ => none
def setOf (h : Hd) (ρ : Ev) : Option (List T) := match h with
  | .tmp (.set xs) => some xs
  | .plc i => match ρ[i]? with
    | some (some (.obj (.set xs))) => some xs
    | _ => none
  | _ => none
def dtOf : Hd → Option T
  | .dat t => some t
  | _ => none
theorem dtOf_some {h : Hd} {t : T} (e : dtOf h = some t) : h = .dat t := by
  unfold dtOf at e
  split at e
  · cases e; rfl
  · cases e
theorem dicOf_some {K : KW} {H0 H : Hp} {σ : Sto} {ρ : Ev} {h : Hd} {u : V} {xs : List (T × T)} (S : SR K H σ ρ) (r : HR K H0 H σ ρ h u) (e : dicOf h ρ = some xs) : ∃ a, u = .ref a ∧ RpC K H a (.dic xs) := by
  unfold dicOf at e
  split at e
  · cases e
    obtain ⟨a, e, r, _⟩ := r
    exact ⟨a, e, r⟩
  · rename_i i
    have r : σ[i]? = some (some u) := r
    split at e
    · rename_i hx
      cases e
      obtain ⟨a, ea, r'⟩ := S.obj i _ hx
      rw [r] at ea; cases ea
      exact ⟨a, rfl, r'⟩
    · cases e
  · cases e
theorem setOf_some {K : KW} {H0 H : Hp} {σ : Sto} {ρ : Ev} {h : Hd} {u : V} {xs : List T} (S : SR K H σ ρ) (r : HR K H0 H σ ρ h u) (e : setOf h ρ = some xs) : ∃ a, u = .ref a ∧ RpC K H a (.set xs) := by
  unfold setOf at e
  split at e
  · cases e
    obtain ⟨a, e, r, _⟩ := r
    exact ⟨a, e, r⟩
  · rename_i i
    have r : σ[i]? = some (some u) := r
    split at e
    · rename_i hx
      cases e
      obtain ⟨a, ea, r'⟩ := S.obj i _ hx
      rw [r] at ea; cases ea
      exact ⟨a, rfl, r'⟩
    · cases e
  · cases e
/-- the object of a handle is written -/
def putC (h : Hd) (c : C) (ρ : Ev) : Ev := match h with
  | .plc i => ρ.set i (some (.obj c))
  | _ => ρ
/-- behind a write -/
theorem put_core {K : KW} {Hs H0 H : Hp} {σ : Sto} {ρs ρ : Ev} {h : Hd} {a : Addr} {c c' : C} {o : HO} (S : SR K H σ ρ) (g : Go K σ ρs Hs σ ρ H) (g0 : ∀ b, H0 b = none → Hs b = none) (r : HR K H0 H σ ρ h (.ref a)) (ho : (∃ i, h = .plc i ∧ ρ[i]? = some (some (.obj c))) ∨ h = .tmp c) (rc : RpC K H a c) (new : RpC K (upd H a o) a c') :
    Go K σ ρs Hs σ (putC h c' ρ) (upd H a o) ∧ SR K (upd H a o) σ (putC h c' ρ) ∧ Kp ρ (putC h c' ρ) ∧ TSt K H (upd H a o) := by
  obtain ⟨u, ea, mu⟩ := rc.isM
  have ts : TSt K H (upd H a o) := tst_mut ea mu
  rcases ho with ⟨i, rfl, hx⟩ | rfl
  · have ri : σ[i]? = some (some (V.ref a)) := r
    exact ⟨g.trans (Go.put S hx ri), S.put hx ri new, Kp.put, ts⟩
  · obtain ⟨b, eb, rc', n0, no⟩ := r
    cases eb
    refine ⟨⟨fun b o hb nb => ?_, g.own, g.tst.trans ts, fun b hb => g.dom b (upd_none hb)⟩, S.asideM ea mu no, .refl, ts⟩
    have : b ≠ a := by rintro rfl; rw [g0 _ n0] at hb; cases hb
    rw [upd_ne this]
    exact g.keep b o hb nb
theorem dic_hd {h : Hd} {ρ : Ev} {xs : List (T × T)} (e : dicOf h ρ = some xs) : (∃ i, h = .plc i ∧ ρ[i]? = some (some (.obj (.dic xs)))) ∨ h = .tmp (.dic xs) := by
  unfold dicOf at e
  split at e
  · cases e; exact .inr rfl
  · split at e
    · rename_i hx; cases e; exact .inl ⟨_, rfl, hx⟩
    · cases e
  · cases e
theorem set_hd {h : Hd} {ρ : Ev} {xs : List T} (e : setOf h ρ = some xs) : (∃ i, h = .plc i ∧ ρ[i]? = some (some (.obj (.set xs)))) ∨ h = .tmp (.set xs) := by
  unfold setOf at e
  split at e
  · cases e; exact .inr rfl
  · split at e
    · rename_i hx; cases e; exact .inl ⟨_, rfl, hx⟩
    · cases e
  · cases e
/-! ### d[t] -/
def gIxD : GB := fun a b ρ => (dicOf a ρ).bind fun kvs => (dtOf b).bind fun t => if kOk kvs t = true then (dGet kvs t).map fun d => .dat d else none
def rDGetI (K : KW) : R2 := fun x y H Q => ∃ a kvs t d, x = .ref a ∧ RpC K H a (.dic kvs) ∧ Rp K H y t ∧ kOk kvs t = true ∧ dGet kvs t = some d ∧ ∀ v, Rp K H v d → Q v H
theorem ix_dic (hu : X.A.units + 64 < cLine) : IxR X (rDGetI X.kw) := by
  intro value slice pins s σ H x y v u Q I rx ry h hs
  obtain ⟨a, kvs, t, d, rfl, rc, rt, hk, hg, q⟩ := h
  cases rx
  exact tail_any (dic_type I rc).1 slot_dict_getitem.lookup (dic_getItem hu I rc rt ry hk hg fun v' u' s' I' r' rd => ⟨v', H, I', r', q v' rd⟩) hs
theorem de_ixD (hu : X.A.units + 64 < cLine) (ha : DE X a fa) (hb : DE X b fb) (hs : PlainIx b) : DE X (.Subscript a b pos) (fBin gIxD fa fb) := by
  obtain ⟨t, pt, rt⟩ := ha.run
  obtain ⟨u, pu, ru⟩ := hb.run
  refine ⟨_, pe_ix (ix_dic hu) pt pu hs, fun σ H ρ hs ρ' Q S e q => ?_⟩
  simp only [fBin, gIxD, Option.bind_eq_some_iff, Option.map_eq_some_iff] at e
  obtain ⟨⟨h1, ρ1⟩, e1, ⟨h2, ρ2⟩, e2, h3, ⟨kvs, ex, t, ei, e4⟩, e3⟩ := e
  split at e4
  · rename_i hk
    simp only [Option.map_eq_some_iff] at e4
    obtain ⟨d, hd, e4⟩ := e4
    cases e3
    subst e4
    refine rt σ H ρ h1 ρ1 _ S e1 fun x H1 g1 S1 k1 r1 => ?_
    refine ru σ H1 ρ1 h2 _ _ S1 e2 fun y H2 g2 S2 k2 r2 => ?_
    have ei : h2 = _ := dtOf_some ei
    subst ei
    obtain ⟨a, rfl, rc⟩ := dicOf_some S2 (r1.go g2) ex
    exact ⟨a, kvs, t, d, rfl, rc, r2, hk, hd, fun v rv => q v H2 (g1.trans g2) S2 (k1.trans k2) rv⟩
  · cases e4
/-! ### t in d, t in a set -/
def gInD (neg : Bool) : GB := fun a b ρ => (dtOf a).bind fun t => (dicOf b ρ).bind fun kvs => if kOk kvs t = true then some (.dat (.bool (if neg then !(dGet kvs t).isSome else (dGet kvs t).isSome))) else none
theorem dop_inD (hu : X.A.units + 64 < cLine) : DOp X (compareOp .In) (gInD false) := by
  refine ⟨fun x y H Q => ∃ a kvs t, y = .ref a ∧ RpC X.kw H a (.dic kvs) ∧ Rp X.kw H x t ∧ kOk kvs t = true ∧ Q (.bl (dGet kvs t).isSome) H, fun pins s σ H x y v u Q I rx ry h => ?_, fun σ H0 H ρ h1 h2 h3 x y Q S r1 r2 e q => ?_⟩
  · obtain ⟨a, kvs, t, rfl, rc, rt, hk, q⟩ := h
    cases ry
    exact dic_in hu I rc rt rx hk fun s' I' => ⟨.bl _, H, I', rfl, q⟩
  · simp only [gInD, Option.bind_eq_some_iff] at e
    obtain ⟨t, e1, kvs, e2, e3⟩ := e
    split at e3
    · rename_i hk
      cases e3
      have e1 := dtOf_some e1
      subst e1
      obtain ⟨a, rfl, rc⟩ := dicOf_some S r2 e2
      exact ⟨a, kvs, t, rfl, rc, r1, hk, q _ H .refl S (.bl _)⟩
    · cases e3
theorem dop_notInD (hu : X.A.units + 64 < cLine) : DOp X (compareOp .NotIn) (gInD true) := by
  refine ⟨fun x y H Q => ∃ a kvs t, y = .ref a ∧ RpC X.kw H a (.dic kvs) ∧ Rp X.kw H x t ∧ kOk kvs t = true ∧ Q (.bl (!(dGet kvs t).isSome)) H, fun pins s σ H x y v u Q I rx ry h => ?_, fun σ H0 H ρ h1 h2 h3 x y Q S r1 r2 e q => ?_⟩
  · obtain ⟨a, kvs, t, rfl, rc, rt, hk, q⟩ := h
    cases ry
    exact dic_notIn hu I rc rt rx hk fun s' I' => ⟨.bl _, H, I', rfl, q⟩
  · simp only [gInD, Option.bind_eq_some_iff] at e
    obtain ⟨t, e1, kvs, e2, e3⟩ := e
    split at e3
    · rename_i hk
      cases e3
      have e1 := dtOf_some e1
      subst e1
      obtain ⟨a, rfl, rc⟩ := dicOf_some S r2 e2
      exact ⟨a, kvs, t, rfl, rc, r1, hk, q _ H .refl S (.bl _)⟩
    · cases e3
def hasL (xs : List T) (t : T) : Bool := decide (lfOf t ∈ xs.map lfOf)
def gInS (neg : Bool) : GB := fun a b ρ => (dtOf a).bind fun t => (setOf b ρ).bind fun xs => (lfOf t).map fun _ => .dat (.bool (if neg then !hasL xs t else hasL xs t))
theorem has_lf {xs : List T} {ls : List Leaf} {t : T} {l : Leaf} (h : xs.map lfOf = ls.map some) (hl : lfOf t = some l) : hasL xs t = decide (l ∈ ls) := by
  unfold hasL
  rw [h, hl]
  simp
theorem dop_inS : DOp X (compareOp .In) (gInS false) := by
  refine ⟨fun x y H Q => ∃ a ls t l, y = .ref a ∧ H a = some (setO X.prog X.w a ls) ∧ Rp X.kw H x t ∧ lfOf t = some l ∧ Q (.bl (decide (l ∈ ls))) H, fun pins s σ H x y v u Q I rx ry h => ?_, fun σ H0 H ρ h1 h2 h3 x y Q S r1 r2 e q => ?_⟩
  · obtain ⟨a, ls, t, l, rfl, ea, rt, hl, q⟩ := h
    cases ry
    have k := lf_is (X := X) rt rx hl
    exact wpAny_inSet_of k (plIs_scan k) (setO_at I.hok ea) ⟨.bl _, H, I.tok _, rfl, q⟩
  · simp only [gInS, Option.bind_eq_some_iff, Option.map_eq_some_iff] at e
    obtain ⟨t, e1, xs, e2, l, hl, e3⟩ := e
    subst e3
    have e1 := dtOf_some e1
    subst e1
    obtain ⟨a, rfl, ls, h1, h2, ea⟩ := setOf_some S r2 e2
    refine ⟨a, ls, t, l, rfl, ea, r1, hl, ?_⟩
    rw [← has_lf h1 hl]
    exact q _ H .refl S (.bl _)
theorem dop_notInS : DOp X (compareOp .NotIn) (gInS true) := by
  refine ⟨fun x y H Q => ∃ a ls t l, y = .ref a ∧ H a = some (setO X.prog X.w a ls) ∧ Rp X.kw H x t ∧ lfOf t = some l ∧ Q (.bl (!decide (l ∈ ls))) H, fun pins s σ H x y v u Q I rx ry h => ?_, fun σ H0 H ρ h1 h2 h3 x y Q S r1 r2 e q => ?_⟩
  · obtain ⟨a, ls, t, l, rfl, ea, rt, hl, q⟩ := h
    cases ry
    have k := lf_is (X := X) rt rx hl
    exact wpAny_notInSet_of k (plIs_scan k) (setO_at I.hok ea) ⟨.bl _, H, I.tok _, rfl, q⟩
  · simp only [gInS, Option.bind_eq_some_iff, Option.map_eq_some_iff] at e
    obtain ⟨t, e1, xs, e2, l, hl, e3⟩ := e
    subst e3
    have e1 := dtOf_some e1
    subst e1
    obtain ⟨a, rfl, ls, h1, h2, ea⟩ := setOf_some S r2 e2
    refine ⟨a, ls, t, l, rfl, ea, r1, hl, ?_⟩
    rw [← has_lf h1 hl]
    exact q _ H .refl S (.bl _)
/-! ### d[t] = x -/
noncomputable def fSetD (fe fo fi : FE) : FS := fun ρ => (fe ρ).bind fun p => (fo p.2).bind fun q => (fi q.2).bind fun r => (dtOf p.1).bind fun d => (dicOf q.1 r.2).bind fun kvs => (dtOf r.1).bind fun t =>
  (guardP (kOk kvs t = true ∧ kvs.length < sizeLine)).map fun _ => .nx (putC q.1 (.dic (dPut kvs t d)) r.2)
def rSetD (K : KW) : V → V → V → Hp → (Hp → Prop) → Prop := fun o i v H Q => ∃ a kvs t d, o = .ref a ∧ RpC K H a (.dic kvs) ∧ Rp K H i t ∧ Rp K H v d ∧ kOk kvs t = true ∧ kvs.length < sizeLine ∧ ∀ E', RpC K (upd H a (rawO a E')) a (.dic (dPut kvs t d)) → Q (upd H a (rawO a E'))
theorem set_dic (hu : X.A.units + 64 < cLine) : PSet X (rSetD X.kw) := by
  intro pins s σ H o i v ov iv u Q I ro ri rv h
  obtain ⟨a, kvs, t, d, rfl, rc, rt, rd, hk, hz, q⟩ := h
  cases ro
  exact dic_setItem hu I rc rt ri rd rv hk hz fun E' s' I' r' => ⟨_, I', q E' r'⟩
theorem ds_setD {pl : List Nat} {fe fo fi : FE} {o i : Expr} {tpos : Pos} (hu : X.A.units + 64 < cLine) (he : DE X e fe) (ho : DE X o fo) (hi : DE X i fi)
    (hs : swapsWithSole [.Subscript o i tpos] e pos.line X.env = pure false := by rfl) (hw : swappedStores [.Subscript o i tpos] e X.env = pure none := by rfl)
    (h1 : (assignEach [.Subscript o i tpos] X.env).map (·.2) = [assign (.Subscript o i tpos) X.env] := by rfl)
    (hsub : ∀ v, assign (.Subscript o i tpos) X.env v = (do
      let ov ← holding [v] (eval o X.env)
      let iv ← holding [v, ov] (eval i X.env)
      standAt tpos
      holding [v, ov, iv] (setItem ov iv v)
      release [v, ov, iv] []) := by intro _; rfl) : DS X pl (.Assign [.Subscript o i tpos] e pos) (fSetD fe fo fi) := by
  obtain ⟨t, pt, rt⟩ := he.run
  obtain ⟨u, pu, ru⟩ := ho.run
  obtain ⟨v, pv, rv⟩ := hi.run
  refine ⟨_, ps_asg pt (pg_sub pu pv (set_dic hu) hsub) hs hw h1, fun pn σ H ρ o D hp S P e q => ?_⟩
  simp only [fSetD, Option.bind_eq_some_iff, Option.map_eq_some_iff, guardP_some] at e
  obtain ⟨⟨h1, ρ1⟩, e1, ⟨h2, ρ2⟩, e2, ⟨h3, ρ3⟩, e3, d, e4, kvs, e5, t, e6, _, ⟨hk, hz⟩, e7⟩ := e
  subst e7
  have e4 : h1 = _ := dtOf_some e4
  have e6 : h3 = _ := dtOf_some e6
  subst e4 e6
  refine rt σ H ρ _ ρ1 _ S e1 fun x H1 g1 S1 k1 r1 => ?_
  refine ru σ H1 ρ1 h2 ρ2 _ S1 e2 fun y H2 g2 S2 k2 r2 => ?_
  refine rv σ H2 ρ2 _ ρ3 _ S2 e3 fun z H3 g3 S3 k3 r3 => ?_
  have r2' := r2.go g3
  obtain ⟨a, rfl, rc⟩ := dicOf_some S3 r2' e5
  refine ⟨a, kvs, t, d, rfl, rc, r3, Rp.m (g2.trans g3).tst r1, hk, hz, fun E' new => ?_⟩
  obtain ⟨b1, b2, b3, b4⟩ := put_core (o := rawO a E') S3 ((g1.trans g2).trans g3) (fun b n => g1.dom b n) r2' (dic_hd e5) rc new
  exact q σ _ b1 b2 ((P.kp ((k1.trans k2).trans k3)).kp b3)
/-! ### d.get(t, x), xs.add(t) -/
def TyD (K : KW) (x : V) (H : Hp) : Prop := ∃ a kvs, x = .ref a ∧ RpC K H a (.dic kvs)
theorem tyD_is (pins : List (Addr × Obj)) (s : Shared) (σ : L2.St) (H : Hp) (x : V) (v : Value) (I : Inv X pins σ H s) (r : RelV x v) (ty : TyD X.kw x H) : s.TypeIs v "dict" ∧ ∀ a, v = .ref a → ∃ ob, s.heap.get? a = some ob ∧ ob.dict = none := by
  obtain ⟨a, kvs, rfl, rc⟩ := ty
  cases r
  exact dic_type I rc
def rDGet2 (K : KW) : V → List V → Hp → VK → Prop := fun x xs H Q => ∃ a kvs y z t d, x = V.ref a ∧ xs = [y, z] ∧ RpC K H a (.dic kvs) ∧ Rp K H y t ∧ Rp K H z d ∧ kOk kvs t = true ∧ ∀ v, Rp K H v ((dGet kvs t).getD d) → Q v H
theorem mt_dget2 (hu : X.A.units + 64 < cLine) : MtR X "dict.get" (rDGet2 X.kw) := by
  intro pins s σ H x xs v us Q I rx rxs h
  obtain ⟨a, kvs, y, z, t, d, rfl, rfl, rc, rt, rd, hk, q⟩ := h
  cases rx
  cases rxs with
  | cons ry rs =>
    cases rs with
    | cons rz rs =>
      cases rs
      exact dic_get2 hu I rc rt ry rd rz hk fun v' u' s' I' r' rd' => ⟨v', H, I', r', q v' rd'⟩
def fGet2 (fa fb fc : FE) : FE := fun ρ => (fa ρ).bind fun p => (dicOf p.1 p.2).bind fun _ => (fb p.2).bind fun q => (fc q.2).bind fun r => (dicOf p.1 r.2).bind fun kvs => (dtOf q.1).bind fun t => (dtOf r.1).bind fun d =>
  if kOk kvs t = true then some (.dat ((dGet kvs t).getD d), r.2) else none
theorem de_get2 {apos cpos : Pos} (hu : X.A.units + 64 < cLine) (ha : DE X a fa) (hb : DE X b fb) (hc : DE X c fc)
    (hbase : attributeBase a "get" X.env (eval a X.env) = eval a X.env := by rfl)
    (hfew : ((backTo cpos (starEach [b, c] X.env)).all (fun x => !x.1) && (backToKw cpos (keywordEach [] X.env)).all (fun x => x.1.isSome)
      && decide (([b, c] : List Expr).length + ([] : List Keyword).length + (if ([] : List Keyword).isEmpty then 0 else 1) < 30)) = true := by rfl)
    (hline : (apos.endLine == cpos.line) = true := by rfl) (hs : starEach [b, c] X.env = (false, eval b X.env) :: starEach [c] X.env := by rfl) (hplain : (backTo cpos (starEach [c] X.env)).any (·.1) = false := by rfl)
    (hs2 : starEach [c] X.env = (false, eval c X.env) :: starEach [] X.env := by rfl) :
    DE X (.Call (.Attribute a "get" apos) [b, c] [] cpos) (fGet2 fa fb fc) := by
  obtain ⟨t, pt, rt⟩ := ha.run
  obtain ⟨u, pu, ru⟩ := hb.run
  obtain ⟨v, pv, rv⟩ := hc.run
  refine ⟨_, pe_bmQ PySem.F.plainAttrs_dict PySem.F.slot_dict_get PySem.F.type_dict_get tyD_is (mt_dget2 hu) pt (pa_cons pu (pa_cons pv pa_nil hs2) hs) hbase hfew hline hs hplain, fun σ H ρ h ρ' Q S e q => ?_⟩
  simp only [fGet2, Option.bind_eq_some_iff] at e
  obtain ⟨⟨h1, ρ1⟩, e1, kv0, e0, ⟨h2, ρ2⟩, e2, ⟨h3, ρ3⟩, e3, kvs, e4, t', e5, d, e6, e7⟩ := e
  split at e7
  · rename_i hk
    cases e7
    have e5 : h2 = _ := dtOf_some e5
    have e6 : h3 = _ := dtOf_some e6
    subst e5 e6
    refine rt σ H ρ h1 ρ1 _ S e1 fun x H1 g1 S1 k1 r1 => ⟨?_, ?_⟩
    · obtain ⟨a, ea, rc⟩ := dicOf_some S1 r1 e0
      exact ⟨a, kv0, ea, rc⟩
    · refine ru σ H1 ρ1 _ ρ2 _ S1 e2 fun y H2 g2 S2 k2 r2 => ?_
      refine rv σ H2 ρ2 _ ρ3 _ S2 e3 fun z H3 g3 S3 k3 r3 => ?_
      have r1' := (r1.go g2).go g3
      obtain ⟨a, rfl, rc⟩ := dicOf_some S3 r1' e4
      exact ⟨a, kvs, y, z, t', d, rfl, rfl, rc, Rp.m g3.tst r2, r3, hk, fun w rw' => q w H3 ((g1.trans g2).trans g3) S3 ((k1.trans k2).trans k3) rw'⟩
  · cases e7
def TyS (K : KW) (x : V) (H : Hp) : Prop := ∃ a xs, x = .ref a ∧ RpC K H a (.set xs)
theorem tyS_is (pins : List (Addr × Obj)) (s : Shared) (σ : L2.St) (H : Hp) (x : V) (v : Value) (I : Inv X pins σ H s) (r : RelV x v) (ty : TyS X.kw x H) : s.TypeIs v "set" ∧ ∀ a, v = .ref a → ∃ ob, s.heap.get? a = some ob ∧ ob.dict = none := by
  obtain ⟨a, xs, rfl, ls, h1, h2, ea⟩ := ty
  cases r
  have hS := setO_at I.hok ea
  exact ⟨hS.typeIs, hS.noDict⟩
def sAdd (xs : List T) (t : T) : List T := if hasL xs t = true then xs else xs ++ [t]
theorem sAdd_lf {xs : List T} {ls : List Leaf} {t : T} {l : Leaf} (h : xs.map lfOf = ls.map some) (hl : lfOf t = some l) (nd : ls.Nodup) : (sAdd xs t).map lfOf = (if l ∈ ls then ls else ls ++ [l]).map some ∧ (if l ∈ ls then ls else ls ++ [l]).Nodup := by
  unfold sAdd
  rw [has_lf h hl]
  by_cases hm : l ∈ ls
  · simp only [hm, decide_true, if_true]
    exact ⟨h, nd⟩
  · simp only [hm, decide_false, Bool.false_eq_true, if_false, List.map_append, h, List.map_cons, List.map_nil, hl, true_and]
    rw [List.nodup_append]
    exact ⟨nd, by simp, fun x hx y hy => by
      rw [List.mem_singleton] at hy
      rintro rfl
      exact hm (hy ▸ hx)⟩
theorem setOf_add {P : Program} {w : World} {h : Heap} {a : Addr} {ls : List Leaf} {l : Leaf} (R : h.SetOf (plainKind P w) a (fun k' => decide (k' ∈ ls) || decide (k' = l)) (if decide (l ∈ ls) = true then ls.length else ls.length + 1)) :
    h.SetOf (plainKind P w) a (fun k => decide (k ∈ (if l ∈ ls then ls else ls ++ [l]))) (if l ∈ ls then ls else ls ++ [l]).length := by
  refine setOf_congr R (fun k => ?_) ?_
  · by_cases hm : l ∈ ls
    · rw [if_pos hm]
      by_cases e : k = l
      · subst e; simp [hm]
      · simp [e]
    · rw [if_neg hm]
      simp [List.mem_append, Bool.decide_or]
  · by_cases hm : l ∈ ls <;> simp [hm]
noncomputable def fAdd (fa fb : FE) : FE := fun ρ => (fa ρ).bind fun p => (setOf p.1 p.2).bind fun _ => (fb p.2).bind fun q => (setOf p.1 q.2).bind fun xs => (dtOf q.1).bind fun t => (lfOf t).bind fun _ =>
  (guardP (xs.length + 1 < scanBound)).map fun _ => (.dat .none, putC p.1 (.set (sAdd xs t)) q.2)
def rSAddL (K : KW) : V → List V → Hp → VK → Prop := fun x xs H Q => ∃ a ls y t l, x = V.ref a ∧ xs = [y] ∧ H a = some (setO K.P K.w a ls) ∧ Rp K H y t ∧ lfOf t = some l ∧ ls.length + 1 < scanBound ∧ Q .non (upd H a (setO K.P K.w a (if l ∈ ls then ls else ls ++ [l])))
theorem mt_saddL : MtR X "set.add" (rSAddL X.kw) := by
  intro pins s σ H x xs v us Q I rx rxs h
  obtain ⟨a, ls, y, t, l, rfl, rfl, ea, rt, hl, room, q⟩ := h
  cases rx
  cases rxs with
  | cons ry rs =>
    cases rs
    have k := lf_is (X := X) rt ry hl
    refine call_set_add k (plIs_scan k) (setO_at I.hok ea) room fun h' sb new => ?_
    have new' := setOf_add new
    have he : ∃ u, h'.get? a = some u := let ⟨o, _, _, _, ho, _⟩ := new; ⟨o, ho⟩
    exact ⟨.non, _, I.write (e := a) (t' := s.toks + 1) (by rw [ea]; trivial) (.inl rfl) (fun b u hb hu => (sb.2 b hb).trans hu) he (setO_ok new'), rfl, q⟩
theorem map_len {xs : List T} {ls : List Leaf} (h : xs.map lfOf = ls.map some) : xs.length = ls.length := by
  have := congrArg List.length h
  simpa using this
theorem de_add {apos cpos : Pos} (ha : DE X a fa) (hb : DE X b fb)
    (hbase : attributeBase a "add" X.env (eval a X.env) = eval a X.env := by rfl)
    (hfew : ((backTo cpos (starEach [b] X.env)).all (fun x => !x.1) && (backToKw cpos (keywordEach [] X.env)).all (fun x => x.1.isSome)
      && decide (([b] : List Expr).length + ([] : List Keyword).length + (if ([] : List Keyword).isEmpty then 0 else 1) < 30)) = true := by rfl)
    (hline : (apos.endLine == cpos.line) = true := by rfl) (hs : starEach [b] X.env = (false, eval b X.env) :: starEach [] X.env := by rfl) (hplain : (backTo cpos (starEach [] X.env)).any (·.1) = false := by rfl) :
    DE X (.Call (.Attribute a "add" apos) [b] [] cpos) (fAdd fa fb) := by
  obtain ⟨t, pt, rt⟩ := ha.run
  obtain ⟨u, pu, ru⟩ := hb.run
  refine ⟨_, pe_bmQ PySem.F.plainAttrs_set PySem.F.slot_set_add PySem.F.type_set_add tyS_is mt_saddL pt (pa_cons pu pa_nil hs) hbase hfew hline hs hplain, fun σ H ρ h ρ' Q S e q => ?_⟩
  simp only [fAdd, Option.bind_eq_some_iff, Option.map_eq_some_iff, guardP_some] at e
  obtain ⟨⟨h1, ρ1⟩, e1, kv0, e0, ⟨h2, ρ2⟩, e2, xs, e4, t', e5, l, e6, _, hz, e7⟩ := e
  cases e7
  have e5 : h2 = _ := dtOf_some e5
  subst e5
  refine rt σ H ρ h1 ρ1 _ S e1 fun x H1 g1 S1 k1 r1 => ⟨?_, ?_⟩
  · obtain ⟨a, ea, rc⟩ := setOf_some S1 r1 e0
    exact ⟨a, kv0, ea, rc⟩
  · refine ru σ H1 ρ1 _ ρ2 _ S1 e2 fun y H2 g2 S2 k2 r2 => ?_
    have r1' := r1.go g2
    obtain ⟨a, rfl, rc⟩ := setOf_some S2 r1' e4
    obtain ⟨ls, q1, q2, ea⟩ := id rc
    obtain ⟨w1, w2⟩ := sAdd_lf q1 e6 q2
    refine ⟨a, ls, y, t', l, rfl, rfl, ea, r2, e6, by rw [← map_len q1]; exact hz, ?_⟩
    obtain ⟨b1, b2, b3, b4⟩ := put_core (o := setO X.kw.P X.kw.w a (if l ∈ ls then ls else ls ++ [l])) (c' := .set (sAdd xs t')) S2 (g1.trans g2) (fun b n => n) r1' (set_hd e4) rc ⟨_, w1, w2, upd_same⟩
    exact q _ _ b1 b2 ((k1.trans k2).trans b3) .non
/-! ### displays -/
def fDic0 : FE := fun ρ => some (.tmp (.dic []), ρ)
theorem raw_empty {P : Program} {w : World} {H : Hp} (h : Heap) (hb : sysModules < h.objs.size) : ObjOk P w H (h.push { cls := .type "dict", data := .dict #[] }) h.objs.size (rawO h.objs.size []) :=
  rawO_ok (beq_eq_false_iff_ne.mpr (Ne.symm (Nat.ne_of_lt hb))) ⟨_, #[], 0, Heap.get?_push_size _ rfl, ⟨rfl, rfl, rfl⟩, rfl, rfl⟩
theorem de_dic0 : DE X (.Dict [] [] pos) fDic0 := by
  refine ⟨fun _ H Q => ∀ p, H p = none → Q (.ref p) (upd H p (rawO p [])), ⟨fun pins s σ H Q I h => wpAny_Dict_empty ⟨.ref s.heap.objs.size, _, I.laid (a := s.heap.objs.size) (o := rawO s.heap.objs.size []) (t' := s.toks) (fun _ _ q => Heap.get?_push_of_some _ q) (Nat.le_refl _) (raw_empty s.heap I.big), rfl, h _ (I.hok.fresh (Nat.le_refl _))⟩⟩, fun σ H ρ h ρ' Q S e q p np => ?_⟩
  cases e
  exact q _ _ (.new np) (S.new np) .refl ⟨p, rfl, ⟨[], upd_same, .inl empty_dv⟩, np, S.not_own np⟩
/-- {k: v} -/
def fDic1 (fk fv : FE) : FE := fun ρ => (fk ρ).bind fun p => (fv p.2).bind fun q => (dtOf p.1).bind fun t => (dtOf q.1).bind fun d => if kOk [] t = true then some (.tmp (.dic [(t, d)]), q.2) else none
def tDic1 (K : KW) (tk tv : TE) : TE := fun σ H Q => ∀ p, H p = none → tk σ (upd H p (rawO p [])) fun x H1 => tv σ H1 fun y H2 => H2 p = some (rawO p []) ∧ ∃ t d, Rp K H2 x t ∧ Rp K H2 y d ∧ kOk [] t = true ∧ ∀ E', RpC K (upd H2 p (rawO p E')) p (.dic [(t, d)]) → Q (.ref p) (upd H2 p (rawO p E'))
def dic1Q (K : KW) (p : Addr) (Q : VK) : List (V × V) → Hp → Prop := fun ps H2 => match ps with
  | [(x, y)] => H2 p = some (rawO p []) ∧ ∃ t d, Rp K H2 x t ∧ Rp K H2 y d ∧ kOk [] t = true ∧ ∀ E', RpC K (upd H2 p (rawO p E')) p (.dic [(t, d)]) → Q (.ref p) (upd H2 p (rawO p E'))
  | _ => False
theorem pe_dic1 {k v : Expr} {tk tv : TE} (hu : X.A.units + 64 < cLine) (hk : PE X k tk) (hv : PE X v tv) : PE X (.Dict [some k] [v] pos) (tDic1 X.kw tk tv) := by
  refine ⟨fun pins s σ H Q I h => ?_⟩
  have hn := I.hok.fresh (Nat.le_refl s.heap.objs.size)
  have I1 := I.laid (a := s.heap.objs.size) (o := rawO s.heap.objs.size []) (h' := s.heap.push { cls := .type "dict", data := .dict #[] }) (t' := s.toks) (fun _ _ q => Heap.get?_push_of_some _ q) (Nat.le_refl _) (raw_empty s.heap I.big)
  have pp : PPs X pos [some k] [v] [(tk, tv)] := pps_cons hk hv pps_nil
  have go := pp.run pins _ σ _ (dic1Q X.kw s.heap.objs.size Q) I1 (h _ hn)
  have hu0 : (nestedKind X.prog X.w).room X.A := by
    show X.A.units + 8 < cLine
    omega
  rw [arm_eval_Dict]
  have hshape : (evalEachOpt [some k] X.env).zip ((evalEach [v] X.env).map fun v => do let x ← v; standAt pos; pure x) = (pairTrees [some k] [v] X.env pos).map fun p => (some p.1, p.2) := by rfl
  rw [hshape, dictDisplay_pairs (pairTrees [some k] [v] X.env pos) (by intro z; cases z) (by show (1 : Nat) < 17; decide)]
  refine wpAny_bind (wpAny_standAt (wpAny_bind ?_))
  unfold subDict
  refine wpAny_bind (wpAny_alloc ?_)
  refine wpAny_bind (wpAny_holding ?_)
  rw [if_pos (by show (1 : Nat) ≤ 15; decide)]
  refine wpAny_bind (wpAny_mono go (fun vs s2 hh => ?_) fun _ _ x => x)
  obtain ⟨ps, H2, I2, rel, z⟩ := hh
  unfold dic1Q at z
  split at z
  · rename_i x y
    cases rel with
    | cons r rr =>
      cases rr
      rename_i q
      obtain ⟨ku, vu⟩ := q
      obtain ⟨rk, rv⟩ := r
      obtain ⟨ep, t, d, rt, rd, hko, q⟩ := z
      have rc : RpC X.kw H2 s.heap.objs.size (.dic []) := ⟨[], ep, .inl empty_dv⟩
      refine wpAny_holding ?_
      refine wpAny_bind ?_
      rw [List.forIn_cons]
      refine wpAny_bind (wpAny_bind (dic_dictSet hu I2 rc rt rk rd rv hko (by show 0 < sizeLine; decide) fun E' s' I' r' => wpAny_pure ?_))
      dsimp only
      rw [List.forIn_nil]
      exact wpAny_pure (wpAny_pure (wpAny_pure (wpAny_pure ⟨.ref _, _, I', rfl, q E' r'⟩)))
  · exact z.elim
theorem HR.old {K : KW} {H1 H2 H0 : Hp} {σ : Sto} {ρ : Ev} {h : Hd} {u : V} (r : HR K H1 H2 σ ρ h u) (g : ∀ b, H1 b = none → H0 b = none) : HR K H0 H2 σ ρ h u := r.back g
theorem de_dic1 {k v : Expr} {fk fv : FE} (hu : X.A.units + 64 < cLine) (hk : DE X k fk) (hv : DE X v fv) : DE X (.Dict [some k] [v] pos) (fDic1 fk fv) := by
  obtain ⟨t, pt, rt⟩ := hk.run
  obtain ⟨u, pu, ru⟩ := hv.run
  refine ⟨_, pe_dic1 hu pt pu, fun σ H ρ h ρ' Q S e q p np => ?_⟩
  simp only [fDic1, Option.bind_eq_some_iff] at e
  obtain ⟨⟨h1, ρ1⟩, e1, ⟨h2, ρ2⟩, e2, t, e3, d, e4, e5⟩ := e
  split at e5
  · rename_i hko
    cases e5
    have e3 : h1 = _ := dtOf_some e3
    have e4 : h2 = _ := dtOf_some e4
    subst e3 e4
    have S0 := S.new (o := rawO p []) np
    have no0 : ¬ Own σ ρ p := S.not_own np
    have key : ∀ {σ' : Sto} {ρ' : Ev} {H' : Hp}, Go X.kw σ ρ (upd H p (rawO p [])) σ' ρ' H' → H' p = some (rawO p []) ∧ ¬ Own σ' ρ' p := fun g => by
      refine ⟨g.keep p _ upd_same no0, fun z => ?_⟩
      rcases g.own p z with z | z
      · exact no0 z
      · rw [upd_same] at z; cases z
    refine rt σ _ ρ _ ρ1 _ S0 e1 fun x H1 g1 S1 k1 r1 => ?_
    refine ru σ H1 ρ1 _ ρ2 _ S1 e2 fun y H2 g2 S2 k2 r2 => ?_
    obtain ⟨hp, no⟩ := key (g1.trans g2)
    refine ⟨hp, t, d, Rp.m g2.tst r1, r2, hko, fun E' new => ?_⟩
    have gg := (Go.new (K := X.kw) (σ := σ) (ρ := ρ) (o := rawO p []) np).trans (g1.trans g2)
    refine q _ _ ⟨fun b o hb nb => ?_, gg.own, gg.tst.trans (tst_mut hp trivial), fun b hb => gg.dom b (upd_none hb)⟩ (S2.asideM hp trivial no) (k1.trans k2) ⟨p, rfl, new, np, no⟩
    have : b ≠ p := by rintro rfl; rw [np] at hb; cases hb
    rw [upd_ne this]
    exact gg.keep b o hb nb
  · cases e5
/-! sets: {e}, set() -/
def fSet0 : FE := fun ρ => some (.tmp (.set []), ρ)
theorem fresh_set {P : Program} {w : World} {h : Heap} {led : Bool} : (h.push { cls := .type "set", dict := none, data := .set #[] 0 (.fresh 0 0 led) }).SetOf (plainKind P w) h.objs.size (fun l => decide (l ∈ ([] : List Leaf))) ([] : List Leaf).length :=
  ⟨_, #[], 0, _, Heap.get?_push_size _ rfl, ⟨rfl, rfl, rfl⟩, rfl, (fun e he => by simp at he), (fun k => by simp), (by decide), (by rfl), rfl⟩
theorem cr_set0L : CallR X (.type "set") (fun xs H Q => xs = [] ∧ ∀ p, H p = none → Q (.ref p) (upd H p (setO X.prog X.w p []))) := by
  intro pins s σ H xs us Q I r h
  obtain ⟨rfl, q⟩ := h
  cases r
  refine setR_new fun _ => ?_
  exact ⟨.ref _, upd H s.heap.objs.size (setO X.prog X.w s.heap.objs.size []), I.laid (t' := s.toks) (fun b u e => Heap.get?_push_of_some _ e) (Nat.le_refl _) (setO_ok fresh_set), rfl, q _ (I.hok.fresh (Nat.le_refl _))⟩
noncomputable def fSet1 (fe : FE) : FE := fun ρ => (fe ρ).bind fun p => (dtOf p.1).bind fun t => (lfOf t).map fun _ => (.tmp (.set [t]), p.2)
def tSet1 (K : KW) (te : TE) : TE := fun σ H Q => ∀ p, H p = none → te σ (upd H p (setO K.P K.w p [])) fun x H1 => H1 p = some (setO K.P K.w p []) ∧ ∃ t l, Rp K H1 x t ∧ lfOf t = some l ∧ Q (.ref p) (upd H1 p (setO K.P K.w p [l]))
theorem pe_set1 {te : TE} (he : PE X e te) (hcd : PySem.W.kdsCode X.K X.env.code = true) (hp : PySem.W.kdsPlain e = true := by rfl) : PE X (.Set [e] 0 pos) (tSet1 X.kw te) := by
  refine ⟨fun pins s σ H Q I h => ?_⟩
  rw [arm_eval_Set]
  refine wpAny_bind (wpAny_standAt ?_)
  refine wpAny_bind (PySem.W.kds_main I.kIn hcd fun b => ?_)
  rw [PySem.W.kds_star [e] (by rw [List.all_cons, hp]; rfl), List.map_map]
  have hroad : (displayRoad 0 [e] == DisplayRoad.constants) = false := rfl
  refine PySem.W.kds_core (ts := (evalEach [e] X.env).map fun t => do let v ← t; standAt pos; pure v) hroad ?_ ?_ ?_ fun led => ?_
  · refine List.findIdx?_eq_none_iff.mpr fun x hx => ?_
    obtain ⟨t, _, rfl⟩ := List.mem_map.mp hx
    rfl
  · rw [List.length_map, PySem.W.kds_len]; show (1 : Nat) ≤ 30; decide
  · rw [List.map_map]; try rfl
  · refine PySem.W.kds_all pos [e] _ _ ?_
    have I1 : Inv X pins σ (upd H s.heap.objs.size (setO X.prog X.w s.heap.objs.size [])) { s with heap := s.heap.push { cls := .type "set", dict := none, data := .set #[] 0 (.fresh 0 0 led) } } :=
      I.laid (t' := s.toks) (fun b u e => Heap.get?_push_of_some _ e) (Nat.le_refl _) (setO_ok fresh_set)
    refine wpAny_mono (he.run pins _ σ _ _ I1 (h _ (I.hok.fresh (Nat.le_refl _)))) (fun u s2 hh => ?_) fun _ _ x => x
    obtain ⟨x, H1, I2, rx, ep, t, l, rt, hl, q⟩ := hh
    have k := lf_is (X := X) rt rx hl
    refine PySem.W.kds_fill_cons ?_
    unfold setAdd
    refine wpAny_holding (wpAny_bind ((plainKind X.prog X.w).pyHash k ?_))
    refine wpAny_setAddHashed_of (s := { s2 with toks := s2.toks + 1 }) k (plIs_scan k) (setO_at I2.hok ep) (by decide) fun h' sb new => ?_
    have new' := setOf_add new
    have e1 : (if l ∈ ([] : List Leaf) then ([] : List Leaf) else [] ++ [l]) = [l] := by rw [if_neg (by simp)]; rfl
    rw [e1] at new'
    have hex : ∃ u, h'.get? s.heap.objs.size = some u := let ⟨o, _, _, _, ho, _⟩ := new; ⟨o, ho⟩
    refine PySem.W.kds_fill_nil rfl ?_
    exact ⟨.ref _, _, I2.write (e := s.heap.objs.size) (t' := s2.toks + 1) (by rw [ep]; trivial) (.inl rfl) (fun b u hb hu => (sb.2 b hb).trans hu) hex (setO_ok new'), rfl, q⟩
theorem de_set1 {fe : FE} (he : DE X e fe) (hcd : PySem.W.kdsCode X.K X.env.code = true) (hp : PySem.W.kdsPlain e = true := by rfl) : DE X (.Set [e] 0 pos) (fSet1 fe) := by
  obtain ⟨t, pt, rt⟩ := he.run
  refine ⟨_, pe_set1 pt hcd hp, fun σ H ρ h ρ' Q S e q p np => ?_⟩
  simp only [fSet1, Option.bind_eq_some_iff, Option.map_eq_some_iff] at e
  obtain ⟨⟨h1, ρ1⟩, e1, t, e3, l, hl, e5⟩ := e
  cases e5
  have e3 : h1 = _ := dtOf_some e3
  subst e3
  have S0 := S.new (o := setO X.kw.P X.kw.w p []) np
  have no0 : ¬ Own σ ρ p := S.not_own np
  refine rt σ _ ρ _ ρ1 _ S0 e1 fun x H1 g1 S1 k1 r1 => ?_
  have hp : H1 p = some (setO X.kw.P X.kw.w p []) := g1.keep p _ upd_same no0
  have no : ¬ Own σ ρ1 p := fun z => by
    rcases g1.own p z with z | z
    · exact no0 z
    · rw [upd_same] at z; cases z
  refine ⟨hp, t, l, r1, hl, ?_⟩
  have gg := (Go.new (K := X.kw) (σ := σ) (ρ := ρ) (o := setO X.kw.P X.kw.w p []) np).trans g1
  refine q _ _ ⟨fun b o hb nb => ?_, gg.own, gg.tst.trans (tst_mut hp trivial), fun b hb => gg.dom b (upd_none hb)⟩ (S1.asideM hp trivial no) k1 ⟨p, rfl, ⟨[l], by simp [hl], by simp, upd_same⟩, np, no⟩
  have : b ≠ p := by rintro rfl; rw [np] at hb; cases hb
  rw [upd_ne this]
  exact gg.keep b o hb nb
end
/-! ### slots that are not asked any more -/
def fWipe (vs : List Nat) (f : FS) : FS := fun ρ => (f ρ).map fun o => match o with
  | .nx ρ' => .nx (wipeE ρ' vs)
  | .ct ρ' => .ct (wipeE ρ' vs)
  | o => o
theorem wipe_SR {K : KW} {H : Hp} {σ : Sto} {ρ : Ev} (vs : List Nat) (S : SR K H σ ρ) : SR K H σ (wipeE ρ vs) := by
  refine ⟨by rw [wipeE_len]; exact S.len, fun j t h => S.dat j t (wipe_get h).2, fun j xs h => S.rol j xs (wipe_get h).2, fun j c h => S.obj j c (wipe_get h).2, fun i j c d a h1 h2 h3 h4 => S.sep i j c d a (wipe_get h1).2 (wipe_get h2).2 h3 h4⟩
theorem wipe_Go {K : KW} {H Hs : Hp} {σ σs : Sto} {ρ ρs : Ev} (vs : List Nat) (g : Go K σs ρs Hs σ ρ H) : Go K σs ρs Hs σ (wipeE ρ vs) H :=
  ⟨g.keep, fun a ⟨j, c, h1, h2⟩ => g.own a ⟨j, c, (wipe_get h1).2, h2⟩, g.tst, g.dom⟩
theorem dss_wipe {X : Cx} {pl : List Nat} {sts : List Stmt} {f : FS} (vs : List Nat) (h : DSs X pl sts f) (hv : ∀ v ∈ vs, v ∉ pl) : DSs X pl sts (fWipe vs f) := by
  obtain ⟨t, pt, rt⟩ := h.run
  refine ⟨t, pt, fun pn σ H ρ o D hp S P e q => ?_⟩
  simp only [fWipe, Option.map_eq_some_iff] at e
  obtain ⟨o1, e1, e2⟩ := e
  have pin : ∀ {σ' : Sto} {ρ' : Ev}, Pin pn σ' ρ' → Pin pn σ' (wipeE ρ' vs) := fun P p hpn => by
    obtain ⟨h1, c, h2⟩ := P p hpn
    refine ⟨h1, c, ?_⟩
    rw [wipeE_out fun z => hv _ z (hp p hpn)]
    exact h2
  refine rt pn σ H ρ o1 D hp S P e1 ?_
  cases o1 with
  | nx ρ1 => subst e2; exact fun σ' H' g S' P' => q σ' H' (wipe_Go vs g) (wipe_SR vs S') (pin P')
  | ct ρ1 => subst e2; exact fun σ' H' g S' P' => q σ' H' (wipe_Go vs g) (wipe_SR vs S') (pin P')
  | bk ρ1 => subst e2; exact q
  | rt r ρ1 => subst e2; exact q
/-! ### a tuple of written length -/
def fTupN (g : FA) : FE := fun ρ => (g ρ).bind fun p => (datsOf p.1).map fun ts => (.dat (.tuple ts), p.2)
theorem de_tupN {X : Cx} {es : List Expr} {pos : Pos} {g : FA} {x1} {n : Nat} (h : DA X es g) (hl : ∀ ρ hs ρ', g ρ = some (hs, ρ') → hs.length = n) (hn : n ≤ 1000 := by decide) : DE X (.Tuple es x1 pos) (fTupN g) := by
  obtain ⟨t, pt, rt⟩ := h.run
  refine ⟨_, pe_tupX pt, fun σ H ρ hs ρ' Q S e q => ?_⟩
  simp only [fTupN, Option.bind_eq_some_iff, Option.map_eq_some_iff] at e
  obtain ⟨⟨h1, ρ1⟩, e1, ts, e2, e3⟩ := e
  cases e3
  refine rt σ H ρ h1 ρ1 _ S e1 fun xs H1 g1 S1 k1 r1 d1 => ?_
  have r := r1.dats e2
  have hlen : xs.length ≤ sizeLine := by
    have h1 := hl _ _ _ e1
    have h2 := r1.len
    have h3 : (1000 : Nat) ≤ sizeLine := by rw [sizeLine_eq]; decide
    have h1 : _ = n := h1
    omega
  refine ⟨hlen, fun p ob np hx => ?_⟩
  exact q _ _ (g1.trans (.new np)) (S1.new np) k1 (.tup (.new hx) (r.m (tst_new np)))
def fLstN (g : FA) : FE := fun ρ => (g ρ).bind fun p => (datsOf p.1).map fun ts => (.tmp (.lst ts), p.2)
theorem de_lstN {X : Cx} {es : List Expr} {pos : Pos} {g : FA} {n : Nat} (h : DA X es g) (hl : ∀ ρ hs ρ', g ρ = some (hs, ρ') → hs.length = n) (hn : n ≤ 1000 := by decide) : DE X (.List es pos) (fLstN g) := by
  obtain ⟨t, pt, rt⟩ := h.run
  refine ⟨_, pe_lst pt, fun σ H ρ hs ρ' Q S e q => ?_⟩
  simp only [fLstN, Option.bind_eq_some_iff, Option.map_eq_some_iff] at e
  obtain ⟨⟨h1, ρ1⟩, e1, ts, e2, e3⟩ := e
  cases e3
  refine rt σ H ρ h1 ρ1 _ S e1 fun xs H1 g1 S1 k1 r1 d1 => ?_
  have r := r1.dats e2
  have hlen : xs.length ≤ sizeLine := by
    have h1 := hl _ _ _ e1
    have h2 := r1.len
    have h3 : (1000 : Nat) ≤ sizeLine := by rw [sizeLine_eq]; decide
    have h1 : _ = n := h1
    omega
  refine ⟨hlen, fun p np => ?_⟩
  exact q _ _ (g1.trans (.new np)) (S1.new np) k1 (HR.tmpL S1 np (g1.dom _ np) r)
theorem np_tupN {g : FA} : NoPlc (fTupN g) := fun ρ h ρ' e i z => by
  simp only [fTupN, Option.bind_eq_some_iff, Option.map_eq_some_iff] at e
  obtain ⟨_, _, _, _, e⟩ := e
  cases e; cases z
theorem np_lstN {g : FA} : NoPlc (fLstN g) := fun ρ h ρ' e i z => by
  simp only [fLstN, Option.bind_eq_some_iff, Option.map_eq_some_iff] at e
  obtain ⟨_, _, _, _, e⟩ := e
  cases e; cases z
theorem nb_ixD : ∀ a b ρ i, gIxD a b ρ ≠ some (.plc i) := fun a b ρ i e => by
  simp only [gIxD, Option.bind_eq_some_iff] at e
  obtain ⟨_, _, _, _, e⟩ := e
  split at e
  · simp only [Option.map_eq_some_iff] at e
    obtain ⟨_, _, e⟩ := e
    cases e
  · cases e
/-! ### a def, with what is known of its code -/
section
variable {P : Program} {w : World} {K : PySem.W.Frag} {mg : Str → Option Value} {base : Heap}
theorem kds_of_code {cd : Value} {q : Str} (h : PySem.W.codeIn K cd q = true) : PySem.W.kdsCode K cd = true := by
  unfold PySem.W.codeIn at h
  unfold PySem.W.kdsCode
  split at h
  · split at h
    · rename_i hl
      simp only [hl]
    · cases h
  · cases h
theorem fn_denC {x qual : Str} {st : Stmt} {f : Addr} {fd : FuncData} {N ps : List Str} {k n : Nat} {g : FS} (F : Fun K x qual st f fd) (S : FnScope N ps (defScope st)) (hn : n = ps.length)
    (hbody : ∀ (cdv : Value) (A : Around) (outer : List PySem.Env) (s : Shared) (H : Hp) (E : XK), PySem.W.kdsCode K cdv = true → Room k (A.deeper (envOfC qual (defScope st) s.heap.objs.size f cdv)) →
      DSs (cxOf CX0 P w K mg base N qual (defScope st) f cdv A outer s H E).nox (List.range n) (defBody st) g) : FnOk P w K mg base CX0 (k + 1) f fd ps (spD ⟨K, P, w⟩ n (runD N.length n g)) := by
  obtain ⟨oc, od, kV, doc, pm, an, cdv, ct, osl, rfl, lk, hcd⟩ := F.ex
  refine fn_of lk hcd S (fun vs H Q E h => ?_) fun A outer s H vs Q E hr hsp => ?_
  · rw [← hn]; exact spD_len h
  · obtain ⟨t, h, q⟩ := body_ok (K := ⟨K, P, w⟩) rfl (hbody cdv A outer s H E (kds_of_code hcd) hr) hsp
    exact ⟨t, h.nox, q⟩
theorem df_mkC {x : Str} {st : Stmt} {N ps : List Str} {k n : Nat} {g : FS} (A : At K mg x st ps) (S : FnScope N ps (defScope st)) (hn : n = ps.length)
    (hbody : ∀ (f : Addr) (cdv : Value) (A : Around) (outer : List PySem.Env) (s : Shared) (H : Hp) (E : XK), PySem.W.kdsCode K cdv = true → Room k (A.deeper (envOfC x (defScope st) s.heap.objs.size f cdv)) →
      DSs (cxOf CX0 P w K mg base N x (defScope st) f cdv A outer s H E).nox (List.range n) (defBody st) g) : Df P w K mg base x (k + 1) n (runD N.length n g) := by
  obtain ⟨f, fd, F, hm, hb⟩ := A.ex
  exact ⟨f, fd, ps, fn_denC F S hn fun cdv A outer s H E hc hr => hbody f cdv A outer s H E hc hr, hn, hm, F.kp, .all hb⟩
end
end PD

namespace PD
open PySem PySem.Spec PyProof.Rows L2
section
variable {X : Cx} {e a b c : Expr} {es : List Expr} {fa fb fc : FE} {pos : Pos}
/-! ### sorted of data of one shape -/
noncomputable def sortD (xs : List T) : List T := xs.mergeSort (PySem.W.dataLe false id)
open PySem.W in
def SortOk (xs : List T) : Prop := AllAlike xs ∧ Sortable xs ∧ PyData.depthAll xs ≤ 60 ∧ xs.length ≤ sizeLine
def rSortedD (K : KW) : List V → Hp → VK → Prop := fun vs H Q => ∃ a ws xs, vs = [.ref a] ∧ SqL K H a ws ∧ RpL K H ws xs ∧ SortOk xs ∧ ∀ p ws', RpL K H ws' (sortD xs) → H p = none → Q (.ref p) (upd H p (.lst ws'))
theorem depth_mem : ∀ {xs : List PyData} {x : PyData}, x ∈ xs → x.depth ≤ PyData.depthAll xs
  | y :: ys, x, h => by
    have e : PyData.depthAll (y :: ys) = max y.depth (PyData.depthAll ys) := rfl
    rw [e]
    cases h with
    | head => omega
    | tail _ h => have := depth_mem h; omega
theorem each_zip {K : KW} {H : Hp} {X : Cx} {pins : List (Addr × Obj)} {σ : Sto} {s : Shared} (hK : X.K = K.K) (I : Inv X pins σ H s) : ∀ {its : List Value} {ws : List V} {xs : List T}, Vals ws its → RpL K H ws xs →
    PySem.W.EachIs (fun v (b : V × T) => RelV b.1 v ∧ Rp K H b.1 b.2) its (ws.zip xs) ∧ PySem.W.EachIs (fun v (b : V × T) => ∃ as, Reads s.heap v b.2 as) its (ws.zip xs) ∧ (ws.zip xs).map Prod.snd = xs
  | [], [], [], .nil, .nil => ⟨.nil, .nil, rfl⟩
  | _ :: _, _ :: _, _ :: _, .cons r t, .cons p q => by
    obtain ⟨h1, h2, h3⟩ := each_zip hK I t q
    refine ⟨.cons ⟨r, p⟩ h1, .cons ?_ h2, by simp [h3]⟩
    exact Dp.reads I _ _ _ (by rw [hK]; exact Rp.dp _ _ p) r
theorem each_back {K : KW} {H : Hp} : ∀ {out : List Value} {bs : List (V × T)}, PySem.W.EachIs (fun v (b : V × T) => RelV b.1 v ∧ Rp K H b.1 b.2) out bs → Vals (bs.map Prod.fst) out ∧ RpL K H (bs.map Prod.fst) (bs.map Prod.snd)
  | _, _, .nil => ⟨.nil, .nil⟩
  | _, _, .cons h t => ⟨.cons h.1 (each_back t).1, .cons h.2 (each_back t).2⟩
open PySem.W in
theorem cr_sortedD (hu : X.A.units + 64 < cLine) : CallR X (.builtin "sorted") (rSortedD X.kw) := by
  intro pins s σ H vs us Q I r h
  obtain ⟨a, ws, xs, rfl, sq, l, ⟨al, so, dp, ln⟩, q⟩ := h
  rw [Vals.ref1 r]
  obtain ⟨its, rv, pl, hz⟩ := I.list sq
  obtain ⟨h1, h2, h3⟩ := each_zip (K := X.kw) rfl I rv l
  have hl : (ws.zip xs).length = xs.length := by
    have := congrArg List.length h3
    rwa [List.length_map] at this
  refine sorted_data (enc := Prod.snd) pl.isList h1 h2 (by rw [h3]; exact al) (by rw [h3]; exact so) (by rw [hl]; exact ln) (fun b hb => ?_) fun out hout ho => ?_
  · have : b.2 ∈ xs := by rw [← h3]; exact List.mem_map_of_mem hb
    have := depth_mem this
    omega
  obtain ⟨v1, v2⟩ := each_back ho
  have hs : ((ws.zip xs).mergeSort (dataLe false Prod.snd)).map Prod.snd = sortD xs := by
    unfold sortD
    have := sort_maps (r := dataLe false (Prod.snd : V × T → T)) (s := dataLe false id) (l := ws.zip xs) Prod.snd (fun a _ b _ => rfl)
    rw [this, h3]
  rw [hs] at v2
  obtain ⟨n, hn⟩ := sortedAll_at s.heap its out.toArray
  have hlen : (((ws.zip xs).mergeSort (dataLe false Prod.snd)).map Prod.fst).length = xs.length := by rw [List.length_map, List.length_mergeSort, hl]
  refine ⟨.ref (s.heap.objs.size + 1), _, I.laid (a := s.heap.objs.size + 1) (o := .lst (((ws.zip xs).mergeSort (dataLe false Prod.snd)).map Prod.fst)) (t' := s.toks) (fun b u e => sortedAll_old e) (by omega) ⟨by rw [hlen]; exact ln, out, n, v1, hn⟩, rfl, q _ _ v2 (I.hok.fresh (by omega))⟩
open Classical in
noncomputable def gSortedD : GA := fun hs ρ => match hs with
  | [h] => (rdL h ρ).bind fun xs => (guardP (SortOk xs)).map fun _ => .tmp (.lst (sortD xs))
  | _ => none
theorem dc_sortedD (hu : X.A.units + 64 < cLine) : DCl X (.builtin "sorted") gSortedD := by
  refine ⟨_, cr_sortedD hu, fun σ H0 H ρ hs h3 us Q S r1 e q => ?_⟩
  unfold gSortedD at e
  split at e
  · obtain ⟨u, rfl, r⟩ := r1.one
    simp only [Option.bind_eq_some_iff, Option.map_eq_some_iff, guardP_some] at e
    obtain ⟨xs, e1, _, ok, rfl⟩ := e
    obtain ⟨a, vs, rfl, sq, l⟩ := rdL_some S r e1
    exact ⟨a, vs, xs, rfl, sq, l, ok, fun p ws' rp np => q _ _ (.new np) (S.new np) (HR.tmpL S np np rp)⟩
  · cases e
noncomputable def gSorted : GA := fun hs ρ => (gSortedI hs ρ).or (gSortedD hs ρ)
theorem dc_sorted (hu : X.A.units + 64 < cLine) : DCl X (.builtin "sorted") gSorted := dc_sortedI.or (dc_sortedD hu)
theorem nc_sortedD : NC gSortedD := fun a ρ h e i z => by
  unfold gSortedD at e
  split at e
  · simp only [Option.bind_eq_some_iff, Option.map_eq_some_iff] at e
    obtain ⟨_, _, _, _, e⟩ := e
    subst e; cases z
  · cases e
theorem nc_sortedA : NC gSorted := fun a ρ h e i z => by
  unfold gSorted at e
  rcases Option.or_eq_some_iff.mp e with e | ⟨_, e⟩
  · exact nc_sorted a ρ h e i z
  · exact nc_sortedD a ρ h e i z
end
end PD

namespace PD
open PySem PySem.Spec PyProof.Rows L2
section
variable {X : Cx} {fa fb fc : FE} {ρ : Ev}
@[simp] theorem ev_var (i : Nat) (ρ : Ev) : fVar i ρ = (match ρ[i]? with
  | some (some (.dat t)) => some (.dat t, ρ)
  | some (some _) => some (.plc i, ρ)
  | _ => none) := rfl
@[simp] theorem ev_c (t : T) (ρ : Ev) : fC t ρ = some (.dat t, ρ) := rfl
@[simp] theorem ev_nil (ρ : Ev) : fNil ρ = some ([], ρ) := rfl
@[simp] theorem ev_cons (f : FE) (g : FA) (ρ : Ev) : fCons f g ρ = (f ρ).bind fun p => (g p.2).map fun q => (p.1 :: q.1, q.2) := rfl
@[simp] theorem guardP_true : guardP True = some () := guardP_pos trivial
@[simp] theorem guardP_false : guardP False = none := by unfold guardP; simp
@[simp] theorem ev_datsOf_nil : datsOf [] = some [] := rfl
@[simp] theorem ev_datsOf_cons (t : T) (hs : List Hd) : datsOf (.dat t :: hs) = (datsOf hs).map (t :: ·) := by rfl
theorem small_le {n : Nat} (h : n ≤ 1000000) : n ≤ sizeLine := by rw [sizeLine_eq]; omega
theorem guard_small {n : Nat} (h : n ≤ 1000000) : guardP (n ≤ sizeLine) = some () := guardP_pos (small_le h)
@[simp] theorem ev_tup (g : FA) (ρ : Ev) : fTup g ρ = (g ρ).bind fun p => (datsOf p.1).bind fun ts => (guardP (ts.length ≤ sizeLine)).map fun _ => (.dat (.tuple ts), p.2) := rfl
@[simp] theorem ev_lst (g : FA) (ρ : Ev) : fLst g ρ = (g ρ).bind fun p => (datsOf p.1).bind fun ts => (guardP (ts.length ≤ sizeLine)).map fun _ => (.tmp (.lst ts), p.2) := rfl
@[simp] theorem ev_bin (g : GB) (fa fb : FE) (ρ : Ev) : fBin g fa fb ρ = (fa ρ).bind fun p => (fb p.2).bind fun q => (g p.1 q.1 q.2).map fun h => (h, q.2) := rfl
@[simp] theorem ev_boolOf (b : Bool) : boolOf (.dat (.bool b)) = some b := rfl
@[simp] theorem ev_tst (f : FE) (ρ : Ev) : fTst f ρ = (f ρ).bind fun p => (boolOf p.1).map fun b => (b, p.2) := rfl
@[simp] theorem ev_and (f g : FB) (ρ : Ev) : fAnd f g ρ = (f ρ).bind fun p => if p.1 = true then g p.2 else some (false, p.2) := rfl
@[simp] theorem ev_or (f g : FB) (ρ : Ev) : fOr f g ρ = (f ρ).bind fun p => if p.1 = true then some (true, p.2) else g p.2 := rfl
@[simp] theorem ev_not (f : FB) (ρ : Ev) : fNot f ρ = (f ρ).map fun p => (!p.1, p.2) := rfl
@[simp] theorem ev_andV (f g : FE) (ρ : Ev) : fAndV f g ρ = (f ρ).bind fun p => (boolOf p.1).bind fun b => if b = true then g p.2 else some (.dat (.bool false), p.2) := rfl
@[simp] theorem ev_orV (f g : FE) (ρ : Ev) : fOrV f g ρ = (f ρ).bind fun p => (boolOf p.1).bind fun b => if b = true then some (.dat (.bool true), p.2) else g p.2 := rfl
@[simp] theorem ev_notV (f : FE) (ρ : Ev) : fNotV f ρ = (f ρ).bind fun p => (boolOf p.1).map fun b => (.dat (.bool !b), p.2) := rfl
@[simp] theorem ev_if (f : FB) (g g' : FE) (ρ : Ev) : fIf f g g' ρ = (f ρ).bind fun p => if p.1 = true then g p.2 else g' p.2 := rfl
@[simp] theorem ev_chain (g g' : GB) (fa fb fc : FE) (ρ : Ev) : fChain g g' fa fb fc ρ = (fa ρ).bind fun p => (fb p.2).bind fun q => (g p.1 q.1 q.2).bind fun h => (boolOf h).bind fun k => if k = true then (fc q.2).bind fun r => (g' q.1 r.1 r.2).map fun h' => (h', r.2) else some (.dat (.bool false), q.2) := rfl
/-! readings -/
@[simp] theorem ev_py_dat (t : T) (ρ : Ev) : py (.dat t) ρ = some t := rfl
@[simp] theorem ev_py_tmp (xs : List T) (ρ : Ev) : py (.tmp (.lst xs)) ρ = some (.list xs) := rfl
@[simp] theorem ev_py_plc (i : Nat) (ρ : Ev) : py (.plc i) ρ = (match ρ[i]? with
    | some (some (.obj (.lst xs))) => some (.list xs)
    | some (some (.rol xs)) => some (.list xs)
    | _ => none) := rfl
@[simp] theorem ev_intOf (i : Int) : intOf (.dat (.int i)) = some i := rfl
@[simp] theorem ev_intOf_t (xs : List T) : intOf (.dat (.tuple xs)) = none := rfl
@[simp] theorem ev_intOf_l (c : C) : intOf (.tmp c) = none := rfl
@[simp] theorem ev_intOf_p (c : Nat) : intOf (.plc c) = none := rfl
@[simp] theorem ev_intOf_s (c : Str) : intOf (.dat (.str c)) = none := rfl
@[simp] theorem ev_intOf_n : intOf (.dat .none) = none := rfl
@[simp] theorem ev_intOf_b (b : Bool) : intOf (.dat (.bool b)) = none := rfl
@[simp] theorem ev_tupOf (xs : List T) : tupOf (.dat (.tuple xs)) = some xs := rfl
@[simp] theorem ev_tupOf_i (i : Int) : tupOf (.dat (.int i)) = none := rfl
@[simp] theorem ev_tupOf_s (i : Str) : tupOf (.dat (.str i)) = none := rfl
@[simp] theorem ev_tupOf_l (c : C) : tupOf (.tmp c) = none := rfl
@[simp] theorem ev_tupOf_p (c : Nat) : tupOf (.plc c) = none := rfl
@[simp] theorem ev_strOf (x : Str) : strOf (.dat (.str x)) = some x := rfl
@[simp] theorem ev_lstOf_d (t : T) (ρ : Ev) : lstOf (.dat t) ρ = none := rfl
@[simp] theorem ev_lstOf_t (xs : List T) (ρ : Ev) : lstOf (.tmp (.lst xs)) ρ = some xs := rfl
@[simp] theorem ev_lstOf_p (i : Nat) (ρ : Ev) : lstOf (.plc i) ρ = (match ρ[i]? with
    | some (some (.obj (.lst xs))) => some xs
    | _ => none) := rfl
@[simp] theorem ev_rdL_d (t : T) (ρ : Ev) : rdL (.dat t) ρ = none := rfl
@[simp] theorem ev_rdL_t (xs : List T) (ρ : Ev) : rdL (.tmp (.lst xs)) ρ = some xs := rfl
@[simp] theorem ev_rdL_p (i : Nat) (ρ : Ev) : rdL (.plc i) ρ = (match ρ[i]? with
    | some (some (.obj (.lst xs))) => some xs
    | some (some (.rol xs)) => some xs
    | _ => none) := rfl
@[simp] theorem ev_rdSeq (h : Hd) (ρ : Ev) : rdSeq h ρ = (tupOf h).or (rdL h ρ) := rfl
/-! operators -/
@[simp] theorem ev_gI {C : Int → Int → Prop} {f : Int → Int → T} (a b : Hd) (ρ : Ev) : gI C f a b ρ = (intOf a).bind fun i => (intOf b).bind fun j => (guardP (C i j)).map fun _ => .dat (f i j) := rfl
@[simp] theorem ev_gI0 {f : Int → Int → T} (a b : Hd) (ρ : Ev) : gI0 f a b ρ = (intOf a).bind fun i => (intOf b).map fun j => .dat (f i j) := rfl
@[simp] theorem ev_gCmpI {f : Int → Int → Bool} (a b : Hd) (ρ : Ev) : gCmpI f a b ρ = (intOf a).bind fun i => (intOf b).map fun j => .dat (.bool (f i j)) := rfl
@[simp] theorem ev_add (a b : Hd) (ρ : Ev) : gAdd a b ρ = (gI0 (fun i j => .int (i + j)) a b ρ).or ((gAddT a b ρ).or ((gAddL a b ρ).or (gAddS a b ρ))) := rfl
@[simp] theorem ev_addT (a b : Hd) (ρ : Ev) : gAddT a b ρ = (tupOf a).bind fun xs => (tupOf b).bind fun ys => (guardP (xs.length + ys.length ≤ sizeLine)).map fun _ => .dat (.tuple (xs ++ ys)) := rfl
@[simp] theorem ev_addL (a b : Hd) (ρ : Ev) : gAddL a b ρ = (lstOf a ρ).bind fun xs => (lstOf b ρ).bind fun ys => (guardP (xs.length + ys.length ≤ sizeLine)).map fun _ => .tmp (.lst (xs ++ ys)) := rfl
@[simp] theorem ev_tupN (g : FA) (ρ : Ev) : fTupN g ρ = (g ρ).bind fun p => (datsOf p.1).map fun ts => (.dat (.tuple ts), p.2) := rfl
@[simp] theorem ev_lstN (g : FA) (ρ : Ev) : fLstN g ρ = (g ρ).bind fun p => (datsOf p.1).map fun ts => (.tmp (.lst ts), p.2) := rfl
@[simp] theorem ev_mul (a b : Hd) (ρ : Ev) : gMul a b ρ = (gI MulOk (fun i j => .int (i * j)) a b ρ).or ((gMulT a b ρ).or (gMulL a b ρ)) := rfl
@[simp] theorem ev_mulT (a b : Hd) (ρ : Ev) : gMulT a b ρ = (tupOf a).bind fun xs => (intOf b).bind fun k => (guardP (-1000000 ≤ k ∧ k ≤ 1000000 ∧ xs.length * k.toNat ≤ 1000000)).map fun _ => .dat (.tuple (List.replicate k.toNat xs).flatten) := rfl
@[simp] theorem ev_mulL (a b : Hd) (ρ : Ev) : gMulL a b ρ = (lstOf a ρ).bind fun xs => (intOf b).bind fun k => (guardP (-1000000 ≤ k ∧ k ≤ 1000000 ∧ xs.length * k.toNat ≤ 1000000)).map fun _ => .tmp (.lst (List.replicate k.toNat xs).flatten) := rfl
@[simp] theorem ev_neg (f : FE) (ρ : Ev) : fNeg f ρ = (f ρ).bind fun p => (intOf p.1).map fun i => (.dat (.int (-i)), p.2) := rfl
@[simp] theorem ev_eq (a b : Hd) (ρ : Ev) : gEq a b ρ = (py a ρ).bind fun d => (py b ρ).bind fun e => (guardP (min d.depth e.depth ≤ 60)).map fun _ => .dat (.bool (PyData.eqv d e)) := rfl
@[simp] theorem ev_ne (a b : Hd) (ρ : Ev) : gNe a b ρ = (py a ρ).bind fun d => (py b ρ).bind fun e => (guardP (min d.depth e.depth ≤ 60)).map fun _ => .dat (.bool (!PyData.eqv d e)) := rfl
@[simp] theorem ev_in (a b : Hd) (ρ : Ev) : gIn a b ρ = (py a ρ).bind fun d => (py b ρ).bind fun e => (seqOf e).bind fun xs => (guardP (min (PyData.depthAll xs) d.depth ≤ 60)).map fun _ => .dat (.bool (xs.any fun y => PyData.eqv y d)) := rfl
@[simp] theorem ev_notIn (a b : Hd) (ρ : Ev) : gNotIn a b ρ = (py a ρ).bind fun d => (py b ρ).bind fun e => (seqOf e).bind fun xs => (guardP (min (PyData.depthAll xs) d.depth ≤ 60)).map fun _ => .dat (.bool (!xs.any fun y => PyData.eqv y d)) := rfl
@[simp] theorem ev_seqL (xs : List T) : seqOf (.list xs) = some xs := rfl
@[simp] theorem ev_seqT (xs : List T) : seqOf (.tuple xs) = some xs := rfl
@[simp] theorem ev_isN (a b : Hd) (ρ : Ev) : gIsN a b ρ = (py a ρ).bind fun _ => if isNone b then some (.dat (.bool (isNone a))) else none := rfl
@[simp] theorem ev_notN (a b : Hd) (ρ : Ev) : gNotN a b ρ = (py a ρ).bind fun _ => if isNone b then some (.dat (.bool (!isNone a))) else none := rfl
@[simp] theorem ev_isNone_n : isNone (.dat .none) = true := rfl
@[simp] theorem ev_isNone_i (i : Int) : isNone (.dat (.int i)) = false := rfl
@[simp] theorem ev_isNone_b (i : Bool) : isNone (.dat (.bool i)) = false := rfl
@[simp] theorem ev_isNone_s (i : Str) : isNone (.dat (.str i)) = false := rfl
@[simp] theorem ev_isNone_t (i : List T) : isNone (.dat (.tuple i)) = false := rfl
@[simp] theorem ev_lt (a b : Hd) (ρ : Ev) : gLt a b ρ = (gCmpI (fun i j => decide (i < j)) a b ρ).or (gOrd (fun d e => PySem.W.dataLt d e) a b ρ) := rfl
@[simp] theorem ev_le (a b : Hd) (ρ : Ev) : gLe a b ρ = (gCmpI (fun i j => decide (i ≤ j)) a b ρ).or (gOrd (fun d e => !PySem.W.dataLt e d) a b ρ) := rfl
@[simp] theorem ev_gt (a b : Hd) (ρ : Ev) : gGt a b ρ = (gCmpI (fun i j => decide (j < i)) a b ρ).or (gOrd (fun d e => PySem.W.dataLt e d) a b ρ) := rfl
@[simp] theorem ev_ge (a b : Hd) (ρ : Ev) : gGe a b ρ = (gCmpI (fun i j => decide (j ≤ i)) a b ρ).or (gOrd (fun d e => !PySem.W.dataLt d e) a b ρ) := rfl
@[simp] theorem ev_ix (a b : Hd) (ρ : Ev) : gIx a b ρ = (rdSeq a ρ).bind fun xs => (intOf b).bind fun i => (atI xs i).map fun t => .dat t := rfl
@[simp] theorem ev_noPart (ρ : Ev) : fNoPart ρ = some (none, ρ) := rfl
@[simp] theorem ev_part (f : FE) (ρ : Ev) : fPart f ρ = (f ρ).bind fun p => (intOf p.1).map fun i => (some i, p.2) := rfl
@[simp] theorem ev_gSl_t (xs : List T) (lo hi : Option Int) (ρ : Ev) : gSl (.dat (.tuple xs)) lo hi ρ = some (.dat (.tuple (cutT xs lo hi))) := rfl
@[simp] theorem ev_gSl_l (xs : List T) (lo hi : Option Int) (ρ : Ev) : gSl (.tmp (.lst xs)) lo hi ρ = some (.tmp (.lst (cutT xs lo hi))) := rfl
@[simp] theorem ev_gSl_p (i : Nat) (lo hi : Option Int) (ρ : Ev) : gSl (.plc i) lo hi ρ = (rdL (.plc i) ρ).map fun xs => .tmp (.lst (cutT xs lo hi)) := rfl
@[simp] theorem ev_sl (fa : FE) (fl fh : FO) (ρ : Ev) : fSl fa fl fh ρ = (fa ρ).bind fun p => (fl p.2).bind fun q => (fh q.2).bind fun r => (gSl p.1 q.1 r.1 r.2).map fun h => (h, r.2) := rfl
@[simp] theorem ev_backT (fa : FE) (fl : FO) (ρ : Ev) : fBackT fa fl ρ = (fa ρ).bind fun p => (fl p.2).bind fun q => (tupOf p.1).map fun xs => (.dat (.tuple (xs.take (backN xs.length q.1)).reverse), q.2) := rfl
@[simp] theorem ev_backN (n : Nat) : backN n none = n := rfl
@[simp] theorem ev_revL (fa : FE) (ρ : Ev) : fRevL fa ρ = (fa ρ).bind fun p => (rdL p.1 p.2).map fun xs => (.tmp (.lst xs.reverse), p.2) := rfl
@[simp] theorem ev_CB (g : GA) (fa : FA) (ρ : Ev) : fCB g fa ρ = (fa ρ).bind fun p => (g p.1 p.2).map fun h => (h, p.2) := rfl
@[simp] theorem ev_len (h : Hd) (ρ : Ev) : gLen [h] ρ = (rdSeq h ρ).map fun xs => .dat (.int xs.length) := rfl
@[simp] theorem ev_int_i (i : Int) (ρ : Ev) : gInt [.dat (.int i)] ρ = some (.dat (.int i)) := rfl
@[simp] theorem ev_int_b (b : Bool) (ρ : Ev) : gInt [.dat (.bool b)] ρ = some (.dat (.int (if b then 1 else 0))) := rfl
@[simp] theorem ev_tuple (h : Hd) (ρ : Ev) : gTuple [h] ρ = (rdSeq h ρ).map fun xs => .dat (.tuple xs) := rfl
@[simp] theorem ev_list (h : Hd) (ρ : Ev) : gList [h] ρ = (rdSeq h ρ).map fun xs => .tmp (.lst xs) := rfl
@[simp] theorem ev_max (hs : List Hd) (ρ : Ev) : gMax hs ρ = (gMax2 hs ρ).or (gMax1 hs ρ) := rfl
@[simp] theorem ev_min (hs : List Hd) (ρ : Ev) : gMin hs ρ = (gMin2 hs ρ).or (gMin1 hs ρ) := rfl
@[simp] theorem ev_max2 (i j : Int) (ρ : Ev) : gMax2 [.dat (.int i), .dat (.int j)] ρ = some (.dat (.int (max i j))) := rfl
@[simp] theorem ev_min2 (i j : Int) (ρ : Ev) : gMin2 [.dat (.int i), .dat (.int j)] ρ = some (.dat (.int (min i j))) := rfl
@[simp] theorem ev_isi (f : PyData → Bool) (fa : FE) (ρ : Ev) : fIsi f fa ρ = (fa ρ).bind fun p => (py p.1 p.2).map fun d => (.dat (.bool (f d)), p.2) := rfl
@[simp] theorem ev_putL_p (i : Nat) (xs : List T) (ρ : Ev) : putL (.plc i) xs ρ = ρ.set i (some (.obj (.lst xs))) := rfl
@[simp] theorem ev_putL_t (c : C) (xs : List T) (ρ : Ev) : putL (.tmp c) xs ρ = ρ := rfl
@[simp] theorem ev_mt (g : GM) (fa : FE) (fs : FA) (ρ : Ev) : fMt g fa fs ρ = (fa ρ).bind fun p => (lstOf p.1 p.2).bind fun _ => (fs p.2).bind fun q => (datsOf q.1).bind fun ts => (lstOf p.1 q.2).bind fun xs => (g xs ts).map fun r => (.dat r.1, putL p.1 r.2 q.2) := rfl
/-! calls -/
@[simp] theorem ev_args_nil (ρ : Ev) : argsOf [] ρ = some [] := rfl
@[simp] theorem ev_args_d (t : T) (hs : List Hd) (ρ : Ev) : argsOf (.dat t :: hs) ρ = (argsOf hs ρ).map (Sl.dat t :: ·) := rfl
@[simp] theorem ev_args_t (c : C) (hs : List Hd) (ρ : Ev) : argsOf (.tmp c :: hs) ρ = (argsOf hs ρ).map (Sl.obj c :: ·) := rfl
@[simp] theorem ev_args_p (i : Nat) (hs : List Hd) (ρ : Ev) : argsOf (.plc i :: hs) ρ = (match ρ[i]? with
    | some (some (.dat _)) => none
    | some (some s) => (argsOf hs ρ).map (s :: ·)
    | _ => none) := rfl
@[simp] theorem ev_plcs_nil (as : List Sl) : plcs [] as = [] := by cases as <;> rfl
@[simp] theorem ev_plcs_d (t : T) (hs : List Hd) (a : Sl) (as : List Sl) : plcs (.dat t :: hs) (a :: as) = plcs hs as := by cases a <;> rfl
@[simp] theorem ev_plcs_t (t : C) (hs : List Hd) (a : Sl) (as : List Sl) : plcs (.tmp t :: hs) (a :: as) = plcs hs as := by cases a <;> rfl
@[simp] theorem ev_plcs_po (i : Nat) (hs : List Hd) (c : C) (as : List Sl) : plcs (.plc i :: hs) (.obj c :: as) = i :: plcs hs as := rfl
@[simp] theorem ev_plcs_pr (i : Nat) (hs : List Hd) (c : List T) (as : List Sl) : plcs (.plc i :: hs) (.rol c :: as) = plcs hs as := rfl
@[simp] theorem ev_upds_nil (as : List Sl) (cs : List C) : upds [] as cs = [] := by cases as <;> cases cs <;> rfl
@[simp] theorem ev_upds_d (h : Hd) (hs : List Hd) (t : T) (as : List Sl) (cs : List C) : upds (h :: hs) (.dat t :: as) cs = upds hs as cs := by cases h <;> cases cs <;> rfl
@[simp] theorem ev_upds_r (h : Hd) (hs : List Hd) (t : List T) (as : List Sl) (cs : List C) : upds (h :: hs) (.rol t :: as) cs = upds hs as cs := by cases h <;> cases cs <;> rfl
@[simp] theorem ev_upds_t (c0 : C) (hs : List Hd) (t : C) (as : List Sl) (c : C) (cs : List C) : upds (.tmp c0 :: hs) (.obj t :: as) (c :: cs) = upds hs as cs := rfl
@[simp] theorem ev_upds_p (i : Nat) (hs : List Hd) (t : C) (as : List Sl) (c : C) (cs : List C) : upds (.plc i :: hs) (.obj t :: as) (c :: cs) = (i, c) :: upds hs as cs := rfl
@[simp] theorem ev_putMany_nil (ρ : Ev) : putMany ρ [] = ρ := rfl
@[simp] theorem ev_putMany_cons (ρ : Ev) (i : Nat) (c : C) (L : List (Nat × C)) : putMany ρ ((i, c) :: L) = putMany (ρ.set i (some (.obj c))) L := rfl
@[simp] theorem ev_resHd_d (t : T) : resHd (.dat t) = some (.dat t) := rfl
@[simp] theorem ev_resHd_o (t : C) : resHd (.obj t) = some (.tmp t) := rfl
@[simp] theorem ev_call (m : Den) (fs : FA) (ρ : Ev) : fCall m fs ρ = (fs ρ).bind fun p => (argsOf p.1 p.2).bind fun as => (guardP (plcs p.1 as).Nodup).bind fun _ => (m as).bind fun r => (resHd r.1).map fun h => (h, putMany p.2 (upds p.1 as r.2)) := rfl
/-! statements -/
@[simp] theorem ev_seq (f g : FS) (ρ : Ev) : fSeq f g ρ = (f ρ).bind fun o => match o with
    | .nx ρ' => g ρ'
    | o => some o := by
  unfold fSeq
  cases f ρ with
  | none => rfl
  | some o => cases o <;> rfl
@[simp] theorem ev_next (ρ : Ev) : fNext ρ = some (.nx ρ) := rfl
@[simp] theorem ev_break (ρ : Ev) : fBreak ρ = some (.bk ρ) := rfl
@[simp] theorem ev_cont (ρ : Ev) : fCont ρ = some (.ct ρ) := rfl
@[simp] theorem ev_expr (f : FE) (ρ : Ev) : fExpr f ρ = (f ρ).map fun p => .nx p.2 := rfl
@[simp] theorem ev_retOf_d (pl : List Nat) (t : T) (ρ : Ev) : retOf pl (.dat t) ρ = some (.dat t) := rfl
@[simp] theorem ev_retOf_t (pl : List Nat) (t : C) (ρ : Ev) : retOf pl (.tmp t) ρ = some (.obj t) := rfl
@[simp] theorem ev_retOf_p (pl : List Nat) (i : Nat) (ρ : Ev) : retOf pl (.plc i) ρ = if i ∈ pl then none else (match ρ[i]? with
    | some (some (.obj c)) => some (.obj c)
    | _ => none) := by
  unfold retOf
  rfl
@[simp] theorem ev_ret (pl : List Nat) (f : FE) (ρ : Ev) : fRet pl f ρ = (f ρ).bind fun p => (retOf pl p.1 p.2).map fun r => .rt r p.2 := rfl
@[simp] theorem ev_retN (ρ : Ev) : fRetN ρ = some (.rt (.dat .none) ρ) := rfl
@[simp] theorem ev_ifS (c : FB) (f g : FS) (ρ : Ev) : fIfS c f g ρ = (c ρ).bind fun p => if p.1 = true then f p.2 else g p.2 := rfl
@[simp] theorem ev_stH_d (i : Nat) (t : T) (ρ : Ev) : stH false i (.dat t) ρ = some (ρ.set i (some (.dat t))) := rfl
@[simp] theorem ev_stH_t (i : Nat) (t : C) (ρ : Ev) : stH false i (.tmp t) ρ = some (ρ.set i (some (.obj t))) := rfl
@[simp] theorem ev_stH_c (i : Nat) (h : Hd) (ρ : Ev) : stH true i h ρ = if isObj ρ i then none else stH false i h ρ := by
  unfold stH
  simp
@[simp] theorem ev_isObj (ρ : Ev) (i : Nat) : isObj ρ i = (match ρ[i]? with
  | some (some (.obj _)) => true
  | _ => false) := rfl
@[simp] theorem ev_set (chk : Bool) (i : Nat) (f : FE) (ρ : Ev) : fSet chk i f ρ = (f ρ).bind fun p => if i < p.2.length then (stH chk i p.1 p.2).map Fl.nx else none := rfl
@[simp] theorem ev_tgN (chk : Bool) (i : Nat) (d : T) (ρ : Ev) : tgN chk i d ρ = if i < ρ.length then stH chk i (.dat d) ρ else none := rfl
@[simp] theorem ev_tgNil (ρ : Ev) : tgNil [] ρ = some ρ := rfl
@[simp] theorem ev_tgTup (gs : List T → Ev → Option Ev) (ds : List T) (ρ : Ev) : tgTup gs (.tuple ds) ρ = gs ds ρ := rfl
@[simp] theorem ev_tgCons (g : GT) (gs : List T → Ev → Option Ev) (d : T) (ds : List T) (ρ : Ev) : tgCons g gs (d :: ds) ρ = (g d ρ).bind fun ρ1 => gs ds ρ1 := rfl
/-! loops -/
@[simp] theorem ev_itOf_t (xs : List T) (ρ : Ev) : itOf (.dat (.tuple xs)) ρ = some (xs, none) := rfl
@[simp] theorem ev_itOf_l (xs : List T) (ρ : Ev) : itOf (.tmp (.lst xs)) ρ = some (xs, none) := rfl
@[simp] theorem ev_itE (f : FE) (ρ : Ev) : fItE f ρ = (f ρ).bind fun p => (itOf p.1 p.2).map fun q => (q.1, q.2, p.2) := rfl
@[simp] theorem ev_ck_none (ts : List T) (ρ : Ev) : ckOf ts none ρ = True := rfl
@[simp] theorem ev_ck_some (ts : List T) (i : Nat) (ρ : Ev) : ckOf ts (some i) ρ = (ρ[i]? = some (some (.obj (.lst ts)))) := rfl
@[simp] theorem ev_wipe_nil (ρ : Ev) : wipeE ρ [] = ρ := rfl
@[simp] theorem ev_wipe_cons (ρ : Ev) (v : Nat) (vs : List Nat) : wipeE ρ (v :: vs) = (wipeE ρ vs).set v none := rfl
@[simp] theorem ev_back_nil (ρ ρ' : Ev) : backE ρ ρ' [] = ρ' := rfl
@[simp] theorem ev_back_cons (ρ ρ' : Ev) (v : Nat) (vs : List Nat) : backE ρ ρ' (v :: vs) = (backE ρ ρ' vs).set v ((ρ[v]?).getD none) := rfl
@[simp] theorem ev_yes (ρ : Ev) : fYes ρ = some (true, ρ) := rfl
@[simp] theorem ev_outs_nil (ρ : Ev) : outs [] ρ = some [] := by cases ρ <;> rfl
@[simp] theorem ev_outs_d (t : T) (as : List Sl) (o : Option Sl) (ρ : Ev) : outs (.dat t :: as) (o :: ρ) = outs as ρ := by cases o <;> rfl
@[simp] theorem ev_outs_r (t : List T) (as : List Sl) (o : Option Sl) (ρ : Ev) : outs (.rol t :: as) (o :: ρ) = outs as ρ := by cases o <;> rfl
@[simp] theorem ev_outs_o (t c : C) (as : List Sl) (ρ : Ev) : outs (.obj t :: as) (some (.obj c) :: ρ) = (outs as ρ).map (c :: ·) := rfl
@[simp] theorem ev_run (nn n : Nat) (g : FS) (as : List Sl) (h : as.length = n) : runD nn n g as = (g (as.map some ++ List.replicate (nn - n) none)).bind fun o => match o with
    | .rt r ρ' => (outs as ρ').map fun cs => (r, cs)
    | .nx ρ' => (outs as ρ').map fun cs => (.dat .none, cs)
    | _ => none := by
  unfold runD
  rw [if_pos h]
  all_goals
    cases g (List.map some as ++ List.replicate (nn - n) none) with
    | none => rfl
    | some o => cases o <;> rfl
end
theorem ev_run0 (nn : Nat) (g : FS) : runD nn 0 g [] = (g ([] ++ List.replicate (nn - 0) none)).bind fun o => match o with
    | .rt r ρ' => (outs [] ρ').map fun cs => (r, cs)
    | .nx ρ' => (outs [] ρ').map fun cs => (.dat .none, cs)
    | _ => none := ev_run nn 0 g [] rfl
theorem ev_run1 (nn : Nat) (g : FS) (a : Sl) : runD nn 1 g [a] = (g ([some a] ++ List.replicate (nn - 1) none)).bind fun o => match o with
    | .rt r ρ' => (outs [a] ρ').map fun cs => (r, cs)
    | .nx ρ' => (outs [a] ρ').map fun cs => (.dat .none, cs)
    | _ => none := ev_run nn 1 g [a] rfl
theorem ev_run2 (nn : Nat) (g : FS) (a b : Sl) : runD nn 2 g [a, b] = (g ([some a, some b] ++ List.replicate (nn - 2) none)).bind fun o => match o with
    | .rt r ρ' => (outs [a, b] ρ').map fun cs => (r, cs)
    | .nx ρ' => (outs [a, b] ρ').map fun cs => (.dat .none, cs)
    | _ => none := ev_run nn 2 g [a, b] rfl
theorem ev_run3 (nn : Nat) (g : FS) (a b c : Sl) : runD nn 3 g [a, b, c] = (g ([some a, some b, some c] ++ List.replicate (nn - 3) none)).bind fun o => match o with
    | .rt r ρ' => (outs [a, b, c] ρ').map fun cs => (r, cs)
    | .nx ρ' => (outs [a, b, c] ρ').map fun cs => (.dat .none, cs)
    | _ => none := ev_run nn 3 g [a, b, c] rfl
theorem ev_run4 (nn : Nat) (g : FS) (a b c d : Sl) : runD nn 4 g [a, b, c, d] = (g ([some a, some b, some c, some d] ++ List.replicate (nn - 4) none)).bind fun o => match o with
    | .rt r ρ' => (outs [a, b, c, d] ρ').map fun cs => (r, cs)
    | .nx ρ' => (outs [a, b, c, d] ρ').map fun cs => (.dat .none, cs)
    | _ => none := ev_run nn 4 g [a, b, c, d] rfl
theorem ev_run5 (nn : Nat) (g : FS) (a b c d e : Sl) : runD nn 5 g [a, b, c, d, e] = (g ([some a, some b, some c, some d, some e] ++ List.replicate (nn - 5) none)).bind fun o => match o with
    | .rt r ρ' => (outs [a, b, c, d, e] ρ').map fun cs => (r, cs)
    | .nx ρ' => (outs [a, b, c, d, e] ρ').map fun cs => (.dat .none, cs)
    | _ => none := ev_run nn 5 g [a, b, c, d, e] rfl
theorem ev_run6 (nn : Nat) (g : FS) (a b c d e f : Sl) : runD nn 6 g [a, b, c, d, e, f] = (g ([some a, some b, some c, some d, some e, some f] ++ List.replicate (nn - 6) none)).bind fun o => match o with
    | .rt r ρ' => (outs [a, b, c, d, e, f] ρ').map fun cs => (r, cs)
    | .nx ρ' => (outs [a, b, c, d, e, f] ρ').map fun cs => (.dat .none, cs)
    | _ => none := ev_run nn 6 g [a, b, c, d, e, f] rfl
/-! ### while -/
theorem wh_t {c : FB} {b : FS} {ρ ρ1 ρ2 : Ev} (hc : c ρ = some (true, ρ1)) (hb : b ρ1 = some (.nx ρ2)) : fWh c b ρ = fWh c b ρ2 := by
  rw [fWh_eq, hc]
  simp only [Option.bind_some, if_true, hb]
theorem wh_f {c : FB} {b : FS} {ρ ρ1 : Ev} (hc : c ρ = some (false, ρ1)) : fWh c b ρ = some (.nx ρ1) := by
  rw [fWh_eq, hc]
  simp
/-! ### for -/
@[simp] theorem ev_for (it : FI) (g : GT) (b : FS) (ρ : Ev) : fFor it g b ρ = (it ρ).bind fun p => fForL (ckOf p.1 p.2.1) g b p.1 p.2.2 := rfl
theorem for_i {β : Type} {ck : Ev → Prop} {g : GT} {b : FS} (S : Nat → β → Ev) (I : Nat → β → Prop) (Q : Fl → Prop) (ts : List T)
    (h : ∀ (i : Nat) (x : T) (o : β), ts[i]? = some x → I i o → ck (S i o) ∧ ∃ ρ1 fl, g x (S i o) = some ρ1 ∧ b ρ1 = some fl ∧
      ((∃ o', (fl = .nx (S (i + 1) o') ∨ fl = .ct (S (i + 1) o')) ∧ I (i + 1) o') ∨ (∃ ρ', fl = .bk ρ' ∧ Q (.nx ρ')) ∨ ∃ r ρ', fl = .rt r ρ' ∧ Q (.rt r ρ')))
    (hk : ∀ o, I ts.length o → ck (S ts.length o) ∧ Q (.nx (S ts.length o))) (o : β) (h0 : I 0 o) : ∃ fl, fForL ck g b ts (S 0 o) = some fl ∧ Q fl := by
  suffices ∀ (us : List T) (i : Nat) (o : β), i ≤ ts.length → ts.drop i = us → I i o → ∃ fl, fForL ck g b us (S i o) = some fl ∧ Q fl from this ts 0 o (Nat.zero_le _) rfl h0
  intro us
  induction us with
  | nil =>
    intro i o hle e hi
    have h1 : ts.length ≤ i := by simpa using e
    have : i = ts.length := by omega
    subst this
    exact ⟨_, by rw [fForL, guardP_pos (hk o hi).1]; rfl, (hk o hi).2⟩
  | cons x us ih =>
    intro i o hle e hi
    have hx : ts[i]? = some x := by
      have := congrArg List.head? e
      simpa [List.head?_drop] using this
    have hlt : i < ts.length := (List.getElem?_eq_some_iff.mp hx).1
    have hd : ts.drop (i + 1) = us := by
      have := congrArg List.tail e
      simpa [List.tail_drop] using this
    obtain ⟨ck1, ρ1, fl, e1, e2, e3⟩ := h i x o hx hi
    rw [fForL, guardP_pos ck1]
    simp only [Option.bind_some, e1, e2]
    rcases e3 with ⟨o', rfl | rfl, hi'⟩ | ⟨ρ', rfl, q⟩ | ⟨r, ρ', rfl, q⟩
    · exact ih (i + 1) o' hlt hd hi'
    · exact ih (i + 1) o' hlt hd hi'
    · exact ⟨_, rfl, q⟩
    · exact ⟨_, rfl, q⟩
theorem for_l {β : Type} {ck : Ev → Prop} {g : GT} {b : FS} (S : Nat → β → Ev) (I : Nat → β → Prop) (ts : List T)
    (h : ∀ (i : Nat) (x : T) (o : β), ts[i]? = some x → I i o → ck (S i o) ∧ ∃ ρ1 o', g x (S i o) = some ρ1 ∧ (b ρ1 = some (.nx (S (i + 1) o')) ∨ b ρ1 = some (.ct (S (i + 1) o'))) ∧ I (i + 1) o')
    (hk : ∀ o, I ts.length o → ck (S ts.length o)) (o : β) (h0 : I 0 o) : ∃ o', fForL ck g b ts (S 0 o) = some (.nx (S ts.length o')) ∧ I ts.length o' := by
  obtain ⟨fl, e, o', rfl, q⟩ := for_i S I (fun fl => ∃ o', fl = .nx (S ts.length o') ∧ I ts.length o') ts (ck := ck) (g := g) (b := b) (fun i x o hx hi => by
    obtain ⟨c, ρ1, o', e1, e2, e3⟩ := h i x o hx hi
    rcases e2 with e2 | e2
    · exact ⟨c, ρ1, _, e1, e2, .inl ⟨o', .inl rfl, e3⟩⟩
    · exact ⟨c, ρ1, _, e1, e2, .inl ⟨o', .inr rfl, e3⟩⟩) (fun o hi => ⟨hk o hi, o, rfl, hi⟩) o h0
  exact ⟨o', e, q⟩
/-- a range loop -/
theorem for_r {β : Type} {g : GT} {b : FS} (S : Nat → β → Ev) (I : Nat → β → Prop) (n : Nat) (lo : Int)
    (h : ∀ (i : Nat) (o : β), i < n → I i o → ∃ ρ1 o', g (.int (lo + (i : Nat))) (S i o) = some ρ1 ∧ (b ρ1 = some (.nx (S (i + 1) o')) ∨ b ρ1 = some (.ct (S (i + 1) o'))) ∧ I (i + 1) o')
    (o : β) (h0 : I 0 o) : ∃ o', fForL (fun _ => True) g b ((List.range n).map fun i => PyData.int (lo + (i : Nat))) (S 0 o) = some (.nx (S n o')) ∧ I n o' := by
  have := for_l (ck := fun _ => True) (g := g) (b := b) S I ((List.range n).map fun i => PyData.int (lo + (i : Nat))) (fun i x o hx hi => by
    have hlt := (List.getElem?_eq_some_iff.mp hx).1
    rw [List.length_map, List.length_range] at hlt
    rw [List.getElem?_map, List.getElem?_range hlt] at hx
    cases hx
    exact ⟨trivial, h i o hlt hi⟩) (fun _ _ => trivial) o h0
  rwa [List.length_map, List.length_range] at this
/-! ### comprehensions -/
@[simp] theorem ev_lc (it : FI) (g : GT) (tt : FB) (te : FE) (vs : List Nat) (ρ : Ev) : fLc it g tt te vs ρ = (it ρ).bind fun p => (guardP (p.1.length ≤ sizeLine)).bind fun _ => (fLcL (ckOf p.1 p.2.1) g tt te vs p.1 (wipeE p.2.2 vs)).map fun r => (.tmp (.lst r.1), backE p.2.2 r.2 vs) := rfl
theorem lc_pure {ck : Ev → Prop} {g : GT} {tt : FB} {te : FE} {vs : List Nat} {ρ : Ev} (f : T → Option T) (hck : ck ρ) : ∀ (ts : List T)
    (_ : ∀ x ∈ ts, ∃ ρ1 b ρ2, g x ρ = some ρ1 ∧ tt ρ1 = some (b, ρ2) ∧ ((b = true ∧ ∃ t ρ3, te ρ2 = some (.dat t, ρ3) ∧ wipeE ρ3 vs = ρ ∧ f x = some t) ∨ (b = false ∧ wipeE ρ2 vs = ρ ∧ f x = none))),
    fLcL ck g tt te vs ts ρ = some (ts.filterMap f, ρ)
  | [], _ => by rw [fLcL, guardP_pos hck]; rfl
  | x :: ts, h => by
    have ih := lc_pure f hck ts fun y hy => h y (List.mem_cons_of_mem _ hy)
    obtain ⟨ρ1, b, ρ2, e1, e2, e3⟩ := h x List.mem_cons_self
    rw [fLcL, guardP_pos hck]
    simp only [Option.bind_some, e1, e2]
    rcases e3 with ⟨rfl, t, ρ3, e4, e5, e6⟩ | ⟨rfl, e5, e6⟩
    · simp only [if_true, e4, Option.bind_some, e5, ih, Option.map_some, List.filterMap_cons, e6]
    · simp only [Bool.false_eq_true, if_false, e5, ih, List.filterMap_cons, e6]
theorem lc_map {ck : Ev → Prop} {g : GT} {te : FE} {vs : List Nat} {ρ : Ev} (f : T → T) (hck : ck ρ) (ts : List T)
    (h : ∀ x ∈ ts, ∃ ρ1 ρ3, g x ρ = some ρ1 ∧ te ρ1 = some (.dat (f x), ρ3) ∧ wipeE ρ3 vs = ρ) :
    fLcL ck g fYes te vs ts ρ = some (ts.map f, ρ) := by
  rw [lc_pure (fun x => some (f x)) hck ts fun x hx => by
    obtain ⟨ρ1, ρ3, e1, e2, e3⟩ := h x hx
    exact ⟨ρ1, true, ρ1, e1, rfl, .inl ⟨rfl, _, ρ3, e2, e3, rfl⟩⟩]
  rw [List.filterMap_eq_map']
theorem lc_i {β : Type} {ck : Ev → Prop} {g : GT} {tt : FB} {te : FE} {vs : List Nat} (S : Nat → β → Ev) (I : Nat → List T → β → Prop) (ts : List T)
    (h : ∀ (i : Nat) (x : T) (acc : List T) (o : β), ts[i]? = some x → I i acc o → ck (S i o) ∧ ∃ ρ1 b ρ2, g x (S i o) = some ρ1 ∧ tt ρ1 = some (b, ρ2) ∧
      ((b = true ∧ ∃ t ρ3 o', te ρ2 = some (.dat t, ρ3) ∧ wipeE ρ3 vs = S (i + 1) o' ∧ I (i + 1) (acc ++ [t]) o') ∨ (b = false ∧ ∃ o', wipeE ρ2 vs = S (i + 1) o' ∧ I (i + 1) acc o')))
    (hk : ∀ acc o, I ts.length acc o → ck (S ts.length o)) (o : β) (h0 : I 0 [] o) : ∃ out o', fLcL ck g tt te vs ts (S 0 o) = some (out, S ts.length o') ∧ I ts.length out o' := by
  suffices ∀ (us : List T) (i : Nat) (acc : List T) (o : β), i ≤ ts.length → ts.drop i = us → I i acc o → ∃ out o', fLcL ck g tt te vs us (S i o) = some (out, S ts.length o') ∧ I ts.length (acc ++ out) o' by
    obtain ⟨out, o', e, q⟩ := this ts 0 [] o (Nat.zero_le _) rfl h0
    exact ⟨out, o', e, q⟩
  intro us
  induction us with
  | nil =>
    intro i acc o hle e hi
    have h1 : ts.length ≤ i := by simpa using e
    have : i = ts.length := by omega
    subst this
    exact ⟨[], o, by rw [fLcL, guardP_pos (hk _ o hi)]; rfl, by simpa using hi⟩
  | cons x us ih =>
    intro i acc o hle e hi
    have hx : ts[i]? = some x := by
      have := congrArg List.head? e
      simpa [List.head?_drop] using this
    have hlt : i < ts.length := (List.getElem?_eq_some_iff.mp hx).1
    have hd : ts.drop (i + 1) = us := by
      have := congrArg List.tail e
      simpa [List.tail_drop] using this
    obtain ⟨ck1, ρ1, b, ρ2, e1, e2, e3⟩ := h i x acc o hx hi
    rw [fLcL, guardP_pos ck1]
    simp only [Option.bind_some, e1, e2]
    rcases e3 with ⟨rfl, t, ρ3, o', e4, e5, e6⟩ | ⟨rfl, o', e5, e6⟩
    · obtain ⟨out, o2, q, q'⟩ := ih (i + 1) (acc ++ [t]) o' hlt hd e6
      exact ⟨t :: out, o2, by simp only [if_true, e4, Option.bind_some, e5, q, Option.map_some], by simpa using q'⟩
    · obtain ⟨out, o2, q, q'⟩ := ih (i + 1) acc o' hlt hd e6
      exact ⟨out, o2, by simp only [Bool.false_eq_true, if_false, e5, q], q'⟩
end PD

namespace PD
open PySem PySem.Spec PyProof.Rows L2
@[simp] theorem eqv_ii (i j : Int) : PyData.eqv (.int i) (.int j) = (i == j) := by simp [PyData.eqv]
@[simp] theorem eqv_bb (i j : Bool) : PyData.eqv (.bool i) (.bool j) = (i == j) := by simp [PyData.eqv]
@[simp] theorem eqv_ss (i j : Str) : PyData.eqv (.str i) (.str j) = (i == j) := by simp [PyData.eqv]
@[simp] theorem eqv_tt (i j : List T) : PyData.eqv (.tuple i) (.tuple j) = PyData.eqvAll i j := by simp [PyData.eqv]
@[simp] theorem eqv_ll (i j : List T) : PyData.eqv (.list i) (.list j) = PyData.eqvAll i j := by simp [PyData.eqv]
@[simp] theorem depth_i (i : Int) : PyData.depth (.int i) = 0 := by simp [PyData.depth]
@[simp] theorem depth_b (i : Bool) : PyData.depth (.bool i) = 0 := by simp [PyData.depth]
@[simp] theorem depth_s (i : Str) : PyData.depth (.str i) = 0 := by simp [PyData.depth]
@[simp] theorem depth_n : PyData.depth .none = 0 := by simp [PyData.depth]
@[simp] theorem depth_t (xs : List T) : PyData.depth (.tuple xs) = PyData.depthAll xs + 1 := by simp [PyData.depth]
@[simp] theorem depth_l (xs : List T) : PyData.depth (.list xs) = PyData.depthAll xs + 1 := by simp [PyData.depth]
theorem depthAll_le {xs : List T} {k : Nat} (h : ∀ x ∈ xs, x.depth ≤ k) : PyData.depthAll xs ≤ k := by
  induction xs with
  | nil => simp [PyData.depthAll]
  | cons x xs ih =>
    rw [PyData.depthAll]
    exact Nat.max_le.mpr ⟨h x List.mem_cons_self, ih fun y hy => h y (List.mem_cons_of_mem _ hy)⟩
theorem le_depthAll {xs : List T} {x : T} (h : x ∈ xs) : x.depth ≤ PyData.depthAll xs := by
  induction xs with
  | nil => cases h
  | cons y ys ih =>
    rw [PyData.depthAll]
    rcases List.mem_cons.mp h with rfl | h
    · exact Nat.le_max_left _ _
    · exact Nat.le_trans (ih h) (Nat.le_max_right _ _)
@[simp] theorem depthAll_int (ns : List Int) : PyData.depthAll (ns.map .int) = 0 := Nat.le_zero.mp (depthAll_le fun x hx => by
  obtain ⟨n, _, rfl⟩ := List.mem_map.mp hx
  simp)
mutual
theorem eqv_refl : ∀ t : T, t.plain = true → PyData.eqv t t = true
  | .none, _ => by simp [PyData.eqv]
  | .bool _, _ => by simp [PyData.eqv]
  | .int _, _ => by simp [PyData.eqv]
  | .str _, _ => by simp [PyData.eqv]
  | .list xs, h => by rw [eqv_ll]; exact eqvAll_refl xs (by simpa [PyData.plain] using h)
  | .tuple xs, h => by rw [eqv_tt]; exact eqvAll_refl xs (by simpa [PyData.plain] using h)
  | .dict _, h => by simp [PyData.plain] at h
theorem eqvAll_refl : ∀ ts : List T, PyData.plainAll ts = true → PyData.eqvAll ts ts = true
  | [], _ => by simp [PyData.eqvAll]
  | t :: ts, h => by
    rw [PyData.plainAll, Bool.and_eq_true] at h
    rw [PyData.eqvAll, Bool.and_eq_true]
    exact ⟨eqv_refl t h.1, eqvAll_refl ts h.2⟩
end
theorem eqvAll_ints : ∀ (as bs : List Int), PyData.eqvAll (as.map .int) (bs.map .int) = (as == bs)
  | [], [] => by simp [PyData.eqvAll]
  | [], _ :: _ => by simp [PyData.eqvAll]
  | _ :: _, [] => by simp [PyData.eqvAll]
  | a :: as, b :: bs => by simp [PyData.eqvAll, eqvAll_ints as bs]
@[simp] theorem eqvAll_nil : PyData.eqvAll [] [] = true := by simp [PyData.eqvAll]
@[simp] theorem eqvAll_nc (x : T) (xs : List T) : PyData.eqvAll [] (x :: xs) = false := by simp [PyData.eqvAll]
@[simp] theorem eqvAll_cn (x : T) (xs : List T) : PyData.eqvAll (x :: xs) [] = false := by simp [PyData.eqvAll]
@[simp] theorem eqvAll_cc (x y : T) (xs ys : List T) : PyData.eqvAll (x :: xs) (y :: ys) = (PyData.eqv x y && PyData.eqvAll xs ys) := by simp [PyData.eqvAll]
@[simp] theorem isBool_b (b : Bool) : PyData.isBool (.bool b) = true := rfl
@[simp] theorem isBool_i (i : Int) : PyData.isBool (.int i) = false := rfl
@[simp] theorem isBool_s (i : Str) : PyData.isBool (.str i) = false := rfl
@[simp] theorem isBool_n : PyData.isBool .none = false := rfl
@[simp] theorem isBool_t (i : List T) : PyData.isBool (.tuple i) = false := rfl
@[simp] theorem isInt_i (i : Int) : PyData.isInt (.int i) = true := rfl
@[simp] theorem isInt_s (i : Str) : PyData.isInt (.str i) = false := rfl
@[simp] theorem isInt_n : PyData.isInt .none = false := rfl
@[simp] theorem isInt_t (i : List T) : PyData.isInt (.tuple i) = false := rfl
@[simp] theorem isStr_s (i : Str) : PyData.isStr (.str i) = true := rfl
@[simp] theorem isStr_n : PyData.isStr .none = false := rfl
@[simp] theorem isStr_t (i : List T) : PyData.isStr (.tuple i) = false := rfl
@[simp] theorem isTuple_t (i : List T) : PyData.isTuple (.tuple i) = true := rfl
@[simp] theorem isTuple_i (i : Int) : PyData.isTuple (.int i) = false := rfl
@[simp] theorem isTuple_b (i : Bool) : PyData.isTuple (.bool i) = false := rfl
@[simp] theorem isTuple_n : PyData.isTuple .none = false := rfl
@[simp] theorem isTuple_s (i : Str) : PyData.isTuple (.str i) = false := rfl
theorem ixN_nat {n k : Nat} (h : k < n) : ixN n (k : Int) = some k := by
  unfold ixN
  rw [if_pos (by omega), if_pos (by omega)]
  simp
theorem atI_nat {xs : List T} {k : Nat} {t : T} (h : xs[k]? = some t) : atI xs (k : Int) = some t := by
  unfold atI
  rw [ixN_nat (List.getElem?_eq_some_iff.mp h).1]
  exact h
theorem atI_int {xs : List T} {i : Int} {t : T} (h0 : 0 ≤ i) (h : xs[i.toNat]? = some t) : atI xs i = some t := by
  have := atI_nat h
  rwa [Int.toNat_of_nonneg h0] at this
theorem gAppend_ok {xs : List T} {t : T} (h : xs.length < 1000000) : gAppend xs [t] = some (.none, xs ++ [t]) := by
  show (if xs.length < sizeLine then some (PyData.none, xs ++ [t]) else none) = _
  rw [if_pos (by rw [sizeLine_eq]; omega)]
theorem gPop_ok {xs : List T} {t : T} : gPop (xs ++ [t]) [] = some (t, xs) := by
  simp [gPop]
@[simp] theorem gReverse_ok {xs : List T} : gReverse xs [] = some (.none, xs.reverse) := rfl
@[simp] theorem ev_setIx (fe fo fi : FE) (ρ : Ev) : fSetIx fe fo fi ρ = (fe ρ).bind fun p => (fo p.2).bind fun q => (fi q.2).bind fun r => match p.1 with
  | .dat t => (lstOf q.1 r.2).bind fun xs => (intOf r.1).bind fun k => (ixN xs.length k).map fun j => .nx (putL q.1 (xs.set j t) r.2)
  | _ => none := by
  unfold fSetIx
  rcases fe ρ with _ | ⟨h, ρ1⟩
  · rfl
  · cases h with
    | dat t => rfl
    | tmp c =>
      simp only [Option.bind_some]
    | plc c => simp only [Option.bind_some]
@[simp] theorem ev_itR1 (f : FE) (ρ : Ev) : fItR1 f ρ = (f ρ).bind fun p => (intOf p.1).bind fun n => (guardP (-(2 ^ 62) ≤ n ∧ n < 2 ^ 62)).map fun _ => ((List.range n.toNat).map fun i => PyData.int (0 + (i : Nat)), none, p.2) := rfl
@[simp] theorem ev_itR2 (f g : FE) (ρ : Ev) : fItR2 f g ρ = (f ρ).bind fun p => (intOf p.1).bind fun i => (g p.2).bind fun q => (intOf q.1).bind fun j => (guardP (-(2 ^ 62) ≤ i ∧ i < 2 ^ 62 ∧ -(2 ^ 62) ≤ j ∧ j < 2 ^ 62)).map fun _ => ((List.range (j - i).toNat).map fun k => PyData.int (i + (k : Nat)), none, q.2) := rfl
theorem g_rg1 {n : Int} (h0 : -1000000 ≤ n) (h : n ≤ 1000000) : guardP (-(2 ^ 62) ≤ n ∧ n < 2 ^ 62) = some () := guardP_pos (by omega)
theorem g_rg2 {n m : Int} (h0 : -1000000 ≤ n) (h : n ≤ 1000000) (h1 : -1000000 ≤ m) (h2 : m ≤ 1000000) : guardP (-(2 ^ 62) ≤ n ∧ n < 2 ^ 62 ∧ -(2 ^ 62) ≤ m ∧ m < 2 ^ 62) = some () := guardP_pos (by omega)
theorem g_mod {i j : Int} (h : 0 < j) : guardP (ModOk i j) = some () := guardP_pos h
theorem g_div {i j : Int} (h : 0 < j) (h2 : j ≤ 1000000000000) : guardP (DivOk i j) = some () := guardP_pos ⟨h, by
  have h3 : j.natAbs < 2 ^ 64 := by omega
  have := (Nat.log2_lt (by omega)).mpr h3
  omega⟩
theorem g_mulL {i j : Int} (h : -1000000000000 ≤ i) (h2 : i ≤ 1000000000000) : guardP (MulOk i j) = some () := guardP_pos (.inl (.inl (by omega)))
theorem g_mulR {i j : Int} (h : -1000000000000 ≤ j) (h2 : j ≤ 1000000000000) : guardP (MulOk i j) = some () := guardP_pos (.inl (.inr (by omega)))
theorem g_pow {i j : Int} (h : 0 ≤ j) (h2 : j ≤ 1000000) (h3 : -1000000000000 ≤ i) (h4 : i ≤ 1000000000000) : guardP (CPow i j) = some () := guardP_pos ⟨h, h2, by omega⟩
/-! ### the three helpers that all laws share -/
noncomputable def q_take : FS := (fSeq (fIfS (fTst (fBin gEq (fCB gLen (fCons (fVar 0) fNil)) (fC (.int 0)))) (fRet [0, 1] (fC (.int 0))) fNext)
    (fRet [0, 1] (fBin gMod (fCB gInt (fCons (fMt gPop (fVar 0) fNil) fNil)) (fVar 1))))
theorem take_ok (ds : List Int) (many : Int) (h : 0 < many) : ∃ (v : Int) (ds' : List Int), runD 2 2 q_take [.obj (.lst (ds.map .int)), .dat (.int many)] = some (.dat (.int v), [.lst (ds'.map .int)]) ∧ 0 ≤ v ∧ v < many := by
  rcases List.eq_nil_or_concat ds with rfl | ⟨ds', d, rfl⟩
  · exact ⟨0, [], by simp [q_take], Int.le_refl _, h⟩
  · refine ⟨d % many, ds', ?_, Int.emod_nonneg _ (by omega), Int.emod_lt_of_pos _ h⟩
    have e : ((ds'.concat d).map PyData.int) = ds'.map .int ++ [.int d] := by simp
    have hne : ¬ ((ds'.length : Int) + 1 = 0) := by omega
    rw [e]
    simp [q_take, gPop_ok, g_mod h, hne]
noncomputable def q_draws : FS := (fSeq (fSet false 2 (fLc (fItE (fVar 0)) (tgN false 8) fYes (fCB gInt (fCons (fVar 8) fNil)) [8]))
    (fSeq (fIfS (fTst (fBin gEq (fCB gLen (fCons (fVar 2) fNil)) (fC (.int 0)))) (fExpr (fMt gAppend (fVar 2) (fCons (fC (.int 0)) fNil))) fNext)
    (fSeq (fSet false 3 (fCB gList (fCons (fVar 2) fNil)))
    (fSeq (fSet false 4 (fLstN fNil))
    (fSeq (fFor (fItR1 (fVar 1)) (tgN false 5) (fSeq (fSet false 6 (fBin gMod (fVar 5) (fCB gLen (fCons (fVar 2) fNil))))
    (fIfS (fAnd (fTst (fBin gGe (fBin gIx (fVar 2) (fVar 6)) (fBin gPow (fC (.int 10)) (fC (.int 18))))) (fTst (fBin gGt (fBin gIx (fVar 3) (fVar 6)) (fC (.int 0))))) (fSeq (fExpr (fMt gAppend (fVar 4) (fCons (fBin gMod (fCB gInt (fCons (fBin gIx (fVar 3) (fVar 6)) fNil)) (fC (.int 1000))) fNil)))
    (fSetIx (fBin gDiv (fBin gIx (fVar 3) (fVar 6)) (fC (.int 1000))) (fVar 3) (fVar 6))) (fSeq (fSet false 7 (fBin gMod (fCB gInt (fCons (fBin gAdd (fBin gAdd (fBin gMul (fBin gIx (fVar 2) (fVar 6)) (fC (.int 48271))) (fBin gMul (fVar 5) (fC (.int 69621)))) (fC (.int 11))) fNil)) (fC (.int 2147483647))))
    (fExpr (fMt gAppend (fVar 4) (fCons (fBin gMod (fCB gInt (fCons (fBin gAdd (fBin gAdd (fBin gMul (fVar 7) (fVar 7)) (fBin gMul (fC (.int 3)) (fVar 7))) (fVar 5)) fNil)) (fC (.int 1000003))) fNil)))))))
    (fSeq (fExpr (fMt gReverse (fVar 4) fNil))
    (fRet [0, 1] (fVar 4))))))))
theorem getElem?_ints {ns : List Int} {k : Nat} (h : k < ns.length) : ∃ i : Int, (ns.map PyData.int)[k]? = some (.int i) := by
  rw [List.getElem?_map, List.getElem?_eq_getElem h]
  exact ⟨_, rfl⟩
theorem draw_old {cs rest ds : List Int} {s0 s1 o3 o8 : Option Sl} {k : Nat} {i r : Int} (e : (rest.map PyData.int)[k]? = some (.int r)) (hd : ds.length < 1000000) {A : Int} (h0 : 0 < A) (hA : A ≤ 1000000000000) :
    (fSeq (fExpr (fMt gAppend (fVar 4) (fCons (fBin gMod (fCB gInt (fCons (fBin gIx (fVar 3) (fVar 6)) fNil)) (fC (.int A))) fNil)))
    (fSetIx (fBin gDiv (fBin gIx (fVar 3) (fVar 6)) (fC (.int A))) (fVar 3) (fVar 6))) [s0, s1, some (.obj (.lst (cs.map .int))), some (.obj (.lst (rest.map .int))), some (.obj (.lst (ds.map .int))), some (.dat (.int i)), some (.dat (.int (k : Nat))), o3, o8]
    = some (.nx [s0, s1, some (.obj (.lst (cs.map .int))), some (.obj (.lst ((rest.set k (r / A)).map .int))), some (.obj (.lst ((ds ++ [r % A]).map .int))), some (.dat (.int i)), some (.dat (.int (k : Nat))), o3, o8]) := by
  have hk := (List.getElem?_eq_some_iff.mp e).1
  rw [List.length_map] at hk
  simp [g_mod h0, g_div h0 hA, atI_nat e, gAppend_ok, hd, ixN_nat hk]
theorem draw_once {cs rest ds : List Int} {s0 s1 o3 o8 : Option Sl} {k : Nat} {i c : Int} (e : (cs.map PyData.int)[k]? = some (.int c)) {A B D M : Int} (hA : guardP (MulOk c A) = some ()) (hB : guardP (MulOk i B) = some ()) (hM : 0 < M) :
    (fSet false 7 (fBin gMod (fCB gInt (fCons (fBin gAdd (fBin gAdd (fBin gMul (fBin gIx (fVar 2) (fVar 6)) (fC (.int A))) (fBin gMul (fVar 5) (fC (.int B)))) (fC (.int D))) fNil)) (fC (.int M)))) [s0, s1, some (.obj (.lst (cs.map .int))), some (.obj (.lst (rest.map .int))), some (.obj (.lst (ds.map .int))), some (.dat (.int i)), some (.dat (.int (k : Nat))), o3, o8]
    = some (.nx [s0, s1, some (.obj (.lst (cs.map .int))), some (.obj (.lst (rest.map .int))), some (.obj (.lst (ds.map .int))), some (.dat (.int i)), some (.dat (.int (k : Nat))), some (.dat (.int ((c * A + i * B + D) % M))), o8]) := by
  simp [g_mod hM, hA, hB, atI_nat e]
theorem draw_new {cs rest ds : List Int} {s0 s1 o6 o8 : Option Sl} {x i : Int} (hd : ds.length < 1000000) {A M : Int} (hx : guardP (MulOk x x) = some ()) (hA : guardP (MulOk A x) = some ()) (hM : 0 < M) :
    (fExpr (fMt gAppend (fVar 4) (fCons (fBin gMod (fCB gInt (fCons (fBin gAdd (fBin gAdd (fBin gMul (fVar 7) (fVar 7)) (fBin gMul (fC (.int A)) (fVar 7))) (fVar 5)) fNil)) (fC (.int M))) fNil))) [s0, s1, some (.obj (.lst (cs.map .int))), some (.obj (.lst (rest.map .int))), some (.obj (.lst (ds.map .int))), some (.dat (.int i)), o6, some (.dat (.int x)), o8]
    = some (.nx [s0, s1, some (.obj (.lst (cs.map .int))), some (.obj (.lst (rest.map .int))), some (.obj (.lst ((ds ++ [(x * x + A * x + i) % M]).map .int))), some (.dat (.int i)), o6, some (.dat (.int x)), o8]) := by
  simp [g_mod hM, hA, hx, gAppend_ok, hd]
noncomputable def q_turn : FS := (fSeq (fSet false 6 (fBin gMod (fVar 5) (fCB gLen (fCons (fVar 2) fNil))))
    (fIfS (fAnd (fTst (fBin gGe (fBin gIx (fVar 2) (fVar 6)) (fBin gPow (fC (.int 10)) (fC (.int 18))))) (fTst (fBin gGt (fBin gIx (fVar 3) (fVar 6)) (fC (.int 0))))) (fSeq (fExpr (fMt gAppend (fVar 4) (fCons (fBin gMod (fCB gInt (fCons (fBin gIx (fVar 3) (fVar 6)) fNil)) (fC (.int 1000))) fNil)))
    (fSetIx (fBin gDiv (fBin gIx (fVar 3) (fVar 6)) (fC (.int 1000))) (fVar 3) (fVar 6))) (fSeq (fSet false 7 (fBin gMod (fCB gInt (fCons (fBin gAdd (fBin gAdd (fBin gMul (fBin gIx (fVar 2) (fVar 6)) (fC (.int 48271))) (fBin gMul (fVar 5) (fC (.int 69621)))) (fC (.int 11))) fNil)) (fC (.int 2147483647))))
    (fExpr (fMt gAppend (fVar 4) (fCons (fBin gMod (fCB gInt (fCons (fBin gAdd (fBin gAdd (fBin gMul (fVar 7) (fVar 7)) (fBin gMul (fC (.int 3)) (fVar 7))) (fVar 5)) fNil)) (fC (.int 1000003))) fNil))))))
theorem turn_ok {cs rest ds : List Int} {s0 s1 o6 o7 o8 : Option Sl} {i : Nat} (hc0 : 0 < cs.length) (h1 : rest.length = cs.length) (hd : ds.length < 1000000) (hi : i ≤ 1000) :
    ∃ (rest' ds' : List Int) (o6' o7' : Option Sl), rest'.length = cs.length ∧ ds'.length = ds.length + 1 ∧ q_turn [s0, s1, some (.obj (.lst (cs.map .int))), some (.obj (.lst (rest.map .int))), some (.obj (.lst (ds.map .int))), some (.dat (.int (i : Nat))), o6, o7, o8]
      = some (.nx [s0, s1, some (.obj (.lst (cs.map .int))), some (.obj (.lst (rest'.map .int))), some (.obj (.lst (ds'.map .int))), some (.dat (.int (i : Nat))), o6', o7', o8]) := by
  have hk : i % cs.length < cs.length := Nat.mod_lt _ hc0
  obtain ⟨c, ec⟩ := getElem?_ints hk
  obtain ⟨r, er⟩ := getElem?_ints (ns := rest) (k := i % cs.length) (by omega)
  have ekm : ((i : Int) % (cs.length : Int)) = ((i % cs.length : Nat) : Int) := by simp
  have a1 := atI_nat ec
  have a2 := atI_nat er
  have hm1 := Int.emod_nonneg (c * 48271 + i * 69621 + 11) (b := 2147483647) (by omega)
  have hm2 := Int.emod_lt_of_pos (c * 48271 + i * 69621 + 11) (b := 2147483647) (by omega)
  have e1 : (fSet false 6 (fBin gMod (fVar 5) (fCB gLen (fCons (fVar 2) fNil)))) [s0, s1, some (.obj (.lst (cs.map .int))), some (.obj (.lst (rest.map .int))), some (.obj (.lst (ds.map .int))), some (.dat (.int (i : Nat))), o6, o7, o8]
    = some (.nx [s0, s1, some (.obj (.lst (cs.map .int))), some (.obj (.lst (rest.map .int))), some (.obj (.lst (ds.map .int))), some (.dat (.int (i : Nat))), some (.dat (.int (i % cs.length : Nat))), o7, o8]) := by
    simp [g_mod, hc0]
  have et : (fAnd (fTst (fBin gGe (fBin gIx (fVar 2) (fVar 6)) (fBin gPow (fC (.int 10)) (fC (.int 18))))) (fTst (fBin gGt (fBin gIx (fVar 3) (fVar 6)) (fC (.int 0))))) [s0, s1, some (.obj (.lst (cs.map .int))), some (.obj (.lst (rest.map .int))), some (.obj (.lst (ds.map .int))), some (.dat (.int (i : Nat))), some (.dat (.int (i % cs.length : Nat))), o7, o8]
    = some (decide ((1000000000000000000 : Int) ≤ c ∧ 0 < r), [s0, s1, some (.obj (.lst (cs.map .int))), some (.obj (.lst (rest.map .int))), some (.obj (.lst (ds.map .int))), some (.dat (.int (i : Nat))), some (.dat (.int (i % cs.length : Nat))), o7, o8]) := by
    by_cases hb1 : (1000000000000000000 : Int) ≤ c
    · simp [g_pow, a1, a2, hb1, -Int.natCast_emod]
    · simp [g_pow, a1, a2, hb1, -Int.natCast_emod]
  unfold q_turn
  rw [ev_seq, e1]
  simp only [Option.bind_some]
  rw [ev_ifS, et]
  simp only [Option.bind_some, decide_eq_true_eq]
  split
  · exact ⟨_, _, _, _, by rw [List.length_set]; exact h1, by simp, draw_old er hd (by decide) (by decide)⟩
  · rw [ev_seq, draw_once ec (g_mulR (by decide) (by decide)) (g_mulR (by decide) (by decide)) (by decide)]
    simp only [Option.bind_some]
    exact ⟨_, _, _, _, h1, by simp, draw_new hd (g_mulL (by omega) (by omega)) (g_mulL (by decide) (by decide)) (by decide)⟩
theorem draws_ok (ns : List Int) (many : Nat) (hl : ns.length ≤ 1000) (hm : many ≤ 1000) : ∃ ds : List Int, runD 9 2 q_draws [.rol (ns.map .int), .dat (.int many)] = some (.obj (.lst (ds.map .int)), []) := by
  obtain ⟨cs, hcs, hc0, hc1⟩ : ∃ cs : List Int, (if ns.length = 0 then [0] else ns) = cs ∧ 0 < cs.length ∧ cs.length ≤ 1000 := by
    by_cases h : ns.length = 0
    · exact ⟨_, if_pos h, by simp, by simp⟩
    · exact ⟨_, if_neg h, by omega, hl⟩
  have hloop := fun (o8 : Option Sl) => for_r (β := (List Int × List Int) × Option Sl × Option Sl × Option Sl) (g := tgN false 5) (b := q_turn)
    (fun i o => [some (.rol (ns.map .int)), some (.dat (.int many)), some (.obj (.lst (cs.map .int))), some (.obj (.lst (o.1.1.map .int))), some (.obj (.lst (o.1.2.map .int))), o.2.1, o.2.2.1, o.2.2.2, o8])
    (fun i o => o.1.1.length = cs.length ∧ o.1.2.length = i) many 0 (fun i o hi ⟨h1, h2⟩ => by
      obtain ⟨⟨rest, ds⟩, o1, o2, o3⟩ := o
      have h1 : rest.length = cs.length := h1
      have h2 : ds.length = i := h2
      obtain ⟨rest', ds', o6', o7', q1, q2, q3⟩ := turn_ok (s0 := some (.rol (ns.map .int))) (s1 := some (.dat (.int many))) (o6 := o2) (o7 := o3) (o8 := o8) (ds := ds) (i := i) hc0 h1 (by omega) (by omega)
      refine ⟨[some (.rol (ns.map .int)), some (.dat (.int many)), some (.obj (.lst (cs.map .int))), some (.obj (.lst (rest.map .int))), some (.obj (.lst (ds.map .int))), some (.dat (.int (i : Nat))), o2, o3, o8], ⟨⟨rest', ds'⟩, some (.dat (.int (i : Nat))), o6', o7'⟩, by simp, .inl q3, q1, by show ds'.length = i + 1; omega⟩) ⟨⟨cs, []⟩, none, none, none⟩ ⟨rfl, rfl⟩
  have hlc : ∀ ρ : Ev, ρ[8]? = some none → fLcL (fun _ => True) (tgN false 8) fYes (fCB gInt (fCons (fVar 8) fNil)) [8] (ns.map PyData.int) ρ = some ((ns.map PyData.int).map id, ρ) := fun ρ hρ => by
    have h8 : 8 < ρ.length := (List.getElem?_eq_some_iff.mp hρ).1
    refine lc_map id trivial _ fun x hx => ?_
    obtain ⟨n, _, rfl⟩ := List.mem_map.mp hx
    refine ⟨ρ.set 8 (some (.dat (.int n))), ρ.set 8 (some (.dat (.int n))), by simp [h8], by simp [h8], ?_⟩
    simp only [ev_wipe_cons, ev_wipe_nil, List.set_set]
    apply List.ext_getElem?
    intro j
    by_cases hj : 8 = j
    · subst hj
      rw [List.getElem?_set_self h8, hρ]
    · rw [List.getElem?_set_ne hj]
  obtain ⟨⟨⟨rest, ds⟩, o1, o2, o3⟩, e, _, hds⟩ := hloop none
  have hds : ds.length = many := hds
  refine ⟨ds.reverse, ?_⟩
  have e' : fFor (fItR1 (fVar 1)) (tgN false 5) q_turn [some (.rol (ns.map .int)), some (.dat (.int many)), some (.obj (.lst (cs.map .int))), some (.obj (.lst (cs.map .int))), some (.obj (.lst [])), none, none, none, none] = some (.nx [some (.rol (ns.map .int)), some (.dat (.int many)), some (.obj (.lst (cs.map .int))), some (.obj (.lst (rest.map .int))), some (.obj (.lst (ds.map .int))), o1, o2, o3, none]) := by
    rw [ev_for]
    have e0 : fItR1 (fVar 1) [some (.rol (ns.map .int)), some (.dat (.int many)), some (.obj (.lst (cs.map .int))), some (.obj (.lst (cs.map .int))), some (.obj (.lst [])), none, none, none, none] = some ((List.range many).map fun i => PyData.int (0 + (i : Nat)), none, [some (.rol (ns.map .int)), some (.dat (.int many)), some (.obj (.lst (cs.map .int))), some (.obj (.lst (cs.map .int))), some (.obj (.lst [])), none, none, none, none]) := by
      rw [ev_itR1]
      have : guardP (-(2 ^ 62) ≤ (many : Int) ∧ (many : Int) < 2 ^ 62) = some () := g_rg1 (by omega) (by omega)
      simp only [ev_var, List.getElem?_cons_succ, List.getElem?_cons_zero, Option.bind_some, ev_intOf, this, Option.map_some, Int.toNat_natCast]
    rw [e0]
    exact e
  have e1 : (fSet false 2 (fLc (fItE (fVar 0)) (tgN false 8) fYes (fCB gInt (fCons (fVar 8) fNil)) [8])) [some (.rol (ns.map .int)), some (.dat (.int many)), none, none, none, none, none, none, none] = some (.nx [some (.rol (ns.map .int)), some (.dat (.int many)), some (.obj (.lst (ns.map .int))), none, none, none, none, none, none]) := by
    have e0 : fItE (fVar 0) [some (.rol (ns.map .int)), some (.dat (.int many)), none, none, none, none, none, none, none] = some (ns.map .int, none, [some (.rol (ns.map .int)), some (.dat (.int many)), none, none, none, none, none, none, none]) := by
      rfl
    rw [ev_set, ev_lc, e0]
    simp only [Option.bind_some, List.length_map, guard_small (show ns.length ≤ 1000000 by omega), ev_wipe_cons, ev_wipe_nil]
    have := hlc ([some (.rol (ns.map .int)), some (.dat (.int many)), none, none, none, none, none, none, none].set 8 none) (by simp)
    rw [show (ckOf (List.map PyData.int ns) none) = fun _ => True from rfl, this]
    simp
  unfold q_draws
  rw [ev_run2, ev_seq]
  simp only [List.map_cons, List.map_nil, List.cons_append, List.nil_append, Nat.reduceSub, List.replicate]
  rw [e1]
  simp only [Option.bind_some]
  have e2 : ∀ Z : FS, (fSeq (fIfS (fTst (fBin gEq (fCB gLen (fCons (fVar 2) fNil)) (fC (.int 0)))) (fExpr (fMt gAppend (fVar 2) (fCons (fC (.int 0)) fNil))) fNext) Z) [some (.rol (ns.map .int)), some (.dat (.int many)), some (.obj (.lst (ns.map .int))), none, none, none, none, none, none] = Z [some (.rol (ns.map .int)), some (.dat (.int many)), some (.obj (.lst (cs.map .int))), none, none, none, none, none, none] := fun Z => by
    subst hcs
    by_cases h : ns = []
    · subst h
      simp [gAppend_ok]
    · simp [h]
  rw [e2]
  rw [ev_seq]
  have e3 : (fSet false 3 (fCB gList (fCons (fVar 2) fNil))) [some (.rol (ns.map .int)), some (.dat (.int many)), some (.obj (.lst (cs.map .int))), none, none, none, none, none, none] = some (.nx [some (.rol (ns.map .int)), some (.dat (.int many)), some (.obj (.lst (cs.map .int))), some (.obj (.lst (cs.map .int))), none, none, none, none, none]) := by simp
  rw [e3]
  simp only [Option.bind_some]
  rw [ev_seq]
  have e4 : (fSet false 4 (fLstN fNil)) [some (.rol (ns.map .int)), some (.dat (.int many)), some (.obj (.lst (cs.map .int))), some (.obj (.lst (cs.map .int))), none, none, none, none, none] = some (.nx [some (.rol (ns.map .int)), some (.dat (.int many)), some (.obj (.lst (cs.map .int))), some (.obj (.lst (cs.map .int))), some (.obj (.lst [])), none, none, none, none]) := by simp [guard_small]
  rw [e4]
  simp only [Option.bind_some]
  rw [ev_seq]
  unfold q_turn at e'
  rw [e']
  simp
noncomputable def q_sameB (m : Den) : FS := (fIfS (fNot (fTst (fCall m (fCons (fBin gIx (fVar 0) (fVar 2)) (fCons (fBin gIx (fVar 1) (fVar 2)) fNil))))) (fRet [0, 1] (fC (.bool false))) fNext)
noncomputable def q_same (m : Den) : FS := (fSeq (fIfS (fTst (fIsi PyData.isBool (fVar 1))) (fRet [0, 1] (fAndV (fIsi PyData.isBool (fVar 0)) (fBin gEq (fVar 0) (fVar 1)))) fNext)
    (fSeq (fIfS (fTst (fIsi PyData.isInt (fVar 1))) (fRet [0, 1] (fAndV (fIsi PyData.isInt (fVar 0)) (fAndV (fNotV (fIsi PyData.isBool (fVar 0))) (fBin gEq (fVar 0) (fVar 1))))) fNext)
    (fSeq (fIfS (fTst (fIsi PyData.isStr (fVar 1))) (fRet [0, 1] (fAndV (fIsi PyData.isStr (fVar 0)) (fBin gEq (fVar 0) (fVar 1)))) fNext)
    (fSeq (fIfS (fTst (fBin gIsN (fVar 1) (fC .none))) (fRet [0, 1] (fBin gIsN (fVar 0) (fC .none))) fNext)
    (fSeq (fIfS (fOr (fNot (fTst (fIsi PyData.isTuple (fVar 0)))) (fTst (fBin gNe (fCB gLen (fCons (fVar 0) fNil)) (fCB gLen (fCons (fVar 1) fNil))))) (fRet [0, 1] (fC (.bool false))) fNext)
    (fSeq (fFor (fItR1 (fCB gLen (fCons (fVar 1) fNil))) (tgN false 2) (fIfS (fNot (fTst (fCall m (fCons (fBin gIx (fVar 0) (fVar 2)) (fCons (fBin gIx (fVar 1) (fVar 2)) fNil))))) (fRet [0, 1] (fC (.bool false))) fNext))
    (fRet [0, 1] (fC (.bool true)))))))))
noncomputable def sameD : Nat → Den
  | 0 => fun _ => none
  | k + 1 => runD 3 2 (q_same (sameD k))
inductive SOk : Nat → T → Prop
  | non (k : Nat) : SOk (k + 1) .none
  | bool (k : Nat) (b : Bool) : SOk (k + 1) (.bool b)
  | int (k : Nat) (i : Int) : SOk (k + 1) (.int i)
  | str (k : Nat) (i : Str) : SOk (k + 1) (.str i)
  | tup (k : Nat) (xs : List T) : xs.length ≤ 1000000 → (∀ x ∈ xs, SOk k x) → SOk (k + 1) (.tuple xs)
theorem same_ok : ∀ (k : Nat) (t : T), SOk k t → sameD k [.dat t, .dat t] = some (.dat (.bool true), [])
  | 0, t, h => by cases h
  | k + 1, t, h => by
    rw [sameD]
    cases h with
    | non => simp [q_same]
    | bool b => simp [q_same]
    | int i => simp [q_same]
    | str x => simp [q_same]
    | tup _ xs hl hx =>
      obtain ⟨o', e, _⟩ := for_r (β := Option Sl) (g := tgN false 2) (b := q_sameB (sameD k)) (fun i o => [some (.dat (.tuple xs)), some (.dat (.tuple xs)), o]) (fun _ _ => True) xs.length 0 (fun i o hi _ => by
        have ex : xs[i]? = some xs[i] := List.getElem?_eq_getElem hi
        have ih := same_ok k xs[i] (hx _ (List.getElem_mem hi))
        exact ⟨_, some (.dat (.int i)), by simp; rfl, .inl (by simp [q_sameB, atI_nat ex, ih]), trivial⟩) none trivial
      have hg : guardP (-(2 ^ 62) ≤ (xs.length : Int) ∧ (xs.length : Int) < 2 ^ 62) = some () := g_rg1 (by omega) (by omega)
      have e1 : (fFor (fItR1 (fCB gLen (fCons (fVar 1) fNil))) (tgN false 2) (q_sameB (sameD k))) [some (.dat (.tuple xs)), some (.dat (.tuple xs)), none] = some (.nx [some (.dat (.tuple xs)), some (.dat (.tuple xs)), o']) := by
        rw [ev_for, ev_itR1]
        simp only [ev_CB, ev_cons, ev_var, ev_nil, List.getElem?_cons_succ, List.getElem?_cons_zero, Option.bind_some, Option.map_some, ev_len, ev_rdSeq, ev_tupOf, Option.some_or, ev_intOf, hg, Int.toNat_natCast]
        exact e
      unfold q_sameB at e1
      unfold q_same
      rw [ev_run2]
      simp [-ev_for, e1]
end PD

namespace PD
open PySem PySem.Spec PyProof.Rows L2
theorem sIx_of {n d : Nat} {v : Int} (h : 0 ≤ v) : HT.sIx n d (some v) = min v.toNat n := by
  obtain ⟨k, rfl⟩ := Int.eq_ofNat_of_zero_le h
  exact HT.sIx_nat n d k
theorem take_min {xs : List T} {k : Nat} : xs.take (min k xs.length) = xs.take k := by
  by_cases h : k ≤ xs.length
  · rw [Nat.min_eq_left h]
  · rw [Nat.min_eq_right (by omega), List.take_length, List.take_of_length_le (by omega)]
theorem cut_to {xs : List T} {n : Int} (h : 0 ≤ n) : cutT xs none (some n) = xs.take n.toNat := by
  unfold cutT
  rw [HT.sIx_none, sIx_of h, List.drop_zero, Nat.sub_zero, take_min]
theorem cut_from {xs : List T} {n : Int} (h : 0 ≤ n) : cutT xs (some n) none = xs.drop n.toNat := by
  unfold cutT
  rw [HT.sIx_none, sIx_of h]
  by_cases hk : n.toNat ≤ xs.length
  · rw [Nat.min_eq_left hk, List.take_of_length_le (by rw [List.length_drop]; omega)]
  · rw [Nat.min_eq_right (by omega), List.drop_length, List.drop_of_length_le (by omega), List.take_nil]
theorem cut_mid {xs : List T} {n m : Int} (h : 0 ≤ n) (h2 : 0 ≤ m) : cutT xs (some n) (some m) = (xs.drop n.toNat).take (m.toNat - n.toNat) := by
  unfold cutT
  rw [sIx_of h, sIx_of h2]
  by_cases hk : n.toNat ≤ xs.length
  · rw [Nat.min_eq_left hk]
    by_cases hm : m.toNat ≤ xs.length
    · rw [Nat.min_eq_left hm]
    · rw [Nat.min_eq_right (by omega), List.take_of_length_le (by rw [List.length_drop]; omega), List.take_of_length_le (by rw [List.length_drop]; omega)]
  · rw [show min n.toNat xs.length = xs.length by omega, List.drop_length, List.drop_of_length_le (by omega), List.take_nil, List.take_nil]
theorem alike_ints {ns : List Int} : PySem.W.AlikeAll (ns.map .int) := by
  refine ⟨fun x hx y hy => ?_, fun x hx => ?_⟩
  · obtain ⟨a, _, rfl⟩ := List.mem_map.mp hx
    obtain ⟨b, _, rfl⟩ := List.mem_map.mp hy
    rfl
  · obtain ⟨a, _, rfl⟩ := List.mem_map.mp hx
    exact fun z => by cases z
theorem max1_ints {h : Hd} {ρ : Ev} {n : Int} {ns : List Int} (e : rdSeq h ρ = some ((n :: ns).map .int)) : gMax [h] ρ = some (.dat (.int (ns.foldl max n))) := by
  have e1 : gMax2 [h] ρ = none := by
    rcases h with t | c | i
    · cases t <;> rfl
    · rfl
    · rfl
  rw [ev_max, e1, Option.none_or]
  have ha := alike_ints (ns := n :: ns)
  have hd : PyData.depthAll ((n :: ns).map PyData.int) ≤ 60 := by rw [depthAll_int]; omega
  show gExt _ [h] ρ = _
  unfold gExt
  simp only [e]
  rw [List.map_cons] at ha hd ⊢
  simp only [guardP_pos (And.intro ha hd), Option.map_some, PySem.W.maxD_ints]
@[simp] theorem ev_sum (h : Hd) (ρ : Ev) : gSum [h] ρ = (rdSeq h ρ).bind fun xs => (intsOf xs).map fun ns => .dat (.int ns.sum) := rfl
theorem place_ok {xs : List T} {d : T} {k : Nat} (h : xs[k]? = some d) (hd : d.plain = true) (hb : ∀ j < k, ∀ y, xs[j]? = some y → PyData.eqv y d = false) : fPlace xs d = some (k : Int) := by
  unfold fPlace SeqAt.dataPlace
  rw [Option.map_eq_some_iff]
  refine ⟨k, ?_, rfl⟩
  rw [List.findIdx?_eq_some_iff_getElem]
  obtain ⟨hk, e⟩ := List.getElem?_eq_some_iff.mp h
  refine ⟨hk, by rw [e]; exact eqv_refl d hd, fun j hj => ?_⟩
  have := hb j hj _ (List.getElem?_eq_getElem (by omega))
  simpa using this
@[simp] theorem ev_pl_t (f : List PyData → PyData → Option Int) (fa fb : FE) (ρ : Ev) : fPl false f fa fb ρ = (fa ρ).bind fun p => (tupOf p.1).bind fun _ => (fb p.2).bind fun q => (tupOf p.1).bind fun ds =>
  match q.1 with
  | .dat d => (guardP (min (PyData.depthAll ds) d.depth ≤ 60)).bind fun _ => (f ds d).map fun j => (.dat (.int j), q.2)
  | _ => none := by
  unfold fPl
  simp only [Bool.false_eq_true, if_false]
  all_goals
    rcases fa ρ with _ | ⟨h, ρ1⟩
    · rfl
    · simp only [Option.bind_some]
      rcases tupOf h with _ | ds
      · rfl
      · simp only [Option.bind_some]
        rcases fb ρ1 with _ | ⟨h2, ρ2⟩
        · rfl
        · simp only [Option.bind_some]
          cases h2 <;> rfl
theorem for_rng {f : FE} {g : GT} {b : FS} {ρ ρ1 : Ev} {n : Nat} {r : Option Fl} (h : f ρ = some (.dat (.int n), ρ1)) (hn : n ≤ 1000000) (e : fForL (fun _ => True) g b ((List.range n).map fun i => PyData.int (0 + (i : Nat))) ρ1 = r) : fFor (fItR1 f) g b ρ = r := by
  have hg : guardP (-(2 ^ 62) ≤ (n : Int) ∧ (n : Int) < 2 ^ 62) = some () := g_rg1 (by omega) (by omega)
  rw [ev_for, ev_itR1, h]
  simp only [Option.bind_some, Option.map_some, ev_intOf, hg, Int.toNat_natCast]
  exact e
theorem for_tup {f : FE} {g : GT} {b : FS} {ρ ρ1 : Ev} {xs : List T} {r : Option Fl} (h : f ρ = some (.dat (.tuple xs), ρ1)) (e : fForL (fun _ => True) g b xs ρ1 = r) : fFor (fItE f) g b ρ = r := by
  rw [ev_for, ev_itE, h]
  exact e
/-- a loop over items, with nothing asked of the walked thing -/
theorem for_t {β : Type} {g : GT} {b : FS} (S : Nat → β → Ev) (I : Nat → β → Prop) (ts : List T)
    (h : ∀ (i : Nat) (x : T) (o : β), ts[i]? = some x → I i o → ∃ ρ1 o', g x (S i o) = some ρ1 ∧ (b ρ1 = some (.nx (S (i + 1) o')) ∨ b ρ1 = some (.ct (S (i + 1) o'))) ∧ I (i + 1) o')
    (o : β) (h0 : I 0 o) : ∃ o', fForL (fun _ => True) g b ts (S 0 o) = some (.nx (S ts.length o')) ∧ I ts.length o' :=
  for_l S I ts (fun i x o hx hi => ⟨trivial, h i x o hx hi⟩) (fun _ _ => trivial) o h0
theorem rep1 {t : T} {k : Nat} {ρ : Ev} (h : k ≤ 1000) : gMul (.dat (.tuple [t])) (.dat (.int (k : Nat))) ρ = some (.dat (.tuple (List.replicate k t))) := by
  have e1 : gI MulOk (fun i j => .int (i * j)) (.dat (.tuple [t])) (.dat (.int (k : Nat))) ρ = none := rfl
  rw [ev_mul, e1, Option.none_or, ev_mulT]
  have hg : guardP (-1000000 ≤ (k : Int) ∧ (k : Int) ≤ 1000000 ∧ [t].length * k ≤ 1000000) = some () := guardP_pos ⟨by omega, by omega, by simp; omega⟩
  simp only [ev_tupOf, ev_intOf, Option.bind_some, Int.toNat_natCast, hg, Option.map_some, Option.some_or, List.flatten_replicate_singleton]
theorem addT_ok {xs ys : List T} {ρ : Ev} (h : xs.length + ys.length ≤ 1000000) : gAdd (.dat (.tuple xs)) (.dat (.tuple ys)) ρ = some (.dat (.tuple (xs ++ ys))) := by
  rw [ev_add, ev_addT]
  simp [guard_small h]
theorem seq_nx {f g : FS} {ρ ρ1 : Ev} (h : f ρ = some (.nx ρ1)) : fSeq f g ρ = g ρ1 := by rw [ev_seq, h]; rfl
theorem run_rt {nn n : Nat} {g : FS} {as : List Sl} {r : Sl} {ρ : Ev} {cs : List C} (h : as.length = n) (e : g (as.map some ++ List.replicate (nn - n) none) = some (.rt r ρ)) (o : outs as ρ = some cs) : runD nn n g as = some (r, cs) := by
  rw [ev_run _ _ _ _ h, e]
  simp [o]
end PD

namespace PD
open PySem PySem.Spec PyProof.Rows L2
@[simp] theorem ev_wipeS (vs : List Nat) (f : FS) (ρ : Ev) : fWipe vs f ρ = (f ρ).map fun o => match o with
  | .nx ρ' => .nx (wipeE ρ' vs)
  | .ct ρ' => .ct (wipeE ρ' vs)
  | o => o := rfl
@[simp] theorem ev_dtOf (t : T) : dtOf (.dat t) = some t := rfl
@[simp] theorem ev_dicOf_t (c : List (T × T)) (ρ : Ev) : dicOf (.tmp (.dic c)) ρ = some c := rfl
@[simp] theorem ev_dicOf_p (i : Nat) (ρ : Ev) : dicOf (.plc i) ρ = (match ρ[i]? with
    | some (some (.obj (.dic xs))) => some xs
    | _ => none) := rfl
@[simp] theorem ev_setOf_t (c : List T) (ρ : Ev) : setOf (.tmp (.set c)) ρ = some c := rfl
@[simp] theorem ev_setOf_p (i : Nat) (ρ : Ev) : setOf (.plc i) ρ = (match ρ[i]? with
    | some (some (.obj (.set xs))) => some xs
    | _ => none) := rfl
@[simp] theorem ev_putC_p (i : Nat) (c : C) (ρ : Ev) : putC (.plc i) c ρ = ρ.set i (some (.obj c)) := rfl
@[simp] theorem ev_ixD (a b : Hd) (ρ : Ev) : gIxD a b ρ = (dicOf a ρ).bind fun kvs => (dtOf b).bind fun t => if kOk kvs t = true then (dGet kvs t).map fun d => .dat d else none := rfl
@[simp] theorem ev_inD (neg : Bool) (a b : Hd) (ρ : Ev) : gInD neg a b ρ = (dtOf a).bind fun t => (dicOf b ρ).bind fun kvs => if kOk kvs t = true then some (.dat (.bool (if neg then !(dGet kvs t).isSome else (dGet kvs t).isSome))) else none := rfl
@[simp] theorem ev_inS (neg : Bool) (a b : Hd) (ρ : Ev) : gInS neg a b ρ = (dtOf a).bind fun t => (setOf b ρ).bind fun xs => (lfOf t).map fun _ => .dat (.bool (if neg then !hasL xs t else hasL xs t)) := rfl
@[simp] theorem ev_setD (fe fo fi : FE) (ρ : Ev) : fSetD fe fo fi ρ = (fe ρ).bind fun p => (fo p.2).bind fun q => (fi q.2).bind fun r => (dtOf p.1).bind fun d => (dicOf q.1 r.2).bind fun kvs => (dtOf r.1).bind fun t =>
  (guardP (kOk kvs t = true ∧ kvs.length < sizeLine)).map fun _ => .nx (putC q.1 (.dic (dPut kvs t d)) r.2) := rfl
@[simp] theorem ev_get2 (fa fb fc : FE) (ρ : Ev) : fGet2 fa fb fc ρ = (fa ρ).bind fun p => (dicOf p.1 p.2).bind fun _ => (fb p.2).bind fun q => (fc q.2).bind fun r => (dicOf p.1 r.2).bind fun kvs => (dtOf q.1).bind fun t => (dtOf r.1).bind fun d =>
  if kOk kvs t = true then some (.dat ((dGet kvs t).getD d), r.2) else none := rfl
@[simp] theorem ev_addS (fa fb : FE) (ρ : Ev) : fAdd fa fb ρ = (fa ρ).bind fun p => (setOf p.1 p.2).bind fun _ => (fb p.2).bind fun q => (setOf p.1 q.2).bind fun xs => (dtOf q.1).bind fun t => (lfOf t).bind fun _ =>
  (guardP (xs.length + 1 < scanBound)).map fun _ => (.dat .none, putC p.1 (.set (sAdd xs t)) q.2) := rfl
@[simp] theorem ev_dic0 (ρ : Ev) : fDic0 ρ = some (.tmp (.dic []), ρ) := rfl
@[simp] theorem ev_dic1 (fk fv : FE) (ρ : Ev) : fDic1 fk fv ρ = (fk ρ).bind fun p => (fv p.2).bind fun q => (dtOf p.1).bind fun t => (dtOf q.1).bind fun d => if kOk [] t = true then some (.tmp (.dic [(t, d)]), q.2) else none := rfl
@[simp] theorem ev_set1 (fe : FE) (ρ : Ev) : fSet1 fe ρ = (fe ρ).bind fun p => (dtOf p.1).bind fun t => (lfOf t).map fun _ => (.tmp (.set [t]), p.2) := rfl
@[simp] theorem lfOf_i (i : Int) : lfOf (.int i) = some (.num i) := rfl
@[simp] theorem lfOf_t (i : List T) : lfOf (.tuple i) = none := rfl
@[simp] theorem tkOf_i (i : Int) : tkOf (.int i) = none := rfl
@[simp] theorem ev_sub (a b : Hd) (ρ : Ev) : PD.gSub a b ρ = gI0 (fun i j => .int (i - j)) a b ρ := rfl
/-! ### slots -/
abbrev dt (xs : List T) : Option Sl := some (.dat (.tuple xs))
abbrev di (i : Int) : Option Sl := some (.dat (.int i))
abbrev db (b : Bool) : Option Sl := some (.dat (.bool b))
abbrev dd (t : T) : Option Sl := some (.dat t)
abbrev ol (ds : List Int) : Option Sl := some (.obj (.lst (ds.map .int)))
abbrev oT (ts : List T) : Option Sl := some (.obj (.lst ts))
abbrev oD (ts : List (T × T)) : Option Sl := some (.obj (.dic ts))
abbrev oS (ts : List T) : Option Sl := some (.obj (.set ts))
def nI (n : Nat) : T := .int (n : Nat)
def tI (ns : List Nat) : T := .tuple (ns.map nI)
@[simp] theorem intOf_nI1 (n : Nat) : intOf (.dat (nI n)) = some (n : Int) := rfl
@[simp] theorem tupOf_tI (ns : List Nat) : tupOf (.dat (tI ns)) = some (ns.map nI) := rfl
@[simp] theorem itOf_tI (ns : List Nat) (ρ : Ev) : itOf (.dat (tI ns)) ρ = some (ns.map nI, none) := rfl
@[simp] theorem intOf_tI (ns : List Nat) : intOf (.dat (tI ns)) = none := rfl
@[simp] theorem strOf_tI (ns : List Nat) : strOf (.dat (tI ns)) = none := rfl
theorem nI_def (n : Nat) : nI n = .int (n : Nat) := rfl
theorem intsOf_nI (L : List Nat) : intsOf (L.map nI) = some (L.map fun k : Nat => (k : Int)) := by
  have : L.map nI = (L.map fun k : Nat => (k : Int)).map .int := by rw [List.map_map]; rfl
  rw [this, intsOf_map]
theorem map_nI (L : List Nat) : L.map nI = (L.map fun k : Nat => (k : Int)).map .int := by rw [List.map_map]; rfl
def pg (ps : List Nat) (k : Nat) : Nat := ps.getD k 0
theorem pg_get {ps : List Nat} {i : Nat} (h : i < ps.length) : ps[i]? = some (pg ps i) := by
  unfold pg
  rw [List.getD_eq_getElem?_getD, List.getElem?_eq_getElem h]
  rfl
theorem pg_out {ps : List Nat} {i : Nat} (h : ps.length ≤ i) : pg ps i = 0 := by
  unfold pg
  rw [List.getD_eq_getElem?_getD, List.getElem?_eq_none h]
  rfl
theorem pg_mem {ps : List Nat} {i : Nat} (h : i < ps.length) : pg ps i ∈ ps := List.mem_of_getElem? (pg_get h)
theorem atI_nI {ps : List Nat} {i : Nat} (h : i < ps.length) : atI (ps.map nI) (i : Int) = some (nI (pg ps i)) := atI_nat (by rw [List.getElem?_map, pg_get h]; rfl)
theorem pg_ext {a b : List Nat} (hl : a.length = b.length) (h : ∀ i < a.length, pg a i = pg b i) : a = b := by
  apply List.ext_getElem?
  intro i
  by_cases hi : i < a.length
  · rw [pg_get hi, pg_get (by omega), h i hi]
  · rw [List.getElem?_eq_none (by omega), List.getElem?_eq_none (by omega)]
theorem pg_range_map {f : Nat → Nat} {n i : Nat} (h : i < n) : pg ((List.range n).map f) i = f i := by
  unfold pg
  rw [List.getD_eq_getElem?_getD, List.getElem?_map, List.getElem?_range h]
  rfl
theorem list_pg (a : List Nat) : a = (List.range a.length).map (pg a) := pg_ext (by simp) fun i hi => by rw [pg_range_map hi]
/-! ### comprehensions -/
theorem lc_rng {g : GT} {te : FE} {f : FE} {vs : List Nat} {ρ : Ev} {n : Nat} (F : Nat → T) (hf : f ρ = some (.dat (.int n), ρ)) (hn : n ≤ 1000000) (hw : wipeE ρ vs = ρ) (hb : backE ρ ρ vs = ρ)
    (h : ∀ k < n, ∃ ρ1 ρ3, g (.int k) ρ = some ρ1 ∧ te ρ1 = some (.dat (F k), ρ3) ∧ wipeE ρ3 vs = ρ) : fLc (fItR1 f) g fYes te vs ρ = some (.tmp (.lst ((List.range n).map F)), ρ) := by
  have hg : guardP (-(2 ^ 62) ≤ (n : Int) ∧ (n : Int) < 2 ^ 62) = some () := g_rg1 (by omega) (by omega)
  rw [ev_lc, ev_itR1, hf]
  simp only [Option.bind_some, ev_intOf, hg, Option.map_some, Int.toNat_natCast, List.length_map, List.length_range, guard_small hn, hw]
  rw [lc_map (fun x => match x with | .int i => F i.toNat | _ => .none) (by trivial) _ fun x hx => by
    obtain ⟨k, hk, rfl⟩ := List.mem_map.mp hx
    simpa using h k (List.mem_range.mp hk)]
  simp only [Option.map_some, List.map_map, hb]
  congr 4
  apply List.map_congr_left
  intro k _
  simp
theorem lc_tup {g : GT} {te : FE} {f : FE} {vs : List Nat} {ρ : Ev} {xs : List T} (F : T → T) (hf : f ρ = some (.dat (.tuple xs), ρ)) (hn : xs.length ≤ 1000000) (hw : wipeE ρ vs = ρ) (hb : backE ρ ρ vs = ρ)
    (h : ∀ x ∈ xs, ∃ ρ1 ρ3, g x ρ = some ρ1 ∧ te ρ1 = some (.dat (F x), ρ3) ∧ wipeE ρ3 vs = ρ) : fLc (fItE f) g fYes te vs ρ = some (.tmp (.lst (xs.map F)), ρ) := by
  rw [ev_lc, ev_itE, hf]
  simp only [Option.bind_some, ev_itOf_t, Option.map_some, guard_small hn, hw]
  rw [lc_map F (by trivial) _ h]
  simp only [Option.map_some, hb]
theorem lc_lst {g : GT} {te : FE} {f : FE} {vs : List Nat} {ρ : Ev} {xs : List T} {i : Nat} (F : T → T) (hf : f ρ = some (.plc i, ρ)) (hi : ρ[i]? = some (some (.obj (.lst xs)))) (hn : xs.length ≤ 1000000) (hw : wipeE ρ vs = ρ) (hb : backE ρ ρ vs = ρ)
    (h : ∀ x ∈ xs, ∃ ρ1 ρ3, g x ρ = some ρ1 ∧ te ρ1 = some (.dat (F x), ρ3) ∧ wipeE ρ3 vs = ρ) : fLc (fItE f) g fYes te vs ρ = some (.tmp (.lst (xs.map F)), ρ) := by
  have hit : itOf (.plc i) ρ = some (xs, some i) := by
    unfold itOf
    simp only [hi]
  rw [ev_lc, ev_itE, hf]
  simp only [Option.bind_some, hit, Option.map_some, guard_small hn, hw]
  rw [lc_map F (show ckOf xs (some i) ρ from hi) _ h]
  simp only [Option.map_some, hb]
theorem lc_tmp {g : GT} {te : FE} {f : FE} {vs : List Nat} {ρ : Ev} {xs : List T} (F : T → T) (hf : f ρ = some (.tmp (.lst xs), ρ)) (hn : xs.length ≤ 1000000) (hw : wipeE ρ vs = ρ) (hb : backE ρ ρ vs = ρ)
    (h : ∀ x ∈ xs, ∃ ρ1 ρ3, g x ρ = some ρ1 ∧ te ρ1 = some (.dat (F x), ρ3) ∧ wipeE ρ3 vs = ρ) : fLc (fItE f) g fYes te vs ρ = some (.tmp (.lst (xs.map F)), ρ) := by
  rw [ev_lc, ev_itE, hf]
  simp only [Option.bind_some, ev_itOf_l, Option.map_some, guard_small hn, hw]
  rw [lc_map F (by trivial) _ h]
  simp only [Option.map_some, hb]
/-- over a tuple or a list of data that are told by α -/
theorem lc_tupE {α : Type} {e : α → T} {g : GT} {te : FE} {f : FE} {vs : List Nat} {ρ : Ev} {xs : List α} (F : α → T) (hf : f ρ = some (.dat (.tuple (xs.map e)), ρ)) (hn : xs.length ≤ 1000000) (hw : wipeE ρ vs = ρ) (hb : backE ρ ρ vs = ρ)
    (h : ∀ x ∈ xs, ∃ ρ1 ρ3, g (e x) ρ = some ρ1 ∧ te ρ1 = some (.dat (F x), ρ3) ∧ wipeE ρ3 vs = ρ) : fLc (fItE f) g fYes te vs ρ = some (.tmp (.lst (xs.map F)), ρ) := by
  have key : ∀ ys : List α, (∀ x ∈ ys, ∃ ρ1 ρ3, g (e x) ρ = some ρ1 ∧ te ρ1 = some (.dat (F x), ρ3) ∧ wipeE ρ3 vs = ρ) → fLcL (ckOf (xs.map e) none) g fYes te vs (ys.map e) ρ = some (ys.map F, ρ) := by
    intro ys
    induction ys with
    | nil => intro _; rw [List.map_nil, fLcL, guardP_pos (by trivial)]; rfl
    | cons y ys ih =>
      intro hy
      obtain ⟨ρ1, ρ3, e1, e2, e3⟩ := hy y List.mem_cons_self
      rw [List.map_cons, fLcL, guardP_pos (by trivial)]
      simp only [Option.bind_some, e1, ev_yes, if_true, e2, e3, ih fun x hx => hy x (List.mem_cons_of_mem _ hx), Option.map_some, List.map_cons]
  rw [ev_lc, ev_itE, hf]
  simp only [Option.bind_some, ev_itOf_t, Option.map_some, guard_small (show (xs.map e).length ≤ 1000000 by simpa using hn), hw]
  rw [key xs h]
  simp only [Option.map_some, hb]
theorem lc_lstE {α : Type} {e : α → T} {g : GT} {te : FE} {f : FE} {vs : List Nat} {ρ : Ev} {xs : List α} {i : Nat} (F : α → T) (hf : f ρ = some (.plc i, ρ)) (hi : ρ[i]? = some (some (.obj (.lst (xs.map e))))) (hn : xs.length ≤ 1000000) (hw : wipeE ρ vs = ρ) (hb : backE ρ ρ vs = ρ)
    (h : ∀ x ∈ xs, ∃ ρ1 ρ3, g (e x) ρ = some ρ1 ∧ te ρ1 = some (.dat (F x), ρ3) ∧ wipeE ρ3 vs = ρ) : fLc (fItE f) g fYes te vs ρ = some (.tmp (.lst (xs.map F)), ρ) := by
  have key : ∀ ys : List α, (∀ x ∈ ys, ∃ ρ1 ρ3, g (e x) ρ = some ρ1 ∧ te ρ1 = some (.dat (F x), ρ3) ∧ wipeE ρ3 vs = ρ) → fLcL (ckOf (xs.map e) (some i)) g fYes te vs (ys.map e) ρ = some (ys.map F, ρ) := by
    intro ys
    induction ys with
    | nil => intro _; rw [List.map_nil, fLcL, guardP_pos (show ckOf _ (some i) ρ from hi)]; rfl
    | cons y ys ih =>
      intro hy
      obtain ⟨ρ1, ρ3, e1, e2, e3⟩ := hy y List.mem_cons_self
      rw [List.map_cons, fLcL, guardP_pos (show ckOf _ (some i) ρ from hi)]
      simp only [Option.bind_some, e1, ev_yes, if_true, e2, e3, ih fun x hx => hy x (List.mem_cons_of_mem _ hx), Option.map_some, List.map_cons]
  have hit : itOf (.plc i) ρ = some (xs.map e, some i) := by
    unfold itOf
    simp only [hi]
  rw [ev_lc, ev_itE, hf]
  simp only [Option.bind_some, hit, Option.map_some, guard_small (show (xs.map e).length ≤ 1000000 by simpa using hn), hw]
  rw [key xs h]
  simp only [Option.map_some, hb]
theorem lc_tupF {g : GT} {tt : FB} {te : FE} {f : FE} {vs : List Nat} {ρ : Ev} {xs : List T} (F : T → Option T) (hf : f ρ = some (.dat (.tuple xs), ρ)) (hn : xs.length ≤ 1000000) (hw : wipeE ρ vs = ρ) (hb : backE ρ ρ vs = ρ)
    (h : ∀ x ∈ xs, ∃ ρ1 b ρ2, g x ρ = some ρ1 ∧ tt ρ1 = some (b, ρ2) ∧ ((b = true ∧ ∃ t ρ3, te ρ2 = some (.dat t, ρ3) ∧ wipeE ρ3 vs = ρ ∧ F x = some t) ∨ (b = false ∧ wipeE ρ2 vs = ρ ∧ F x = none))) : fLc (fItE f) g tt te vs ρ = some (.tmp (.lst (xs.filterMap F)), ρ) := by
  rw [ev_lc, ev_itE, hf]
  simp only [Option.bind_some, ev_itOf_t, Option.map_some, guard_small hn, hw]
  rw [lc_pure F (by trivial) _ h]
  simp only [Option.map_some, hb]
theorem lc_rngF {g : GT} {tt : FB} {te : FE} {f : FE} {vs : List Nat} {ρ : Ev} {n : Nat} (p : Nat → Bool) (F : Nat → T) (hf : f ρ = some (.dat (.int n), ρ)) (hn : n ≤ 1000000) (hw : wipeE ρ vs = ρ) (hb : backE ρ ρ vs = ρ)
    (h : ∀ k < n, ∃ ρ1 ρ2, g (.int k) ρ = some ρ1 ∧ tt ρ1 = some (p k, ρ2) ∧ wipeE ρ2 vs = ρ ∧ (p k = true → ∃ ρ3, te ρ2 = some (.dat (F k), ρ3) ∧ wipeE ρ3 vs = ρ)) : fLc (fItR1 f) g tt te vs ρ = some (.tmp (.lst (((List.range n).filter p).map F)), ρ) := by
  have hg : guardP (-(2 ^ 62) ≤ (n : Int) ∧ (n : Int) < 2 ^ 62) = some () := g_rg1 (by omega) (by omega)
  rw [ev_lc, ev_itR1, hf]
  simp only [Option.bind_some, ev_intOf, hg, Option.map_some, Int.toNat_natCast, List.length_map, List.length_range, guard_small hn, hw]
  rw [lc_pure (fun x => match x with | .int i => if p i.toNat then some (F i.toNat) else none | _ => none) (by trivial) _ fun x hx => by
    obtain ⟨k, hk, rfl⟩ := List.mem_map.mp hx
    obtain ⟨ρ1, ρ2, e1, e2, e3, e4⟩ := h k (List.mem_range.mp hk)
    refine ⟨ρ1, p k, ρ2, by simpa using e1, e2, ?_⟩
    cases hp : p k
    · exact .inr ⟨rfl, e3, by simp [hp]⟩
    · obtain ⟨ρ3, e5, e6⟩ := e4 hp
      exact .inl ⟨rfl, F k, ρ3, e5, e6, by simp [hp]⟩]
  simp only [Option.map_some, hb]
  congr 4
  generalize List.range n = L
  induction L with
  | nil => rfl
  | cons k L ih =>
    rw [List.map_cons, List.filterMap_cons, List.filter_cons, ih]
    cases hp : p k <;> simp [hp]
/-- over a range, with a state -/
theorem lc_rngS {β : Type} {g : GT} {te : FE} {f : FE} {vs : List Nat} {n : Nat} (S : β → Ev) (P : Nat → T → Prop) (b0 : β) (hf : f (S b0) = some (.dat (.int n), S b0)) (hn : n ≤ 1000000) (hw : ∀ b, wipeE (S b) vs = S b) (hb : ∀ b b', backE (S b) (S b') vs = S b')
    (h : ∀ k < n, ∀ b, ∃ ρ1 t ρ3 b', g (.int k) (S b) = some ρ1 ∧ te ρ1 = some (.dat t, ρ3) ∧ wipeE ρ3 vs = S b' ∧ P k t) : ∃ out b', fLc (fItR1 f) g fYes te vs (S b0) = some (.tmp (.lst out), S b') ∧ out.length = n ∧ ∀ (k : Nat) (t : T), out[k]? = some t → P k t := by
  have hg : guardP (-(2 ^ 62) ≤ (n : Int) ∧ (n : Int) < 2 ^ 62) = some () := g_rg1 (by omega) (by omega)
  obtain ⟨out, b', e, e2, e3⟩ := lc_i (ck := ckOf ((List.range n).map fun i => PyData.int (0 + (i : Nat))) none) (g := g) (tt := fYes) (te := te) (vs := vs) (fun _ b => S b) (fun i acc _ => acc.length = i ∧ ∀ (k : Nat) (t : T), acc[k]? = some t → P k t) ((List.range n).map fun i => PyData.int (0 + (i : Nat))) (fun i x acc b hx ⟨hl, hp⟩ => by
    have hlt := (List.getElem?_eq_some_iff.mp hx).1
    rw [List.length_map, List.length_range] at hlt
    rw [List.getElem?_map, List.getElem?_range hlt] at hx
    cases hx
    obtain ⟨ρ1, t, ρ3, b', e1, e2, e3, e4⟩ := h i hlt b
    refine ⟨trivial, ρ1, true, ρ1, by simpa using e1, rfl, .inl ⟨rfl, t, ρ3, b', e2, e3, by simp [hl], fun k t' hk => ?_⟩⟩
    by_cases hk2 : k < acc.length
    · rw [List.getElem?_append_left hk2] at hk
      exact hp k t' hk
    · rw [List.getElem?_append_right (by omega)] at hk
      have : k - acc.length = 0 := by
        have := (List.getElem?_eq_some_iff.mp hk).1
        simp at this
        omega
      rw [this] at hk
      cases hk
      have : k = i := by omega
      subst this
      exact e4) (fun _ _ _ => trivial) b0 ⟨rfl, fun k t hk => by simp at hk⟩
  refine ⟨out, b', ?_, by simpa using e2, e3⟩
  rw [ev_lc, ev_itR1, hf]
  simp only [Option.bind_some, ev_intOf, hg, Option.map_some, Int.toNat_natCast, List.length_map, List.length_range, guard_small hn, hw]
  rw [e]
  simp only [Option.map_some, hb]
/-- numbers drawn below many -/
theorem nats_of {out : List T} {n m : Nat} (hl : out.length = n) (h : ∀ (k : Nat) (t : T), out[k]? = some t → ∃ v : Nat, t = nI v ∧ v < m) : ∃ ns : List Nat, out = ns.map nI ∧ ns.length = n ∧ ∀ x ∈ ns, x < m := by
  subst hl
  induction out with
  | nil => exact ⟨[], rfl, rfl, by simp⟩
  | cons t ts ih =>
    obtain ⟨v, e, hv⟩ := h 0 t rfl
    obtain ⟨ns, e1, e2, e3⟩ := ih fun k t hk => h (k + 1) t (by simpa using hk)
    refine ⟨v :: ns, by rw [List.map_cons, e, ← e1], by simp [e2], fun x hx => ?_⟩
    rcases List.mem_cons.mp hx with rfl | hx
    · exact hv
    · exact e3 x hx
/-! ### the laws' helpers -/
theorem take_nat {ds : List Int} {many : Nat} (h : 0 < many) : ∃ (v : Nat) (ds' : List Int), runD 2 2 q_take [.obj (.lst (ds.map .int)), .dat (.int (many : Nat))] = some (.dat (nI v), [.lst (ds'.map .int)]) ∧ v < many := by
  obtain ⟨v, ds', e, h0, h1⟩ := take_ok ds many (by omega)
  obtain ⟨k, rfl⟩ := Int.eq_ofNat_of_zero_le h0
  exact ⟨k, ds', e, by omega⟩
theorem sok_cons {k : Nat} {x : T} {xs : List T} (h : SOk k x) (t : SOk (k + 1) (.tuple xs)) (hl : xs.length ≤ 1000) : SOk (k + 1) (.tuple (x :: xs)) := by
  cases t with
  | tup _ _ _ hx =>
    refine .tup k _ (by simp; omega) fun y hy => ?_
    rcases List.mem_cons.mp hy with rfl | hy
    · exact h
    · exact hx y hy
theorem sok_nil {k : Nat} : SOk (k + 1) (.tuple []) := .tup k [] (by simp) fun x hx => by cases hx
theorem sok_all {k : Nat} {xs : List T} (h : ∀ x ∈ xs, SOk k x) (hl : xs.length ≤ 1000000) : SOk (k + 1) (.tuple xs) := .tup k xs hl h
theorem sok_nats {k : Nat} {ns : List Nat} (hl : ns.length ≤ 1000000) : SOk (k + 2) (.tuple (ns.map nI)) := .tup _ _ (by simpa using hl) fun x hx => by
  obtain ⟨a, _, rfl⟩ := List.mem_map.mp hx
  exact .int k _
theorem sok_map {α : Type} {k : Nat} {xs : List α} {f : α → T} (h : ∀ x ∈ xs, SOk k (f x)) (hl : xs.length ≤ 1000000) : SOk (k + 1) (.tuple (xs.map f)) := .tup k _ (by simpa using hl) fun x hx => by
  obtain ⟨a, ha, rfl⟩ := List.mem_map.mp hx
  exact h a ha
theorem map_erase (f : Nat → T) : ∀ (xs : List Nat) (v : Nat), (xs.map f).eraseIdx v = (xs.eraseIdx v).map f
  | [], v => rfl
  | x :: xs, 0 => rfl
  | x :: xs, v + 1 => by
    show f x :: (xs.map f).eraseIdx v = f x :: (xs.eraseIdx v).map f
    rw [map_erase f xs v]
theorem erase_perm : ∀ (xs : List Nat) (v : Nat) (h : v < xs.length), (xs[v] :: xs.eraseIdx v).Perm xs
  | x :: xs, 0, h => List.Perm.refl _
  | x :: xs, v + 1, h => by
    have h' : v < xs.length := by simpa using h
    show (xs[v] :: x :: xs.eraseIdx v).Perm (x :: xs)
    exact (List.Perm.swap _ _ _).trans ((erase_perm xs v h').cons x)
theorem popAt_ok {xs : List Nat} {v : Nat} (h : v < xs.length) (hl : xs.length ≤ 1000) : gPopAt (xs.map nI) [.int (v : Nat)] = some (nI xs[v], (xs.eraseIdx v).map nI) := by
  have hs := (ixN_seq (ixN_nat h)).1
  have hg : guardP (-(2 ^ 63) ≤ (v : Int) ∧ (v : Int) < 2 ^ 63) = some () := guardP_pos (by omega)
  unfold gPopAt
  simp only [hg, Option.bind_some, List.length_map, hs]
  rw [List.getElem?_map, List.getElem?_eq_getElem h]
  simp [map_erase]
theorem perm_erase (xs : List Nat) (v : Nat) (h : v < xs.length) (fs : List Nat) : (fs ++ [xs[v]] ++ xs.eraseIdx v).Perm (fs ++ xs) := by
  rw [List.append_assoc]
  refine List.Perm.append_left fs ?_
  exact erase_perm xs v h
/-! ### numbers by their digits -/
def bI (b : Bool) : T := .int (if b then 1 else 0)
@[simp] theorem intOf_bI (b : Bool) : intOf (.dat (bI b)) = some (if b then 1 else 0) := rfl
def bf (p : Nat → Bool) : Nat → Nat
  | 0 => 0
  | n + 1 => 2 ^ n * (p n).toNat + bf p n
theorem bf_lt (p : Nat → Bool) : ∀ n, bf p n < 2 ^ n
  | 0 => by simp [bf]
  | n + 1 => by
    have := bf_lt p n
    rw [bf, Nat.pow_succ]
    cases p n <;> simp <;> omega
theorem bf_tb (p : Nat → Bool) : ∀ n k, (bf p n).testBit k = (decide (k < n) && p k)
  | 0, k => by simp [bf]
  | n + 1, k => by
    rw [bf, Nat.testBit_two_pow_mul_add _ (bf_lt p n), bf_tb p n]
    by_cases h : k < n
    · simp [h, show k < n + 1 by omega]
    · by_cases h2 : k = n
      · subst h2
        cases p k <;> simp
      · have : ¬ k < n + 1 := by omega
        simp only [h, if_false, this, decide_false, Bool.false_and]
        apply Nat.testBit_lt_two_pow
        have : 2 ^ 1 ≤ 2 ^ (k - n) := Nat.pow_le_pow_right (by decide) (by omega)
        cases p n <;> simp <;> omega
theorem bf_of {x n : Nat} (h : x < 2 ^ n) : bf x.testBit n = x := Nat.eq_of_testBit_eq fun k => by
  rw [bf_tb]
  by_cases hk : k < n
  · simp [hk]
  · have : x < 2 ^ k := Nat.lt_of_lt_of_le h (Nat.pow_le_pow_right (by decide) (by omega))
    simp [hk, Nat.testBit_lt_two_pow this]
theorem bf_ext {p q : Nat → Bool} {n m : Nat} (h : ∀ k, (decide (k < n) && p k) = (decide (k < m) && q k)) : bf p n = bf q m := Nat.eq_of_testBit_eq fun k => by rw [bf_tb, bf_tb, h]
theorem bit_int (x k : Nat) : ((x : Int) / 2 ^ k) % 2 = if x.testBit k then 1 else 0 := by
  have e : ((x : Int) / 2 ^ k) % 2 = ((x / 2 ^ k % 2 : Nat) : Int) := by simp
  rw [e, Nat.testBit_eq_decide_div_mod_eq]
  have : x / 2 ^ k % 2 = 0 ∨ x / 2 ^ k % 2 = 1 := by omega
  rcases this with z | z <;> simp [z]
theorem bit_shl (k : Nat) (hk : k ≤ 1000) (b : Bool) : guardP (CShl (if b then 1 else 0) (k : Int)) = some () := guardP_pos ⟨by omega, by
  have h1 : Builtin.Int.intBits 1 ≤ 10 := by decide +kernel
  have h0 : Builtin.Int.intBits 0 ≤ 10 := by decide +kernel
  cases b <;> simp <;> omega⟩
theorem sum_bf (p : Nat → Bool) : ∀ n, ((List.range n).map fun k => ((if p k then 1 else 0 : Int) * 2 ^ k)).sum = (bf p n : Nat)
  | 0 => by simp [bf]
  | n + 1 => by
    rw [List.range_succ, List.map_append, List.sum_append, sum_bf p n, bf]
    cases h : p n <;> simp [h] <;> omega
theorem bf_low (p : Nat → Bool) (n : Nat) : bf p (n + 1) = (p 0).toNat + 2 * bf (fun k => p (k + 1)) n := Nat.eq_of_testBit_eq fun k => by
  rw [bf_tb]
  have e : (p 0).toNat + 2 * bf (fun k => p (k + 1)) n = 2 ^ 1 * bf (fun k => p (k + 1)) n + (p 0).toNat := by omega
  rw [e, Nat.testBit_two_pow_mul_add _ (by cases p 0 <;> simp)]
  cases k with
  | zero => cases p 0 <;> simp
  | succ k =>
    rw [if_neg (by omega)]
    show _ = (bf (fun k => p (k + 1)) n).testBit k
    rw [bf_tb]
    simp
/-- how many digits -/
def blen (n : Nat) : Nat := if n = 0 then 0 else n.log2 + 1
theorem blen_lt (n : Nat) : n < 2 ^ blen n := by
  unfold blen
  split
  · rename_i h; subst h; decide
  · exact Nat.lt_log2_self
theorem blen_le {n L : Nat} (h : n < 2 ^ L) : blen n ≤ L := by
  unfold blen
  split
  · omega
  · rename_i hn
    have := (Nat.log2_lt hn).mpr h
    omega
theorem blen_ge {n L : Nat} (h : n.testBit L = true) : L < blen n := by
  apply Decidable.byContradiction
  intro hl
  have h1 := blen_lt n
  have h2 : n < 2 ^ L := Nat.lt_of_lt_of_le h1 (Nat.pow_le_pow_right (by decide) (by omega))
  rw [Nat.testBit_lt_two_pow h2] at h
  cases h
theorem blen_half {n : Nat} (h : n ≠ 0) : blen n = blen (n / 2) + 1 := by
  unfold blen
  rw [if_neg h]
  by_cases h2 : n / 2 = 0
  · rw [if_pos h2]
    have : n = 1 := by omega
    subst this
    decide
  · rw [if_neg h2, Nat.log2_def n, if_pos (by omega)]
def dgs (n : Nat) : List T := (List.range (blen n)).map fun i => bI (n.testBit i)
theorem dgs_zero : dgs 0 = [] := rfl
theorem dgs_pos {n : Nat} (h : n ≠ 0) : dgs n = .int ((n % 2 : Nat) : Int) :: dgs (n / 2) := by
  unfold dgs
  rw [blen_half h, List.range_succ_eq_map, List.map_cons, List.map_map]
  congr 1
  · unfold bI
    have : n % 2 = 0 ∨ n % 2 = 1 := by omega
    rcases this with z | z <;> simp [Nat.testBit_zero, z]
  · apply List.map_congr_left
    intro i _
    simp [Nat.testBit_succ]
@[simp] theorem dgs_len (n : Nat) : (dgs n).length = blen n := by simp [dgs]
/-! ### order of tuples of ints -/
def ltL : List Int → List Int → Bool
  | [], [] => false
  | [], _ :: _ => true
  | _ :: _, [] => false
  | a :: as, b :: bs => if a = b then ltL as bs else decide (a < b)
theorem lex_int (a b : Int) (l m : List (Int ⊕ List Nat)) : PyProof.Rows.lexLt PyProof.Rows.itemOrd (.inl a :: l) (.inl b :: m) = if a = b then PyProof.Rows.lexLt PyProof.Rows.itemOrd l m else decide (a < b) := by
  by_cases h : a = b
  · subst h
    rw [if_pos rfl]
    exact lex_self (O := PyProof.Rows.itemOrd) _ _ _
  · rw [if_neg h]
    refine (lex_diff (O := PyProof.Rows.itemOrd) (fun z => h (by cases z; rfl))).trans ?_
    rfl
theorem alikeAll_ints : ∀ (x y : List Int), PySem.W.alikeAll (x.map PyData.int) (y.map PyData.int) = true
  | [], y => by cases y <;> simp [PySem.W.alikeAll]
  | x :: xs, [] => by simp [PySem.W.alikeAll]
  | x :: xs, y :: ys => by
    rw [List.map_cons, List.map_cons, PySem.W.alikeAll, alikeAll_ints xs ys]
    simp [PySem.W.alike]
theorem toks_ints : ∀ (as bs : List Int), PyProof.Rows.lexLt PyProof.Rows.itemOrd (PySem.W.keyToksAll (as.map PyData.int)) (PySem.W.keyToksAll (bs.map PyData.int)) = ltL as bs
  | [], [] => by
    show PyProof.Rows.lexLt PyProof.Rows.itemOrd [.inl 0] [.inl 0] = false
    rw [lex_int]; rfl
  | [], b :: bs => by
    rw [List.map_nil, List.map_cons, PySem.W.keyToksAll, PySem.W.keyToksAll, lex_int]; rfl
  | a :: as, [] => by
    rw [List.map_nil, List.map_cons, PySem.W.keyToksAll, PySem.W.keyToksAll, lex_int]; rfl
  | a :: as, b :: bs => by
    rw [List.map_cons, List.map_cons, PySem.W.keyToksAll, PySem.W.keyToksAll, lex_int, if_pos rfl, PySem.W.keyToks, PySem.W.keyToks, List.singleton_append, List.singleton_append, lex_int, toks_ints as bs]
    rfl
/-! ### operators on numbers from 0 -/
theorem intBits_nat (n : Nat) : Builtin.Int.intBits (n : Int) = blen n := by
  unfold Builtin.Int.intBits blen
  by_cases h : n = 0
  · subst h; rfl
  · have : ((n : Int) == 0) = false := by
      rw [beq_eq_false_iff_ne]
      omega
    rw [this, if_neg h]
    simp
theorem g_shl {n k : Nat} (h : blen n ≤ 1000000) (hk : k ≤ 1000000) : guardP (CShl (n : Int) (k : Int)) = some () := guardP_pos ⟨by omega, by
  rw [intBits_nat]
  have : (2 : Int) ^ 27 = 134217728 := by decide
  omega⟩
theorem shl_nat {n k : Nat} (h : blen n ≤ 1000000) (hk : k ≤ 1000000) (ρ : Ev) : gShl (.dat (.int (n : Nat))) (.dat (.int (k : Nat))) ρ = some (.dat (nI (n * 2 ^ k))) := by
  show ((intOf _).bind fun i => (intOf _).bind fun j => (guardP (CShl i j)).map fun _ => Hd.dat (.int (i * 2 ^ j.toNat))) = _
  simp only [ev_intOf, Option.bind_some, g_shl h hk, Option.map_some, Int.toNat_natCast]
  simp [nI]
theorem mod_nat {a m : Nat} (h : 0 < m) (ρ : Ev) : gMod (.dat (.int (a : Nat))) (.dat (.int (m : Nat))) ρ = some (.dat (nI (a % m))) := by
  have hg : guardP (ModOk (a : Int) (m : Int)) = some () := g_mod (by omega)
  unfold gMod
  simp [hg, nI]
theorem div_nat {a m : Nat} (h : 0 < m) (h2 : m ≤ 1000000000000) (ρ : Ev) : gDiv (.dat (.int (a : Nat))) (.dat (.int (m : Nat))) ρ = some (.dat (nI (a / m))) := by
  have hg : guardP (DivOk (a : Int) (m : Int)) = some () := g_div (by omega) (by omega)
  unfold gDiv
  simp [hg, nI]
theorem add_nat (a b : Nat) (ρ : Ev) : gAdd (.dat (.int (a : Nat))) (.dat (.int (b : Nat))) ρ = some (.dat (nI (a + b))) := by simp [nI]
theorem mul_nat {a b : Nat} (h : a ≤ 1000000000000 ∨ b ≤ 1000000000000) (ρ : Ev) : gMul (.dat (.int (a : Nat))) (.dat (.int (b : Nat))) ρ = some (.dat (nI (a * b))) := by
  have hg : guardP (MulOk (a : Int) (b : Int)) = some () := by
    rcases h with h | h
    · exact g_mulL (by omega) (by omega)
    · exact g_mulR (by omega) (by omega)
  rw [ev_mul]
  simp [hg, nI]
theorem addI_ok {a b : List Nat} (h : a.length + b.length ≤ 1000000) (ρ : Ev) : gAdd (.dat (tI a)) (.dat (tI b)) ρ = some (.dat (tI (a ++ b))) := by
  have := addT_ok (xs := a.map nI) (ys := b.map nI) (ρ := ρ) (by simpa using h)
  rw [← List.map_append] at this
  exact this
theorem repI_ok {x n : Nat} (h : n ≤ 100000) (ρ : Ev) : gMul (.dat (.tuple [.int (x : Nat)])) (.dat (.int (n : Nat))) ρ = some (.dat (tI (List.replicate n x))) := by
  have hg : guardP (-1000000 ≤ (n : Int) ∧ (n : Int) ≤ 1000000 ∧ [PyData.int (x : Nat)].length * ((n : Int)).toNat ≤ 1000000) = some () := guardP_pos ⟨by omega, by omega, by simp; omega⟩
  rw [ev_mul]
  simp only [ev_gI, ev_intOf_t, Option.bind_none, Option.none_or, ev_mulT, ev_tupOf, Option.bind_some, ev_intOf, hg, Option.map_some, Option.some_or]
  congr 2
  unfold tI
  rw [List.map_replicate, Int.toNat_natCast]
  congr 1
  induction n with
  | zero => rfl
  | succ n ih =>
    rw [List.replicate_succ, List.flatten_cons, ih (by omega) (guardP_pos ⟨by omega, by omega, by simp; omega⟩)]
    rfl
theorem eq_tI (a b : List Nat) (ρ : Ev) : gEq (.dat (tI a)) (.dat (tI b)) ρ = some (.dat (.bool (decide (a = b)))) := by
  have hg : guardP (min (tI a).depth (tI b).depth ≤ 60) = some () := guardP_pos (by
    unfold tI
    rw [depth_t, depth_t, map_nI, map_nI, depthAll_int, depthAll_int]; decide)
  rw [ev_eq]
  simp only [ev_py_dat, Option.bind_some, hg, Option.map_some]
  congr 3
  unfold tI
  rw [eqv_tt, map_nI, map_nI, eqvAll_ints, Bool.eq_iff_iff]
  simp only [beq_iff_eq, decide_eq_true_eq]
  exact ⟨fun h => by
    apply List.ext_getElem?
    intro i
    have := congrArg (fun l => l[i]?) h
    simp only [List.getElem?_map] at this
    cases ha : a[i]? <;> cases hb : b[i]? <;> rw [ha, hb] at this <;> simp at this ⊢
    omega, fun h => by rw [h]⟩
theorem pg_take {u : List Nat} {n i : Nat} : pg (u.take n) i = if i < n then pg u i else 0 := by
  unfold pg
  rw [List.getD_eq_getElem?_getD, List.getD_eq_getElem?_getD, List.getElem?_take]
  split <;> rfl
theorem pg_drop {u : List Nat} {n i : Nat} : pg (u.drop n) i = pg u (n + i) := by
  unfold pg
  rw [List.getD_eq_getElem?_getD, List.getD_eq_getElem?_getD, List.getElem?_drop]
theorem pg_app {a b : List Nat} {i : Nat} : pg (a ++ b) i = if i < a.length then pg a i else pg b (i - a.length) := by
  unfold pg
  rw [List.getD_eq_getElem?_getD, List.getD_eq_getElem?_getD, List.getD_eq_getElem?_getD, List.getElem?_append]
  split <;> rfl
theorem pg_rep {z i x : Nat} : pg (List.replicate z x) i = if i < z then x else 0 := by
  unfold pg
  rw [List.getD_eq_getElem?_getD, List.getElem?_replicate]
  split <;> rfl
theorem pg_cons0 {x : Nat} {u : List Nat} : pg (x :: u) 0 = x := rfl
theorem pg_consS {x i : Nat} {u : List Nat} : pg (x :: u) (i + 1) = pg u i := rfl
theorem cutI_to {u : List Nat} {n : Nat} (ρ : Ev) : gSl (.dat (tI u)) none (some (n : Int)) ρ = some (.dat (tI (u.take n))) := by
  show some (Hd.dat (.tuple (cutT (u.map nI) none (some _)))) = _
  rw [cut_to (by omega), ← List.map_take]
  rfl
theorem cutI_from {u : List Nat} {n : Nat} (ρ : Ev) : gSl (.dat (tI u)) (some (n : Int)) none ρ = some (.dat (tI (u.drop n))) := by
  show some (Hd.dat (.tuple (cutT (u.map nI) (some _) none))) = _
  rw [cut_from (by omega), ← List.map_drop]
  rfl
theorem cut_m1 (xs : List T) : cutT xs none (some (-1)) = xs.take (xs.length - 1) := by
  unfold cutT
  have : HT.sIx xs.length xs.length (some (-1)) = xs.length - 1 := by
    show (if (-1 : Int) < 0 then ((-1 : Int) + (xs.length : Int)).toNat else min (-1 : Int).toNat xs.length) = xs.length - 1
    rw [if_pos (by decide)]; omega
  rw [this, HT.sIx_none, List.drop_zero, Nat.sub_zero]
theorem cutI_m1 {u : List Nat} (ρ : Ev) : gSl (.dat (tI u)) none (some (-1)) ρ = some (.dat (tI (u.take (u.length - 1)))) := by
  show some (Hd.dat (.tuple (cutT (u.map nI) none (some _)))) = _
  rw [cut_m1, ← List.map_take, List.length_map]
  rfl
/-! ### comprehensions with two for -/
theorem lc2_lstE {α : Type} {e : α → T} {g g1 : GT} {te : FE} {f f1 : FE} {vs vs1 : List Nat} {ρ : Ev} {xs : List α} {i n : Nat} (F : α → Nat → T) (hf : f ρ = some (.plc i, ρ)) (hi : ρ[i]? = some (some (.obj (.lst (xs.map e))))) (hn : n ≤ 1000000) (hz : xs.length * n ≤ 1000000) (hw : wipeE ρ vs = ρ) (hb : backE ρ ρ vs = ρ)
    (h : ∀ x ∈ xs, ∃ ρ1, g (e x) ρ = some ρ1 ∧ f1 ρ1 = some (.dat (.int n), ρ1) ∧ wipeE ρ1 vs1 = ρ1 ∧ wipeE ρ1 vs = ρ ∧ ∀ k < n, ∃ ρ2 ρ3, g1 (.int k) ρ1 = some ρ2 ∧ te ρ2 = some (.dat (F x k), ρ3) ∧ wipeE ρ3 vs1 = ρ1) :
    fLc2 (fItE f) g fYes (fItR1 f1) g1 fYes te vs vs1 ρ = some (.tmp (.lst (xs.flatMap fun x => (List.range n).map (F x))), ρ) := by
  have hg : guardP (-(2 ^ 62) ≤ (n : Int) ∧ (n : Int) < 2 ^ 62) = some () := g_rg1 (by omega) (by omega)
  have key : ∀ ys : List α, (∀ x ∈ ys, ∃ ρ1, g (e x) ρ = some ρ1 ∧ f1 ρ1 = some (.dat (.int n), ρ1) ∧ wipeE ρ1 vs1 = ρ1 ∧ wipeE ρ1 vs = ρ ∧ ∀ k < n, ∃ ρ2 ρ3, g1 (.int k) ρ1 = some ρ2 ∧ te ρ2 = some (.dat (F x k), ρ3) ∧ wipeE ρ3 vs1 = ρ1) →
      fLc2L (ckOf (xs.map e) (some i)) g fYes (fItR1 f1) g1 fYes te vs vs1 (ys.map e) ρ = some (ys.flatMap fun x => (List.range n).map (F x), ρ) := by
    intro ys
    induction ys with
    | nil => intro _; rw [List.map_nil, fLc2L, guardP_pos (show ckOf _ (some i) ρ from hi)]; rfl
    | cons y ys ih =>
      intro hy
      obtain ⟨ρ1, e1, e2, e3, e4, e5⟩ := hy y List.mem_cons_self
      have inner : fLcL (ckOf ((List.range n).map fun i => PyData.int (0 + (i : Nat))) none) g1 fYes te vs1 ((List.range n).map fun i => PyData.int (0 + (i : Nat))) ρ1 = some ((List.range n).map (F y), ρ1) := by
        rw [lc_map (fun x => match x with | .int i => F y i.toNat | _ => .none) (by trivial) _ fun x hx => by
          obtain ⟨k, hk, rfl⟩ := List.mem_map.mp hx
          simpa using e5 k (List.mem_range.mp hk)]
        rw [List.map_map]
        congr 2
        apply List.map_congr_left
        intro k _
        simp
      rw [List.map_cons, fLc2L, guardP_pos (show ckOf _ (some i) ρ from hi)]
      simp only [Option.bind_some, e1, ev_yes, if_true, ev_itR1, e2, ev_intOf, hg, Option.map_some, Int.toNat_natCast, e3, inner, e4, ih fun x hx => hy x (List.mem_cons_of_mem _ hx), List.flatMap_cons]
  have hit : itOf (.plc i) ρ = some (xs.map e, some i) := by
    unfold itOf
    simp only [hi]
  have hlen : (xs.flatMap fun x => (List.range n).map (F x)).length ≤ 1000000 := by
    have : ∀ ys : List α, (ys.flatMap fun x => (List.range n).map (F x)).length = ys.length * n := by
      intro ys
      induction ys with
      | nil => simp
      | cons y ys ih => rw [List.flatMap_cons, List.length_append, ih, List.length_cons, Nat.succ_mul]; simp; omega
    rw [this]; exact hz
  unfold fLc2
  rw [ev_itE, hf]
  simp only [Option.bind_some, hit, Option.map_some, hw, key xs h, guard_small hlen, hb]
theorem range_mul {β : Type} (f : Nat → β) (n B : Nat) : (List.range (n * B)).map f = (List.range n).flatMap fun q => (List.range B).map fun l => f (q * B + l) := by
  induction n with
  | zero => simp
  | succ n ih =>
    rw [Nat.succ_mul, List.range_add, List.map_append, ih, List.range_succ, List.flatMap_append, List.map_map]
    simp
end PD

namespace PD
open PySem PySem.Spec PyProof.Rows L2
/-! ### words as numbers -/
def wf (B : Nat) (a : Nat) (w : List Nat) : Nat := w.foldl (fun a x => a * B + x) a
abbrev wc (B : Nat) (w : List Nat) : Nat := wf B 1 w
theorem wf_app (B a : Nat) (u v : List Nat) : wf B a (u ++ v) = wf B (wf B a u) v := by unfold wf; rw [List.foldl_append]
theorem wc_snoc (B : Nat) (w : List Nat) (l : Nat) : wc B (w ++ [l]) = wc B w * B + l := by rw [wc, wf_app]; rfl
theorem wf_ge {B : Nat} (hB : 1 ≤ B) : ∀ (w : List Nat) (a : Nat), a ≤ wf B a w
  | [], a => Nat.le_refl _
  | x :: w, a => Nat.le_trans (Nat.le_trans (Nat.le_mul_of_pos_right a hB) (Nat.le_add_right _ _)) (wf_ge hB w (a * B + x))
theorem wf_lt {B : Nat} : ∀ (u v : List Nat) (a b : Nat), a < b → u.length = v.length → (∀ x ∈ u, x < B) → wf B a u < wf B b v
  | [], [], a, b, h, _, _ => h
  | x :: u, y :: v, a, b, h, hl, hx => by
    have h1 := hx x (by simp)
    have : (a + 1) * B ≤ b * B := Nat.mul_le_mul_right _ h
    rw [Nat.add_mul] at this
    exact wf_lt u v (a * B + x) (b * B + y) (by omega) (by simpa using hl) (fun z hz => hx z (by simp [hz]))
  | [], _ :: _, _, _, _, h, _ => by cases h
  | _ :: _, [], _, _, _, h, _ => by cases h
theorem wf_len {B : Nat} (hB : 2 ≤ B) {u v : List Nat} (h : u.length < v.length) (hu : ∀ x ∈ u, x < B) : wc B u < wc B v := by
  obtain ⟨d, hd⟩ : ∃ d, v.length = u.length + (d + 1) := ⟨v.length - u.length - 1, by omega⟩
  have e : v = v.take (d + 1) ++ v.drop (d + 1) := (List.take_append_drop _ _).symm
  rw [e, wc, wc, wf_app]
  refine wf_lt _ _ _ _ ?_ (by rw [List.length_drop]; omega) hu
  cases hv : v with
  | nil => rw [hv] at h; simp at h
  | cons y r =>
    rw [List.take_succ_cons]
    have := wf_ge (B := B) (by omega) (r.take d) (1 * B + y)
    show 1 < wf B (1 * B + y) (r.take d)
    omega
def nl (u : List Nat) : List Int := u.map fun k : Nat => (k : Int)
theorem wf_lex {B : Nat} : ∀ (u v : List Nat) (a : Nat), u.length = v.length → (∀ x ∈ u, x < B) → (∀ x ∈ v, x < B) → ltL (nl u) (nl v) = decide (wf B a u < wf B a v)
  | [], [], a, _, _, _ => by simp [nl, ltL, wf]
  | x :: u, y :: v, a, hl, hx, hy => by
    unfold nl
    rw [List.map_cons, List.map_cons, ltL]
    have hx0 := hx x (by simp)
    have hy0 := hy y (by simp)
    have hx' : ∀ z ∈ u, z < B := fun z hz => hx z (by simp [hz])
    have hy' : ∀ z ∈ v, z < B := fun z hz => hy z (by simp [hz])
    by_cases e : x = y
    · subst e
      rw [if_pos rfl]
      exact wf_lex u v (a * B + x) (by simpa using hl) hx' hy'
    · rw [if_neg (by omega)]
      rcases Nat.lt_or_gt_of_ne e with h | h
      · have := wf_lt u v (a * B + x) (a * B + y) (by omega) (by simpa using hl) hx'
        rw [decide_eq_true (by omega : (x : Int) < y)]
        exact (decide_eq_true this).symm
      · have := wf_lt v u (a * B + y) (a * B + x) (by omega) (by simpa using hl.symm) hy'
        rw [decide_eq_false (by omega : ¬(x : Int) < y)]
        refine (decide_eq_false ?_).symm
        show ¬ wf B (a * B + x) u < wf B (a * B + y) v
        omega
  | [], _ :: _, _, h, _, _ => by cases h
  | _ :: _, [], _, h, _, _ => by cases h
theorem wf_inj {B : Nat} : ∀ (u v : List Nat) (a : Nat), u.length = v.length → (∀ x ∈ u, x < B) → (∀ x ∈ v, x < B) → wf B a u = wf B a v → u = v
  | [], [], a, _, _, _, _ => rfl
  | x :: u, y :: v, a, hl, hx, hy, h => by
    have hx' : ∀ z ∈ u, z < B := fun z hz => hx z (by simp [hz])
    have hy' : ∀ z ∈ v, z < B := fun z hz => hy z (by simp [hz])
    have h : wf B (a * B + x) u = wf B (a * B + y) v := h
    by_cases e : x = y
    · subst e
      rw [wf_inj u v (a * B + x) (by simpa using hl) hx' hy' h]
    · rcases Nat.lt_or_gt_of_ne e with h1 | h1
      · have := wf_lt u v (a * B + x) (a * B + y) (by omega) (by simpa using hl) hx'
        omega
      · have := wf_lt v u (a * B + y) (a * B + x) (by omega) (by simpa using hl.symm) hy'
        omega
  | [], _ :: _, _, h, _, _, _ => by cases h
  | _ :: _, [], _, h, _, _, _ => by cases h
/-! ### the order of the triples -/
def tri (w : Nat → List Nat) (s : Nat) : T := .tuple [.int ((w s).length : Nat), tI (w s), nI s]
theorem toks_lex : ∀ (u v : List Nat) (r s : List (Int ⊕ List Nat)), u.length = v.length →
    lexLt itemOrd (PySem.W.keyToksAll (u.map nI) ++ r) (PySem.W.keyToksAll (v.map nI) ++ s) = if u = v then lexLt itemOrd r s else ltL (nl u) (nl v)
  | [], [], r, s, _ => by
    rw [if_pos rfl]
    show lexLt itemOrd (.inl 0 :: r) (.inl 0 :: s) = _
    rw [lex_int, if_pos rfl]
  | x :: u, y :: v, r, s, h => by
    have ih := toks_lex u v r s (by simpa using h)
    show lexLt itemOrd (.inl 1 :: .inl (x : Int) :: (PySem.W.keyToksAll (u.map nI) ++ r)) (.inl 1 :: .inl (y : Int) :: (PySem.W.keyToksAll (v.map nI) ++ s)) = _
    rw [lex_int, if_pos rfl, lex_int]
    unfold nl at ih ⊢
    rw [List.map_cons, List.map_cons, ltL]
    by_cases e : x = y
    · subst e
      rw [if_pos rfl, if_pos rfl, ih]
      by_cases e2 : u = v
      · rw [if_pos e2, if_pos (by rw [e2])]
      · rw [if_neg e2, if_neg (by simpa using e2)]
    · rw [if_neg (by omega), if_neg (by simp [e]), if_neg (by omega)]
  | [], _ :: _, _, _, h => by cases h
  | _ :: _, [], _, _, h => by cases h
theorem tri_lt {B : Nat} (hB : 2 ≤ B) (w : Nat → List Nat) (a b : Nat) (ha : ∀ x ∈ w a, x < B) (hb : ∀ x ∈ w b, x < B) (hi : wc B (w a) = wc B (w b) → a = b) :
    lexLt itemOrd (PySem.W.keyToks (tri w a)) (PySem.W.keyToks (tri w b)) = decide (wc B (w a) < wc B (w b)) := by
  show lexLt itemOrd (.inl 1 :: .inl ((w a).length : Int) :: .inl 1 :: (PySem.W.keyToksAll ((w a).map nI) ++ (.inl 1 :: .inl (a : Int) :: [.inl 0]))) (.inl 1 :: .inl ((w b).length : Int) :: .inl 1 :: (PySem.W.keyToksAll ((w b).map nI) ++ (.inl 1 :: .inl (b : Int) :: [.inl 0]))) = _
  rw [lex_int, if_pos rfl, lex_int]
  by_cases hl : (w a).length = (w b).length
  · rw [if_pos (by omega), lex_int, if_pos rfl, toks_lex _ _ _ _ hl]
    by_cases e : w a = w b
    · rw [if_pos e]
      have : a = b := hi (by rw [e])
      subst this
      rw [lex_int, if_pos rfl, lex_int, if_pos rfl, lex_int, if_pos rfl]
      rw [show PyProof.Rows.lexLt itemOrd [] [] = false from rfl]
      exact (decide_eq_false (Nat.lt_irrefl _)).symm
    · rw [if_neg e]
      exact wf_lex _ _ 1 hl ha hb
  · rw [if_neg (by omega)]
    rcases Nat.lt_or_gt_of_ne hl with h | h
    · rw [decide_eq_true (by omega : ((w a).length : Int) < (w b).length)]
      exact (decide_eq_true (wf_len hB h ha)).symm
    · have := wf_len hB h hb
      rw [decide_eq_false (by omega : ¬((w a).length : Int) < (w b).length)]
      exact (decide_eq_false (by omega)).symm
theorem tri_le {B : Nat} (hB : 2 ≤ B) (w : Nat → List Nat) (a b : Nat) (ha : ∀ x ∈ w a, x < B) (hb : ∀ x ∈ w b, x < B) (hi : wc B (w b) = wc B (w a) → b = a) :
    PySem.W.dataLe false id (tri w a) (tri w b) = decide (wc B (w a) ≤ wc B (w b)) := by
  show (!lexLt itemOrd (PySem.W.keyToks (tri w b)) (PySem.W.keyToks (tri w a))) = _
  rw [tri_lt hB w b a hb ha hi, Bool.eq_iff_iff]
  simp
/-! ### arrangements of 0 .. n-1 -/
def IsP (s : List Nat) (n : Nat) : Prop := s.Perm (List.range n)
theorem IsP.len {s : List Nat} {n : Nat} (h : IsP s n) : s.length = n := by have := List.Perm.length_eq h; simpa using this
theorem IsP.nd {s : List Nat} {n : Nat} (h : IsP s n) : s.Nodup := (List.Perm.nodup_iff h).mpr List.nodup_range
theorem IsP.mem {s : List Nat} {n t : Nat} (h : IsP s n) : t ∈ s ↔ t < n := by rw [List.Perm.mem_iff h]; exact List.mem_range
theorem IsP.lt {s : List Nat} {n k : Nat} (h : IsP s n) (hk : k < n) : pg s k < n := h.mem.mp (pg_mem (by rw [h.len]; exact hk))
theorem IsP.ixlt {s : List Nat} {n t : Nat} (h : IsP s n) (ht : t < n) : s.idxOf t < n := by
  have := List.idxOf_lt_length_of_mem (h.mem.mpr ht)
  rwa [h.len] at this
theorem IsP.pi {s : List Nat} {n t : Nat} (h : IsP s n) (ht : t < n) : pg s (s.idxOf t) = t := by
  have h1 := List.idxOf_lt_length_of_mem (h.mem.mpr ht)
  have h2 : s[s.idxOf t]? = some t := by rw [List.getElem?_eq_getElem h1, List.getElem_idxOf h1]
  have h3 := pg_get h1
  rw [h2] at h3
  exact (Option.some.inj h3).symm
theorem IsP.inj {s : List Nat} {n j k : Nat} (h : IsP s n) (hj : j < n) (hk : k < n) (e : pg s j = pg s k) : j = k := by
  have h1 := pg_get (ps := s) (i := j) (by rw [h.len]; exact hj)
  have h2 := pg_get (ps := s) (i := k) (by rw [h.len]; exact hk)
  rw [e, ← h2] at h1
  exact (List.getElem?_inj (by rw [h.len]; exact hj) h.nd).mp h1
theorem IsP.ip {s : List Nat} {n k : Nat} (h : IsP s n) (hk : k < n) : s.idxOf (pg s k) = k := h.inj (h.ixlt (h.lt hk)) hk (h.pi (h.lt hk))
theorem IsP.ixinj {s : List Nat} {n t u : Nat} (h : IsP s n) (ht : t < n) (hu : u < n) (e : s.idxOf t = s.idxOf u) : t = u := by
  rw [← h.pi ht, ← h.pi hu, e]
theorem isP_range (n : Nat) : IsP (List.range n) n := List.Perm.refl _
/-! ### machines whose states stand in the order of their first words -/
structure Can (n B : Nat) (R : Nat → Nat → Nat) (w : Nat → List Nat) : Prop where
  hB : 2 ≤ B
  pos : 0 < n
  w0 : w 0 = []
  lt : ∀ k, k < n → ∀ l, l < B → R k l < n
  mono : ∀ k k', k < k' → k' < n → wc B (w k) < wc B (w k')
  le : ∀ k, k < n → ∀ l, l < B → wc B (w (R k l)) ≤ wc B (w k) * B + l
  par : ∀ q, q < n → q ≠ 0 → ∃ p l, p < n ∧ l < B ∧ w q = w p ++ [l] ∧ R p l = q
structure Src (n B : Nat) (M : Nat → Nat → Nat) (w : Nat → List Nat) : Prop where
  hB : 2 ≤ B
  pos : 0 < n
  w0 : w 0 = []
  let' : ∀ s, s < n → ∀ x ∈ w s, x < B
  lt : ∀ k, k < n → ∀ l, l < B → M k l < n
  inj : ∀ k k', k < n → k' < n → wc B (w k) = wc B (w k') → k = k'
  le : ∀ k, k < n → ∀ l, l < B → wc B (w (M k l)) ≤ wc B (w k) * B + l
  par : ∀ q, q < n → q ≠ 0 → ∃ p l, p < n ∧ l < B ∧ w q = w p ++ [l] ∧ M p l = q
/-- the order of the states by their first words -/
def srt (n B : Nat) (w : Nat → List Nat) : List Nat := (List.range n).mergeSort fun a b => decide (wc B (w a) ≤ wc B (w b))
theorem srt_p (n B : Nat) (w : Nat → List Nat) : IsP (srt n B w) n := List.mergeSort_perm _ _
theorem srt_le (n B : Nat) (w : Nat → List Nat) : (srt n B w).Pairwise fun a b => wc B (w a) ≤ wc B (w b) := by
  have := List.pairwise_mergeSort (le := fun a b => decide (wc B (w a) ≤ wc B (w b))) (fun a b c h1 h2 => by simp at *; omega) (fun a b => by simp; omega) (List.range n)
  exact this.imp fun h => by simpa using h
theorem Src.can {n B : Nat} {M : Nat → Nat → Nat} {w : Nat → List Nat} (S : Src n B M w) : Can n B (fun k l => (srt n B w).idxOf (M (pg (srt n B w) k) l)) (fun k => w (pg (srt n B w) k)) := by
  have P := srt_p n B w
  have L := srt_le n B w
  generalize srt n B w = s at *
  have mono : ∀ k k', k < k' → k' < n → wc B (w (pg s k)) < wc B (w (pg s k')) := fun k k' h h' => by
    have h1 : k < s.length := by rw [P.len]; omega
    have h2 : k' < s.length := by rw [P.len]; omega
    have := List.pairwise_iff_getElem.mp L k k' h1 h2 h
    have e1 : s[k] = pg s k := by have := pg_get h1; rw [List.getElem?_eq_getElem h1] at this; exact Option.some.inj this
    have e2 : s[k'] = pg s k' := by have := pg_get h2; rw [List.getElem?_eq_getElem h2] at this; exact Option.some.inj this
    rw [e1, e2] at this
    refine Nat.lt_of_le_of_ne this fun z => ?_
    have := P.inj (by omega) h' (S.inj _ _ (P.lt (by omega)) (P.lt h') z)
    omega
  have w0 : w (pg s 0) = [] := by
    by_cases h : s.idxOf 0 = 0
    · have := P.pi S.pos
      rw [h] at this
      rw [this]; exact S.w0
    · have := mono 0 (s.idxOf 0) (by omega) (P.ixlt S.pos)
      rw [P.pi S.pos, S.w0] at this
      have h2 : 1 ≤ wc B (w (pg s 0)) := wf_ge (B := B) (by have := S.hB; omega) (w (pg s 0)) 1
      have h3 : wc B [] = 1 := rfl
      omega
  refine ⟨S.hB, S.pos, w0, fun k hk l hl => P.ixlt (S.lt _ (P.lt hk) l hl), mono, fun k hk l hl => ?_, fun q hq h0 => ?_⟩
  · show wc B (w (pg s (s.idxOf (M (pg s k) l)))) ≤ _
    rw [P.pi (S.lt _ (P.lt hk) l hl)]
    exact S.le _ (P.lt hk) l hl
  · have hne : pg s q ≠ 0 := fun z => by
      have := mono 0 q (by omega) hq
      rw [z, S.w0, w0] at this
      omega
    obtain ⟨p, l, hp, hl, e1, e2⟩ := S.par _ (P.lt hq) hne
    refine ⟨s.idxOf p, l, P.ixlt hp, hl, ?_, ?_⟩
    · show w (pg s q) = w (pg s (s.idxOf p)) ++ [l]
      rw [P.pi hp]; exact e1
    · show s.idxOf (M (pg s (s.idxOf p)) l) = q
      rw [P.pi hp, e2, P.ip hq]
/-- the states found so far: those whose number is below b -/
structure Fnd (n B : Nat) (w : Nat → List Nat) (g b : Nat) : Prop where
  g0 : 1 ≤ g
  gn : g ≤ n
  iff : ∀ q, q < n → (q < g ↔ (q = 0 ∨ wc B (w q) < b))
theorem mulrow {B p p' l l' : Nat} (hl : l < B) (hl' : l' < B) (h : p * B + l = p' * B + l') : p = p' ∧ l = l' := by
  have hB : 0 < B := by omega
  have h1 : (p * B + l) / B = p := by rw [Nat.add_comm, Nat.add_mul_div_right _ _ hB, Nat.div_eq_of_lt hl]; omega
  have h2 : (p' * B + l') / B = p' := by rw [Nat.add_comm, Nat.add_mul_div_right _ _ hB, Nat.div_eq_of_lt hl']; omega
  rw [h, h2] at h1
  subst h1
  exact ⟨rfl, by omega⟩
section
variable {n B : Nat} {R : Nat → Nat → Nat} {w : Nat → List Nat} (C : Can n B R w)
include C
theorem Can.inj {k k' : Nat} (hk : k < n) (hk' : k' < n) (h : wc B (w k) = wc B (w k')) : k = k' := by
  rcases Nat.lt_trichotomy k k' with e | e | e
  · have := C.mono k k' e hk'; omega
  · exact e
  · have := C.mono k' k e hk; omega
theorem Can.start : Fnd n B w 1 (wc B (w 0) * B) := ⟨Nat.le_refl _, C.pos, fun q hq => ⟨fun h => .inl (by omega), fun h => by
  by_cases h0 : q = 0
  · omega
  rcases h with h | h
  · omega
  · obtain ⟨p, l, hp, hl, e, _⟩ := C.par q hq h0
    rw [e, wc_snoc, C.w0] at h
    have h1 : 1 ≤ wc B (w p) := wf_ge (B := B) (by have := C.hB; omega) (w p) 1
    have h2 := Nat.mul_le_mul_right B h1
    have h3 : wc B [] = 1 := rfl
    rw [h3] at h
    omega⟩⟩
theorem Can.step {g p l : Nat} (hp : p < n) (hl : l < B) (F : Fnd n B w g (wc B (w p) * B + l)) :
    (R p l < g ∧ Fnd n B w g (wc B (w p) * B + l + 1)) ∨ (¬ R p l < g ∧ R p l = g ∧ Fnd n B w (g + 1) (wc B (w p) * B + l + 1) ∧ w g = w p ++ [l]) := by
  have hq := C.lt p hp l hl
  have hle := C.le p hp l hl
  -- a state whose number is that of the step is the one that the step comes to
  have key : ∀ q, q < n → q ≠ 0 → wc B (w q) = wc B (w p) * B + l → q = R p l ∧ w q = w p ++ [l] := fun q hq h0 e => by
    obtain ⟨p', l', hp', hl', e1, e2⟩ := C.par q hq h0
    rw [e1, wc_snoc] at e
    obtain ⟨h1, h2⟩ := mulrow hl' hl e
    have := C.inj hp' hp h1
    subst this h2
    exact ⟨e2.symm, e1⟩
  by_cases h : R p l < g
  · refine .inl ⟨h, F.g0, F.gn, fun q hq' => ⟨fun z => ?_, fun z => ?_⟩⟩
    · rcases (F.iff q hq').mp z with z | z
      · exact .inl z
      · exact .inr (by omega)
    · by_cases h0 : q = 0
      · exact (F.iff q hq').mpr (.inl h0)
      rcases z with z | z
      · exact (F.iff q hq').mpr (.inl z)
      · by_cases e : wc B (w q) = wc B (w p) * B + l
        · rw [(key q hq' h0 e).1]; exact h
        · exact (F.iff q hq').mpr (.inr (by omega))
  · have hne : R p l ≠ 0 := fun z => h (by have := F.g0; omega)
    have e : wc B (w (R p l)) = wc B (w p) * B + l := by
      refine Nat.le_antisymm hle (Nat.le_of_not_lt fun z => h ((F.iff _ hq).mpr (.inr z)))
    have hg : R p l = g := by
      rcases Nat.lt_or_ge g (R p l) with z | z
      · have h1 := C.mono g (R p l) z hq
        have := (F.iff g (by omega)).mpr (.inr (by omega))
        omega
      · omega
    refine .inr ⟨h, hg, ⟨by omega, by omega, fun q hq' => ⟨fun z => ?_, fun z => ?_⟩⟩, ?_⟩
    · by_cases h1 : q < g
      · rcases (F.iff q hq').mp h1 with z | z
        · exact .inl z
        · exact .inr (by omega)
      · have : q = R p l := by omega
        rw [this, e]
        exact .inr (by omega)
    · by_cases h0 : q = 0
      · omega
      rcases z with z | z
      · omega
      · by_cases e' : wc B (w q) = wc B (w p) * B + l
        · rw [(key q hq' h0 e').1]; omega
        · have := (F.iff q hq').mpr (.inr (by omega))
          omega
    · rw [← hg]
      exact (key _ hq hne e).2
theorem Can.next {g p : Nat} (hp : p + 1 < n) (F : Fnd n B w g (wc B (w p) * B + B)) : Fnd n B w g (wc B (w (p + 1)) * B) := by
  refine ⟨F.g0, F.gn, fun q hq => ⟨fun z => ?_, fun z => ?_⟩⟩
  · rcases (F.iff q hq).mp z with z | z
    · exact .inl z
    · have h1 := Nat.mul_le_mul_right B (C.mono p (p + 1) (by omega) hp)
      rw [Nat.succ_mul] at h1
      exact .inr (by omega)
  · by_cases h0 : q = 0
    · have := F.g0; omega
    rcases z with z | z
    · omega
    · refine (F.iff q hq).mpr (.inr ?_)
      obtain ⟨p', l, hp', hl, e, _⟩ := C.par q hq h0
      rw [e, wc_snoc] at z ⊢
      have : p' ≤ p := by
        refine Nat.le_of_not_lt fun y => ?_
        have h1 : wc B (w (p + 1)) ≤ wc B (w p') := by
          rcases Nat.eq_or_lt_of_le y with y | y
          · rw [show p + 1 = p' from y]; exact Nat.le_refl _
          · exact Nat.le_of_lt (C.mono _ _ y hp')
        have := Nat.mul_le_mul_right B h1
        omega
      have h1 : wc B (w p') ≤ wc B (w p) := by
        rcases Nat.eq_or_lt_of_le this with y | y
        · rw [y]; exact Nat.le_refl _
        · exact Nat.le_of_lt (C.mono _ _ y (by omega))
      have := Nat.mul_le_mul_right B h1
      omega
theorem Can.last {g p : Nat} (hp : p + 1 = n) (F : Fnd n B w g (wc B (w p) * B + B)) : g = n := by
  rcases Nat.lt_or_ge g n with h | h
  · exfalso
    have : g < g := (F.iff g h).mpr (.inr (by
      have h0 : g ≠ 0 := by have := F.g0; omega
      obtain ⟨p', l, hp', hl, e, _⟩ := C.par g h h0
      rw [e, wc_snoc]
      have h1 : wc B (w p') ≤ wc B (w p) := by
        rcases Nat.eq_or_lt_of_le (show p' ≤ p by omega) with y | y
        · rw [y]; exact Nat.le_refl _
        · exact Nat.le_of_lt (C.mono _ _ y (by omega))
      have := Nat.mul_le_mul_right B h1
      omega))
    omega
  · have := F.gn; omega
theorem Can.seen {g p : Nat} (hp : p < n) (F : Fnd n B w g (wc B (w p) * B)) : p < g := (F.iff p hp).mpr (by
  by_cases h : p = 0
  · exact .inl h
  · have h1 : 1 ≤ wc B (w p) := wf_ge (B := B) (by have := C.hB; omega) (w p) 1
    have h2 := Nat.mul_le_mul_left (wc B (w p)) C.hB
    exact .inr (by omega))
end
section
variable {tr B n N : Nat} {R M : Nat → Nat → Nat} {w : Nat → List Nat} {e : Nat → Bool} {v : Nat → Nat}
def rowM (B : Nat) (f : Nat → Nat) : T := tI ((List.range B).map f)
def rowsM (B n : Nat) (M : Nat → Nat → Nat) : List T := (List.range n).map fun s => rowM B (M s)
def endsM (n : Nat) (e : Nat → Bool) : List T := (List.range n).map fun s => .bool (e s)
def mk (tr B n : Nat) (M : Nat → Nat → Nat) (e : Nat → Bool) : T := .tuple [.int (tr : Nat), .tuple (rowsM B n M), .tuple (endsM n e)]
@[simp] theorem rowsM_len (B n : Nat) (M : Nat → Nat → Nat) : (rowsM B n M).length = n := by simp [rowsM]
@[simp] theorem endsM_len (n : Nat) (e : Nat → Bool) : (endsM n e).length = n := by simp [endsM]
theorem rowsM_at {B n s : Nat} {M : Nat → Nat → Nat} (h : s < n) : atI (rowsM B n M) (s : Int) = some (rowM B (M s)) := PD.atI_nat (by unfold rowsM; rw [List.getElem?_map, List.getElem?_range h]; rfl)
theorem endsM_at {n s : Nat} {e : Nat → Bool} (h : s < n) : atI (endsM n e) (s : Int) = some (.bool (e s)) := PD.atI_nat (by unfold endsM; rw [List.getElem?_map, List.getElem?_range h]; rfl)
@[simp] theorem at3_0 (a b c : T) : atI [a, b, c] 0 = some a := rfl
@[simp] theorem at3_1 (a b c : T) : atI [a, b, c] 1 = some b := rfl
@[simp] theorem at3_2 (a b c : T) : atI [a, b, c] 2 = some c := rfl
theorem rowM_ext {B : Nat} {f g : Nat → Nat} (h : ∀ l, l < B → f l = g l) : rowM B f = rowM B g := by
  unfold rowM
  congr 1
  exact List.map_congr_left fun l hl => h l (List.mem_range.mp hl)
theorem mk_ext {tr B n : Nat} {M N : Nat → Nat → Nat} {e d : Nat → Bool} (h : ∀ s, s < n → ∀ l, l < B → M s l = N s l) (h2 : ∀ s, s < n → e s = d s) : mk tr B n M e = mk tr B n N d := by
  have e1 : rowsM B n M = rowsM B n N := List.map_congr_left fun s hs => rowM_ext (h s (List.mem_range.mp hs))
  have e2 : endsM n e = endsM n d := List.map_congr_left fun s hs => by rw [h2 s (List.mem_range.mp hs)]
  unfold mk
  rw [e1, e2]
/-- the states found, under their names -/
def fl (v : Nat → Nat) (g : Nat) : List T := ((List.range g).map v).map nI
@[simp] theorem fl_len (v : Nat → Nat) (g : Nat) : (fl v g).length = g := by simp [fl]
theorem fl_succ (v : Nat → Nat) (g : Nat) : fl v (g + 1) = fl v g ++ [nI (v g)] := by simp [fl, List.range_succ]
theorem fl_at {v : Nat → Nat} {g k : Nat} (h : k < g) : atI (fl v g) (k : Int) = some (nI (v k)) := PD.atI_nat (by unfold fl; rw [List.getElem?_map, List.getElem?_map, List.getElem?_range h]; rfl)
theorem hasL_nI (ns : List Nat) (k : Nat) : hasL (ns.map nI) (nI k) = decide (k ∈ ns) := by
  unfold hasL
  rw [decide_eq_decide, List.map_map, List.mem_map]
  constructor
  · rintro ⟨j, hj, e⟩
    have e : some (Leaf.num (j : Int)) = some (Leaf.num (k : Int)) := e
    injection e with e
    injection e with e
    have : j = k := by omega
    rwa [← this]
  · intro h
    exact ⟨k, h, rfl⟩
theorem hasL_fl {v : Nat → Nat} {n g k : Nat} (hv : ∀ i j, i < n → j < n → v i = v j → i = j) (hg : g ≤ n) (hk : k < n) : hasL (fl v g) (nI (v k)) = decide (k < g) := by
  unfold fl
  rw [hasL_nI, decide_eq_decide, List.mem_map]
  constructor
  · rintro ⟨j, hj, e⟩
    have hj := List.mem_range.mp hj
    have := hv j k (by omega) hk e
    omega
  · intro h
    exact ⟨k, List.mem_range.mpr h, rfl⟩
theorem rep1L {t : T} {k : Nat} {ρ : Ev} (h : k ≤ 1000) : gMul (.tmp (.lst [t])) (.dat (.int (k : Nat))) ρ = some (.tmp (.lst (List.replicate k t))) := by
  have e1 : gI MulOk (fun i j => .int (i * j)) (.tmp (.lst [t])) (.dat (.int (k : Nat))) ρ = none := rfl
  have hg : guardP (-1000000 ≤ (k : Int) ∧ (k : Int) ≤ 1000000 ∧ [t].length * ((k : Int)).toNat ≤ 1000000) = some () := guardP_pos ⟨by omega, by omega, by simp; omega⟩
  rw [ev_mul, e1, Option.none_or, ev_mulT, ev_mulL, ev_tupOf_l, Option.bind_none, Option.none_or, ev_lstOf_t, Option.bind_some, ev_intOf, Option.bind_some, hg]
  rw [Int.toNat_natCast]
  have : ∀ n, (List.replicate n [t]).flatten = List.replicate n t := fun n => by
    induction n with
    | zero => rfl
    | succ n ih => rw [List.replicate_succ, List.flatten_cons, ih]; rfl
  rw [this]
  rfl
/-- a list whose places v 0, v 1, .. were set -/
def Plcd (v : Nat → Nat) (N i : Nat) (f : Nat → T) (L : List T) : Prop := L.length = N ∧ ∀ k, k < i → L[v k]? = some (f k)
theorem Plcd.set {v : Nat → Nat} {N i n : Nat} {f : Nat → T} {L : List T} (h : Plcd v N i f L) (hv : ∀ i j, i < n → j < n → v i = v j → i = j) (hi : i < n) (hN : v i < N) : Plcd v N (i + 1) f (L.set (v i) (f i)) := by
  refine ⟨by rw [List.length_set]; exact h.1, fun k hk => ?_⟩
  by_cases e : k = i
  · subst e
    rw [List.getElem?_set_self (by rw [h.1]; exact hN)]
  · rw [List.getElem?_set_ne (fun z => e (hv _ _ (by omega) hi z.symm))]
    exact h.2 k (by omega)
theorem Plcd.all {s : List Nat} {n : Nat} {f : Nat → T} {L : List T} (h : Plcd (pg s) n n f L) (P : IsP s n) : L = (List.range n).map fun t => f (s.idxOf t) := by
  apply List.ext_getElem?
  intro t
  by_cases ht : t < n
  · have := h.2 _ (P.ixlt ht)
    rw [P.pi ht] at this
    rw [this, List.getElem?_map, List.getElem?_range ht]; rfl
  · rw [List.getElem?_eq_none (by rw [h.1]; omega), List.getElem?_eq_none (by simp; omega)]
def kvW (w : Nat → List Nat) (g : Nat) : List (T × T) := (List.range g).map fun q => (nI q, tI (w q))
theorem kvW_succ (w : Nat → List Nat) (g : Nat) : kvW w (g + 1) = kvW w g ++ [(nI g, tI (w g))] := by simp [kvW, List.range_succ]
theorem key_nI (p q : Nat) : PD.keyOf (nI p) = PD.keyOf (nI q) ↔ p = q := by
  constructor
  · intro h
    have h : some (NestedKey.num (p : Int)) = some (NestedKey.num (q : Int)) := h
    injection h with h
    injection h with h
    omega
  · intro h; rw [h]
theorem dGet_kvW (w : Nat → List Nat) (q : Nat) : ∀ g, dGet (kvW w g) (nI q) = if q < g then some (tI (w q)) else none
  | 0 => by simp [dGet, kvW]
  | g + 1 => by
    have ih := dGet_kvW w q g
    unfold dGet at ih ⊢
    rw [kvW_succ, List.find?_append]
    by_cases h : q < g
    · rw [if_pos h] at ih
      rw [if_pos (by omega)]
      cases hf : List.find? (fun p : T × T => decide (PD.keyOf p.1 = PD.keyOf (nI q))) (kvW w g) with
      | none => rw [hf] at ih; cases ih
      | some x => rw [hf] at ih; exact ih
    · rw [if_neg h] at ih
      cases hf : List.find? (fun p : T × T => decide (PD.keyOf p.1 = PD.keyOf (nI q))) (kvW w g) with
      | some x => rw [hf] at ih; cases ih
      | none =>
        by_cases e : g = q
        · subst e
          rw [if_pos (by omega)]
          simp [hf]
        · rw [if_neg (by omega)]
          have : ¬ PD.keyOf (nI g) = PD.keyOf (nI q) := fun z => e ((key_nI g q).mp z)
          simp [this, hf]
theorem kOk_kvW (w : Nat → List Nat) (q g : Nat) : kOk (kvW w g) (nI q) = true := by
  show (kvW w g).all (fun p => (lfOf p.1).isSome) = true
  rw [List.all_eq_true]
  intro p hp
  unfold kvW at hp
  obtain ⟨k, _, rfl⟩ := List.mem_map.mp hp
  rfl
theorem dPut_kvW (w : Nat → List Nat) (g : Nat) : dPut (kvW w g) (nI g) (tI (w g)) = kvW w (g + 1) := by
  unfold dPut
  rw [if_neg, kvW_succ]
  rw [List.any_eq_true]
  rintro ⟨p, hp, h⟩
  unfold kvW at hp
  obtain ⟨k, hk, rfl⟩ := List.mem_map.mp hp
  have := (key_nI k g).mp (of_decide_eq_true h)
  have := List.mem_range.mp hk
  omega
def nmM (s : List Nat) (M : Nat → Nat → Nat) : Nat → Nat → Nat := fun t l => pg s (M (s.idxOf t) l)
def nmE (s : List Nat) (e : Nat → Bool) : Nat → Bool := fun t => e (s.idxOf t)
theorem row_named {s : List Nat} (P : IsP s N) (hB : B ≤ 1000) {i : Nat} (hM : ∀ l, l < B → M i l < N) {g : GT} {te f : FE} {vs : List Nat} {ρ : Ev} (hf : f ρ = some (.dat (rowM B (M i)), ρ)) (hw : wipeE ρ vs = ρ) (hb : backE ρ ρ vs = ρ)
    (h : ∀ q, q < N → atI (s.map nI) (q : Int) = some (nI (pg s q)) → ∃ ρ1 ρ3, g (nI q) ρ = some ρ1 ∧ te ρ1 = some (.dat (nI (pg s q)), ρ3) ∧ wipeE ρ3 vs = ρ) :
    fLc (fItE f) g fYes te vs ρ = some (.tmp (.lst ((List.range B).map fun l => nI (pg s (M i l)))), ρ) :=
  lc_tupE (e := fun l => nI (M i l)) (xs := List.range B) (fun l => nI (pg s (M i l))) (by rw [hf]; simp [rowM, tI, Function.comp_def]) (by simpa using by omega) hw hb fun l hl => by
    have hl := hM l (List.mem_range.mp hl)
    exact h _ hl (atI_nI (by rw [P.len]; exact hl))
theorem row_back {s : List Nat} {i : Nat} : PyData.tuple ((List.range B).map fun l => nI (pg s (M i l))) = rowM B fun l => pg s (M i l) := by simp [rowM, tI, Function.comp_def]
theorem perm_up {s : List Nat} {n : Nat} (h : IsP s n) : IsP (0 :: s.map (· + 1)) (n + 1) := by
  have : (List.range n).map (· + 1) = (List.range' 1 n) := by
    rw [List.range'_eq_map_range]
    exact List.map_congr_left fun x _ => Nat.add_comm _ _
  unfold IsP
  have h2 : List.range (n + 1) = 0 :: List.range' 1 n := by rw [List.range_eq_range', List.range'_succ]
  rw [h2, ← this]
  exact (List.Perm.map _ h).cons 0
theorem two_one (tr : Nat) (h : tr ≤ 1000) (ρ : Ev) : gShl (.dat (.int 1)) (.dat (.int (tr : Nat))) ρ = some (.dat (nI (2 ^ tr))) := by
  have := shl_nat (n := 1) (k := tr) (by decide) (by omega) ρ
  simpa using this
theorem fam_of {α : Type} {e : α → T} {Q : α → Prop} : ∀ {out : List T}, (∀ (k : Nat) (t : T), out[k]? = some t → ∃ a : α, t = e a ∧ Q a) → ∃ as : List α, out = as.map e ∧ ∀ a ∈ as, Q a
  | [], _ => ⟨[], rfl, by simp⟩
  | x :: xs, h => by
    obtain ⟨a, rfl, ha⟩ := h 0 x rfl
    obtain ⟨as, rfl, has⟩ := fam_of (e := e) (Q := Q) (out := xs) fun k t hk => h (k + 1) t hk
    exact ⟨a :: as, rfl, fun b hb => by
      cases hb with
      | head => exact ha
      | tail _ hb => exact has b hb⟩
theorem any_nats (es : List Nat) (k : Nat) : (es.map nI).any (fun y => PyData.eqv y (.int (k : Nat))) = decide (k ∈ es) := by
  induction es with
  | nil => rfl
  | cons x xs ih =>
    have h : PyData.eqv (nI x) (.int (k : Nat)) = ((x : Int) == (k : Int)) := by simp [nI]
    have : PyData.eqv (nI x) (.int (k : Nat)) = decide (x = k) := by
      rw [h, Bool.eq_iff_iff]
      simp
      omega
    rw [List.map_cons, List.any_cons, ih, this, Bool.eq_iff_iff, Bool.or_eq_true, decide_eq_true_eq, decide_eq_true_eq, decide_eq_true_eq, List.mem_cons, eq_comm (a := x)]
theorem gin_l {es : List Nat} {k i j : Nat} {ρ : Ev} (hi : ρ[i]? = some (some (.obj (.lst (es.map nI))))) (hj : ρ[j]? = some (di k)) : fBin gIn (fVar j) (fVar i) ρ = some (.dat (.bool (decide (k ∈ es))), ρ) := by
  have h1 : fVar j ρ = some (.dat (.int k), ρ) := by simp [hj]
  have h2 : fVar i ρ = some (.plc i, ρ) := by simp [hi]
  have h3 : py (.plc i) ρ = some (.list (es.map nI)) := by unfold py; simp only [hi]
  have h4 : guardP (min (PyData.depthAll (es.map nI)) (PyData.depth (.int (k : Nat))) ≤ 60) = some () := guardP_pos (by rw [depth_i]; omega)
  rw [ev_bin, h1, Option.bind_some, h2, Option.bind_some, ev_in, h3, ← any_nats]
  show ((some (PyData.int (k : Nat))).bind _).map _ = _
  simp only [Option.bind_some, seqOf, h4, Option.map_some]
theorem gin_t {es : List Nat} {k i j : Nat} {ρ : Ev} (hi : ρ[i]? = some (dd (tI es))) (hj : ρ[j]? = some (di k)) : fBin gIn (fVar j) (fVar i) ρ = some (.dat (.bool (decide (k ∈ es))), ρ) := by
  have h1 : fVar j ρ = some (.dat (.int k), ρ) := by simp [hj]
  have h2 : fVar i ρ = some (.dat (tI es), ρ) := by simp [hi]
  have h4 : guardP (min (PyData.depthAll (es.map nI)) (PyData.depth (.int (k : Nat))) ≤ 60) = some () := guardP_pos (by rw [depth_i]; omega)
  rw [ev_bin, h1, Option.bind_some, h2, Option.bind_some, ev_in, ← any_nats]
  show ((some (PyData.int (k : Nat))).bind _).map _ = _
  unfold tI
  show ((some (PyData.int (k : Nat))).bind fun d => (some (PyData.tuple (es.map nI))).bind _).map _ = _
  simp only [Option.bind_some, seqOf, h4, Option.map_some]
def ctM (ws : List Nat) (m : Nat) : Nat → Nat → Nat := fun k l => (k + pg ws l) % m
theorem ct_row (ws : List Nat) (m k : Nat) : PyData.tuple (ws.map fun x => nI ((k + x) % m)) = rowM ws.length (ctM ws m k) := by
  unfold rowM tI ctM
  congr 1
  rw [List.map_map]
  apply List.ext_getElem?
  intro i
  by_cases h : i < ws.length
  · rw [List.getElem?_map, List.getElem?_map, List.getElem?_range h, pg_get h]; rfl
  · rw [List.getElem?_eq_none (by simp; omega), List.getElem?_eq_none (by simp; omega)]
def ldM (a most : Nat) : Nat → Nat → Nat := fun k l => if l = a then min (k + 1) most else k
theorem depthAll_nats : ∀ ns : List Nat, PyData.depthAll (ns.map nI) = 0
  | [] => rfl
  | x :: xs => by
    have e : PyData.depthAll (nI x :: xs.map nI) = max (nI x).depth (PyData.depthAll (xs.map nI)) := rfl
    rw [List.map_cons, e, depthAll_nats xs, nI, depth_i]; rfl
theorem place_p {s : List Nat} (P : IsP s n) {t i j : Nat} (ht : t < n) {ρ : Ev} (hi : ρ[i]? = some (some (.obj (.lst (s.map nI))))) (hj : ρ[j]? = some (di t)) : fPl true fPlace (fVar i) (fVar j) ρ = some (.dat (nI (s.idxOf t)), ρ) := by
  have h1 : fVar j ρ = some (.dat (.int t), ρ) := by simp [hj]
  have h2 : fVar i ρ = some (.plc i, ρ) := by simp [hi]
  have h3 : rdL (.plc i) ρ = some (s.map nI) := by unfold rdL; simp only [hi]
  have h4 : guardP (min (PyData.depthAll (s.map nI)) (PyData.depth (.int (t : Nat))) ≤ 60) = some () := guardP_pos (by rw [depth_i]; omega)
  have h5 : fPlace (s.map nI) (.int (t : Nat)) = some ((s.idxOf t : Nat) : Int) := by
    refine place_ok (k := s.idxOf t) ?_ rfl fun k hk y hy => ?_
    · have := pg_get (ps := s) (i := s.idxOf t) (by rw [P.len]; exact P.ixlt ht)
      rw [List.getElem?_map, this, P.pi ht]; rfl
    · have hkn : k < n := by have := P.ixlt ht; omega
      have := pg_get (ps := s) (i := k) (by rw [P.len]; exact hkn)
      rw [List.getElem?_map, this] at hy
      have hy : some (nI (pg s k)) = some y := hy
      cases hy
      have h : PyData.eqv (nI (pg s k)) (.int (t : Nat)) = (((pg s k : Nat) : Int) == (t : Int)) := by simp [nI]
      rw [h, beq_eq_false_iff_ne]
      intro z
      have z : pg s k = t := by omega
      have := P.ip hkn
      rw [z] at this
      omega
  unfold fPl
  rw [h2, Option.bind_some]
  simp only [if_true, h3, Option.bind_some, h1, h4, h5]
  rfl
/-- the order read back -/
theorem bk_p {s : List Nat} (P : IsP s n) : IsP ((List.range n).map s.idxOf) n := by
  have h : s.map s.idxOf = List.range n := by
    refine pg_ext (by rw [List.length_map, P.len, List.length_range]) fun i hi => ?_
    rw [List.length_map, P.len] at hi
    have h1 := pg_get (ps := s.map s.idxOf) (i := i) (by rw [List.length_map, P.len]; exact hi)
    have h2 := pg_get (ps := List.range n) (i := i) (by simpa using hi)
    rw [List.getElem?_map, pg_get (by rw [P.len]; exact hi)] at h1
    rw [List.getElem?_range hi] at h2
    have h1 : some (s.idxOf (pg s i)) = some (pg (s.map s.idxOf) i) := h1
    rw [P.ip hi] at h1
    exact (Option.some.inj h1).symm.trans (Option.some.inj h2)
  unfold IsP
  have := (List.Perm.map s.idxOf P).symm
  rwa [h] at this
theorem bk_pg {s : List Nat} {t : Nat} (ht : t < n) : pg ((List.range n).map s.idxOf) t = s.idxOf t := pg_range_map ht
theorem bk_ix {s : List Nat} (P : IsP s n) {t : Nat} (ht : t < n) : ((List.range n).map s.idxOf).idxOf t = pg s t := by
  have h := bk_p P
  have := h.ip (P.lt ht)
  rw [bk_pg (P.lt ht), P.ip ht] at this
  exact this
theorem sok_mk {tr B n : Nat} {M : Nat → Nat → Nat} {e : Nat → Bool} (hB : B ≤ 1000) (hn : n ≤ 1000) : SOk 5 (mk tr B n M e) := by
  have h1 : SOk 4 (.tuple (rowsM B n M)) := sok_map (fun s _ => sok_nats (k := 1) (by simpa using by omega)) (by simpa using by omega)
  have h2 : SOk 4 (.tuple (endsM n e)) := sok_map (fun s _ => .bool 2 _) (by simpa using by omega)
  exact sok_cons (.int 3 _) (sok_cons h1 (sok_cons h2 sok_nil (by simp)) (by simp)) (by simp)
theorem lst_of_pg {s : List Nat} (P : IsP s n) {α : Type} (f : Nat → α) : s.map f = (List.range n).map fun k => f (pg s k) := by
  have : s = (List.range n).map (pg s) := by
    have := list_pg s
    rwa [P.len] at this
  calc s.map f = ((List.range n).map (pg s)).map f := by rw [← this]
    _ = _ := by rw [List.map_map]; rfl
def swp (k j q : Nat) : Nat := if q = k then j else if q = j then k else q
theorem swp_swp (k j q : Nat) : swp k j (swp k j q) = q := by
  unfold swp
  split <;> split <;> (try split) <;> omega
theorem swp_lt {k j q : Nat} (hk : k < n) (hj : j < n) (hq : q < n) : swp k j q < n := by
  unfold swp
  split
  · exact hj
  · split
    · exact hk
    · exact hq
theorem swp_p {k j : Nat} (hk : k < n) (hj : j < n) : IsP ((List.range n).map (swp k j)) n := by
  refine (List.perm_ext_iff_of_nodup ?_ List.nodup_range).mpr fun a => ?_
  · exact List.pairwise_map.mpr (List.nodup_range.imp fun {a b} h z => h (by rw [← swp_swp k j a, z, swp_swp]))
  · rw [List.mem_map, List.mem_range]
    constructor
    · rintro ⟨q, hq, rfl⟩
      exact swp_lt hk hj (List.mem_range.mp hq)
    · intro h
      exact ⟨swp k j a, List.mem_range.mpr (swp_lt hk hj h), swp_swp k j a⟩
theorem swp_pg {k j q : Nat} (hq : q < n) : pg ((List.range n).map (swp k j)) q = swp k j q := pg_range_map hq
theorem swp_ix {k j q : Nat} (hk : k < n) (hj : j < n) (hq : q < n) : ((List.range n).map (swp k j)).idxOf q = swp k j q := by
  have := (swp_p hk hj).ip (swp_lt hk hj hq)
  rwa [swp_pg (swp_lt hk hj hq), swp_swp] at this
theorem nm_nm {s t : List Nat} (hlt : ∀ q, q < n → s.idxOf q < n) (ht : ∀ q, q < n → t.idxOf q < n) (h : ∀ q, q < n → pg t (pg s q) = q) (h2 : ∀ q, q < n → s.idxOf (t.idxOf q) = q) (hM : ∀ k, k < n → ∀ l, l < B → M k l < n) :
    mk tr B n (nmM t (nmM s M)) (nmE t (nmE s e)) = mk tr B n M e := by
  refine mk_ext (fun q hq l hl => ?_) fun q hq => ?_
  · show pg t (pg s (M (s.idxOf (t.idxOf q)) l)) = _
    rw [h2 q hq, h _ (hM q hq l hl)]
  · show e (s.idxOf (t.idxOf q)) = _
    rw [h2 q hq]
/-- some of the numbers below n, drawn -/
theorem lc_pick {β : Type} {g : GT} {tt : FB} {te : FE} {f : FE} {vs : List Nat} {n : Nat} (S : β → Ev) (b0 : β) (hf : f (S b0) = some (.dat (.int n), S b0)) (hn : n ≤ 1000000) (hw : ∀ b, wipeE (S b) vs = S b) (hb : ∀ b b', backE (S b) (S b') vs = S b')
    (h : ∀ k, k < n → ∀ b, ∃ ρ1 c ρ2 b', g (nI k) (S b) = some ρ1 ∧ tt ρ1 = some (c, ρ2) ∧ wipeE ρ2 vs = S b' ∧ te ρ2 = some (.dat (nI k), ρ2)) :
    ∃ (own : List Nat) (b' : β), fLc (fItR1 f) g tt te vs (S b0) = some (.tmp (.lst (own.map nI)), S b') ∧ ∀ k ∈ own, k < n := by
  obtain ⟨out, b', e, own, rfl, h1⟩ := lc_i (β := β) (ck := fun _ => True) (g := g) (tt := tt) (te := te) (vs := vs) (fun _ o => S o)
    (fun i acc _ => ∃ own : List Nat, acc = own.map nI ∧ ∀ k ∈ own, k < i) ((List.range n).map fun i => PyData.int (0 + (i : Nat))) (fun i x acc o hi ⟨own, ea, h1⟩ => by
      have hlt := (List.getElem?_eq_some_iff.mp hi).1
      rw [List.length_map, List.length_range] at hlt
      rw [List.getElem?_map, List.getElem?_range hlt] at hi
      cases hi
      obtain ⟨ρ1, c, ρ2, b', q1, q2, q3, q4⟩ := h i hlt o
      have q1 : g (.int (0 + (i : Nat))) (S o) = some ρ1 := by rw [Int.zero_add]; exact q1
      refine ⟨trivial, ρ1, c, ρ2, q1, q2, ?_⟩
      cases c with
      | true =>
        refine .inl ⟨rfl, nI i, ρ2, b', q4, q3, own ++ [i], by simp [ea], fun k hk => ?_⟩
        rcases List.mem_append.mp hk with hk | hk
        · have := h1 k hk; omega
        · simp at hk; omega
      | false => exact .inr ⟨rfl, b', q3, own, ea, fun k hk => by have := h1 k hk; omega⟩) (fun _ _ _ => trivial) b0 ⟨[], rfl, by simp⟩
  rw [List.length_map, List.length_range] at h1
  refine ⟨own, b', ?_, h1⟩
  have hg : guardP (-(2 ^ 62) ≤ (n : Int) ∧ (n : Int) < 2 ^ 62) = some () := g_rg1 (by omega) (by omega)
  rw [ev_lc, ev_itR1, hf]
  simp only [Option.bind_some, ev_intOf, hg, Option.map_some, Int.toNat_natCast, List.length_map, List.length_range, guard_small hn, hw]
  rw [show (ckOf ((List.range n).map fun i => PyData.int (0 + (i : Nat))) none) = fun _ => True from rfl, e]
  simp only [Option.map_some, hb]
theorem rc_succ (B a j : Nat) : wc B (List.replicate (j + 1) a) = wc B (List.replicate j a) * B + a := by
  rw [List.replicate_succ', wc_snoc]
theorem rc_pos {B : Nat} (hB : 2 ≤ B) (a j : Nat) : 1 ≤ wc B (List.replicate j a) := wf_ge (by omega) _ _
theorem rc_lt {B : Nat} (hB : 2 ≤ B) (a : Nat) {i j : Nat} (h : i < j) : wc B (List.replicate i a) < wc B (List.replicate j a) := by
  induction j with
  | zero => omega
  | succ j ih =>
    rw [rc_succ]
    have h1 := rc_pos hB a j
    have h2 := Nat.mul_le_mul_left (wc B (List.replicate j a)) hB
    by_cases e : i = j
    · subst e; omega
    · have := ih (by omega); omega
theorem rc_le {B : Nat} (hB : 2 ≤ B) (a : Nat) {i j : Nat} (h : i ≤ j) : wc B (List.replicate i a) ≤ wc B (List.replicate j a) := by
  rcases Nat.eq_or_lt_of_le h with h | h
  · rw [h]; exact Nat.le_refl _
  · exact Nat.le_of_lt (rc_lt hB a h)
theorem src_one {n B : Nat} {M : Nat → Nat → Nat} {a : Nat} {j : Nat → Nat} (hB : 2 ≤ B) (hn : 0 < n) (ha : a < B) (j0 : j 0 = 0) (ji : ∀ k k', k < n → k' < n → j k = j k' → k = k')
    (hM : ∀ k, k < n → ∀ l, l < B → M k l < n ∧ (j (M k l) ≤ j k ∨ (l = a ∧ j (M k l) = j k + 1))) (hp : ∀ q, q < n → q ≠ 0 → ∃ p, p < n ∧ M p a = q ∧ j q = j p + 1) : Src n B M fun k => List.replicate (j k) a := by
  refine ⟨hB, hn, by rw [j0]; rfl, fun s _ x hx => ?_, fun k hk l hl => (hM k hk l hl).1, fun k k' hk hk' h => ji k k' hk hk' ?_, fun k hk l hl => ?_, fun q hq h0 => ?_⟩
  · rw [List.eq_of_mem_replicate hx]; exact ha
  · rcases Nat.lt_trichotomy (j k) (j k') with z | z | z
    · have := rc_lt hB a z; omega
    · exact z
    · have := rc_lt hB a z; omega
  · have h1 := rc_pos hB a (j k)
    have h2 := Nat.mul_le_mul_left (wc B (List.replicate (j k) a)) hB
    rcases (hM k hk l hl).2 with z | ⟨z1, z2⟩
    · have := rc_le hB a z
      omega
    · show wc B (List.replicate (j (M k l)) a) ≤ _
      rw [z2, rc_succ, z1]
      exact Nat.le_refl _
  · obtain ⟨p, h1, h2, h3⟩ := hp q hq h0
    exact ⟨p, a, h1, ha, by show List.replicate (j q) a = _; rw [h3, List.replicate_succ'], h2⟩
theorem src_ring {m a B : Nat} (hB : 2 ≤ B) (hm : 2 ≤ m) (ha : a < B) {ws : List Nat} (hw : ∀ l, l < B → pg ws l = if l = a then 1 else 0) : Src m B (ctM ws m) fun k => List.replicate k a := by
  refine src_one (j := fun k => k) hB (by omega) ha rfl (fun _ _ _ _ z => z) (fun k hk l hl => ?_) fun q hq h0 => ?_
  · have h := hw l hl
    unfold ctM
    rw [h]
    refine ⟨Nat.mod_lt _ (by omega), ?_⟩
    by_cases e : l = a
    · rw [if_pos e]
      by_cases z : k + 1 = m
      · rw [z, Nat.mod_self]; omega
      · rw [Nat.mod_eq_of_lt (by omega)]; exact .inr ⟨e, rfl⟩
    · rw [if_neg e, Nat.add_zero, Nat.mod_eq_of_lt hk]
      exact .inl (Nat.le_refl _)
  · refine ⟨q - 1, by omega, ?_, by omega⟩
    unfold ctM
    rw [hw a ha, if_pos rfl, Nat.mod_eq_of_lt (by omega)]
    omega
theorem src_ladder {most a B : Nat} (hB : 2 ≤ B) (ha : a < B) : Src (most + 1) B (ldM a most) fun k => List.replicate k a := by
  refine src_one (j := fun k => k) hB (by omega) ha rfl (fun _ _ _ _ z => z) (fun k hk l hl => ?_) fun q hq h0 => ?_
  · unfold ldM
    by_cases e : l = a
    · rw [if_pos e]
      refine ⟨by omega, ?_⟩
      by_cases z : k = most
      · exact .inl (by omega)
      · exact .inr ⟨e, by omega⟩
    · rw [if_neg e]
      exact ⟨hk, .inl (Nat.le_refl _)⟩
  · refine ⟨q - 1, by omega, ?_, by omega⟩
    unfold ldM
    rw [if_pos rfl]
    omega
def one (B a : Nat) : List Nat := (List.range B).map fun l => if l = a then 1 else 0
end
end PD

namespace LW
open PySem PySem.Spec PyProof.Rows L2 PD
def topS (i : Nat) : Stmt := PySem.Challenge.pw_everynumber_k08_showings_of_rings_and_la.main.body.getD i (.Pass ⟨0, 0, 0, 0⟩)

abbrev s_letters_for : Stmt := topS 1
theorem sc_letters_for : FnScope ["tracks"] ["tracks"] (defScope s_letters_for) := ⟨rfl, rfl, rfl, by decide +kernel, rfl, by decide +kernel, by decide +kernel⟩
noncomputable def d_letters_for : FS := (fRet [0] (fBin gShl (fC (.int 1)) (fVar 0)))
noncomputable def m_letters_for : Den := runD 1 1 d_letters_for
theorem b_letters_for {P : Program} {w : World} {K : PySem.W.Frag} {mg : Str → Option Value} {base : Heap} (B : Bs mg) (f : Addr) (cdv : Value) (A : Around) (outer : List PySem.Env) (s : Shared) (H : Hp) (E : XK) (hcd : PySem.W.kdsCode K cdv = true) (hr : Room 0 (A.deeper (envOfC "letters_for" (defScope s_letters_for) s.heap.objs.size f cdv))) :
    DSs (cxOf CX0 P w K mg base ["tracks"] "letters_for" (defScope s_letters_for) f cdv A outer s H E).nox (List.range 1) (defBody s_letters_for) d_letters_for :=
  have nd := (sc_letters_for).nd
  (dss_one (ds_ret (de_bin dop_shl de_int (de_var 0 (pv 0)))))
theorem f_letters_for {P : Program} {w : World} {K : PySem.W.Frag} {mg : Str → Option Value} {base : Heap} (A : At K mg "letters_for" s_letters_for ["tracks"]) (B : Bs mg) : Df P w K mg base "letters_for" 1 1 m_letters_for :=
  df_mkC A sc_letters_for rfl (b_letters_for B)
abbrev s_words_to_states : Stmt := topS 3
theorem sc_words_to_states : FnScope ["machine", "words", "state", "row", "letter"] ["machine"] (defScope s_words_to_states) := ⟨rfl, rfl, rfl, by decide +kernel, rfl, by decide +kernel, by decide +kernel⟩
noncomputable def le_words_to_states_1 : FE := (fBin gIxD (fVar 1) (fVar 2))
noncomputable def lb_words_to_states_1 : FS := (fWipe [4] (fIfS (fTst (fBin (gInD true) (fBin gIx (fVar 3) (fVar 4)) (fVar 1))) (fSetD (fBin gAdd (fBin gIxD (fVar 1) (fVar 2)) (fTupN (fCons (fVar 4) fNil))) (fVar 1) (fBin gIx (fVar 3) (fVar 4))) fNext))
noncomputable def lb_words_to_states_2 : FS := (fWipe [2, 3, 4] (fSeq (fSet false 3 (fBin gIx (fBin gIx (fVar 0) (fC (.int 1))) (fVar 2)))
    (fFor (fItR1 (fCB gLen (fCons (fVar 3) fNil))) (tgN false 4) lb_words_to_states_1)))
noncomputable def d_words_to_states : FS := (fSeq (fSet false 1 (fDic1 (fC (.int 0)) (fTupN fNil)))
    (fSeq (fFor (fItR1 (fCB gLen (fCons (fBin gIx (fVar 0) (fC (.int 1))) fNil))) (tgN false 2) lb_words_to_states_2)
    (fRet [0] (fCB gTuple (fCons (fLc (fItR1 (fCB gLen (fCons (fBin gIx (fVar 0) (fC (.int 1))) fNil))) (tgN false 2) fYes le_words_to_states_1 [2]) fNil)))))
noncomputable def m_words_to_states : Den := runD 5 1 d_words_to_states
theorem b_words_to_states {P : Program} {w : World} {K : PySem.W.Frag} {mg : Str → Option Value} {base : Heap} (B : Bs mg) (f : Addr) (cdv : Value) (A : Around) (outer : List PySem.Env) (s : Shared) (H : Hp) (E : XK) (hcd : PySem.W.kdsCode K cdv = true) (hr : Room 0 (A.deeper (envOfC "words_to_states" (defScope s_words_to_states) s.heap.objs.size f cdv))) :
    DSs (cxOf CX0 P w K mg base ["machine", "words", "state", "row", "letter"] "words_to_states" (defScope s_words_to_states) f cdv A outer s H E).nox (List.range 1) (defBody s_words_to_states) d_words_to_states :=
  have nd := (sc_words_to_states).nd
  (dss_cons (ds_set (chk := false) (i := 1) nd rfl (by first | exact Or.inl rfl | exact Or.inr rfl) (de_dic1 hr.units de_int (de_tupN da_nil fNil_len)))
    (dss_cons (ds_for (pl2 := [0]) PassesOwn.never rfl (di_r1 rfl B.range (de_callB dc_len rfl B.len bt_len (da_cons (de_ix (de_var 0 (pv 0)) de_int (fun _ _ => rfl)) da_nil))) (dg_name (chk := false) (i := 2) nd rfl (by first | exact Or.inl rfl | exact Or.inr rfl)) (dss_wipe [2, 3, 4] (dss_cons (ds_set (chk := false) (i := 3) nd rfl (by first | exact Or.inl rfl | exact Or.inr rfl) (de_ix (de_ix (de_var 0 (pv 0)) de_int (fun _ _ => rfl)) (de_var 2 (pv 2)) (fun _ _ => rfl)))
    (dss_one (ds_for (pl2 := [0]) PassesOwn.never rfl (di_r1 rfl B.range (de_callB dc_len rfl B.len bt_len (da_cons (de_var 3 (pv 3)) da_nil))) (dg_name (chk := false) (i := 4) nd rfl (by first | exact Or.inl rfl | exact Or.inr rfl)) (dss_wipe [4] (dss_one (ds_if (dt_cmp (dop_notInD hr.units) (de_ix (de_var 3 (pv 3)) (de_var 4 (pv 4)) (fun _ _ => rfl)) (de_var 1 (pv 1))) (dss_one (ds_setD hr.units (de_bin dop_add (de_ixD hr.units (de_var 1 (pv 1)) (de_var 2 (pv 2)) (fun _ _ => rfl)) (de_tupN (da_cons (de_var 4 (pv 4)) da_nil) (fCons_len fNil_len))) (de_var 1 (pv 1)) (de_ix (de_var 3 (pv 3)) (de_var 4 (pv 4)) (fun _ _ => rfl)))) dss_nil)) (by decide)) (fun _ h => h) live_r1))) (by decide)) (fun _ h => h) live_r1)
    (dss_one (ds_ret (de_callTy dc_tuple rfl B.tuple bt_tuple (da_cons (de_lc (own := [("state", 2)]) rfl nd (di_r1 rfl B.range (de_callB dc_len rfl B.len bt_len (da_cons (de_ix (de_var 0 (pv 0)) de_int (fun _ _ => rfl)) da_nil))) (blkOk_by (by kernel_rfl)) (by decide) (go_name (chk := false) (i := 2)) (fun _ _ _ _ _ => (dg_name (chk := false) (i := 2) nd rfl (by first | exact Or.inl rfl | exact Or.inr rfl))) (fun _ _ _ _ _ => dts_nil) (fun _ _ _ _ _ => (de_ixD hr.units (de_var 1 (pv 1)) (de_var 2 (pv 2)) (fun _ _ => rfl)))) da_nil))))))
theorem f_words_to_states {P : Program} {w : World} {K : PySem.W.Frag} {mg : Str → Option Value} {base : Heap} (A : At K mg "words_to_states" s_words_to_states ["machine"]) (B : Bs mg) : Df P w K mg base "words_to_states" 1 1 m_words_to_states :=
  df_mkC A sc_words_to_states rfl (b_words_to_states B)
abbrev s_state_from : Stmt := topS 5
theorem sc_state_from : FnScope ["machine", "state", "word", "letter"] ["machine", "state", "word"] (defScope s_state_from) := ⟨rfl, rfl, rfl, by decide +kernel, rfl, by decide +kernel, by decide +kernel⟩
noncomputable def lb_state_from_1 : FS := (fWipe [3] (fSet true 1 (fBin gIx (fBin gIx (fBin gIx (fVar 0) (fC (.int 1))) (fVar 1)) (fVar 3))))
noncomputable def d_state_from : FS := (fSeq (fFor (fItE (fVar 2)) (tgN false 3) lb_state_from_1)
    (fRet [0, 1, 2] (fVar 1)))
noncomputable def m_state_from : Den := runD 4 3 d_state_from
theorem b_state_from {P : Program} {w : World} {K : PySem.W.Frag} {mg : Str → Option Value} {base : Heap} (B : Bs mg) (f : Addr) (cdv : Value) (A : Around) (outer : List PySem.Env) (s : Shared) (H : Hp) (E : XK) (hcd : PySem.W.kdsCode K cdv = true) (hr : Room 0 (A.deeper (envOfC "state_from" (defScope s_state_from) s.heap.objs.size f cdv))) :
    DSs (cxOf CX0 P w K mg base ["machine", "state", "word", "letter"] "state_from" (defScope s_state_from) f cdv A outer s H E).nox (List.range 3) (defBody s_state_from) d_state_from :=
  have nd := (sc_state_from).nd
  (dss_cons (ds_for (pl2 := [2, 0, 1, 2]) PassesOwn.never rfl (di_e (de_var 2 (pv 2))) (dg_name (chk := false) (i := 3) nd rfl (by first | exact Or.inl rfl | exact Or.inr rfl)) (dss_wipe [3] (dss_one (ds_set (chk := true) (i := 1) nd rfl (by first | exact Or.inl rfl | exact Or.inr rfl) (de_ix (de_ix (de_ix (de_var 0 (pv 0)) de_int (fun _ _ => rfl)) (de_var 1 (pv 1)) (fun _ _ => rfl)) (de_var 3 (pv 3)) (fun _ _ => rfl)))) (by decide)) (fun _ h => List.mem_cons_of_mem _ h) (live_var (by decide)))
    (dss_one (ds_ret (de_var 1 (pv 1)))))
theorem f_state_from {P : Program} {w : World} {K : PySem.W.Frag} {mg : Str → Option Value} {base : Heap} (A : At K mg "state_from" s_state_from ["machine", "state", "word"]) (B : Bs mg) : Df P w K mg base "state_from" 1 3 m_state_from :=
  df_mkC A sc_state_from rfl (b_state_from B)
abbrev s_state_behind : Stmt := topS 6
theorem sc_state_behind : FnScope ["machine", "word"] ["machine", "word"] (defScope s_state_behind) := ⟨rfl, rfl, rfl, by decide +kernel, rfl, by decide +kernel, by decide +kernel⟩
noncomputable def d_state_behind : FS := (fRet [0, 1] (fCall m_state_from (fCons (fVar 0) (fCons (fC (.int 0)) (fCons (fVar 1) fNil)))))
noncomputable def m_state_behind : Den := runD 2 2 d_state_behind
theorem b_state_behind {P : Program} {w : World} {K : PySem.W.Frag} {mg : Str → Option Value} {base : Heap} (B : Bs mg) (D_state_from : Df P w K mg base "state_from" 1 3 m_state_from) (f : Addr) (cdv : Value) (A : Around) (outer : List PySem.Env) (s : Shared) (H : Hp) (E : XK) (hcd : PySem.W.kdsCode K cdv = true) (hr : Room 1 (A.deeper (envOfC "state_behind" (defScope s_state_behind) s.heap.objs.size f cdv))) :
    DSs (cxOf CX0 P w K mg base ["machine", "word"] "state_behind" (defScope s_state_behind) f cdv A outer s H E).nox (List.range 2) (defBody s_state_behind) d_state_behind :=
  have nd := (sc_state_behind).nd
  (dss_one (ds_ret (de_callD D_state_from (hr.mono (by first | decide | omega)) rfl (fCons_len (fCons_len (fCons_len fNil_len))) (da_cons (de_var 0 (pv 0)) (da_cons de_int (da_cons (de_var 1 (pv 1)) da_nil))))))
theorem f_state_behind {P : Program} {w : World} {K : PySem.W.Frag} {mg : Str → Option Value} {base : Heap} (A : At K mg "state_behind" s_state_behind ["machine", "word"]) (B : Bs mg) (D_state_from : Df P w K mg base "state_from" 1 3 m_state_from) : Df P w K mg base "state_behind" 2 2 m_state_behind :=
  df_mkC A sc_state_behind rfl (b_state_behind B D_state_from)
abbrev s_pairs_behind : Stmt := topS 8
theorem sc_pairs_behind : FnScope ["one", "other", "pair", "first", "second", "letter"] ["one", "other", "pair"] (defScope s_pairs_behind) := ⟨rfl, rfl, rfl, by decide +kernel, rfl, by decide +kernel, by decide +kernel⟩
noncomputable def le_pairs_behind_1 : FE := (fTupN (fCons (fBin gIx (fVar 3) (fVar 5)) (fCons (fBin gIx (fVar 4) (fVar 5)) fNil)))
noncomputable def d_pairs_behind : FS := (fSeq (fAsg (tgTup (tgCons (tgN false 3) (tgCons (tgN false 4) tgNil))) (fTupN (fCons (fBin gIx (fBin gIx (fVar 0) (fC (.int 1))) (fBin gIx (fVar 2) (fC (.int 0)))) (fCons (fBin gIx (fBin gIx (fVar 1) (fC (.int 1))) (fBin gIx (fVar 2) (fC (.int 1)))) fNil))))
    (fRet [0, 1, 2] (fLc (fItR1 (fCB gLen (fCons (fVar 3) fNil))) (tgN false 5) fYes le_pairs_behind_1 [5])))
noncomputable def m_pairs_behind : Den := runD 6 3 d_pairs_behind
theorem b_pairs_behind {P : Program} {w : World} {K : PySem.W.Frag} {mg : Str → Option Value} {base : Heap} (B : Bs mg) (f : Addr) (cdv : Value) (A : Around) (outer : List PySem.Env) (s : Shared) (H : Hp) (E : XK) (hcd : PySem.W.kdsCode K cdv = true) (hr : Room 0 (A.deeper (envOfC "pairs_behind" (defScope s_pairs_behind) s.heap.objs.size f cdv))) :
    DSs (cxOf CX0 P w K mg base ["one", "other", "pair", "first", "second", "letter"] "pairs_behind" (defScope s_pairs_behind) f cdv A outer s H E).nox (List.range 3) (defBody s_pairs_behind) d_pairs_behind :=
  have nd := (sc_pairs_behind).nd
  (dss_cons (ds_asg (de_tupN (da_cons (de_ix (de_ix (de_var 0 (pv 0)) de_int (fun _ _ => rfl)) (de_ix (de_var 2 (pv 2)) de_int (fun _ _ => rfl)) (fun _ _ => rfl)) (da_cons (de_ix (de_ix (de_var 1 (pv 1)) de_int (fun _ _ => rfl)) (de_ix (de_var 2 (pv 2)) de_int (fun _ _ => rfl)) (fun _ _ => rfl)) da_nil)) (fCons_len (fCons_len fNil_len))) (dg_tup rfl (dgs_cons (dg_name (chk := false) (i := 3) nd rfl (by first | exact Or.inl rfl | exact Or.inr rfl)) (dgs_cons (dg_name (chk := false) (i := 4) nd rfl (by first | exact Or.inl rfl | exact Or.inr rfl)) dgs_nil)) (lenCons (lenCons lenNil))))
    (dss_one (ds_ret (de_lc (own := [("letter", 5)]) rfl nd (di_r1 rfl B.range (de_callB dc_len rfl B.len bt_len (da_cons (de_var 3 (pv 3)) da_nil))) (blkOk_by (by kernel_rfl)) (by decide) (go_name (chk := false) (i := 5)) (fun _ _ _ _ _ => (dg_name (chk := false) (i := 5) nd rfl (by first | exact Or.inl rfl | exact Or.inr rfl))) (fun _ _ _ _ _ => dts_nil) (fun _ _ _ _ _ => (de_tupN (da_cons (de_ix (de_var 3 (pv 3)) (de_var 5 (pv 5)) (fun _ _ => rfl)) (da_cons (de_ix (de_var 4 (pv 4)) (de_var 5 (pv 5)) (fun _ _ => rfl)) da_nil)) (fCons_len (fCons_len fNil_len))))))))
theorem f_pairs_behind {P : Program} {w : World} {K : PySem.W.Frag} {mg : Str → Option Value} {base : Heap} (A : At K mg "pairs_behind" s_pairs_behind ["one", "other", "pair"]) (B : Bs mg) : Df P w K mg base "pairs_behind" 1 3 m_pairs_behind :=
  df_mkC A sc_pairs_behind rfl (b_pairs_behind B)
abbrev s_do_ends_differ : Stmt := topS 10
theorem sc_do_ends_differ : FnScope ["one", "other", "pair"] ["one", "other", "pair"] (defScope s_do_ends_differ) := ⟨rfl, rfl, rfl, by decide +kernel, rfl, by decide +kernel, by decide +kernel⟩
noncomputable def d_do_ends_differ : FS := (fRet [0, 1, 2] (fBin gNe (fBin gIx (fBin gIx (fVar 0) (fC (.int 2))) (fBin gIx (fVar 2) (fC (.int 0)))) (fBin gIx (fBin gIx (fVar 1) (fC (.int 2))) (fBin gIx (fVar 2) (fC (.int 1))))))
noncomputable def m_do_ends_differ : Den := runD 3 3 d_do_ends_differ
theorem b_do_ends_differ {P : Program} {w : World} {K : PySem.W.Frag} {mg : Str → Option Value} {base : Heap} (B : Bs mg) (f : Addr) (cdv : Value) (A : Around) (outer : List PySem.Env) (s : Shared) (H : Hp) (E : XK) (hcd : PySem.W.kdsCode K cdv = true) (hr : Room 0 (A.deeper (envOfC "do_ends_differ" (defScope s_do_ends_differ) s.heap.objs.size f cdv))) :
    DSs (cxOf CX0 P w K mg base ["one", "other", "pair"] "do_ends_differ" (defScope s_do_ends_differ) f cdv A outer s H E).nox (List.range 3) (defBody s_do_ends_differ) d_do_ends_differ :=
  have nd := (sc_do_ends_differ).nd
  (dss_one (ds_ret (de_cmp (dop_ne hr.units) (de_ix (de_ix (de_var 0 (pv 0)) de_int (fun _ _ => rfl)) (de_ix (de_var 2 (pv 2)) de_int (fun _ _ => rfl)) (fun _ _ => rfl)) (de_ix (de_ix (de_var 1 (pv 1)) de_int (fun _ _ => rfl)) (de_ix (de_var 2 (pv 2)) de_int (fun _ _ => rfl)) (fun _ _ => rfl)))))
theorem f_do_ends_differ {P : Program} {w : World} {K : PySem.W.Frag} {mg : Str → Option Value} {base : Heap} (A : At K mg "do_ends_differ" s_do_ends_differ ["one", "other", "pair"]) (B : Bs mg) : Df P w K mg base "do_ends_differ" 1 3 m_do_ends_differ :=
  df_mkC A sc_do_ends_differ rfl (b_do_ends_differ B)
abbrev s_word_back : Stmt := topS 11
theorem sc_word_back : FnScope ["ways", "pair", "letters", "letter"] ["ways", "pair"] (defScope s_word_back) := ⟨rfl, rfl, rfl, by decide +kernel, rfl, by decide +kernel, by decide +kernel⟩
noncomputable def lt_word_back_1 : FB := (fTst (fBin gNotN (fBin gIxD (fVar 0) (fVar 1)) (fC .none)))
noncomputable def lb_word_back_1 : FS := (fWipe [3] (fSeq (fAsg (tgTup (tgCons (tgN true 1) (tgCons (tgN false 3) tgNil))) (fBin gIxD (fVar 0) (fVar 1)))
    (fExpr (fMt gAppend (fVar 2) (fCons (fVar 3) fNil)))))
noncomputable def d_word_back : FS := (fSeq (fSet false 2 (fLstN fNil))
    (fSeq (fWh lt_word_back_1 lb_word_back_1)
    (fRet [0, 1] (fCB gTuple (fCons (fRevL (fVar 2)) fNil)))))
noncomputable def m_word_back : Den := runD 4 2 d_word_back
theorem b_word_back {P : Program} {w : World} {K : PySem.W.Frag} {mg : Str → Option Value} {base : Heap} (B : Bs mg) (f : Addr) (cdv : Value) (A : Around) (outer : List PySem.Env) (s : Shared) (H : Hp) (E : XK) (hcd : PySem.W.kdsCode K cdv = true) (hr : Room 0 (A.deeper (envOfC "word_back" (defScope s_word_back) s.heap.objs.size f cdv))) :
    DSs (cxOf CX0 P w K mg base ["ways", "pair", "letters", "letter"] "word_back" (defScope s_word_back) f cdv A outer s H E).nox (List.range 2) (defBody s_word_back) d_word_back :=
  have nd := (sc_word_back).nd
  (dss_cons (ds_set (chk := false) (i := 2) nd rfl (by first | exact Or.inl rfl | exact Or.inr rfl) (de_lstN da_nil fNil_len))
    (dss_cons (ds_while PassesOwn.never (dt_cmp dop_notN (de_ixD hr.units (de_var 0 (pv 0)) (de_var 1 (pv 1)) (fun _ _ => rfl)) de_non) (dss_wipe [3] (dss_cons (ds_asg (de_ixD hr.units (de_var 0 (pv 0)) (de_var 1 (pv 1)) (fun _ _ => rfl)) (dg_tup rfl (dgs_cons (dg_name (chk := true) (i := 1) nd rfl (by first | exact Or.inl rfl | exact Or.inr rfl)) (dgs_cons (dg_name (chk := false) (i := 3) nd rfl (by first | exact Or.inl rfl | exact Or.inr rfl)) dgs_nil)) (lenCons (lenCons lenNil))))
    (dss_one (ds_expr (de_mt dm_append PySem.F.slot_list_append PySem.F.type_list_append mt_append (de_var 2 (pv 2)) (da_cons (de_var 3 (pv 3)) da_nil))))) (by decide)))
    (dss_one (ds_ret (de_callTy dc_tuple rfl B.tuple bt_tuple (da_cons (de_revL (de_var 2 (pv 2))) da_nil))))))
theorem f_word_back {P : Program} {w : World} {K : PySem.W.Frag} {mg : Str → Option Value} {base : Heap} (A : At K mg "word_back" s_word_back ["ways", "pair"]) (B : Bs mg) : Df P w K mg base "word_back" 1 2 m_word_back :=
  df_mkC A sc_word_back rfl (b_word_back B)
abbrev s_parting_from : Stmt := topS 12
theorem sc_parting_from : FnScope ["one", "other", "first", "ways", "found", "at", "behind", "letter"] ["one", "other", "first"] (defScope s_parting_from) := ⟨rfl, rfl, rfl, by decide +kernel, rfl, by decide +kernel, by decide +kernel⟩
noncomputable def sd_parting_from_1 : FS := (fSet false 3 (fDic1 (fVar 2) (fC .none)))
noncomputable def sd_parting_from_2 : FS := (fSet false 4 (fLstN (fCons (fVar 2) fNil)))
noncomputable def sd_parting_from_3 : FS := (fSet false 5 (fC (.int 0)))
noncomputable def lb_parting_from_1 : FS := (fWipe [7] (fIfS (fTst (fBin (gInD true) (fBin gIx (fVar 6) (fVar 7)) (fVar 3))) (fSeq (fSetD (fTupN (fCons (fBin gIx (fVar 4) (fVar 5)) (fCons (fVar 7) fNil))) (fVar 3) (fBin gIx (fVar 6) (fVar 7)))
    (fExpr (fMt gAppend (fVar 4) (fCons (fBin gIx (fVar 6) (fVar 7)) fNil)))) fNext))
noncomputable def lt_parting_from_1 : FB := (fTst (fBin gLt (fVar 5) (fCB gLen (fCons (fVar 4) fNil))))
noncomputable def lb_parting_from_2 : FS := (fWipe [6, 7] (fSeq (fIfS (fTst (fCall m_do_ends_differ (fCons (fVar 0) (fCons (fVar 1) (fCons (fBin gIx (fVar 4) (fVar 5)) fNil))))) (fRet [0, 1, 2] (fCall m_word_back (fCons (fVar 3) (fCons (fBin gIx (fVar 4) (fVar 5)) fNil)))) fNext)
    (fSeq (fSet false 6 (fCall m_pairs_behind (fCons (fVar 0) (fCons (fVar 1) (fCons (fBin gIx (fVar 4) (fVar 5)) fNil)))))
    (fSeq (fFor (fItR1 (fCB gLen (fCons (fVar 6) fNil))) (tgN false 7) lb_parting_from_1)
    (fAug false 5 (gI0 fun i j => .int (i + j)) (fC (.int 1)))))))
noncomputable def sd_parting_from_4 : FS := (fWh lt_parting_from_1 lb_parting_from_2)
noncomputable def sd_parting_from_5 : FS := (fRet [0, 1, 2] (fC .none))
noncomputable def d_parting_from : FS := (fSeq sd_parting_from_1 (fSeq sd_parting_from_2 (fSeq sd_parting_from_3 (fSeq sd_parting_from_4 sd_parting_from_5))))
noncomputable def m_parting_from : Den := runD 8 3 d_parting_from
theorem b_parting_from {P : Program} {w : World} {K : PySem.W.Frag} {mg : Str → Option Value} {base : Heap} (B : Bs mg) (D_pairs_behind : Df P w K mg base "pairs_behind" 1 3 m_pairs_behind) (D_do_ends_differ : Df P w K mg base "do_ends_differ" 1 3 m_do_ends_differ) (D_word_back : Df P w K mg base "word_back" 1 2 m_word_back) (f : Addr) (cdv : Value) (A : Around) (outer : List PySem.Env) (s : Shared) (H : Hp) (E : XK) (hcd : PySem.W.kdsCode K cdv = true) (hr : Room 1 (A.deeper (envOfC "parting_from" (defScope s_parting_from) s.heap.objs.size f cdv))) :
    DSs (cxOf CX0 P w K mg base ["one", "other", "first", "ways", "found", "at", "behind", "letter"] "parting_from" (defScope s_parting_from) f cdv A outer s H E).nox (List.range 3) (defBody s_parting_from) d_parting_from :=
  have nd := (sc_parting_from).nd
  (dss_cons (ds_set (chk := false) (i := 3) nd rfl (by first | exact Or.inl rfl | exact Or.inr rfl) (de_dic1 hr.units (de_var 2 (pv 2)) de_non))
    (dss_cons (ds_set (chk := false) (i := 4) nd rfl (by first | exact Or.inl rfl | exact Or.inr rfl) (de_lstN (da_cons (de_var 2 (pv 2)) da_nil) (fCons_len fNil_len)))
    (dss_cons (ds_set (chk := false) (i := 5) nd rfl (by first | exact Or.inl rfl | exact Or.inr rfl) de_int)
    (dss_cons (ds_while PassesOwn.never (dt_cmp (dop_ltA hr.units) (de_var 5 (pv 5)) (de_callB dc_len rfl B.len bt_len (da_cons (de_var 4 (pv 4)) da_nil))) (dss_wipe [6, 7] (dss_cons (ds_if (dt_val (de_callD D_do_ends_differ (hr.mono (by first | decide | omega)) rfl (fCons_len (fCons_len (fCons_len fNil_len))) (da_cons (de_var 0 (pv 0)) (da_cons (de_var 1 (pv 1)) (da_cons (de_ix (de_var 4 (pv 4)) (de_var 5 (pv 5)) (fun _ _ => rfl)) da_nil))))) (dss_one (ds_ret (de_callD D_word_back (hr.mono (by first | decide | omega)) rfl (fCons_len (fCons_len fNil_len)) (da_cons (de_var 3 (pv 3)) (da_cons (de_ix (de_var 4 (pv 4)) (de_var 5 (pv 5)) (fun _ _ => rfl)) da_nil))))) dss_nil)
    (dss_cons (ds_set (chk := false) (i := 6) nd rfl (by first | exact Or.inl rfl | exact Or.inr rfl) (de_callD D_pairs_behind (hr.mono (by first | decide | omega)) rfl (fCons_len (fCons_len (fCons_len fNil_len))) (da_cons (de_var 0 (pv 0)) (da_cons (de_var 1 (pv 1)) (da_cons (de_ix (de_var 4 (pv 4)) (de_var 5 (pv 5)) (fun _ _ => rfl)) da_nil)))))
    (dss_cons (ds_for (pl2 := [0, 1, 2]) PassesOwn.never rfl (di_r1 rfl B.range (de_callB dc_len rfl B.len bt_len (da_cons (de_var 6 (pv 6)) da_nil))) (dg_name (chk := false) (i := 7) nd rfl (by first | exact Or.inl rfl | exact Or.inr rfl)) (dss_wipe [7] (dss_one (ds_if (dt_cmp (dop_notInD hr.units) (de_ix (de_var 6 (pv 6)) (de_var 7 (pv 7)) (fun _ _ => rfl)) (de_var 3 (pv 3))) (dss_cons (ds_setD hr.units (de_tupN (da_cons (de_ix (de_var 4 (pv 4)) (de_var 5 (pv 5)) (fun _ _ => rfl)) (da_cons (de_var 7 (pv 7)) da_nil)) (fCons_len (fCons_len fNil_len))) (de_var 3 (pv 3)) (de_ix (de_var 6 (pv 6)) (de_var 7 (pv 7)) (fun _ _ => rfl)))
    (dss_one (ds_expr (de_mt dm_append PySem.F.slot_list_append PySem.F.type_list_append mt_append (de_var 4 (pv 4)) (da_cons (de_ix (de_var 6 (pv 6)) (de_var 7 (pv 7)) (fun _ _ => rfl)) da_nil))))) dss_nil)) (by decide)) (fun _ h => h) live_r1)
    (dss_one (ds_aug (chk := false) (i := 5) nd rfl (by first | exact Or.inl rfl | exact Or.inr rfl) de_int dip_addI))))) (by decide)))
    (dss_one (ds_ret de_non))))))
theorem f_parting_from {P : Program} {w : World} {K : PySem.W.Frag} {mg : Str → Option Value} {base : Heap} (A : At K mg "parting_from" s_parting_from ["one", "other", "first"]) (B : Bs mg) (D_pairs_behind : Df P w K mg base "pairs_behind" 1 3 m_pairs_behind) (D_do_ends_differ : Df P w K mg base "do_ends_differ" 1 3 m_do_ends_differ) (D_word_back : Df P w K mg base "word_back" 1 2 m_word_back) : Df P w K mg base "parting_from" 2 3 m_parting_from :=
  df_mkC A sc_parting_from rfl (b_parting_from B D_pairs_behind D_do_ends_differ D_word_back)
abbrev s_parting_of_states : Stmt := topS 13
theorem sc_parting_of_states : FnScope ["machine", "i", "j"] ["machine", "i", "j"] (defScope s_parting_of_states) := ⟨rfl, rfl, rfl, by decide +kernel, rfl, by decide +kernel, by decide +kernel⟩
noncomputable def d_parting_of_states : FS := (fRet [0, 1, 2] (fCall m_parting_from (fCons (fVar 0) (fCons (fVar 0) (fCons (fTupN (fCons (fVar 1) (fCons (fVar 2) fNil))) fNil)))))
noncomputable def m_parting_of_states : Den := runD 3 3 d_parting_of_states
theorem b_parting_of_states {P : Program} {w : World} {K : PySem.W.Frag} {mg : Str → Option Value} {base : Heap} (B : Bs mg) (D_parting_from : Df P w K mg base "parting_from" 2 3 m_parting_from) (f : Addr) (cdv : Value) (A : Around) (outer : List PySem.Env) (s : Shared) (H : Hp) (E : XK) (hcd : PySem.W.kdsCode K cdv = true) (hr : Room 2 (A.deeper (envOfC "parting_of_states" (defScope s_parting_of_states) s.heap.objs.size f cdv))) :
    DSs (cxOf CX0 P w K mg base ["machine", "i", "j"] "parting_of_states" (defScope s_parting_of_states) f cdv A outer s H E).nox (List.range 3) (defBody s_parting_of_states) d_parting_of_states :=
  have nd := (sc_parting_of_states).nd
  (dss_one (ds_ret (de_callD D_parting_from (hr.mono (by first | decide | omega)) rfl (fCons_len (fCons_len (fCons_len fNil_len))) (da_cons (de_var 0 (pv 0)) (da_cons (de_var 0 (pv 0)) (da_cons (de_tupN (da_cons (de_var 1 (pv 1)) (da_cons (de_var 2 (pv 2)) da_nil)) (fCons_len (fCons_len fNil_len))) da_nil))))))
theorem f_parting_of_states {P : Program} {w : World} {K : PySem.W.Frag} {mg : Str → Option Value} {base : Heap} (A : At K mg "parting_of_states" s_parting_of_states ["machine", "i", "j"]) (B : Bs mg) (D_parting_from : Df P w K mg base "parting_from" 2 3 m_parting_from) : Df P w K mg base "parting_of_states" 3 3 m_parting_of_states :=
  df_mkC A sc_parting_of_states rfl (b_parting_of_states B D_parting_from)
abbrev s_pairs_of_states : Stmt := topS 15
theorem sc_pairs_of_states : FnScope ["size", "i", "j"] ["size"] (defScope s_pairs_of_states) := ⟨rfl, rfl, rfl, by decide +kernel, rfl, by decide +kernel, by decide +kernel⟩
noncomputable def le_pairs_of_states_1 : FE := (fTupN (fCons (fVar 1) (fCons (fVar 2) fNil)))
noncomputable def d_pairs_of_states : FS := (fRet [0] (fLc2 (fItR1 (fVar 0)) (tgN false 1) fYes (fItR2 (fBin gAdd (fVar 1) (fC (.int 1))) (fVar 0)) (tgN false 2) fYes le_pairs_of_states_1 [1, 2] [2]))
noncomputable def m_pairs_of_states : Den := runD 3 1 d_pairs_of_states
theorem b_pairs_of_states {P : Program} {w : World} {K : PySem.W.Frag} {mg : Str → Option Value} {base : Heap} (B : Bs mg) (f : Addr) (cdv : Value) (A : Around) (outer : List PySem.Env) (s : Shared) (H : Hp) (E : XK) (hcd : PySem.W.kdsCode K cdv = true) (hr : Room 0 (A.deeper (envOfC "pairs_of_states" (defScope s_pairs_of_states) s.heap.objs.size f cdv))) :
    DSs (cxOf CX0 P w K mg base ["size", "i", "j"] "pairs_of_states" (defScope s_pairs_of_states) f cdv A outer s H E).nox (List.range 1) (defBody s_pairs_of_states) d_pairs_of_states :=
  have nd := (sc_pairs_of_states).nd
  (dss_one (ds_ret (de_lc2 (own := [("i", 1), ("j", 2)]) (vs1 := [2]) rfl nd (di_r1 rfl B.range (de_var 0 (pv 0))) (blkOk_by (by kernel_rfl)) (by decide) (by decide) (by decide) (go_name (chk := false) (i := 1)) (go_name (chk := false) (i := 2)) (fun _ _ _ _ _ => (dg_name (chk := false) (i := 1) nd rfl (by first | exact Or.inl rfl | exact Or.inr rfl))) (fun _ _ _ _ _ => dts_nil) (fun _ _ _ _ _ => (di_r2 rfl B.range (de_bin dop_add (de_var 1 (pv 1)) de_int) (de_var 0 (pv 0)))) (fun _ _ _ _ _ => (dg_name (chk := false) (i := 2) nd rfl (by first | exact Or.inl rfl | exact Or.inr rfl))) (fun _ _ _ _ _ => dts_nil) (fun _ _ _ _ _ => (de_tupN (da_cons (de_var 1 (pv 1)) (da_cons (de_var 2 (pv 2)) da_nil)) (fCons_len (fCons_len fNil_len)))))))
theorem f_pairs_of_states {P : Program} {w : World} {K : PySem.W.Frag} {mg : Str → Option Value} {base : Heap} (A : At K mg "pairs_of_states" s_pairs_of_states ["size"]) (B : Bs mg) : Df P w K mg base "pairs_of_states" 1 1 m_pairs_of_states :=
  df_mkC A sc_pairs_of_states rfl (b_pairs_of_states B)
abbrev s_shown_least : Stmt := topS 16
theorem sc_shown_least : FnScope ["machine", "partings", "i", "j"] ["machine"] (defScope s_shown_least) := ⟨rfl, rfl, rfl, by decide +kernel, rfl, by decide +kernel, by decide +kernel⟩
noncomputable def le_shown_least_1 : FE := (fCall m_parting_of_states (fCons (fVar 0) (fCons (fVar 2) (fCons (fVar 3) fNil))))
noncomputable def d_shown_least : FS := (fSeq (fSet false 1 (fLc (fItE (fCall m_pairs_of_states (fCons (fCB gLen (fCons (fBin gIx (fVar 0) (fC (.int 1))) fNil)) fNil))) (tgTup (tgCons (tgN false 2) (tgCons (tgN false 3) tgNil))) fYes le_shown_least_1 [2, 3]))
    (fRet [0] (fTupN (fCons (fCall m_words_to_states (fCons (fVar 0) fNil)) (fCons (fCB gTuple (fCons (fVar 1) fNil)) fNil)))))
noncomputable def m_shown_least : Den := runD 4 1 d_shown_least
theorem b_shown_least {P : Program} {w : World} {K : PySem.W.Frag} {mg : Str → Option Value} {base : Heap} (B : Bs mg) (D_words_to_states : Df P w K mg base "words_to_states" 1 1 m_words_to_states) (D_pairs_of_states : Df P w K mg base "pairs_of_states" 1 1 m_pairs_of_states) (D_parting_of_states : Df P w K mg base "parting_of_states" 3 3 m_parting_of_states) (f : Addr) (cdv : Value) (A : Around) (outer : List PySem.Env) (s : Shared) (H : Hp) (E : XK) (hcd : PySem.W.kdsCode K cdv = true) (hr : Room 3 (A.deeper (envOfC "shown_least" (defScope s_shown_least) s.heap.objs.size f cdv))) :
    DSs (cxOf CX0 P w K mg base ["machine", "partings", "i", "j"] "shown_least" (defScope s_shown_least) f cdv A outer s H E).nox (List.range 1) (defBody s_shown_least) d_shown_least :=
  have nd := (sc_shown_least).nd
  (dss_cons (ds_setLc (own := [("i", 2), ("j", 3)]) (chk := false) (i := 1) rfl nd rfl rfl (sw_true rfl rfl rfl (by kernel_rfl)) (di_e (de_callD D_pairs_of_states (hr.mono (by first | decide | omega)) rfl (fCons_len fNil_len) (da_cons (de_callB dc_len rfl B.len bt_len (da_cons (de_ix (de_var 0 (pv 0)) de_int (fun _ _ => rfl)) da_nil)) da_nil))) (blkOk_by (by kernel_rfl)) (by decide) (go_tup (go_cons (go_name (chk := false) (i := 2)) (go_cons (go_name (chk := false) (i := 3)) go_nil))) (fun _ _ _ _ _ => (dg_tup rfl (dgs_cons (dg_name (chk := false) (i := 2) nd rfl (by first | exact Or.inl rfl | exact Or.inr rfl)) (dgs_cons (dg_name (chk := false) (i := 3) nd rfl (by first | exact Or.inl rfl | exact Or.inr rfl)) dgs_nil)) (lenCons (lenCons lenNil)))) (fun _ _ _ _ _ => dts_nil) (fun _ _ _ _ _ => (de_callD D_parting_of_states (hr.mono (by first | decide | omega)) rfl (fCons_len (fCons_len (fCons_len fNil_len))) (da_cons (de_var 0 (pv 0)) (da_cons (de_var 2 (pv 2)) (da_cons (de_var 3 (pv 3)) da_nil))))))
    (dss_one (ds_ret (de_tupN (da_cons (de_callD D_words_to_states (hr.mono (by first | decide | omega)) rfl (fCons_len fNil_len) (da_cons (de_var 0 (pv 0)) da_nil)) (da_cons (de_callTy dc_tuple rfl B.tuple bt_tuple (da_cons (de_var 1 (pv 1)) da_nil)) da_nil)) (fCons_len (fCons_len fNil_len))))))
theorem f_shown_least {P : Program} {w : World} {K : PySem.W.Frag} {mg : Str → Option Value} {base : Heap} (A : At K mg "shown_least" s_shown_least ["machine"]) (B : Bs mg) (D_words_to_states : Df P w K mg base "words_to_states" 1 1 m_words_to_states) (D_pairs_of_states : Df P w K mg base "pairs_of_states" 1 1 m_pairs_of_states) (D_parting_of_states : Df P w K mg base "parting_of_states" 3 3 m_parting_of_states) : Df P w K mg base "shown_least" 4 1 m_shown_least :=
  df_mkC A sc_shown_least rfl (b_shown_least B D_words_to_states D_pairs_of_states D_parting_of_states)
abbrev s_is_word_for : Stmt := topS 17
theorem sc_is_word_for : FnScope ["tracks", "word", "letter"] ["tracks", "word"] (defScope s_is_word_for) := ⟨rfl, rfl, rfl, by decide +kernel, rfl, by decide +kernel, by decide +kernel⟩
noncomputable def le_is_word_for_1 : FE := (fChain gLe gLt (fC (.int 0)) (fVar 2) (fCall m_letters_for (fCons (fVar 0) fNil)))
noncomputable def d_is_word_for : FS := (fRet [0, 1] (fCB gAll (fCons (fLc (fItE (fVar 1)) (tgN false 2) fYes le_is_word_for_1 [2]) fNil)))
noncomputable def m_is_word_for : Den := runD 3 2 d_is_word_for
theorem b_is_word_for {P : Program} {w : World} {K : PySem.W.Frag} {mg : Str → Option Value} {base : Heap} (B : Bs mg) (D_letters_for : Df P w K mg base "letters_for" 1 1 m_letters_for) (f : Addr) (cdv : Value) (A : Around) (outer : List PySem.Env) (s : Shared) (H : Hp) (E : XK) (hcd : PySem.W.kdsCode K cdv = true) (hr : Room 1 (A.deeper (envOfC "is_word_for" (defScope s_is_word_for) s.heap.objs.size f cdv))) :
    DSs (cxOf CX0 P w K mg base ["tracks", "word", "letter"] "is_word_for" (defScope s_is_word_for) f cdv A outer s H E).nox (List.range 2) (defBody s_is_word_for) d_is_word_for :=
  have nd := (sc_is_word_for).nd
  (dss_one (ds_ret (de_callB (dc_all rfl) rfl B.all bt_all (da_cons (de_lc (own := [("letter", 2)]) rfl nd (di_e (de_var 1 (pv 1))) (blkOk_by (by kernel_rfl)) (by decide) (go_name (chk := false) (i := 2)) (fun _ _ _ _ _ => (dg_name (chk := false) (i := 2) nd rfl (by first | exact Or.inl rfl | exact Or.inr rfl))) (fun _ _ _ _ _ => dts_nil) (fun _ _ _ _ _ => (de_chain (dop_leA hr.units) (dop_ltA hr.units) de_int (de_var 2 (pv 2)) (de_callD D_letters_for (hr.mono (by first | decide | omega)) rfl (fCons_len fNil_len) (da_cons (de_var 0 (pv 0)) da_nil))))) da_nil))))
theorem f_is_word_for {P : Program} {w : World} {K : PySem.W.Frag} {mg : Str → Option Value} {base : Heap} (A : At K mg "is_word_for" s_is_word_for ["tracks", "word"]) (B : Bs mg) (D_letters_for : Df P w K mg base "letters_for" 1 1 m_letters_for) : Df P w K mg base "is_word_for" 2 2 m_is_word_for :=
  df_mkC A sc_is_word_for rfl (b_is_word_for B D_letters_for)
abbrev s_do_words_lead : Stmt := topS 18
theorem sc_do_words_lead : FnScope ["machine", "words", "word", "state"] ["machine", "words"] (defScope s_do_words_lead) := ⟨rfl, rfl, rfl, by decide +kernel, rfl, by decide +kernel, by decide +kernel⟩
noncomputable def le_do_words_lead_1 : FE := (fBin gEq (fCall m_state_behind (fCons (fVar 0) (fCons (fBin gIx (fVar 1) (fVar 3)) fNil))) (fVar 3))
noncomputable def le_do_words_lead_2 : FE := (fCall m_is_word_for (fCons (fBin gIx (fVar 0) (fC (.int 0))) (fCons (fVar 2) fNil)))
noncomputable def d_do_words_lead : FS := (fSeq (fIfS (fOr (fTst (fBin gNe (fCB gLen (fCons (fVar 1) fNil)) (fCB gLen (fCons (fBin gIx (fVar 0) (fC (.int 1))) fNil)))) (fNot (fTst (fCB gAll (fCons (fLc (fItE (fVar 1)) (tgN false 2) fYes le_do_words_lead_2 [2]) fNil))))) (fRet [0, 1] (fC (.bool false))) fNext)
    (fRet [0, 1] (fCB gAll (fCons (fLc (fItR1 (fCB gLen (fCons (fVar 1) fNil))) (tgN false 3) fYes le_do_words_lead_1 [3]) fNil))))
noncomputable def m_do_words_lead : Den := runD 4 2 d_do_words_lead
theorem b_do_words_lead {P : Program} {w : World} {K : PySem.W.Frag} {mg : Str → Option Value} {base : Heap} (B : Bs mg) (D_state_behind : Df P w K mg base "state_behind" 2 2 m_state_behind) (D_is_word_for : Df P w K mg base "is_word_for" 2 2 m_is_word_for) (f : Addr) (cdv : Value) (A : Around) (outer : List PySem.Env) (s : Shared) (H : Hp) (E : XK) (hcd : PySem.W.kdsCode K cdv = true) (hr : Room 2 (A.deeper (envOfC "do_words_lead" (defScope s_do_words_lead) s.heap.objs.size f cdv))) :
    DSs (cxOf CX0 P w K mg base ["machine", "words", "word", "state"] "do_words_lead" (defScope s_do_words_lead) f cdv A outer s H E).nox (List.range 2) (defBody s_do_words_lead) d_do_words_lead :=
  have nd := (sc_do_words_lead).nd
  (dss_cons (ds_if (DW.t (dw_or (dt_cmp (dop_ne hr.units) (de_callB dc_len rfl B.len bt_len (da_cons (de_var 1 (pv 1)) da_nil)) (de_callB dc_len rfl B.len bt_len (da_cons (de_ix (de_var 0 (pv 0)) de_int (fun _ _ => rfl)) da_nil))) (dw_or1 (dt_not (dt_val (de_callB (dc_all rfl) rfl B.all bt_all (da_cons (de_lc (own := [("word", 2)]) rfl nd (di_e (de_var 1 (pv 1))) (blkOk_by (by kernel_rfl)) (by decide) (go_name (chk := false) (i := 2)) (fun _ _ _ _ _ => (dg_name (chk := false) (i := 2) nd rfl (by first | exact Or.inl rfl | exact Or.inr rfl))) (fun _ _ _ _ _ => dts_nil) (fun _ _ _ _ _ => (de_callD D_is_word_for (hr.mono (by first | decide | omega)) rfl (fCons_len (fCons_len fNil_len)) (da_cons (de_ix (de_var 0 (pv 0)) de_int (fun _ _ => rfl)) (da_cons (de_var 2 (pv 2)) da_nil))))) da_nil))))))) (dss_one (ds_ret de_bl)) dss_nil)
    (dss_one (ds_ret (de_callB (dc_all rfl) rfl B.all bt_all (da_cons (de_lc (own := [("state", 3)]) rfl nd (di_r1 rfl B.range (de_callB dc_len rfl B.len bt_len (da_cons (de_var 1 (pv 1)) da_nil))) (blkOk_by (by kernel_rfl)) (by decide) (go_name (chk := false) (i := 3)) (fun _ _ _ _ _ => (dg_name (chk := false) (i := 3) nd rfl (by first | exact Or.inl rfl | exact Or.inr rfl))) (fun _ _ _ _ _ => dts_nil) (fun _ _ _ _ _ => (de_cmp (dop_eq hr.units) (de_callD D_state_behind (hr.mono (by first | decide | omega)) rfl (fCons_len (fCons_len fNil_len)) (da_cons (de_var 0 (pv 0)) (da_cons (de_ix (de_var 1 (pv 1)) (de_var 3 (pv 3)) (fun _ _ => rfl)) da_nil))) (de_var 3 (pv 3))))) da_nil)))))
theorem f_do_words_lead {P : Program} {w : World} {K : PySem.W.Frag} {mg : Str → Option Value} {base : Heap} (A : At K mg "do_words_lead" s_do_words_lead ["machine", "words"]) (B : Bs mg) (D_state_behind : Df P w K mg base "state_behind" 2 2 m_state_behind) (D_is_word_for : Df P w K mg base "is_word_for" 2 2 m_is_word_for) : Df P w K mg base "do_words_lead" 3 2 m_do_words_lead :=
  df_mkC A sc_do_words_lead rfl (b_do_words_lead B D_state_behind D_is_word_for)
abbrev s_does_word_part : Stmt := topS 19
theorem sc_does_word_part : FnScope ["machine", "pair", "word", "i", "j"] ["machine", "pair", "word"] (defScope s_does_word_part) := ⟨rfl, rfl, rfl, by decide +kernel, rfl, by decide +kernel, by decide +kernel⟩
noncomputable def d_does_word_part : FS := (fSeq (fIfS (fNot (fTst (fCall m_is_word_for (fCons (fBin gIx (fVar 0) (fC (.int 0))) (fCons (fVar 2) fNil))))) (fRet [0, 1, 2] (fC (.bool false))) fNext)
    (fSeq (fAsg (tgTup (tgCons (tgN false 3) (tgCons (tgN false 4) tgNil))) (fVar 1))
    (fRet [0, 1, 2] (fBin gNe (fBin gIx (fBin gIx (fVar 0) (fC (.int 2))) (fCall m_state_from (fCons (fVar 0) (fCons (fVar 3) (fCons (fVar 2) fNil))))) (fBin gIx (fBin gIx (fVar 0) (fC (.int 2))) (fCall m_state_from (fCons (fVar 0) (fCons (fVar 4) (fCons (fVar 2) fNil)))))))))
noncomputable def m_does_word_part : Den := runD 5 3 d_does_word_part
theorem b_does_word_part {P : Program} {w : World} {K : PySem.W.Frag} {mg : Str → Option Value} {base : Heap} (B : Bs mg) (D_state_from : Df P w K mg base "state_from" 1 3 m_state_from) (D_is_word_for : Df P w K mg base "is_word_for" 2 2 m_is_word_for) (f : Addr) (cdv : Value) (A : Around) (outer : List PySem.Env) (s : Shared) (H : Hp) (E : XK) (hcd : PySem.W.kdsCode K cdv = true) (hr : Room 2 (A.deeper (envOfC "does_word_part" (defScope s_does_word_part) s.heap.objs.size f cdv))) :
    DSs (cxOf CX0 P w K mg base ["machine", "pair", "word", "i", "j"] "does_word_part" (defScope s_does_word_part) f cdv A outer s H E).nox (List.range 3) (defBody s_does_word_part) d_does_word_part :=
  have nd := (sc_does_word_part).nd
  (dss_cons (ds_if (dt_not (dt_val (de_callD D_is_word_for (hr.mono (by first | decide | omega)) rfl (fCons_len (fCons_len fNil_len)) (da_cons (de_ix (de_var 0 (pv 0)) de_int (fun _ _ => rfl)) (da_cons (de_var 2 (pv 2)) da_nil))))) (dss_one (ds_ret de_bl)) dss_nil)
    (dss_cons (ds_asg (de_var 1 (pv 1)) (dg_tup rfl (dgs_cons (dg_name (chk := false) (i := 3) nd rfl (by first | exact Or.inl rfl | exact Or.inr rfl)) (dgs_cons (dg_name (chk := false) (i := 4) nd rfl (by first | exact Or.inl rfl | exact Or.inr rfl)) dgs_nil)) (lenCons (lenCons lenNil))))
    (dss_one (ds_ret (de_cmp (dop_ne hr.units) (de_ix (de_ix (de_var 0 (pv 0)) de_int (fun _ _ => rfl)) (de_callD D_state_from (hr.mono (by first | decide | omega)) rfl (fCons_len (fCons_len (fCons_len fNil_len))) (da_cons (de_var 0 (pv 0)) (da_cons (de_var 3 (pv 3)) (da_cons (de_var 2 (pv 2)) da_nil)))) (fun _ _ => rfl)) (de_ix (de_ix (de_var 0 (pv 0)) de_int (fun _ _ => rfl)) (de_callD D_state_from (hr.mono (by first | decide | omega)) rfl (fCons_len (fCons_len (fCons_len fNil_len))) (da_cons (de_var 0 (pv 0)) (da_cons (de_var 4 (pv 4)) (da_cons (de_var 2 (pv 2)) da_nil)))) (fun _ _ => rfl)))))))
theorem f_does_word_part {P : Program} {w : World} {K : PySem.W.Frag} {mg : Str → Option Value} {base : Heap} (A : At K mg "does_word_part" s_does_word_part ["machine", "pair", "word"]) (B : Bs mg) (D_state_from : Df P w K mg base "state_from" 1 3 m_state_from) (D_is_word_for : Df P w K mg base "is_word_for" 2 2 m_is_word_for) : Df P w K mg base "does_word_part" 3 3 m_does_word_part :=
  df_mkC A sc_does_word_part rfl (b_does_word_part B D_state_from D_is_word_for)
abbrev s_judge_shown_least : Stmt := topS 20
theorem sc_judge_shown_least : FnScope ["machine", "shown", "words", "partings", "pairs", "k"] ["machine", "shown"] (defScope s_judge_shown_least) := ⟨rfl, rfl, rfl, by decide +kernel, rfl, by decide +kernel, by decide +kernel⟩
noncomputable def le_judge_shown_least_1 : FE := (fCall m_does_word_part (fCons (fVar 0) (fCons (fBin gIx (fVar 4) (fVar 5)) (fCons (fBin gIx (fVar 3) (fVar 5)) fNil))))
noncomputable def d_judge_shown_least : FS := (fSeq (fAsg (tgTup (tgCons (tgN false 2) (tgCons (tgN false 3) tgNil))) (fVar 1))
    (fSeq (fSet false 4 (fCall m_pairs_of_states (fCons (fCB gLen (fCons (fBin gIx (fVar 0) (fC (.int 1))) fNil)) fNil)))
    (fSeq (fIfS (fOr (fTst (fBin gNe (fCB gLen (fCons (fVar 3) fNil)) (fCB gLen (fCons (fVar 4) fNil)))) (fNot (fTst (fCall m_do_words_lead (fCons (fVar 0) (fCons (fVar 2) fNil)))))) (fRet [0, 1] (fC (.bool false))) fNext)
    (fRet [0, 1] (fCB gAll (fCons (fLc (fItR1 (fCB gLen (fCons (fVar 4) fNil))) (tgN false 5) fYes le_judge_shown_least_1 [5]) fNil))))))
noncomputable def m_judge_shown_least : Den := runD 6 2 d_judge_shown_least
theorem b_judge_shown_least {P : Program} {w : World} {K : PySem.W.Frag} {mg : Str → Option Value} {base : Heap} (B : Bs mg) (D_does_word_part : Df P w K mg base "does_word_part" 3 3 m_does_word_part) (D_do_words_lead : Df P w K mg base "do_words_lead" 3 2 m_do_words_lead) (D_pairs_of_states : Df P w K mg base "pairs_of_states" 1 1 m_pairs_of_states) (f : Addr) (cdv : Value) (A : Around) (outer : List PySem.Env) (s : Shared) (H : Hp) (E : XK) (hcd : PySem.W.kdsCode K cdv = true) (hr : Room 3 (A.deeper (envOfC "judge_shown_least" (defScope s_judge_shown_least) s.heap.objs.size f cdv))) :
    DSs (cxOf CX0 P w K mg base ["machine", "shown", "words", "partings", "pairs", "k"] "judge_shown_least" (defScope s_judge_shown_least) f cdv A outer s H E).nox (List.range 2) (defBody s_judge_shown_least) d_judge_shown_least :=
  have nd := (sc_judge_shown_least).nd
  (dss_cons (ds_asg (de_var 1 (pv 1)) (dg_tup rfl (dgs_cons (dg_name (chk := false) (i := 2) nd rfl (by first | exact Or.inl rfl | exact Or.inr rfl)) (dgs_cons (dg_name (chk := false) (i := 3) nd rfl (by first | exact Or.inl rfl | exact Or.inr rfl)) dgs_nil)) (lenCons (lenCons lenNil))))
    (dss_cons (ds_set (chk := false) (i := 4) nd rfl (by first | exact Or.inl rfl | exact Or.inr rfl) (de_callD D_pairs_of_states (hr.mono (by first | decide | omega)) rfl (fCons_len fNil_len) (da_cons (de_callB dc_len rfl B.len bt_len (da_cons (de_ix (de_var 0 (pv 0)) de_int (fun _ _ => rfl)) da_nil)) da_nil)))
    (dss_cons (ds_if (DW.t (dw_or (dt_cmp (dop_ne hr.units) (de_callB dc_len rfl B.len bt_len (da_cons (de_var 3 (pv 3)) da_nil)) (de_callB dc_len rfl B.len bt_len (da_cons (de_var 4 (pv 4)) da_nil))) (dw_or1 (dt_not (dt_val (de_callD D_do_words_lead (hr.mono (by first | decide | omega)) rfl (fCons_len (fCons_len fNil_len)) (da_cons (de_var 0 (pv 0)) (da_cons (de_var 2 (pv 2)) da_nil)))))))) (dss_one (ds_ret de_bl)) dss_nil)
    (dss_one (ds_ret (de_callB (dc_all rfl) rfl B.all bt_all (da_cons (de_lc (own := [("k", 5)]) rfl nd (di_r1 rfl B.range (de_callB dc_len rfl B.len bt_len (da_cons (de_var 4 (pv 4)) da_nil))) (blkOk_by (by kernel_rfl)) (by decide) (go_name (chk := false) (i := 5)) (fun _ _ _ _ _ => (dg_name (chk := false) (i := 5) nd rfl (by first | exact Or.inl rfl | exact Or.inr rfl))) (fun _ _ _ _ _ => dts_nil) (fun _ _ _ _ _ => (de_callD D_does_word_part (hr.mono (by first | decide | omega)) rfl (fCons_len (fCons_len (fCons_len fNil_len))) (da_cons (de_var 0 (pv 0)) (da_cons (de_ix (de_var 4 (pv 4)) (de_var 5 (pv 5)) (fun _ _ => rfl)) (da_cons (de_ix (de_var 3 (pv 3)) (de_var 5 (pv 5)) (fun _ _ => rfl)) da_nil)))))) da_nil)))))))
theorem f_judge_shown_least {P : Program} {w : World} {K : PySem.W.Frag} {mg : Str → Option Value} {base : Heap} (A : At K mg "judge_shown_least" s_judge_shown_least ["machine", "shown"]) (B : Bs mg) (D_does_word_part : Df P w K mg base "does_word_part" 3 3 m_does_word_part) (D_do_words_lead : Df P w K mg base "do_words_lead" 3 2 m_do_words_lead) (D_pairs_of_states : Df P w K mg base "pairs_of_states" 1 1 m_pairs_of_states) : Df P w K mg base "judge_shown_least" 4 2 m_judge_shown_least :=
  df_mkC A sc_judge_shown_least rfl (b_judge_shown_least B D_does_word_part D_do_words_lead D_pairs_of_states)
abbrev s__law_draws : Stmt := topS 22
theorem sc__law_draws : FnScope ["script", "many", "cells", "rest", "draws", "k", "at", "once", "cell"] ["script", "many"] (defScope s__law_draws) := ⟨rfl, rfl, rfl, by decide +kernel, rfl, by decide +kernel, by decide +kernel⟩
noncomputable def le__law_draws_1 : FE := (fCB gInt (fCons (fVar 8) fNil))
noncomputable def sd__law_draws_1 : FS := (fSet false 2 (fLc (fItE (fVar 0)) (tgN false 8) fYes le__law_draws_1 [8]))
noncomputable def sd__law_draws_2 : FS := (fIfS (fTst (fBin gEq (fCB gLen (fCons (fVar 2) fNil)) (fC (.int 0)))) (fExpr (fMt gAppend (fVar 2) (fCons (fC (.int 0)) fNil))) fNext)
noncomputable def sd__law_draws_3 : FS := (fSet false 3 (fCB gList (fCons (fVar 2) fNil)))
noncomputable def sd__law_draws_4 : FS := (fSet false 4 (fLstN fNil))
noncomputable def lb__law_draws_1 : FS := (fSeq (fSet false 6 (fBin gMod (fVar 5) (fCB gLen (fCons (fVar 2) fNil))))
    (fIfS (fAnd (fTst (fBin gGe (fBin gIx (fVar 2) (fVar 6)) (fBin gPow (fC (.int 10)) (fC (.int 18))))) (fTst (fBin gGt (fBin gIx (fVar 3) (fVar 6)) (fC (.int 0))))) (fSeq (fExpr (fMt gAppend (fVar 4) (fCons (fBin gMod (fCB gInt (fCons (fBin gIx (fVar 3) (fVar 6)) fNil)) (fC (.int 1000))) fNil)))
    (fSetIx (fBin gDiv (fBin gIx (fVar 3) (fVar 6)) (fC (.int 1000))) (fVar 3) (fVar 6))) (fSeq (fSet false 7 (fBin gMod (fCB gInt (fCons (fBin gAdd (fBin gAdd (fBin gMul (fBin gIx (fVar 2) (fVar 6)) (fC (.int 48271))) (fBin gMul (fVar 5) (fC (.int 69621)))) (fC (.int 11))) fNil)) (fC (.int 2147483647))))
    (fExpr (fMt gAppend (fVar 4) (fCons (fBin gMod (fCB gInt (fCons (fBin gAdd (fBin gAdd (fBin gMul (fVar 7) (fVar 7)) (fBin gMul (fC (.int 3)) (fVar 7))) (fVar 5)) fNil)) (fC (.int 1000003))) fNil))))))
noncomputable def sd__law_draws_5 : FS := (fFor (fItR1 (fVar 1)) (tgN false 5) lb__law_draws_1)
noncomputable def sd__law_draws_6 : FS := (fExpr (fMt gReverse (fVar 4) fNil))
noncomputable def sd__law_draws_7 : FS := (fRet [0, 1] (fVar 4))
noncomputable def d__law_draws : FS := (fSeq sd__law_draws_1 (fSeq sd__law_draws_2 (fSeq sd__law_draws_3 (fSeq sd__law_draws_4 (fSeq sd__law_draws_5 (fSeq sd__law_draws_6 sd__law_draws_7))))))
noncomputable def m__law_draws : Den := runD 9 2 d__law_draws
theorem b__law_draws {P : Program} {w : World} {K : PySem.W.Frag} {mg : Str → Option Value} {base : Heap} (B : Bs mg) (f : Addr) (cdv : Value) (A : Around) (outer : List PySem.Env) (s : Shared) (H : Hp) (E : XK) (hcd : PySem.W.kdsCode K cdv = true) (hr : Room 0 (A.deeper (envOfC "_law_draws" (defScope s__law_draws) s.heap.objs.size f cdv))) :
    DSs (cxOf CX0 P w K mg base ["script", "many", "cells", "rest", "draws", "k", "at", "once", "cell"] "_law_draws" (defScope s__law_draws) f cdv A outer s H E).nox (List.range 2) (defBody s__law_draws) d__law_draws :=
  have nd := (sc__law_draws).nd
  (dss_cons (ds_setLc (own := [("cell", 8)]) (chk := false) (i := 2) rfl nd rfl rfl (sw_true rfl rfl rfl (by kernel_rfl)) (di_e (de_var 0 (pv 0))) (blkOk_by (by kernel_rfl)) (by decide) (go_name (chk := false) (i := 8)) (fun _ _ _ _ _ => (dg_name (chk := false) (i := 8) nd rfl (by first | exact Or.inl rfl | exact Or.inr rfl))) (fun _ _ _ _ _ => dts_nil) (fun _ _ _ _ _ => (de_callTy dc_int rfl B.int bt_int (da_cons (de_var 8 (pv 8)) da_nil))))
    (dss_cons (ds_if (dt_cmp (dop_eq hr.units) (de_callB dc_len rfl B.len bt_len (da_cons (de_var 2 (pv 2)) da_nil)) de_int) (dss_one (ds_expr (de_mt dm_append PySem.F.slot_list_append PySem.F.type_list_append mt_append (de_var 2 (pv 2)) (da_cons de_int da_nil)))) dss_nil)
    (dss_cons (ds_set (chk := false) (i := 3) nd rfl (by first | exact Or.inl rfl | exact Or.inr rfl) (de_callTy dc_list rfl B.list bt_list (da_cons (de_var 2 (pv 2)) da_nil)))
    (dss_cons (ds_set (chk := false) (i := 4) nd rfl (by first | exact Or.inl rfl | exact Or.inr rfl) (de_lstN da_nil fNil_len))
    (dss_cons (ds_for (pl2 := [0, 1]) PassesOwn.never rfl (di_r1 rfl B.range (de_var 1 (pv 1))) (dg_name (chk := false) (i := 5) nd rfl (by first | exact Or.inl rfl | exact Or.inr rfl)) (dss_cons (ds_set (chk := false) (i := 6) nd rfl (by first | exact Or.inl rfl | exact Or.inr rfl) (de_bin dop_mod (de_var 5 (pv 5)) (de_callB dc_len rfl B.len bt_len (da_cons (de_var 2 (pv 2)) da_nil))))
    (dss_one (ds_if (DW.t (dw_and (dt_cmp (dop_geA hr.units) (de_ix (de_var 2 (pv 2)) (de_var 6 (pv 6)) (fun _ _ => rfl)) (de_bin dop_pow de_int de_int)) (dw_and1 (dt_cmp (dop_gtA hr.units) (de_ix (de_var 3 (pv 3)) (de_var 6 (pv 6)) (fun _ _ => rfl)) de_int)))) (dss_cons (ds_expr (de_mt dm_append PySem.F.slot_list_append PySem.F.type_list_append mt_append (de_var 4 (pv 4)) (da_cons (de_bin dop_mod (de_callTy dc_int rfl B.int bt_int (da_cons (de_ix (de_var 3 (pv 3)) (de_var 6 (pv 6)) (fun _ _ => rfl)) da_nil)) de_int) da_nil)))
    (dss_one (ds_setIx (de_bin dop_div (de_ix (de_var 3 (pv 3)) (de_var 6 (pv 6)) (fun _ _ => rfl)) de_int) (de_var 3 (pv 3)) (de_var 6 (pv 6))))) (dss_cons (ds_set (chk := false) (i := 7) nd rfl (by first | exact Or.inl rfl | exact Or.inr rfl) (de_bin dop_mod (de_callTy dc_int rfl B.int bt_int (da_cons (de_bin dop_add (de_bin dop_add (de_bin dop_mul (de_ix (de_var 2 (pv 2)) (de_var 6 (pv 6)) (fun _ _ => rfl)) de_int) (de_bin dop_mul (de_var 5 (pv 5)) de_int)) de_int) da_nil)) de_int))
    (dss_one (ds_expr (de_mt dm_append PySem.F.slot_list_append PySem.F.type_list_append mt_append (de_var 4 (pv 4)) (da_cons (de_bin dop_mod (de_callTy dc_int rfl B.int bt_int (da_cons (de_bin dop_add (de_bin dop_add (de_bin dop_mul (de_var 7 (pv 7)) (de_var 7 (pv 7))) (de_bin dop_mul de_int (de_var 7 (pv 7)))) (de_var 5 (pv 5))) da_nil)) de_int) da_nil)))))))) (fun _ h => h) live_r1)
    (dss_cons (ds_expr (de_mt0 dm_reverse PySem.F.slot_list_reverse PySem.F.type_list_reverse mt_reverse (de_var 4 (pv 4)) ))
    (dss_one (ds_ret (de_var 4 (pv 4))))))))))
theorem f__law_draws {P : Program} {w : World} {K : PySem.W.Frag} {mg : Str → Option Value} {base : Heap} (A : At K mg "_law_draws" s__law_draws ["script", "many"]) (B : Bs mg) : Df P w K mg base "_law_draws" 1 2 m__law_draws :=
  df_mkC A sc__law_draws rfl (b__law_draws B)
abbrev s__law_take : Stmt := topS 23
theorem sc__law_take : FnScope ["draws", "many"] ["draws", "many"] (defScope s__law_take) := ⟨rfl, rfl, rfl, by decide +kernel, rfl, by decide +kernel, by decide +kernel⟩
noncomputable def d__law_take : FS := (fSeq (fIfS (fTst (fBin gEq (fCB gLen (fCons (fVar 0) fNil)) (fC (.int 0)))) (fRet [0, 1] (fC (.int 0))) fNext)
    (fRet [0, 1] (fBin gMod (fCB gInt (fCons (fMt gPop (fVar 0) fNil) fNil)) (fVar 1))))
noncomputable def m__law_take : Den := runD 2 2 d__law_take
theorem b__law_take {P : Program} {w : World} {K : PySem.W.Frag} {mg : Str → Option Value} {base : Heap} (B : Bs mg) (f : Addr) (cdv : Value) (A : Around) (outer : List PySem.Env) (s : Shared) (H : Hp) (E : XK) (hcd : PySem.W.kdsCode K cdv = true) (hr : Room 0 (A.deeper (envOfC "_law_take" (defScope s__law_take) s.heap.objs.size f cdv))) :
    DSs (cxOf CX0 P w K mg base ["draws", "many"] "_law_take" (defScope s__law_take) f cdv A outer s H E).nox (List.range 2) (defBody s__law_take) d__law_take :=
  have nd := (sc__law_take).nd
  (dss_cons (ds_if (dt_cmp (dop_eq hr.units) (de_callB dc_len rfl B.len bt_len (da_cons (de_var 0 (pv 0)) da_nil)) de_int) (dss_one (ds_ret de_int)) dss_nil)
    (dss_one (ds_ret (de_bin dop_mod (de_callTy dc_int rfl B.int bt_int (da_cons (de_mt0 dm_pop PySem.F.slot_list_pop PySem.F.type_list_pop mt_pop (de_var 0 (pv 0)) ) da_nil)) (de_var 1 (pv 1))))))
theorem f__law_take {P : Program} {w : World} {K : PySem.W.Frag} {mg : Str → Option Value} {base : Heap} (A : At K mg "_law_take" s__law_take ["draws", "many"]) (B : Bs mg) : Df P w K mg base "_law_take" 1 2 m__law_take :=
  df_mkC A sc__law_take rfl (b__law_take B)
abbrev s__law_cell : Stmt := topS 24
theorem sc__law_cell : FnScope ["script", "cell"] ["script"] (defScope s__law_cell) := ⟨rfl, rfl, rfl, by decide +kernel, rfl, by decide +kernel, by decide +kernel⟩
noncomputable def d__law_cell : FS := (fSeq (fIfS (fTst (fBin gEq (fCB gLen (fCons (fVar 0) fNil)) (fC (.int 0)))) (fRet [0] (fC (.int 0))) fNext)
    (fSeq (fSet false 1 (fCB gInt (fCons (fBin gIx (fVar 0) (fBin gMod (fBin gMod (fCB gInt (fCons (fBin gSub (fCB gLen (fCons (fVar 0) fNil)) (fC (.int 1))) fNil)) (fC (.int 7))) (fCB gLen (fCons (fVar 0) fNil)))) fNil)))
    (fSeq (fIfS (fTst (fBin gLt (fVar 1) (fC (.int 0)))) (fRet [0] (fNeg (fBin gMod (fCB gInt (fCons (fNeg (fVar 1)) fNil)) (fBin gPow (fC (.int 10)) (fC (.int 60)))))) fNext)
    (fRet [0] (fBin gMod (fCB gInt (fCons (fVar 1) fNil)) (fBin gPow (fC (.int 10)) (fC (.int 60))))))))
noncomputable def m__law_cell : Den := runD 2 1 d__law_cell
theorem b__law_cell {P : Program} {w : World} {K : PySem.W.Frag} {mg : Str → Option Value} {base : Heap} (B : Bs mg) (f : Addr) (cdv : Value) (A : Around) (outer : List PySem.Env) (s : Shared) (H : Hp) (E : XK) (hcd : PySem.W.kdsCode K cdv = true) (hr : Room 0 (A.deeper (envOfC "_law_cell" (defScope s__law_cell) s.heap.objs.size f cdv))) :
    DSs (cxOf CX0 P w K mg base ["script", "cell"] "_law_cell" (defScope s__law_cell) f cdv A outer s H E).nox (List.range 1) (defBody s__law_cell) d__law_cell :=
  have nd := (sc__law_cell).nd
  (dss_cons (ds_if (dt_cmp (dop_eq hr.units) (de_callB dc_len rfl B.len bt_len (da_cons (de_var 0 (pv 0)) da_nil)) de_int) (dss_one (ds_ret de_int)) dss_nil)
    (dss_cons (ds_set (chk := false) (i := 1) nd rfl (by first | exact Or.inl rfl | exact Or.inr rfl) (de_callTy dc_int rfl B.int bt_int (da_cons (de_ix (de_var 0 (pv 0)) (de_bin dop_mod (de_bin dop_mod (de_callTy dc_int rfl B.int bt_int (da_cons (de_bin dop_sub (de_callB dc_len rfl B.len bt_len (da_cons (de_var 0 (pv 0)) da_nil)) de_int) da_nil)) de_int) (de_callB dc_len rfl B.len bt_len (da_cons (de_var 0 (pv 0)) da_nil))) (fun _ _ => rfl)) da_nil)))
    (dss_cons (ds_if (dt_cmp (dop_ltA hr.units) (de_var 1 (pv 1)) de_int) (dss_one (ds_ret (de_neg (de_bin dop_mod (de_callTy dc_int rfl B.int bt_int (da_cons (de_neg (de_var 1 (pv 1))) da_nil)) (de_bin dop_pow de_int de_int))))) dss_nil)
    (dss_one (ds_ret (de_bin dop_mod (de_callTy dc_int rfl B.int bt_int (da_cons (de_var 1 (pv 1)) da_nil)) (de_bin dop_pow de_int de_int)))))))
theorem f__law_cell {P : Program} {w : World} {K : PySem.W.Frag} {mg : Str → Option Value} {base : Heap} (A : At K mg "_law_cell" s__law_cell ["script"]) (B : Bs mg) : Df P w K mg base "_law_cell" 1 1 m__law_cell :=
  df_mkC A sc__law_cell rfl (b__law_cell B)
abbrev s__law_same : Stmt := topS 25
theorem sc__law_same : FnScope ["actual", "due", "k"] ["actual", "due"] (defScope s__law_same) := ⟨rfl, rfl, rfl, by decide +kernel, rfl, by decide +kernel, by decide +kernel⟩
noncomputable def sd__law_same_1 : FS := (fIfS (fTst (fIsi PyData.isBool (fVar 1))) (fRet [0, 1] (fAndV (fIsi PyData.isBool (fVar 0)) (fBin gEq (fVar 0) (fVar 1)))) fNext)
noncomputable def sd__law_same_2 : FS := (fIfS (fTst (fIsi PyData.isInt (fVar 1))) (fRet [0, 1] (fAndV (fIsi PyData.isInt (fVar 0)) (fAndV (fNotV (fIsi PyData.isBool (fVar 0))) (fBin gEq (fVar 0) (fVar 1))))) fNext)
noncomputable def sd__law_same_3 : FS := (fIfS (fTst (fIsi PyData.isStr (fVar 1))) (fRet [0, 1] (fAndV (fIsi PyData.isStr (fVar 0)) (fBin gEq (fVar 0) (fVar 1)))) fNext)
noncomputable def sd__law_same_4 : FS := (fIfS (fTst (fBin gIsN (fVar 1) (fC .none))) (fRet [0, 1] (fBin gIsN (fVar 0) (fC .none))) fNext)
noncomputable def sd__law_same_5 : FS := (fIfS (fOr (fNot (fTst (fIsi PyData.isTuple (fVar 0)))) (fTst (fBin gNe (fCB gLen (fCons (fVar 0) fNil)) (fCB gLen (fCons (fVar 1) fNil))))) (fRet [0, 1] (fC (.bool false))) fNext)
noncomputable def sd__law_same_6 : FS := (fRet [0, 1] (fC (.bool true)))
noncomputable def d__law_same (m__law_same : Nat → Den) (k : Nat) : FS := (fSeq sd__law_same_1 (fSeq sd__law_same_2 (fSeq sd__law_same_3 (fSeq sd__law_same_4 (fSeq sd__law_same_5 (fSeq (fFor (fItR1 (fCB gLen (fCons (fVar 1) fNil))) (tgN false 2) (fIfS (fNot (fTst (fCall (m__law_same k) (fCons (fBin gIx (fVar 0) (fVar 2)) (fCons (fBin gIx (fVar 1) (fVar 2)) fNil))))) (fRet [0, 1] (fC (.bool false))) fNext)) sd__law_same_6))))))
noncomputable def m__law_same : Nat → Den
  | 0 => fun _ => none
  | k + 1 => runD 3 2 (d__law_same (fun _ => m__law_same k) k)
theorem b__law_same {P : Program} {w : World} {K : PySem.W.Frag} {mg : Str → Option Value} {base : Heap} (B : Bs mg) (k : Nat) (D__law_same : Df P w K mg base "_law_same" (0 + k) 2 (m__law_same k)) (f : Addr) (cdv : Value) (A : Around) (outer : List PySem.Env) (s : Shared) (H : Hp) (E : XK) (hcd : PySem.W.kdsCode K cdv = true) (hr : Room (0 + k) (A.deeper (envOfC "_law_same" (defScope s__law_same) s.heap.objs.size f cdv))) :
    DSs (cxOf CX0 P w K mg base ["actual", "due", "k"] "_law_same" (defScope s__law_same) f cdv A outer s H E).nox (List.range 2) (defBody s__law_same) (d__law_same (fun _ => m__law_same k) k) :=
  have nd := (sc__law_same).nd
  (dss_cons (ds_if (dt_val (de_isi isi_bool rfl B.isinstance rfl B.bool bt_bool (de_var 1 (pv 1)))) (dss_one (ds_ret (de_and (de_isi isi_bool rfl B.isinstance rfl B.bool bt_bool (de_var 0 (pv 0))) (de_one (de_cmp (dop_eq hr.units) (de_var 0 (pv 0)) (de_var 1 (pv 1))))))) dss_nil)
    (dss_cons (ds_if (dt_val (de_isi isi_int rfl B.isinstance rfl B.int bt_int (de_var 1 (pv 1)))) (dss_one (ds_ret (de_and (de_isi isi_int rfl B.isinstance rfl B.int bt_int (de_var 0 (pv 0))) (de_and (de_not (de_isi isi_bool rfl B.isinstance rfl B.bool bt_bool (de_var 0 (pv 0)))) (de_one (de_cmp (dop_eq hr.units) (de_var 0 (pv 0)) (de_var 1 (pv 1)))))))) dss_nil)
    (dss_cons (ds_if (dt_val (de_isi isi_str rfl B.isinstance rfl B.str bt_str (de_var 1 (pv 1)))) (dss_one (ds_ret (de_and (de_isi isi_str rfl B.isinstance rfl B.str bt_str (de_var 0 (pv 0))) (de_one (de_cmp (dop_eq hr.units) (de_var 0 (pv 0)) (de_var 1 (pv 1))))))) dss_nil)
    (dss_cons (ds_if (dt_cmp dop_isN (de_var 1 (pv 1)) de_non) (dss_one (ds_ret (de_cmp dop_isN (de_var 0 (pv 0)) de_non))) dss_nil)
    (dss_cons (ds_if (DW.t (dw_or (dt_not (dt_val (de_isi isi_tuple rfl B.isinstance rfl B.tuple bt_tuple (de_var 0 (pv 0))))) (dw_or1 (dt_cmp (dop_ne hr.units) (de_callB dc_len rfl B.len bt_len (da_cons (de_var 0 (pv 0)) da_nil)) (de_callB dc_len rfl B.len bt_len (da_cons (de_var 1 (pv 1)) da_nil)))))) (dss_one (ds_ret de_bl)) dss_nil)
    (dss_cons (ds_for (pl2 := [0, 1]) PassesOwn.never rfl (di_r1 rfl B.range (de_callB dc_len rfl B.len bt_len (da_cons (de_var 1 (pv 1)) da_nil))) (dg_name (chk := false) (i := 2) nd rfl (by first | exact Or.inl rfl | exact Or.inr rfl)) (dss_one (ds_if (dt_not (dt_val (de_callD D__law_same (hr.mono (by first | decide | omega)) rfl (fCons_len (fCons_len fNil_len)) (da_cons (de_ix (de_var 0 (pv 0)) (de_var 2 (pv 2)) (fun _ _ => rfl)) (da_cons (de_ix (de_var 1 (pv 1)) (de_var 2 (pv 2)) (fun _ _ => rfl)) da_nil))))) (dss_one (ds_ret de_bl)) dss_nil)) (fun _ h => h) live_r1)
    (dss_one (ds_ret de_bl))))))))
theorem f__law_same_all {P : Program} {w : World} {K : PySem.W.Frag} {mg : Str → Option Value} {base : Heap} (A : At K mg "_law_same" s__law_same ["actual", "due"]) (B : Bs mg) : ∀ k : Nat, Df P w K mg base "_law_same" (0 + k) 2 (m__law_same k)
  | 0 => (df_none A rfl).up (Nat.zero_le _)
  | k + 1 => df_mkC A sc__law_same rfl (b__law_same B k (f__law_same_all A B k))
theorem f__law_same {P : Program} {w : World} {K : PySem.W.Frag} {mg : Str → Option Value} {base : Heap} (A : At K mg "_law_same" s__law_same ["actual", "due"]) (B : Bs mg) : Df P w K mg base "_law_same" 6 2 (m__law_same 6) := f__law_same_all A B 6
abbrev s__law_order : Stmt := topS 26
theorem sc__law_order : FnScope ["draws", "many", "left", "found", "k"] ["draws", "many"] (defScope s__law_order) := ⟨rfl, rfl, rfl, by decide +kernel, rfl, by decide +kernel, by decide +kernel⟩
noncomputable def lb__law_order_1 : FS := (fWipe [4] (fExpr (fMt gAppend (fVar 3) (fCons (fMt gPopAt (fVar 2) (fCons (fCall m__law_take (fCons (fVar 0) (fCons (fCB gLen (fCons (fVar 2) fNil)) fNil))) fNil)) fNil))))
noncomputable def d__law_order : FS := (fSeq (fSet false 2 (fListRg (fRg1 (fVar 1))))
    (fSeq (fSet false 3 (fLstN fNil))
    (fSeq (fFor (fItR1 (fVar 1)) (tgN false 4) lb__law_order_1)
    (fRet [0, 1] (fCB gTuple (fCons (fVar 3) fNil))))))
noncomputable def m__law_order : Den := runD 5 2 d__law_order
theorem b__law_order {P : Program} {w : World} {K : PySem.W.Frag} {mg : Str → Option Value} {base : Heap} (B : Bs mg) (D__law_take : Df P w K mg base "_law_take" 1 2 m__law_take) (f : Addr) (cdv : Value) (A : Around) (outer : List PySem.Env) (s : Shared) (H : Hp) (E : XK) (hcd : PySem.W.kdsCode K cdv = true) (hr : Room 1 (A.deeper (envOfC "_law_order" (defScope s__law_order) s.heap.objs.size f cdv))) :
    DSs (cxOf CX0 P w K mg base ["draws", "many", "left", "found", "k"] "_law_order" (defScope s__law_order) f cdv A outer s H E).nox (List.range 2) (defBody s__law_order) d__law_order :=
  have nd := (sc__law_order).nd
  (dss_cons (ds_set (chk := false) (i := 2) nd rfl (by first | exact Or.inl rfl | exact Or.inr rfl) (de_listRg rfl rfl B.list (dr_1 rfl B.range (de_var 1 (pv 1)))))
    (dss_cons (ds_set (chk := false) (i := 3) nd rfl (by first | exact Or.inl rfl | exact Or.inr rfl) (de_lstN da_nil fNil_len))
    (dss_cons (ds_for (pl2 := [0, 1]) PassesOwn.never rfl (di_r1 rfl B.range (de_var 1 (pv 1))) (dg_name (chk := false) (i := 4) nd rfl (by first | exact Or.inl rfl | exact Or.inr rfl)) (dss_wipe [4] (dss_one (ds_expr (de_mt dm_append PySem.F.slot_list_append PySem.F.type_list_append mt_append (de_var 3 (pv 3)) (da_cons (de_mt dm_popAt PySem.F.slot_list_pop PySem.F.type_list_pop mt_popAt (de_var 2 (pv 2)) (da_cons (de_callD D__law_take (hr.mono (by first | decide | omega)) rfl (fCons_len (fCons_len fNil_len)) (da_cons (de_var 0 (pv 0)) (da_cons (de_callB dc_len rfl B.len bt_len (da_cons (de_var 2 (pv 2)) da_nil)) da_nil))) da_nil)) da_nil)))) (by decide)) (fun _ h => h) live_r1)
    (dss_one (ds_ret (de_callTy dc_tuple rfl B.tuple bt_tuple (da_cons (de_var 3 (pv 3)) da_nil)))))))
theorem f__law_order {P : Program} {w : World} {K : PySem.W.Frag} {mg : Str → Option Value} {base : Heap} (A : At K mg "_law_order" s__law_order ["draws", "many"]) (B : Bs mg) (D__law_take : Df P w K mg base "_law_take" 1 2 m__law_take) : Df P w K mg base "_law_order" 2 2 m__law_order :=
  df_mkC A sc__law_order rfl (b__law_order B D__law_take)
abbrev s__law_mixed : Stmt := topS 27
theorem sc__law_mixed : FnScope ["draws", "machine", "tracks", "table", "ends", "names", "rows", "marks", "k", "way"] ["draws", "machine"] (defScope s__law_mixed) := ⟨rfl, rfl, rfl, by decide +kernel, rfl, by decide +kernel, by decide +kernel⟩
noncomputable def sd__law_mixed_1 : FS := (fAsg (tgTup (tgCons (tgN false 2) (tgCons (tgN false 3) (tgCons (tgN false 4) tgNil)))) (fVar 1))
noncomputable def le__law_mixed_1 : FE := (fBin gAdd (fVar 8) (fC (.int 1)))
noncomputable def sd__law_mixed_2 : FS := (fSet false 5 (fBin gAdd (fTupN (fCons (fC (.int 0)) fNil)) (fCB gTuple (fCons (fLc (fItE (fCall m__law_order (fCons (fVar 0) (fCons (fBin gSub (fCB gLen (fCons (fVar 3) fNil)) (fC (.int 1))) fNil)))) (tgN false 8) fYes le__law_mixed_1 [8]) fNil))))
noncomputable def sd__law_mixed_3 : FS := (fPar false false 6 7 (fCons (fBin gMul (fLstN (fCons (fTupN fNil) fNil)) (fCB gLen (fCons (fVar 3) fNil))) (fCons (fBin gMul (fLstN (fCons (fC (.bool false)) fNil)) (fCB gLen (fCons (fVar 3) fNil))) fNil)))
noncomputable def le__law_mixed_2 : FE := (fBin gIx (fVar 5) (fVar 9))
noncomputable def lb__law_mixed_1 : FS := (fWipe [8] (fSeq (fSetIx (fCB gTuple (fCons (fLc (fItE (fBin gIx (fVar 3) (fVar 8))) (tgN false 9) fYes le__law_mixed_2 [9]) fNil)) (fVar 6) (fBin gIx (fVar 5) (fVar 8)))
    (fSetIx (fBin gIx (fVar 4) (fVar 8)) (fVar 7) (fBin gIx (fVar 5) (fVar 8)))))
noncomputable def sd__law_mixed_4 : FS := (fFor (fItR1 (fCB gLen (fCons (fVar 3) fNil))) (tgN false 8) lb__law_mixed_1)
noncomputable def sd__law_mixed_5 : FS := (fRet [0, 1] (fTupN (fCons (fTupN (fCons (fVar 2) (fCons (fCB gTuple (fCons (fVar 6) fNil)) (fCons (fCB gTuple (fCons (fVar 7) fNil)) fNil)))) (fCons (fVar 5) fNil))))
noncomputable def d__law_mixed : FS := (fSeq sd__law_mixed_1 (fSeq sd__law_mixed_2 (fSeq sd__law_mixed_3 (fSeq sd__law_mixed_4 sd__law_mixed_5))))
noncomputable def m__law_mixed : Den := runD 10 2 d__law_mixed
theorem b__law_mixed {P : Program} {w : World} {K : PySem.W.Frag} {mg : Str → Option Value} {base : Heap} (B : Bs mg) (D__law_order : Df P w K mg base "_law_order" 2 2 m__law_order) (f : Addr) (cdv : Value) (A : Around) (outer : List PySem.Env) (s : Shared) (H : Hp) (E : XK) (hcd : PySem.W.kdsCode K cdv = true) (hr : Room 2 (A.deeper (envOfC "_law_mixed" (defScope s__law_mixed) s.heap.objs.size f cdv))) :
    DSs (cxOf CX0 P w K mg base ["draws", "machine", "tracks", "table", "ends", "names", "rows", "marks", "k", "way"] "_law_mixed" (defScope s__law_mixed) f cdv A outer s H E).nox (List.range 2) (defBody s__law_mixed) d__law_mixed :=
  have nd := (sc__law_mixed).nd
  (dss_cons (ds_asg (de_var 1 (pv 1)) (dg_tup rfl (dgs_cons (dg_name (chk := false) (i := 2) nd rfl (by first | exact Or.inl rfl | exact Or.inr rfl)) (dgs_cons (dg_name (chk := false) (i := 3) nd rfl (by first | exact Or.inl rfl | exact Or.inr rfl)) (dgs_cons (dg_name (chk := false) (i := 4) nd rfl (by first | exact Or.inl rfl | exact Or.inr rfl)) dgs_nil))) (lenCons (lenCons (lenCons lenNil)))))
    (dss_cons (ds_set (chk := false) (i := 5) nd rfl (by first | exact Or.inl rfl | exact Or.inr rfl) (de_bin dop_add (de_tupN (da_cons de_int da_nil) (fCons_len fNil_len)) (de_callTy dc_tuple rfl B.tuple bt_tuple (da_cons (de_lc (own := [("k", 8)]) rfl nd (di_e (de_callD D__law_order (hr.mono (by first | decide | omega)) rfl (fCons_len (fCons_len fNil_len)) (da_cons (de_var 0 (pv 0)) (da_cons (de_bin dop_sub (de_callB dc_len rfl B.len bt_len (da_cons (de_var 3 (pv 3)) da_nil)) de_int) da_nil)))) (blkOk_by (by kernel_rfl)) (by decide) (go_name (chk := false) (i := 8)) (fun _ _ _ _ _ => (dg_name (chk := false) (i := 8) nd rfl (by first | exact Or.inl rfl | exact Or.inr rfl))) (fun _ _ _ _ _ => dts_nil) (fun _ _ _ _ _ => (de_bin dop_add (de_var 8 (pv 8)) de_int))) da_nil))))
    (dss_cons (ds_par (c1 := false) (c2 := false) (i := 6) (j := 7) rfl nd rfl rfl (by decide) rfl rfl (da_cons (de_bin dop_mul (de_lstN (da_cons (de_tupN da_nil fNil_len) da_nil) (fCons_len fNil_len)) (de_callB dc_len rfl B.len bt_len (da_cons (de_var 3 (pv 3)) da_nil))) (da_cons (de_bin dop_mul (de_lstN (da_cons de_bl da_nil) (fCons_len fNil_len)) (de_callB dc_len rfl B.len bt_len (da_cons (de_var 3 (pv 3)) da_nil))) da_nil)) (by rfl))
    (dss_cons (ds_for (pl2 := [0, 1]) PassesOwn.never rfl (di_r1 rfl B.range (de_callB dc_len rfl B.len bt_len (da_cons (de_var 3 (pv 3)) da_nil))) (dg_name (chk := false) (i := 8) nd rfl (by first | exact Or.inl rfl | exact Or.inr rfl)) (dss_wipe [8] (dss_cons (ds_setIx (de_callTy dc_tuple rfl B.tuple bt_tuple (da_cons (de_lc (own := [("way", 9)]) rfl nd (di_e (de_ix (de_var 3 (pv 3)) (de_var 8 (pv 8)) (fun _ _ => rfl))) (blkOk_by (by kernel_rfl)) (by decide) (go_name (chk := false) (i := 9)) (fun _ _ _ _ _ => (dg_name (chk := false) (i := 9) nd rfl (by first | exact Or.inl rfl | exact Or.inr rfl))) (fun _ _ _ _ _ => dts_nil) (fun _ _ _ _ _ => (de_ix (de_var 5 (pv 5)) (de_var 9 (pv 9)) (fun _ _ => rfl)))) da_nil)) (de_var 6 (pv 6)) (de_ix (de_var 5 (pv 5)) (de_var 8 (pv 8)) (fun _ _ => rfl)))
    (dss_one (ds_setIx (de_ix (de_var 4 (pv 4)) (de_var 8 (pv 8)) (fun _ _ => rfl)) (de_var 7 (pv 7)) (de_ix (de_var 5 (pv 5)) (de_var 8 (pv 8)) (fun _ _ => rfl))))) (by decide)) (fun _ h => h) live_r1)
    (dss_one (ds_ret (de_tupN (da_cons (de_tupN (da_cons (de_var 2 (pv 2)) (da_cons (de_callTy dc_tuple rfl B.tuple bt_tuple (da_cons (de_var 6 (pv 6)) da_nil)) (da_cons (de_callTy dc_tuple rfl B.tuple bt_tuple (da_cons (de_var 7 (pv 7)) da_nil)) da_nil))) (fCons_len (fCons_len (fCons_len fNil_len)))) (da_cons (de_var 5 (pv 5)) da_nil)) (fCons_len (fCons_len fNil_len)))))))))
theorem f__law_mixed {P : Program} {w : World} {K : PySem.W.Frag} {mg : Str → Option Value} {base : Heap} (A : At K mg "_law_mixed" s__law_mixed ["draws", "machine"]) (B : Bs mg) (D__law_order : Df P w K mg base "_law_order" 2 2 m__law_order) : Df P w K mg base "_law_mixed" 3 2 m__law_mixed :=
  df_mkC A sc__law_mixed rfl (b__law_mixed B D__law_order)
abbrev s__law_counter : Stmt := topS 28
theorem sc__law_counter : FnScope ["tracks", "weights", "m", "ends", "table", "k", "weight"] ["tracks", "weights", "m", "ends"] (defScope s__law_counter) := ⟨rfl, rfl, rfl, by decide +kernel, rfl, by decide +kernel, by decide +kernel⟩
noncomputable def le__law_counter_1 : FE := (fBin gIn (fVar 5) (fVar 3))
noncomputable def le__law_counter_2 : FE := (fBin gMod (fCB gInt (fCons (fBin gAdd (fVar 5) (fVar 6)) fNil)) (fVar 2))
noncomputable def le__law_counter_3 : FE := (fCB gTuple (fCons (fLc (fItE (fVar 1)) (tgN false 6) fYes le__law_counter_2 [6]) fNil))
noncomputable def d__law_counter : FS := (fSeq (fSet false 4 (fLc (fItR1 (fVar 2)) (tgN false 5) fYes le__law_counter_3 [5]))
    (fRet [0, 1, 2, 3] (fTupN (fCons (fVar 0) (fCons (fCB gTuple (fCons (fVar 4) fNil)) (fCons (fCB gTuple (fCons (fLc (fItR1 (fVar 2)) (tgN false 5) fYes le__law_counter_1 [5]) fNil)) fNil))))))
noncomputable def m__law_counter : Den := runD 7 4 d__law_counter
theorem b__law_counter {P : Program} {w : World} {K : PySem.W.Frag} {mg : Str → Option Value} {base : Heap} (B : Bs mg) (f : Addr) (cdv : Value) (A : Around) (outer : List PySem.Env) (s : Shared) (H : Hp) (E : XK) (hcd : PySem.W.kdsCode K cdv = true) (hr : Room 0 (A.deeper (envOfC "_law_counter" (defScope s__law_counter) s.heap.objs.size f cdv))) :
    DSs (cxOf CX0 P w K mg base ["tracks", "weights", "m", "ends", "table", "k", "weight"] "_law_counter" (defScope s__law_counter) f cdv A outer s H E).nox (List.range 4) (defBody s__law_counter) d__law_counter :=
  have nd := (sc__law_counter).nd
  (dss_cons (ds_setLc (own := [("k", 5)]) (chk := false) (i := 4) rfl nd rfl rfl (sw_true rfl rfl rfl (by kernel_rfl)) (di_r1 rfl B.range (de_var 2 (pv 2))) (blkOk_by (by kernel_rfl)) (by decide) (go_name (chk := false) (i := 5)) (fun _ _ _ _ _ => (dg_name (chk := false) (i := 5) nd rfl (by first | exact Or.inl rfl | exact Or.inr rfl))) (fun _ _ _ _ _ => dts_nil) (fun _ _ _ _ _ => (de_callTy dc_tuple rfl B.tuple bt_tuple (da_cons (de_lc (own := [("weight", 6)]) rfl nd (di_e (de_var 1 (pv 1))) (blkOk_by (by kernel_rfl)) (by decide) (go_name (chk := false) (i := 6)) (fun _ _ _ _ _ => (dg_name (chk := false) (i := 6) nd rfl (by first | exact Or.inl rfl | exact Or.inr rfl))) (fun _ _ _ _ _ => dts_nil) (fun _ _ _ _ _ => (de_bin dop_mod (de_callTy dc_int rfl B.int bt_int (da_cons (de_bin dop_add (de_var 5 (pv 5)) (de_var 6 (pv 6))) da_nil)) (de_var 2 (pv 2))))) da_nil))))
    (dss_one (ds_ret (de_tupN (da_cons (de_var 0 (pv 0)) (da_cons (de_callTy dc_tuple rfl B.tuple bt_tuple (da_cons (de_var 4 (pv 4)) da_nil)) (da_cons (de_callTy dc_tuple rfl B.tuple bt_tuple (da_cons (de_lc (own := [("k", 5)]) rfl nd (di_r1 rfl B.range (de_var 2 (pv 2))) (blkOk_by (by kernel_rfl)) (by decide) (go_name (chk := false) (i := 5)) (fun _ _ _ _ _ => (dg_name (chk := false) (i := 5) nd rfl (by first | exact Or.inl rfl | exact Or.inr rfl))) (fun _ _ _ _ _ => dts_nil) (fun _ _ _ _ _ => (de_cmp (dop_in hr.units) (de_var 5 (pv 5)) (de_var 3 (pv 3))))) da_nil)) da_nil))) (fCons_len (fCons_len (fCons_len fNil_len)))))))
theorem f__law_counter {P : Program} {w : World} {K : PySem.W.Frag} {mg : Str → Option Value} {base : Heap} (A : At K mg "_law_counter" s__law_counter ["tracks", "weights", "m", "ends"]) (B : Bs mg) : Df P w K mg base "_law_counter" 1 4 m__law_counter :=
  df_mkC A sc__law_counter rfl (b__law_counter B)
abbrev s__law_ladder : Stmt := topS 29
theorem sc__law_ladder : FnScope ["tracks", "letters", "most", "ends", "table", "k", "letter"] ["tracks", "letters", "most", "ends"] (defScope s__law_ladder) := ⟨rfl, rfl, rfl, by decide +kernel, rfl, by decide +kernel, by decide +kernel⟩
noncomputable def le__law_ladder_1 : FE := (fBin gIn (fVar 5) (fVar 3))
noncomputable def le__law_ladder_2 : FE := (fIf (fTst (fBin gIn (fVar 6) (fVar 1))) (fCB gMin (fCons (fBin gAdd (fVar 5) (fC (.int 1))) (fCons (fVar 2) fNil))) (fVar 5))
noncomputable def le__law_ladder_3 : FE := (fCB gTuple (fCons (fLc (fItR1 (fBin gShl (fC (.int 1)) (fVar 0))) (tgN false 6) fYes le__law_ladder_2 [6]) fNil))
noncomputable def d__law_ladder : FS := (fSeq (fSet false 4 (fLc (fItR1 (fBin gAdd (fVar 2) (fC (.int 1)))) (tgN false 5) fYes le__law_ladder_3 [5]))
    (fRet [0, 1, 2, 3] (fTupN (fCons (fVar 0) (fCons (fCB gTuple (fCons (fVar 4) fNil)) (fCons (fCB gTuple (fCons (fLc (fItR1 (fBin gAdd (fVar 2) (fC (.int 1)))) (tgN false 5) fYes le__law_ladder_1 [5]) fNil)) fNil))))))
noncomputable def m__law_ladder : Den := runD 7 4 d__law_ladder
theorem b__law_ladder {P : Program} {w : World} {K : PySem.W.Frag} {mg : Str → Option Value} {base : Heap} (B : Bs mg) (f : Addr) (cdv : Value) (A : Around) (outer : List PySem.Env) (s : Shared) (H : Hp) (E : XK) (hcd : PySem.W.kdsCode K cdv = true) (hr : Room 0 (A.deeper (envOfC "_law_ladder" (defScope s__law_ladder) s.heap.objs.size f cdv))) :
    DSs (cxOf CX0 P w K mg base ["tracks", "letters", "most", "ends", "table", "k", "letter"] "_law_ladder" (defScope s__law_ladder) f cdv A outer s H E).nox (List.range 4) (defBody s__law_ladder) d__law_ladder :=
  have nd := (sc__law_ladder).nd
  (dss_cons (ds_setLc (own := [("k", 5)]) (chk := false) (i := 4) rfl nd rfl rfl (sw_true rfl rfl rfl (by kernel_rfl)) (di_r1 rfl B.range (de_bin dop_add (de_var 2 (pv 2)) de_int)) (blkOk_by (by kernel_rfl)) (by decide) (go_name (chk := false) (i := 5)) (fun _ _ _ _ _ => (dg_name (chk := false) (i := 5) nd rfl (by first | exact Or.inl rfl | exact Or.inr rfl))) (fun _ _ _ _ _ => dts_nil) (fun _ _ _ _ _ => (de_callTy dc_tuple rfl B.tuple bt_tuple (da_cons (de_lc (own := [("letter", 6)]) rfl nd (di_r1 rfl B.range (de_bin dop_shl de_int (de_var 0 (pv 0)))) (blkOk_by (by kernel_rfl)) (by decide) (go_name (chk := false) (i := 6)) (fun _ _ _ _ _ => (dg_name (chk := false) (i := 6) nd rfl (by first | exact Or.inl rfl | exact Or.inr rfl))) (fun _ _ _ _ _ => dts_nil) (fun _ _ _ _ _ => (de_if (dt_cmp (dop_in hr.units) (de_var 6 (pv 6)) (de_var 1 (pv 1))) (de_callB (dc_min rfl hr.units) rfl B.min bt_min (da_cons (de_bin dop_add (de_var 5 (pv 5)) de_int) (da_cons (de_var 2 (pv 2)) da_nil))) (de_var 5 (pv 5))))) da_nil))))
    (dss_one (ds_ret (de_tupN (da_cons (de_var 0 (pv 0)) (da_cons (de_callTy dc_tuple rfl B.tuple bt_tuple (da_cons (de_var 4 (pv 4)) da_nil)) (da_cons (de_callTy dc_tuple rfl B.tuple bt_tuple (da_cons (de_lc (own := [("k", 5)]) rfl nd (di_r1 rfl B.range (de_bin dop_add (de_var 2 (pv 2)) de_int)) (blkOk_by (by kernel_rfl)) (by decide) (go_name (chk := false) (i := 5)) (fun _ _ _ _ _ => (dg_name (chk := false) (i := 5) nd rfl (by first | exact Or.inl rfl | exact Or.inr rfl))) (fun _ _ _ _ _ => dts_nil) (fun _ _ _ _ _ => (de_cmp (dop_in hr.units) (de_var 5 (pv 5)) (de_var 3 (pv 3))))) da_nil)) da_nil))) (fCons_len (fCons_len (fCons_len fNil_len)))))))
theorem f__law_ladder {P : Program} {w : World} {K : PySem.W.Frag} {mg : Str → Option Value} {base : Heap} (A : At K mg "_law_ladder" s__law_ladder ["tracks", "letters", "most", "ends"]) (B : Bs mg) : Df P w K mg base "_law_ladder" 1 4 m__law_ladder :=
  df_mkC A sc__law_ladder rfl (b__law_ladder B)
abbrev s__law_word : Stmt := topS 30
theorem sc__law_word : FnScope ["draws", "tracks", "length", "k"] ["draws", "tracks", "length"] (defScope s__law_word) := ⟨rfl, rfl, rfl, by decide +kernel, rfl, by decide +kernel, by decide +kernel⟩
noncomputable def le__law_word_1 : FE := (fCall m__law_take (fCons (fVar 0) (fCons (fBin gShl (fC (.int 1)) (fVar 1)) fNil)))
noncomputable def d__law_word : FS := (fRet [0, 1, 2] (fCB gTuple (fCons (fLc (fItR1 (fVar 2)) (tgN false 3) fYes le__law_word_1 [3]) fNil)))
noncomputable def m__law_word : Den := runD 4 3 d__law_word
theorem b__law_word {P : Program} {w : World} {K : PySem.W.Frag} {mg : Str → Option Value} {base : Heap} (B : Bs mg) (D__law_take : Df P w K mg base "_law_take" 1 2 m__law_take) (f : Addr) (cdv : Value) (A : Around) (outer : List PySem.Env) (s : Shared) (H : Hp) (E : XK) (hcd : PySem.W.kdsCode K cdv = true) (hr : Room 1 (A.deeper (envOfC "_law_word" (defScope s__law_word) s.heap.objs.size f cdv))) :
    DSs (cxOf CX0 P w K mg base ["draws", "tracks", "length", "k"] "_law_word" (defScope s__law_word) f cdv A outer s H E).nox (List.range 3) (defBody s__law_word) d__law_word :=
  have nd := (sc__law_word).nd
  (dss_one (ds_ret (de_callTy dc_tuple rfl B.tuple bt_tuple (da_cons (de_lc (own := [("k", 3)]) rfl nd (di_r1 rfl B.range (de_var 2 (pv 2))) (blkOk_by (by kernel_rfl)) (by decide) (go_name (chk := false) (i := 3)) (fun _ _ _ _ _ => (dg_name (chk := false) (i := 3) nd rfl (by first | exact Or.inl rfl | exact Or.inr rfl))) (fun _ _ _ _ _ => dts_nil) (fun _ _ _ _ _ => (de_callD D__law_take (hr.mono (by first | decide | omega)) rfl (fCons_len (fCons_len fNil_len)) (da_cons (de_var 0 (pv 0)) (da_cons (de_bin dop_shl de_int (de_var 1 (pv 1))) da_nil))))) da_nil))))
theorem f__law_word {P : Program} {w : World} {K : PySem.W.Frag} {mg : Str → Option Value} {base : Heap} (A : At K mg "_law_word" s__law_word ["draws", "tracks", "length"]) (B : Bs mg) (D__law_take : Df P w K mg base "_law_take" 1 2 m__law_take) : Df P w K mg base "_law_word" 2 3 m__law_word :=
  df_mkC A sc__law_word rfl (b__law_word B D__law_take)
abbrev s__law_from : Stmt := topS 31
theorem sc__law_from : FnScope ["machine", "state", "word", "letter"] ["machine", "state", "word"] (defScope s__law_from) := ⟨rfl, rfl, rfl, by decide +kernel, rfl, by decide +kernel, by decide +kernel⟩
noncomputable def lb__law_from_1 : FS := (fWipe [3] (fSet true 1 (fBin gIx (fBin gIx (fBin gIx (fVar 0) (fC (.int 1))) (fVar 1)) (fVar 3))))
noncomputable def d__law_from : FS := (fSeq (fFor (fItE (fVar 2)) (tgN false 3) lb__law_from_1)
    (fRet [0, 1, 2] (fVar 1)))
noncomputable def m__law_from : Den := runD 4 3 d__law_from
theorem b__law_from {P : Program} {w : World} {K : PySem.W.Frag} {mg : Str → Option Value} {base : Heap} (B : Bs mg) (f : Addr) (cdv : Value) (A : Around) (outer : List PySem.Env) (s : Shared) (H : Hp) (E : XK) (hcd : PySem.W.kdsCode K cdv = true) (hr : Room 0 (A.deeper (envOfC "_law_from" (defScope s__law_from) s.heap.objs.size f cdv))) :
    DSs (cxOf CX0 P w K mg base ["machine", "state", "word", "letter"] "_law_from" (defScope s__law_from) f cdv A outer s H E).nox (List.range 3) (defBody s__law_from) d__law_from :=
  have nd := (sc__law_from).nd
  (dss_cons (ds_for (pl2 := [2, 0, 1, 2]) PassesOwn.never rfl (di_e (de_var 2 (pv 2))) (dg_name (chk := false) (i := 3) nd rfl (by first | exact Or.inl rfl | exact Or.inr rfl)) (dss_wipe [3] (dss_one (ds_set (chk := true) (i := 1) nd rfl (by first | exact Or.inl rfl | exact Or.inr rfl) (de_ix (de_ix (de_ix (de_var 0 (pv 0)) de_int (fun _ _ => rfl)) (de_var 1 (pv 1)) (fun _ _ => rfl)) (de_var 3 (pv 3)) (fun _ _ => rfl)))) (by decide)) (fun _ h => List.mem_cons_of_mem _ h) (live_var (by decide)))
    (dss_one (ds_ret (de_var 1 (pv 1)))))
theorem f__law_from {P : Program} {w : World} {K : PySem.W.Frag} {mg : Str → Option Value} {base : Heap} (A : At K mg "_law_from" s__law_from ["machine", "state", "word"]) (B : Bs mg) : Df P w K mg base "_law_from" 1 3 m__law_from :=
  df_mkC A sc__law_from rfl (b__law_from B)
abbrev s__law_is_shown : Stmt := topS 32
theorem sc__law_is_shown : FnScope ["machine", "words", "parts", "size", "pairs", "i", "letters", "k", "j", "word", "letter"] ["machine", "words", "parts"] (defScope s__law_is_shown) := ⟨rfl, rfl, rfl, by decide +kernel, rfl, by decide +kernel, by decide +kernel⟩
noncomputable def sd__law_is_shown_1 : FS := (fSet false 3 (fCB gLen (fCons (fBin gIx (fVar 0) (fC (.int 1))) fNil)))
noncomputable def sd__law_is_shown_2 : FS := (fSet false 4 (fLstN fNil))
noncomputable def le__law_is_shown_1 : FE := (fTupN (fCons (fVar 5) (fCons (fVar 8) fNil)))
noncomputable def lb__law_is_shown_1 : FS := (fWipe [5, 8] (fSet false 4 (fBin gAdd (fVar 4) (fLc (fItR2 (fBin gAdd (fVar 5) (fC (.int 1))) (fVar 3)) (tgN false 8) fYes le__law_is_shown_1 [8]))))
noncomputable def sd__law_is_shown_3 : FS := (fFor (fItR1 (fVar 3)) (tgN false 5) lb__law_is_shown_1)
noncomputable def sd__law_is_shown_4 : FS := (fIfS (fOr (fTst (fBin gNe (fCB gLen (fCons (fVar 1) fNil)) (fVar 3))) (fTst (fBin gNe (fCB gLen (fCons (fVar 2) fNil)) (fCB gLen (fCons (fVar 4) fNil))))) (fRet [0, 1, 2] (fC (.bool false))) fNext)
noncomputable def sd__law_is_shown_5 : FS := (fSet false 6 (fListRg (fRg1 (fBin gShl (fC (.int 1)) (fBin gIx (fVar 0) (fC (.int 0)))))))
noncomputable def le__law_is_shown_2 : FE := (fVar 10)
noncomputable def lf__law_is_shown_1 : FB := (fTst (fBin gNotIn (fVar 10) (fVar 6)))
noncomputable def le__law_is_shown_3 : FE := (fVar 9)
noncomputable def lf__law_is_shown_2 : FB := (fTst (fBin gGt (fCB gLen (fCons (fLc (fItE (fVar 9)) (tgN false 10) lf__law_is_shown_1 le__law_is_shown_2 [10]) fNil)) (fC (.int 0))))
noncomputable def sd__law_is_shown_6 : FS := (fIfS (fTst (fBin gGt (fCB gLen (fCons (fLc (fItE (fBin gAdd (fVar 1) (fVar 2))) (tgN false 9) lf__law_is_shown_2 le__law_is_shown_3 [9]) fNil)) (fC (.int 0)))) (fRet [0, 1, 2] (fC (.bool false))) fNext)
noncomputable def le__law_is_shown_4 : FE := (fVar 7)
noncomputable def lf__law_is_shown_3 : FB := (fTst (fBin gNe (fCall m__law_from (fCons (fVar 0) (fCons (fC (.int 0)) (fCons (fBin gIx (fVar 1) (fVar 7)) fNil)))) (fVar 7)))
noncomputable def sd__law_is_shown_7 : FS := (fIfS (fTst (fBin gGt (fCB gLen (fCons (fLc (fItR1 (fVar 3)) (tgN false 7) lf__law_is_shown_3 le__law_is_shown_4 [7]) fNil)) (fC (.int 0)))) (fRet [0, 1, 2] (fC (.bool false))) fNext)
noncomputable def lb__law_is_shown_2 : FS := (fWipe [5, 7, 8] (fSeq (fAsg (tgTup (tgCons (tgN false 5) (tgCons (tgN false 8) tgNil))) (fBin gIx (fVar 4) (fVar 7)))
    (fIfS (fTst (fBin gEq (fBin gIx (fBin gIx (fVar 0) (fC (.int 2))) (fCall m__law_from (fCons (fVar 0) (fCons (fVar 5) (fCons (fBin gIx (fVar 2) (fVar 7)) fNil))))) (fBin gIx (fBin gIx (fVar 0) (fC (.int 2))) (fCall m__law_from (fCons (fVar 0) (fCons (fVar 8) (fCons (fBin gIx (fVar 2) (fVar 7)) fNil))))))) (fRet [0, 1, 2] (fC (.bool false))) fNext)))
noncomputable def sd__law_is_shown_8 : FS := (fFor (fItR1 (fCB gLen (fCons (fVar 4) fNil))) (tgN false 7) lb__law_is_shown_2)
noncomputable def sd__law_is_shown_9 : FS := (fRet [0, 1, 2] (fC (.bool true)))
noncomputable def d__law_is_shown : FS := (fSeq sd__law_is_shown_1 (fSeq sd__law_is_shown_2 (fSeq sd__law_is_shown_3 (fSeq sd__law_is_shown_4 (fSeq sd__law_is_shown_5 (fSeq sd__law_is_shown_6 (fSeq sd__law_is_shown_7 (fSeq sd__law_is_shown_8 sd__law_is_shown_9))))))))
noncomputable def m__law_is_shown : Den := runD 11 3 d__law_is_shown
theorem b__law_is_shown {P : Program} {w : World} {K : PySem.W.Frag} {mg : Str → Option Value} {base : Heap} (B : Bs mg) (D__law_from : Df P w K mg base "_law_from" 1 3 m__law_from) (f : Addr) (cdv : Value) (A : Around) (outer : List PySem.Env) (s : Shared) (H : Hp) (E : XK) (hcd : PySem.W.kdsCode K cdv = true) (hr : Room 1 (A.deeper (envOfC "_law_is_shown" (defScope s__law_is_shown) s.heap.objs.size f cdv))) :
    DSs (cxOf CX0 P w K mg base ["machine", "words", "parts", "size", "pairs", "i", "letters", "k", "j", "word", "letter"] "_law_is_shown" (defScope s__law_is_shown) f cdv A outer s H E).nox (List.range 3) (defBody s__law_is_shown) d__law_is_shown :=
  have nd := (sc__law_is_shown).nd
  (dss_cons (ds_set (chk := false) (i := 3) nd rfl (by first | exact Or.inl rfl | exact Or.inr rfl) (de_callB dc_len rfl B.len bt_len (da_cons (de_ix (de_var 0 (pv 0)) de_int (fun _ _ => rfl)) da_nil)))
    (dss_cons (ds_set (chk := false) (i := 4) nd rfl (by first | exact Or.inl rfl | exact Or.inr rfl) (de_lstN da_nil fNil_len))
    (dss_cons (ds_for (pl2 := [0, 1, 2]) PassesOwn.never rfl (di_r1 rfl B.range (de_var 3 (pv 3))) (dg_name (chk := false) (i := 5) nd rfl (by first | exact Or.inl rfl | exact Or.inr rfl)) (dss_wipe [5, 8] (dss_one (ds_set (chk := false) (i := 4) nd rfl (by first | exact Or.inl rfl | exact Or.inr rfl) (de_bin dop_add (de_var 4 (pv 4)) (de_lc (own := [("j", 8)]) rfl nd (di_r2 rfl B.range (de_bin dop_add (de_var 5 (pv 5)) de_int) (de_var 3 (pv 3))) (blkOk_by (by kernel_rfl)) (by decide) (go_name (chk := false) (i := 8)) (fun _ _ _ _ _ => (dg_name (chk := false) (i := 8) nd rfl (by first | exact Or.inl rfl | exact Or.inr rfl))) (fun _ _ _ _ _ => dts_nil) (fun _ _ _ _ _ => (de_tupN (da_cons (de_var 5 (pv 5)) (da_cons (de_var 8 (pv 8)) da_nil)) (fCons_len (fCons_len fNil_len)))))))) (by decide)) (fun _ h => h) live_r1)
    (dss_cons (ds_if (DW.t (dw_or (dt_cmp (dop_ne hr.units) (de_callB dc_len rfl B.len bt_len (da_cons (de_var 1 (pv 1)) da_nil)) (de_var 3 (pv 3))) (dw_or1 (dt_cmp (dop_ne hr.units) (de_callB dc_len rfl B.len bt_len (da_cons (de_var 2 (pv 2)) da_nil)) (de_callB dc_len rfl B.len bt_len (da_cons (de_var 4 (pv 4)) da_nil)))))) (dss_one (ds_ret de_bl)) dss_nil)
    (dss_cons (ds_set (chk := false) (i := 6) nd rfl (by first | exact Or.inl rfl | exact Or.inr rfl) (de_listRg rfl rfl B.list (dr_1 rfl B.range (de_bin dop_shl de_int (de_ix (de_var 0 (pv 0)) de_int (fun _ _ => rfl))))))
    (dss_cons (ds_if (dt_cmp (dop_gtA hr.units) (de_callB dc_len rfl B.len bt_len (da_cons (de_lc (own := [("word", 9)]) rfl nd (di_e (de_bin dop_add (de_var 1 (pv 1)) (de_var 2 (pv 2)))) (blkOk_by (by kernel_rfl)) (by decide) (go_name (chk := false) (i := 9)) (fun _ _ _ _ _ => (dg_name (chk := false) (i := 9) nd rfl (by first | exact Or.inl rfl | exact Or.inr rfl))) (fun _ _ _ _ _ => (dts_one (dt_cmp (dop_gtA hr.units) (de_callB dc_len rfl B.len bt_len (da_cons (de_lc (own := [("letter", 10)]) rfl nd (di_e (de_var 9 (pv 9))) (blkOk_by (by kernel_rfl)) (by decide) (go_name (chk := false) (i := 10)) (fun _ _ _ _ _ => (dg_name (chk := false) (i := 10) nd rfl (by first | exact Or.inl rfl | exact Or.inr rfl))) (fun _ _ _ _ _ => (dts_one (dt_cmp (dop_notIn hr.units) (de_var 10 (pv 10)) (de_var 6 (pv 6))))) (fun _ _ _ _ _ => (de_var 10 (pv 10)))) da_nil)) de_int))) (fun _ _ _ _ _ => (de_var 9 (pv 9)))) da_nil)) de_int) (dss_one (ds_ret de_bl)) dss_nil)
    (dss_cons (ds_if (dt_cmp (dop_gtA hr.units) (de_callB dc_len rfl B.len bt_len (da_cons (de_lc (own := [("k", 7)]) rfl nd (di_r1 rfl B.range (de_var 3 (pv 3))) (blkOk_by (by kernel_rfl)) (by decide) (go_name (chk := false) (i := 7)) (fun _ _ _ _ _ => (dg_name (chk := false) (i := 7) nd rfl (by first | exact Or.inl rfl | exact Or.inr rfl))) (fun _ _ _ _ _ => (dts_one (dt_cmp (dop_ne hr.units) (de_callD D__law_from (hr.mono (by first | decide | omega)) rfl (fCons_len (fCons_len (fCons_len fNil_len))) (da_cons (de_var 0 (pv 0)) (da_cons de_int (da_cons (de_ix (de_var 1 (pv 1)) (de_var 7 (pv 7)) (fun _ _ => rfl)) da_nil)))) (de_var 7 (pv 7))))) (fun _ _ _ _ _ => (de_var 7 (pv 7)))) da_nil)) de_int) (dss_one (ds_ret de_bl)) dss_nil)
    (dss_cons (ds_for (pl2 := [0, 1, 2]) PassesOwn.never rfl (di_r1 rfl B.range (de_callB dc_len rfl B.len bt_len (da_cons (de_var 4 (pv 4)) da_nil))) (dg_name (chk := false) (i := 7) nd rfl (by first | exact Or.inl rfl | exact Or.inr rfl)) (dss_wipe [5, 7, 8] (dss_cons (ds_asg (de_ix (de_var 4 (pv 4)) (de_var 7 (pv 7)) (fun _ _ => rfl)) (dg_tup rfl (dgs_cons (dg_name (chk := false) (i := 5) nd rfl (by first | exact Or.inl rfl | exact Or.inr rfl)) (dgs_cons (dg_name (chk := false) (i := 8) nd rfl (by first | exact Or.inl rfl | exact Or.inr rfl)) dgs_nil)) (lenCons (lenCons lenNil))))
    (dss_one (ds_if (dt_cmp (dop_eq hr.units) (de_ix (de_ix (de_var 0 (pv 0)) de_int (fun _ _ => rfl)) (de_callD D__law_from (hr.mono (by first | decide | omega)) rfl (fCons_len (fCons_len (fCons_len fNil_len))) (da_cons (de_var 0 (pv 0)) (da_cons (de_var 5 (pv 5)) (da_cons (de_ix (de_var 2 (pv 2)) (de_var 7 (pv 7)) (fun _ _ => rfl)) da_nil)))) (fun _ _ => rfl)) (de_ix (de_ix (de_var 0 (pv 0)) de_int (fun _ _ => rfl)) (de_callD D__law_from (hr.mono (by first | decide | omega)) rfl (fCons_len (fCons_len (fCons_len fNil_len))) (da_cons (de_var 0 (pv 0)) (da_cons (de_var 8 (pv 8)) (da_cons (de_ix (de_var 2 (pv 2)) (de_var 7 (pv 7)) (fun _ _ => rfl)) da_nil)))) (fun _ _ => rfl))) (dss_one (ds_ret de_bl)) dss_nil))) (by decide)) (fun _ h => h) live_r1)
    (dss_one (ds_ret de_bl))))))))))
theorem f__law_is_shown {P : Program} {w : World} {K : PySem.W.Frag} {mg : Str → Option Value} {base : Heap} (A : At K mg "_law_is_shown" s__law_is_shown ["machine", "words", "parts"]) (B : Bs mg) (D__law_from : Df P w K mg base "_law_from" 1 3 m__law_from) : Df P w K mg base "_law_is_shown" 2 3 m__law_is_shown :=
  df_mkC A sc__law_is_shown rfl (b__law_is_shown B D__law_from)
abbrev s__law_ring_shown : Stmt := topS 33
theorem sc__law_ring_shown : FnScope ["letter", "m", "parts", "i", "j", "k"] ["letter", "m"] (defScope s__law_ring_shown) := ⟨rfl, rfl, rfl, by decide +kernel, rfl, by decide +kernel, by decide +kernel⟩
noncomputable def le__law_ring_shown_1 : FE := (fBin gMul (fTupN (fCons (fVar 0) fNil)) (fVar 5))
noncomputable def le__law_ring_shown_2 : FE := (fIf (fTst (fBin gEq (fVar 3) (fC (.int 0)))) (fTupN fNil) (fBin gMul (fTupN (fCons (fVar 0) fNil)) (fBin gSub (fVar 1) (fVar 4))))
noncomputable def lb__law_ring_shown_1 : FS := (fWipe [3] (fSet false 2 (fBin gAdd (fVar 2) (fLc (fItR2 (fBin gAdd (fVar 3) (fC (.int 1))) (fVar 1)) (tgN false 4) fYes le__law_ring_shown_2 [4]))))
noncomputable def d__law_ring_shown : FS := (fSeq (fSet false 2 (fLstN fNil))
    (fSeq (fFor (fItR1 (fVar 1)) (tgN false 3) lb__law_ring_shown_1)
    (fRet [0, 1] (fTupN (fCons (fCB gTuple (fCons (fLc (fItR1 (fVar 1)) (tgN false 5) fYes le__law_ring_shown_1 [5]) fNil)) (fCons (fCB gTuple (fCons (fVar 2) fNil)) fNil))))))
noncomputable def m__law_ring_shown : Den := runD 6 2 d__law_ring_shown
theorem b__law_ring_shown {P : Program} {w : World} {K : PySem.W.Frag} {mg : Str → Option Value} {base : Heap} (B : Bs mg) (f : Addr) (cdv : Value) (A : Around) (outer : List PySem.Env) (s : Shared) (H : Hp) (E : XK) (hcd : PySem.W.kdsCode K cdv = true) (hr : Room 0 (A.deeper (envOfC "_law_ring_shown" (defScope s__law_ring_shown) s.heap.objs.size f cdv))) :
    DSs (cxOf CX0 P w K mg base ["letter", "m", "parts", "i", "j", "k"] "_law_ring_shown" (defScope s__law_ring_shown) f cdv A outer s H E).nox (List.range 2) (defBody s__law_ring_shown) d__law_ring_shown :=
  have nd := (sc__law_ring_shown).nd
  (dss_cons (ds_set (chk := false) (i := 2) nd rfl (by first | exact Or.inl rfl | exact Or.inr rfl) (de_lstN da_nil fNil_len))
    (dss_cons (ds_for (pl2 := [0, 1]) PassesOwn.never rfl (di_r1 rfl B.range (de_var 1 (pv 1))) (dg_name (chk := false) (i := 3) nd rfl (by first | exact Or.inl rfl | exact Or.inr rfl)) (dss_wipe [3] (dss_one (ds_set (chk := false) (i := 2) nd rfl (by first | exact Or.inl rfl | exact Or.inr rfl) (de_bin dop_add (de_var 2 (pv 2)) (de_lc (own := [("j", 4)]) rfl nd (di_r2 rfl B.range (de_bin dop_add (de_var 3 (pv 3)) de_int) (de_var 1 (pv 1))) (blkOk_by (by kernel_rfl)) (by decide) (go_name (chk := false) (i := 4)) (fun _ _ _ _ _ => (dg_name (chk := false) (i := 4) nd rfl (by first | exact Or.inl rfl | exact Or.inr rfl))) (fun _ _ _ _ _ => dts_nil) (fun _ _ _ _ _ => (de_if (dt_cmp (dop_eq hr.units) (de_var 3 (pv 3)) de_int) (de_tupN da_nil fNil_len) (de_bin dop_mul (de_tupN (da_cons (de_var 0 (pv 0)) da_nil) (fCons_len fNil_len)) (de_bin dop_sub (de_var 1 (pv 1)) (de_var 4 (pv 4)))))))))) (by decide)) (fun _ h => h) live_r1)
    (dss_one (ds_ret (de_tupN (da_cons (de_callTy dc_tuple rfl B.tuple bt_tuple (da_cons (de_lc (own := [("k", 5)]) rfl nd (di_r1 rfl B.range (de_var 1 (pv 1))) (blkOk_by (by kernel_rfl)) (by decide) (go_name (chk := false) (i := 5)) (fun _ _ _ _ _ => (dg_name (chk := false) (i := 5) nd rfl (by first | exact Or.inl rfl | exact Or.inr rfl))) (fun _ _ _ _ _ => dts_nil) (fun _ _ _ _ _ => (de_bin dop_mul (de_tupN (da_cons (de_var 0 (pv 0)) da_nil) (fCons_len fNil_len)) (de_var 5 (pv 5))))) da_nil)) (da_cons (de_callTy dc_tuple rfl B.tuple bt_tuple (da_cons (de_var 2 (pv 2)) da_nil)) da_nil)) (fCons_len (fCons_len fNil_len)))))))
theorem f__law_ring_shown {P : Program} {w : World} {K : PySem.W.Frag} {mg : Str → Option Value} {base : Heap} (A : At K mg "_law_ring_shown" s__law_ring_shown ["letter", "m"]) (B : Bs mg) : Df P w K mg base "_law_ring_shown" 1 2 m__law_ring_shown :=
  df_mkC A sc__law_ring_shown rfl (b__law_ring_shown B)
abbrev s__law_ladder_shown : Stmt := topS 34
theorem sc__law_ladder_shown : FnScope ["letter", "most", "parts", "i", "j", "k"] ["letter", "most"] (defScope s__law_ladder_shown) := ⟨rfl, rfl, rfl, by decide +kernel, rfl, by decide +kernel, by decide +kernel⟩
noncomputable def le__law_ladder_shown_1 : FE := (fBin gMul (fTupN (fCons (fVar 0) fNil)) (fVar 5))
noncomputable def le__law_ladder_shown_2 : FE := (fBin gMul (fTupN (fCons (fVar 0) fNil)) (fBin gSub (fVar 1) (fVar 4)))
noncomputable def lb__law_ladder_shown_1 : FS := (fWipe [3] (fSet false 2 (fBin gAdd (fVar 2) (fLc (fItR2 (fBin gAdd (fVar 3) (fC (.int 1))) (fBin gAdd (fVar 1) (fC (.int 1)))) (tgN false 4) fYes le__law_ladder_shown_2 [4]))))
noncomputable def d__law_ladder_shown : FS := (fSeq (fSet false 2 (fLstN fNil))
    (fSeq (fFor (fItR1 (fBin gAdd (fVar 1) (fC (.int 1)))) (tgN false 3) lb__law_ladder_shown_1)
    (fRet [0, 1] (fTupN (fCons (fCB gTuple (fCons (fLc (fItR1 (fBin gAdd (fVar 1) (fC (.int 1)))) (tgN false 5) fYes le__law_ladder_shown_1 [5]) fNil)) (fCons (fCB gTuple (fCons (fVar 2) fNil)) fNil))))))
noncomputable def m__law_ladder_shown : Den := runD 6 2 d__law_ladder_shown
theorem b__law_ladder_shown {P : Program} {w : World} {K : PySem.W.Frag} {mg : Str → Option Value} {base : Heap} (B : Bs mg) (f : Addr) (cdv : Value) (A : Around) (outer : List PySem.Env) (s : Shared) (H : Hp) (E : XK) (hcd : PySem.W.kdsCode K cdv = true) (hr : Room 0 (A.deeper (envOfC "_law_ladder_shown" (defScope s__law_ladder_shown) s.heap.objs.size f cdv))) :
    DSs (cxOf CX0 P w K mg base ["letter", "most", "parts", "i", "j", "k"] "_law_ladder_shown" (defScope s__law_ladder_shown) f cdv A outer s H E).nox (List.range 2) (defBody s__law_ladder_shown) d__law_ladder_shown :=
  have nd := (sc__law_ladder_shown).nd
  (dss_cons (ds_set (chk := false) (i := 2) nd rfl (by first | exact Or.inl rfl | exact Or.inr rfl) (de_lstN da_nil fNil_len))
    (dss_cons (ds_for (pl2 := [0, 1]) PassesOwn.never rfl (di_r1 rfl B.range (de_bin dop_add (de_var 1 (pv 1)) de_int)) (dg_name (chk := false) (i := 3) nd rfl (by first | exact Or.inl rfl | exact Or.inr rfl)) (dss_wipe [3] (dss_one (ds_set (chk := false) (i := 2) nd rfl (by first | exact Or.inl rfl | exact Or.inr rfl) (de_bin dop_add (de_var 2 (pv 2)) (de_lc (own := [("j", 4)]) rfl nd (di_r2 rfl B.range (de_bin dop_add (de_var 3 (pv 3)) de_int) (de_bin dop_add (de_var 1 (pv 1)) de_int)) (blkOk_by (by kernel_rfl)) (by decide) (go_name (chk := false) (i := 4)) (fun _ _ _ _ _ => (dg_name (chk := false) (i := 4) nd rfl (by first | exact Or.inl rfl | exact Or.inr rfl))) (fun _ _ _ _ _ => dts_nil) (fun _ _ _ _ _ => (de_bin dop_mul (de_tupN (da_cons (de_var 0 (pv 0)) da_nil) (fCons_len fNil_len)) (de_bin dop_sub (de_var 1 (pv 1)) (de_var 4 (pv 4))))))))) (by decide)) (fun _ h => h) live_r1)
    (dss_one (ds_ret (de_tupN (da_cons (de_callTy dc_tuple rfl B.tuple bt_tuple (da_cons (de_lc (own := [("k", 5)]) rfl nd (di_r1 rfl B.range (de_bin dop_add (de_var 1 (pv 1)) de_int)) (blkOk_by (by kernel_rfl)) (by decide) (go_name (chk := false) (i := 5)) (fun _ _ _ _ _ => (dg_name (chk := false) (i := 5) nd rfl (by first | exact Or.inl rfl | exact Or.inr rfl))) (fun _ _ _ _ _ => dts_nil) (fun _ _ _ _ _ => (de_bin dop_mul (de_tupN (da_cons (de_var 0 (pv 0)) da_nil) (fCons_len fNil_len)) (de_var 5 (pv 5))))) da_nil)) (da_cons (de_callTy dc_tuple rfl B.tuple bt_tuple (da_cons (de_var 2 (pv 2)) da_nil)) da_nil)) (fCons_len (fCons_len fNil_len)))))))
theorem f__law_ladder_shown {P : Program} {w : World} {K : PySem.W.Frag} {mg : Str → Option Value} {base : Heap} (A : At K mg "_law_ladder_shown" s__law_ladder_shown ["letter", "most"]) (B : Bs mg) : Df P w K mg base "_law_ladder_shown" 1 2 m__law_ladder_shown :=
  df_mkC A sc__law_ladder_shown rfl (b__law_ladder_shown B)
abbrev s__law_put_in : Stmt := topS 35
theorem sc__law_put_in : FnScope ["draws", "word", "rounds", "at"] ["draws", "word", "rounds"] (defScope s__law_put_in) := ⟨rfl, rfl, rfl, by decide +kernel, rfl, by decide +kernel, by decide +kernel⟩
noncomputable def d__law_put_in : FS := (fSeq (fSet false 3 (fCall m__law_take (fCons (fVar 0) (fCons (fBin gAdd (fCB gLen (fCons (fVar 1) fNil)) (fC (.int 1))) fNil))))
    (fRet [0, 1, 2] (fBin gAdd (fBin gAdd (fSl (fVar 1) fNoPart (fPart (fVar 3))) (fVar 2)) (fSl (fVar 1) (fPart (fVar 3)) fNoPart))))
noncomputable def m__law_put_in : Den := runD 4 3 d__law_put_in
theorem b__law_put_in {P : Program} {w : World} {K : PySem.W.Frag} {mg : Str → Option Value} {base : Heap} (B : Bs mg) (D__law_take : Df P w K mg base "_law_take" 1 2 m__law_take) (f : Addr) (cdv : Value) (A : Around) (outer : List PySem.Env) (s : Shared) (H : Hp) (E : XK) (hcd : PySem.W.kdsCode K cdv = true) (hr : Room 1 (A.deeper (envOfC "_law_put_in" (defScope s__law_put_in) s.heap.objs.size f cdv))) :
    DSs (cxOf CX0 P w K mg base ["draws", "word", "rounds", "at"] "_law_put_in" (defScope s__law_put_in) f cdv A outer s H E).nox (List.range 3) (defBody s__law_put_in) d__law_put_in :=
  have nd := (sc__law_put_in).nd
  (dss_cons (ds_set (chk := false) (i := 3) nd rfl (by first | exact Or.inl rfl | exact Or.inr rfl) (de_callD D__law_take (hr.mono (by first | decide | omega)) rfl (fCons_len (fCons_len fNil_len)) (da_cons (de_var 0 (pv 0)) (da_cons (de_bin dop_add (de_callB dc_len rfl B.len bt_len (da_cons (de_var 1 (pv 1)) da_nil)) de_int) da_nil))))
    (dss_one (ds_ret (de_bin dop_add (de_bin dop_add (de_sl (de_var 1 (pv 1)) do_none (do_some (de_var 3 (pv 3)))) (de_var 2 (pv 2))) (de_sl (de_var 1 (pv 1)) (do_some (de_var 3 (pv 3))) do_none)))))
theorem f__law_put_in {P : Program} {w : World} {K : PySem.W.Frag} {mg : Str → Option Value} {base : Heap} (A : At K mg "_law_put_in" s__law_put_in ["draws", "word", "rounds"]) (B : Bs mg) (D__law_take : Df P w K mg base "_law_take" 1 2 m__law_take) : Df P w K mg base "_law_put_in" 2 3 m__law_put_in :=
  df_mkC A sc__law_put_in rfl (b__law_put_in B D__law_take)
abbrev s__law_are_spoilt_judged : Stmt := topS 36
theorem sc__law_are_spoilt_judged : FnScope ["draws", "machine", "words", "parts", "cell", "k", "j", "word", "rows", "row"] ["draws", "machine", "words", "parts", "cell"] (defScope s__law_are_spoilt_judged) := ⟨rfl, rfl, rfl, by decide +kernel, rfl, by decide +kernel, by decide +kernel⟩
noncomputable def sd__law_are_spoilt_judged_1 : FS := (fPar false false 5 6 (fCons (fBin gSub (fBin gSub (fCB gLen (fCons (fVar 2) fNil)) (fC (.int 1))) (fCall m__law_take (fCons (fVar 0) (fCons (fCB gMin (fCons (fC (.int 4)) (fCons (fCB gLen (fCons (fVar 2) fNil)) fNil))) fNil)))) (fCons (fBin gSub (fBin gSub (fCB gLen (fCons (fVar 3) fNil)) (fC (.int 1))) (fCall m__law_take (fCons (fVar 0) (fCons (fCB gMin (fCons (fC (.int 5)) (fCons (fCB gLen (fCons (fVar 3) fNil)) fNil))) fNil)))) fNil)))
noncomputable def sd__law_are_spoilt_judged_2 : FS := (fSet false 7 (fCall m__law_word (fCons (fVar 0) (fCons (fBin gIx (fVar 1) (fC (.int 0))) (fCons (fCall m__law_take (fCons (fVar 0) (fCons (fC (.int 6)) fNil))) fNil)))))
noncomputable def sd__law_are_spoilt_judged_3 : FS := (fSet false 8 (fLstN (fCons (fTupN (fCons (fBin gAdd (fBin gAdd (fSl (fVar 2) fNoPart (fPart (fVar 5))) (fTupN (fCons (fVar 7) fNil))) (fSl (fVar 2) (fPart (fBin gAdd (fVar 5) (fC (.int 1)))) fNoPart)) (fCons (fVar 3) fNil))) (fCons (fTupN (fCons (fBin gAdd (fBin gAdd (fSl (fVar 2) fNoPart (fPart (fVar 5))) (fTupN (fCons (fBin gAdd (fBin gIx (fVar 2) (fVar 5)) (fTupN (fCons (fVar 4) fNil))) fNil))) (fSl (fVar 2) (fPart (fBin gAdd (fVar 5) (fC (.int 1)))) fNoPart)) (fCons (fVar 3) fNil))) (fCons (fTupN (fCons (fSl (fVar 2) fNoPart (fPart (fNeg (fC (.int 1))))) (fCons (fVar 3) fNil))) (fCons (fTupN (fCons (fBin gAdd (fVar 2) (fSl (fVar 2) fNoPart (fPart (fC (.int 1))))) (fCons (fVar 3) fNil))) fNil))))))
noncomputable def sd__law_are_spoilt_judged_4 : FS := (fSet false 8 (fBin gAdd (fVar 8) (fLstN (fCons (fTupN (fCons (fVar 2) (fCons (fBin gAdd (fBin gAdd (fSl (fVar 3) fNoPart (fPart (fVar 6))) (fTupN (fCons (fVar 7) fNil))) (fSl (fVar 3) (fPart (fBin gAdd (fVar 6) (fC (.int 1)))) fNoPart)) fNil))) (fCons (fTupN (fCons (fVar 2) (fCons (fBin gAdd (fBin gAdd (fSl (fVar 3) fNoPart (fPart (fVar 6))) (fTupN (fCons (fBin gAdd (fBin gIx (fVar 3) (fVar 6)) (fTupN (fCons (fNeg (fC (.int 1))) fNil))) fNil))) (fSl (fVar 3) (fPart (fBin gAdd (fVar 6) (fC (.int 1)))) fNoPart)) fNil))) (fCons (fTupN (fCons (fVar 2) (fCons (fSl (fVar 3) fNoPart (fPart (fNeg (fC (.int 1))))) fNil))) (fCons (fTupN (fCons (fVar 2) (fCons (fBin gAdd (fVar 3) (fTupN (fCons (fTupN fNil) fNil))) fNil))) fNil)))))))
noncomputable def sd__law_are_spoilt_judged_5 : FS := (fSet false 8 (fBin gAdd (fVar 8) (fLstN (fCons (fTupN (fCons (fBackT (fVar 2) fNoPart) (fCons (fVar 3) fNil))) (fCons (fTupN (fCons (fVar 2) (fCons (fBackT (fVar 3) fNoPart) fNil))) (fCons (fTupN (fCons (fTupN fNil) (fCons (fTupN fNil) fNil))) fNil))))))
noncomputable def lb__law_are_spoilt_judged_1 : FS := (fWipe [9] (fIfS (fNot (fTst (fCall (m__law_same 6) (fCons (fCall m_judge_shown_least (fCons (fVar 1) (fCons (fVar 9) fNil))) (fCons (fCall m__law_is_shown (fCons (fVar 1) (fCons (fBin gIx (fVar 9) (fC (.int 0))) (fCons (fBin gIx (fVar 9) (fC (.int 1))) fNil)))) fNil))))) (fRet [8, 0, 1, 2, 3, 4] (fC (.bool false))) fNext))
noncomputable def sd__law_are_spoilt_judged_6 : FS := (fFor (fItE (fVar 8)) (tgN false 9) lb__law_are_spoilt_judged_1)
noncomputable def sd__law_are_spoilt_judged_7 : FS := (fRet [0, 1, 2, 3, 4] (fC (.bool true)))
noncomputable def d__law_are_spoilt_judged : FS := (fSeq sd__law_are_spoilt_judged_1 (fSeq sd__law_are_spoilt_judged_2 (fSeq sd__law_are_spoilt_judged_3 (fSeq sd__law_are_spoilt_judged_4 (fSeq sd__law_are_spoilt_judged_5 (fSeq sd__law_are_spoilt_judged_6 sd__law_are_spoilt_judged_7))))))
noncomputable def m__law_are_spoilt_judged : Den := runD 10 5 d__law_are_spoilt_judged
theorem b__law_are_spoilt_judged {P : Program} {w : World} {K : PySem.W.Frag} {mg : Str → Option Value} {base : Heap} (B : Bs mg) (D__law_take : Df P w K mg base "_law_take" 1 2 m__law_take) (D__law_word : Df P w K mg base "_law_word" 2 3 m__law_word) (D__law_same : Df P w K mg base "_law_same" 6 2 (m__law_same 6)) (D__law_is_shown : Df P w K mg base "_law_is_shown" 2 3 m__law_is_shown) (D_judge_shown_least : Df P w K mg base "judge_shown_least" 4 2 m_judge_shown_least) (f : Addr) (cdv : Value) (A : Around) (outer : List PySem.Env) (s : Shared) (H : Hp) (E : XK) (hcd : PySem.W.kdsCode K cdv = true) (hr : Room 6 (A.deeper (envOfC "_law_are_spoilt_judged" (defScope s__law_are_spoilt_judged) s.heap.objs.size f cdv))) :
    DSs (cxOf CX0 P w K mg base ["draws", "machine", "words", "parts", "cell", "k", "j", "word", "rows", "row"] "_law_are_spoilt_judged" (defScope s__law_are_spoilt_judged) f cdv A outer s H E).nox (List.range 5) (defBody s__law_are_spoilt_judged) d__law_are_spoilt_judged :=
  have nd := (sc__law_are_spoilt_judged).nd
  (dss_cons (ds_par (c1 := false) (c2 := false) (i := 5) (j := 6) rfl nd rfl rfl (by decide) rfl rfl (da_cons (de_bin dop_sub (de_bin dop_sub (de_callB dc_len rfl B.len bt_len (da_cons (de_var 2 (pv 2)) da_nil)) de_int) (de_callD D__law_take (hr.mono (by first | decide | omega)) rfl (fCons_len (fCons_len fNil_len)) (da_cons (de_var 0 (pv 0)) (da_cons (de_callB (dc_min rfl hr.units) rfl B.min bt_min (da_cons de_int (da_cons (de_callB dc_len rfl B.len bt_len (da_cons (de_var 2 (pv 2)) da_nil)) da_nil))) da_nil)))) (da_cons (de_bin dop_sub (de_bin dop_sub (de_callB dc_len rfl B.len bt_len (da_cons (de_var 3 (pv 3)) da_nil)) de_int) (de_callD D__law_take (hr.mono (by first | decide | omega)) rfl (fCons_len (fCons_len fNil_len)) (da_cons (de_var 0 (pv 0)) (da_cons (de_callB (dc_min rfl hr.units) rfl B.min bt_min (da_cons de_int (da_cons (de_callB dc_len rfl B.len bt_len (da_cons (de_var 3 (pv 3)) da_nil)) da_nil))) da_nil)))) da_nil)) (by rfl))
    (dss_cons (ds_set (chk := false) (i := 7) nd rfl (by first | exact Or.inl rfl | exact Or.inr rfl) (de_callD D__law_word (hr.mono (by first | decide | omega)) rfl (fCons_len (fCons_len (fCons_len fNil_len))) (da_cons (de_var 0 (pv 0)) (da_cons (de_ix (de_var 1 (pv 1)) de_int (fun _ _ => rfl)) (da_cons (de_callD D__law_take (hr.mono (by first | decide | omega)) rfl (fCons_len (fCons_len fNil_len)) (da_cons (de_var 0 (pv 0)) (da_cons de_int da_nil))) da_nil)))))
    (dss_cons (ds_set (chk := false) (i := 8) nd rfl (by first | exact Or.inl rfl | exact Or.inr rfl) (de_lstN (da_cons (de_tupN (da_cons (de_bin dop_add (de_bin dop_add (de_sl (de_var 2 (pv 2)) do_none (do_some (de_var 5 (pv 5)))) (de_tupN (da_cons (de_var 7 (pv 7)) da_nil) (fCons_len fNil_len))) (de_sl (de_var 2 (pv 2)) (do_some (de_bin dop_add (de_var 5 (pv 5)) de_int)) do_none)) (da_cons (de_var 3 (pv 3)) da_nil)) (fCons_len (fCons_len fNil_len))) (da_cons (de_tupN (da_cons (de_bin dop_add (de_bin dop_add (de_sl (de_var 2 (pv 2)) do_none (do_some (de_var 5 (pv 5)))) (de_tupN (da_cons (de_bin dop_add (de_ix (de_var 2 (pv 2)) (de_var 5 (pv 5)) (fun _ _ => rfl)) (de_tupN (da_cons (de_var 4 (pv 4)) da_nil) (fCons_len fNil_len))) da_nil) (fCons_len fNil_len))) (de_sl (de_var 2 (pv 2)) (do_some (de_bin dop_add (de_var 5 (pv 5)) de_int)) do_none)) (da_cons (de_var 3 (pv 3)) da_nil)) (fCons_len (fCons_len fNil_len))) (da_cons (de_tupN (da_cons (de_sl (de_var 2 (pv 2)) do_none (do_some (de_neg de_int))) (da_cons (de_var 3 (pv 3)) da_nil)) (fCons_len (fCons_len fNil_len))) (da_cons (de_tupN (da_cons (de_bin dop_add (de_var 2 (pv 2)) (de_sl (de_var 2 (pv 2)) do_none (do_some de_int))) (da_cons (de_var 3 (pv 3)) da_nil)) (fCons_len (fCons_len fNil_len))) da_nil)))) (fCons_len (fCons_len (fCons_len (fCons_len fNil_len))))))
    (dss_cons (ds_set (chk := false) (i := 8) nd rfl (by first | exact Or.inl rfl | exact Or.inr rfl) (de_bin dop_add (de_var 8 (pv 8)) (de_lstN (da_cons (de_tupN (da_cons (de_var 2 (pv 2)) (da_cons (de_bin dop_add (de_bin dop_add (de_sl (de_var 3 (pv 3)) do_none (do_some (de_var 6 (pv 6)))) (de_tupN (da_cons (de_var 7 (pv 7)) da_nil) (fCons_len fNil_len))) (de_sl (de_var 3 (pv 3)) (do_some (de_bin dop_add (de_var 6 (pv 6)) de_int)) do_none)) da_nil)) (fCons_len (fCons_len fNil_len))) (da_cons (de_tupN (da_cons (de_var 2 (pv 2)) (da_cons (de_bin dop_add (de_bin dop_add (de_sl (de_var 3 (pv 3)) do_none (do_some (de_var 6 (pv 6)))) (de_tupN (da_cons (de_bin dop_add (de_ix (de_var 3 (pv 3)) (de_var 6 (pv 6)) (fun _ _ => rfl)) (de_tupN (da_cons (de_neg de_int) da_nil) (fCons_len fNil_len))) da_nil) (fCons_len fNil_len))) (de_sl (de_var 3 (pv 3)) (do_some (de_bin dop_add (de_var 6 (pv 6)) de_int)) do_none)) da_nil)) (fCons_len (fCons_len fNil_len))) (da_cons (de_tupN (da_cons (de_var 2 (pv 2)) (da_cons (de_sl (de_var 3 (pv 3)) do_none (do_some (de_neg de_int))) da_nil)) (fCons_len (fCons_len fNil_len))) (da_cons (de_tupN (da_cons (de_var 2 (pv 2)) (da_cons (de_bin dop_add (de_var 3 (pv 3)) (de_tupN (da_cons (de_tupN da_nil fNil_len) da_nil) (fCons_len fNil_len))) da_nil)) (fCons_len (fCons_len fNil_len))) da_nil)))) (fCons_len (fCons_len (fCons_len (fCons_len fNil_len)))))))
    (dss_cons (ds_set (chk := false) (i := 8) nd rfl (by first | exact Or.inl rfl | exact Or.inr rfl) (de_bin dop_add (de_var 8 (pv 8)) (de_lstN (da_cons (de_tupN (da_cons (de_backT (de_var 2 (pv 2)) do_none) (da_cons (de_var 3 (pv 3)) da_nil)) (fCons_len (fCons_len fNil_len))) (da_cons (de_tupN (da_cons (de_var 2 (pv 2)) (da_cons (de_backT (de_var 3 (pv 3)) do_none) da_nil)) (fCons_len (fCons_len fNil_len))) (da_cons (de_tupN (da_cons (de_tupN da_nil fNil_len) (da_cons (de_tupN da_nil fNil_len) da_nil)) (fCons_len (fCons_len fNil_len))) da_nil))) (fCons_len (fCons_len (fCons_len fNil_len))))))
    (dss_cons (ds_for (pl2 := [8, 0, 1, 2, 3, 4]) PassesOwn.never rfl (di_e (de_var 8 (pv 8))) (dg_name (chk := false) (i := 9) nd rfl (by first | exact Or.inl rfl | exact Or.inr rfl)) (dss_wipe [9] (dss_one (ds_if (dt_not (dt_val (de_callD D__law_same (hr.mono (by first | decide | omega)) rfl (fCons_len (fCons_len fNil_len)) (da_cons (de_callD D_judge_shown_least (hr.mono (by first | decide | omega)) rfl (fCons_len (fCons_len fNil_len)) (da_cons (de_var 1 (pv 1)) (da_cons (de_var 9 (pv 9)) da_nil))) (da_cons (de_callD D__law_is_shown (hr.mono (by first | decide | omega)) rfl (fCons_len (fCons_len (fCons_len fNil_len))) (da_cons (de_var 1 (pv 1)) (da_cons (de_ix (de_var 9 (pv 9)) de_int (fun _ _ => rfl)) (da_cons (de_ix (de_var 9 (pv 9)) de_int (fun _ _ => rfl)) da_nil)))) da_nil))))) (dss_one (ds_ret de_bl)) dss_nil)) (by decide)) (fun _ h => List.mem_cons_of_mem _ h) (live_var (by decide)))
    (dss_one (ds_ret de_bl))))))))
theorem f__law_are_spoilt_judged {P : Program} {w : World} {K : PySem.W.Frag} {mg : Str → Option Value} {base : Heap} (A : At K mg "_law_are_spoilt_judged" s__law_are_spoilt_judged ["draws", "machine", "words", "parts", "cell"]) (B : Bs mg) (D__law_take : Df P w K mg base "_law_take" 1 2 m__law_take) (D__law_word : Df P w K mg base "_law_word" 2 3 m__law_word) (D__law_same : Df P w K mg base "_law_same" 6 2 (m__law_same 6)) (D__law_is_shown : Df P w K mg base "_law_is_shown" 2 3 m__law_is_shown) (D_judge_shown_least : Df P w K mg base "judge_shown_least" 4 2 m_judge_shown_least) : Df P w K mg base "_law_are_spoilt_judged" 7 5 m__law_are_spoilt_judged :=
  df_mkC A sc__law_are_spoilt_judged rfl (b__law_are_spoilt_judged B D__law_take D__law_word D__law_same D__law_is_shown D_judge_shown_least)
abbrev s__law_is_told : Stmt := topS 37
theorem sc__law_is_told : FnScope ["draws", "machine", "shown", "rounds", "cell", "words", "parts", "wide", "mixed", "names", "back", "pairs", "at", "i", "j", "moved", "own", "word", "k"] ["draws", "machine", "shown", "rounds", "cell"] (defScope s__law_is_told) := ⟨rfl, rfl, rfl, by decide +kernel, rfl, by decide +kernel, by decide +kernel⟩
noncomputable def sd__law_is_told_1 : FS := (fAsg (tgTup (tgCons (tgN false 5) (tgCons (tgN false 6) tgNil))) (fVar 2))
noncomputable def sd__law_is_told_2 : FS := (fIfS (fNot (fTst (fCall (m__law_same 6) (fCons (fTupN (fCons (fCall m_shown_least (fCons (fVar 1) fNil)) (fCons (fCall m_judge_shown_least (fCons (fVar 1) (fCons (fVar 2) fNil))) fNil))) (fCons (fTupN (fCons (fVar 2) (fCons (fC (.bool true)) fNil))) fNil))))) (fRet [0, 1, 2, 3, 4] (fC (.bool false))) fNext)
noncomputable def le__law_is_told_1 : FE := (fCall m__law_put_in (fCons (fVar 0) (fCons (fVar 17) (fCons (fVar 3) fNil))))
noncomputable def le__law_is_told_2 : FE := (fCall m__law_put_in (fCons (fVar 0) (fCons (fVar 17) (fCons (fVar 3) fNil))))
noncomputable def sd__law_is_told_3 : FS := (fSet false 7 (fTupN (fCons (fCB gTuple (fCons (fLc (fItE (fVar 5)) (tgN false 17) fYes le__law_is_told_2 [17]) fNil)) (fCons (fCB gTuple (fCons (fLc (fItE (fVar 6)) (tgN false 17) fYes le__law_is_told_1 [17]) fNil)) fNil))))
noncomputable def sd__law_is_told_4 : FS := (fIfS (fNot (fTst (fCall (m__law_same 6) (fCons (fCall m_judge_shown_least (fCons (fVar 1) (fCons (fVar 7) fNil))) (fCons (fC (.bool true)) fNil))))) (fRet [0, 1, 2, 3, 4] (fC (.bool false))) fNext)
noncomputable def sd__law_is_told_5 : FS := (fAsg (tgTup (tgCons (tgN false 8) (tgCons (tgN false 9) tgNil))) (fCall m__law_mixed (fCons (fVar 0) (fCons (fVar 1) fNil))))
noncomputable def le__law_is_told_3 : FE := (fPl false fPlace (fVar 9) (fVar 18))
noncomputable def sd__law_is_told_6 : FS := (fSet false 10 (fLc (fItR1 (fCB gLen (fCons (fVar 9) fNil))) (tgN false 18) fYes le__law_is_told_3 [18]))
noncomputable def sd__law_is_told_7 : FS := (fSet false 11 fDic0)
noncomputable def sd__law_is_told_8 : FS := (fSet false 12 (fC (.int 0)))
noncomputable def lb__law_is_told_1 : FS := (fWipe [14] (fSeq (fSetD (fBin gIx (fVar 6) (fVar 12)) (fVar 11) (fTupN (fCons (fVar 13) (fCons (fVar 14) fNil))))
    (fSet false 12 (fBin gAdd (fVar 12) (fC (.int 1))))))
noncomputable def lb__law_is_told_2 : FS := (fWipe [13, 14] (fFor (fItR2 (fBin gAdd (fVar 13) (fC (.int 1))) (fCB gLen (fCons (fVar 9) fNil))) (tgN false 14) lb__law_is_told_1))
noncomputable def sd__law_is_told_9 : FS := (fFor (fItR1 (fCB gLen (fCons (fVar 9) fNil))) (tgN false 13) lb__law_is_told_2)
noncomputable def sd__law_is_told_10 : FS := (fSet false 15 (fLstN fNil))
noncomputable def le__law_is_told_4 : FE := (fBin gIxD (fVar 11) (fTupN (fCons (fCB gMin (fCons (fBin gIx (fVar 10) (fVar 13)) (fCons (fBin gIx (fVar 10) (fVar 14)) fNil))) (fCons (fCB gMax (fCons (fBin gIx (fVar 10) (fVar 13)) (fCons (fBin gIx (fVar 10) (fVar 14)) fNil))) fNil))))
noncomputable def lb__law_is_told_3 : FS := (fWipe [13, 14] (fSet false 15 (fBin gAdd (fVar 15) (fLc (fItR2 (fBin gAdd (fVar 13) (fC (.int 1))) (fCB gLen (fCons (fVar 9) fNil))) (tgN false 14) fYes le__law_is_told_4 [14]))))
noncomputable def sd__law_is_told_11 : FS := (fFor (fItR1 (fCB gLen (fCons (fVar 9) fNil))) (tgN false 13) lb__law_is_told_3)
noncomputable def le__law_is_told_5 : FE := (fBin gIx (fVar 5) (fBin gIx (fVar 10) (fVar 18)))
noncomputable def sd__law_is_told_12 : FS := (fSet false 16 (fTupN (fCons (fCB gTuple (fCons (fLc (fItR1 (fCB gLen (fCons (fVar 9) fNil))) (tgN false 18) fYes le__law_is_told_5 [18]) fNil)) (fCons (fCB gTuple (fCons (fVar 15) fNil)) fNil))))
noncomputable def sd__law_is_told_13 : FS := (fIfS (fNot (fTst (fCall (m__law_same 6) (fCons (fCall m_judge_shown_least (fCons (fVar 8) (fCons (fVar 16) fNil))) (fCons (fC (.bool true)) fNil))))) (fRet [0, 1, 2, 3, 4] (fC (.bool false))) fNext)
noncomputable def sd__law_is_told_14 : FS := (fRet [0, 1, 2, 3, 4] (fAndV (fCall m__law_are_spoilt_judged (fCons (fVar 0) (fCons (fVar 8) (fCons (fBin gIx (fVar 16) (fC (.int 0))) (fCons (fBin gIx (fVar 16) (fC (.int 1))) (fCons (fVar 4) fNil)))))) (fCall m__law_are_spoilt_judged (fCons (fVar 0) (fCons (fVar 1) (fCons (fVar 5) (fCons (fVar 6) (fCons (fVar 4) fNil))))))))
noncomputable def d__law_is_told : FS := (fSeq sd__law_is_told_1 (fSeq sd__law_is_told_2 (fSeq sd__law_is_told_3 (fSeq sd__law_is_told_4 (fSeq sd__law_is_told_5 (fSeq sd__law_is_told_6 (fSeq sd__law_is_told_7 (fSeq sd__law_is_told_8 (fSeq sd__law_is_told_9 (fSeq sd__law_is_told_10 (fSeq sd__law_is_told_11 (fSeq sd__law_is_told_12 (fSeq sd__law_is_told_13 sd__law_is_told_14)))))))))))))
noncomputable def m__law_is_told : Den := runD 19 5 d__law_is_told
theorem b__law_is_told {P : Program} {w : World} {K : PySem.W.Frag} {mg : Str → Option Value} {base : Heap} (B : Bs mg) (D__law_same : Df P w K mg base "_law_same" 6 2 (m__law_same 6)) (D_judge_shown_least : Df P w K mg base "judge_shown_least" 4 2 m_judge_shown_least) (D_shown_least : Df P w K mg base "shown_least" 4 1 m_shown_least) (D__law_put_in : Df P w K mg base "_law_put_in" 2 3 m__law_put_in) (D__law_mixed : Df P w K mg base "_law_mixed" 3 2 m__law_mixed) (D__law_are_spoilt_judged : Df P w K mg base "_law_are_spoilt_judged" 7 5 m__law_are_spoilt_judged) (f : Addr) (cdv : Value) (A : Around) (outer : List PySem.Env) (s : Shared) (H : Hp) (E : XK) (hcd : PySem.W.kdsCode K cdv = true) (hr : Room 7 (A.deeper (envOfC "_law_is_told" (defScope s__law_is_told) s.heap.objs.size f cdv))) :
    DSs (cxOf CX0 P w K mg base ["draws", "machine", "shown", "rounds", "cell", "words", "parts", "wide", "mixed", "names", "back", "pairs", "at", "i", "j", "moved", "own", "word", "k"] "_law_is_told" (defScope s__law_is_told) f cdv A outer s H E).nox (List.range 5) (defBody s__law_is_told) d__law_is_told :=
  have nd := (sc__law_is_told).nd
  (dss_cons (ds_asg (de_var 2 (pv 2)) (dg_tup rfl (dgs_cons (dg_name (chk := false) (i := 5) nd rfl (by first | exact Or.inl rfl | exact Or.inr rfl)) (dgs_cons (dg_name (chk := false) (i := 6) nd rfl (by first | exact Or.inl rfl | exact Or.inr rfl)) dgs_nil)) (lenCons (lenCons lenNil))))
    (dss_cons (ds_if (dt_not (dt_val (de_callD D__law_same (hr.mono (by first | decide | omega)) rfl (fCons_len (fCons_len fNil_len)) (da_cons (de_tupN (da_cons (de_callD D_shown_least (hr.mono (by first | decide | omega)) rfl (fCons_len fNil_len) (da_cons (de_var 1 (pv 1)) da_nil)) (da_cons (de_callD D_judge_shown_least (hr.mono (by first | decide | omega)) rfl (fCons_len (fCons_len fNil_len)) (da_cons (de_var 1 (pv 1)) (da_cons (de_var 2 (pv 2)) da_nil))) da_nil)) (fCons_len (fCons_len fNil_len))) (da_cons (de_tupN (da_cons (de_var 2 (pv 2)) (da_cons de_bl da_nil)) (fCons_len (fCons_len fNil_len))) da_nil))))) (dss_one (ds_ret de_bl)) dss_nil)
    (dss_cons (ds_set (chk := false) (i := 7) nd rfl (by first | exact Or.inl rfl | exact Or.inr rfl) (de_tupN (da_cons (de_callTy dc_tuple rfl B.tuple bt_tuple (da_cons (de_lc (own := [("word", 17)]) rfl nd (di_e (de_var 5 (pv 5))) (blkOk_by (by kernel_rfl)) (by decide) (go_name (chk := false) (i := 17)) (fun _ _ _ _ _ => (dg_name (chk := false) (i := 17) nd rfl (by first | exact Or.inl rfl | exact Or.inr rfl))) (fun _ _ _ _ _ => dts_nil) (fun _ _ _ _ _ => (de_callD D__law_put_in (hr.mono (by first | decide | omega)) rfl (fCons_len (fCons_len (fCons_len fNil_len))) (da_cons (de_var 0 (pv 0)) (da_cons (de_var 17 (pv 17)) (da_cons (de_var 3 (pv 3)) da_nil)))))) da_nil)) (da_cons (de_callTy dc_tuple rfl B.tuple bt_tuple (da_cons (de_lc (own := [("word", 17)]) rfl nd (di_e (de_var 6 (pv 6))) (blkOk_by (by kernel_rfl)) (by decide) (go_name (chk := false) (i := 17)) (fun _ _ _ _ _ => (dg_name (chk := false) (i := 17) nd rfl (by first | exact Or.inl rfl | exact Or.inr rfl))) (fun _ _ _ _ _ => dts_nil) (fun _ _ _ _ _ => (de_callD D__law_put_in (hr.mono (by first | decide | omega)) rfl (fCons_len (fCons_len (fCons_len fNil_len))) (da_cons (de_var 0 (pv 0)) (da_cons (de_var 17 (pv 17)) (da_cons (de_var 3 (pv 3)) da_nil)))))) da_nil)) da_nil)) (fCons_len (fCons_len fNil_len))))
    (dss_cons (ds_if (dt_not (dt_val (de_callD D__law_same (hr.mono (by first | decide | omega)) rfl (fCons_len (fCons_len fNil_len)) (da_cons (de_callD D_judge_shown_least (hr.mono (by first | decide | omega)) rfl (fCons_len (fCons_len fNil_len)) (da_cons (de_var 1 (pv 1)) (da_cons (de_var 7 (pv 7)) da_nil))) (da_cons de_bl da_nil))))) (dss_one (ds_ret de_bl)) dss_nil)
    (dss_cons (ds_asg (de_callD D__law_mixed (hr.mono (by first | decide | omega)) rfl (fCons_len (fCons_len fNil_len)) (da_cons (de_var 0 (pv 0)) (da_cons (de_var 1 (pv 1)) da_nil))) (dg_tup rfl (dgs_cons (dg_name (chk := false) (i := 8) nd rfl (by first | exact Or.inl rfl | exact Or.inr rfl)) (dgs_cons (dg_name (chk := false) (i := 9) nd rfl (by first | exact Or.inl rfl | exact Or.inr rfl)) dgs_nil)) (lenCons (lenCons lenNil))))
    (dss_cons (ds_set (chk := false) (i := 10) nd rfl (by first | exact Or.inl rfl | exact Or.inr rfl) (de_lc (own := [("k", 18)]) rfl nd (di_r1 rfl B.range (de_callB dc_len rfl B.len bt_len (da_cons (de_var 9 (pv 9)) da_nil))) (blkOk_by (by kernel_rfl)) (by decide) (go_name (chk := false) (i := 18)) (fun _ _ _ _ _ => (dg_name (chk := false) (i := 18) nd rfl (by first | exact Or.inl rfl | exact Or.inr rfl))) (fun _ _ _ _ _ => dts_nil) (fun _ _ _ _ _ => (de_plT PySem.F.slot_tuple_index PySem.F.type_tuple_index (mt_indexT hr.units) (de_var 9 (pv 9)) (de_var 18 (pv 18))))))
    (dss_cons (ds_set (chk := false) (i := 11) nd rfl (by first | exact Or.inl rfl | exact Or.inr rfl) de_dic0)
    (dss_cons (ds_set (chk := false) (i := 12) nd rfl (by first | exact Or.inl rfl | exact Or.inr rfl) de_int)
    (dss_cons (ds_for (pl2 := [0, 1, 2, 3, 4]) PassesOwn.never rfl (di_r1 rfl B.range (de_callB dc_len rfl B.len bt_len (da_cons (de_var 9 (pv 9)) da_nil))) (dg_name (chk := false) (i := 13) nd rfl (by first | exact Or.inl rfl | exact Or.inr rfl)) (dss_wipe [13, 14] (dss_one (ds_for (pl2 := [0, 1, 2, 3, 4]) PassesOwn.never rfl (di_r2 rfl B.range (de_bin dop_add (de_var 13 (pv 13)) de_int) (de_callB dc_len rfl B.len bt_len (da_cons (de_var 9 (pv 9)) da_nil))) (dg_name (chk := false) (i := 14) nd rfl (by first | exact Or.inl rfl | exact Or.inr rfl)) (dss_wipe [14] (dss_cons (ds_setD hr.units (de_ix (de_var 6 (pv 6)) (de_var 12 (pv 12)) (fun _ _ => rfl)) (de_var 11 (pv 11)) (de_tupN (da_cons (de_var 13 (pv 13)) (da_cons (de_var 14 (pv 14)) da_nil)) (fCons_len (fCons_len fNil_len))))
    (dss_one (ds_set (chk := false) (i := 12) nd rfl (by first | exact Or.inl rfl | exact Or.inr rfl) (de_bin dop_add (de_var 12 (pv 12)) de_int)))) (by decide)) (fun _ h => h) live_r2)) (by decide)) (fun _ h => h) live_r1)
    (dss_cons (ds_set (chk := false) (i := 15) nd rfl (by first | exact Or.inl rfl | exact Or.inr rfl) (de_lstN da_nil fNil_len))
    (dss_cons (ds_for (pl2 := [0, 1, 2, 3, 4]) PassesOwn.never rfl (di_r1 rfl B.range (de_callB dc_len rfl B.len bt_len (da_cons (de_var 9 (pv 9)) da_nil))) (dg_name (chk := false) (i := 13) nd rfl (by first | exact Or.inl rfl | exact Or.inr rfl)) (dss_wipe [13, 14] (dss_one (ds_set (chk := false) (i := 15) nd rfl (by first | exact Or.inl rfl | exact Or.inr rfl) (de_bin dop_add (de_var 15 (pv 15)) (de_lc (own := [("j", 14)]) rfl nd (di_r2 rfl B.range (de_bin dop_add (de_var 13 (pv 13)) de_int) (de_callB dc_len rfl B.len bt_len (da_cons (de_var 9 (pv 9)) da_nil))) (blkOk_by (by kernel_rfl)) (by decide) (go_name (chk := false) (i := 14)) (fun _ _ _ _ _ => (dg_name (chk := false) (i := 14) nd rfl (by first | exact Or.inl rfl | exact Or.inr rfl))) (fun _ _ _ _ _ => dts_nil) (fun _ _ _ _ _ => (de_ixD hr.units (de_var 11 (pv 11)) (de_tupN (da_cons (de_callB (dc_min rfl hr.units) rfl B.min bt_min (da_cons (de_ix (de_var 10 (pv 10)) (de_var 13 (pv 13)) (fun _ _ => rfl)) (da_cons (de_ix (de_var 10 (pv 10)) (de_var 14 (pv 14)) (fun _ _ => rfl)) da_nil))) (da_cons (de_callB (dc_max rfl hr.units) rfl B.max bt_max (da_cons (de_ix (de_var 10 (pv 10)) (de_var 13 (pv 13)) (fun _ _ => rfl)) (da_cons (de_ix (de_var 10 (pv 10)) (de_var 14 (pv 14)) (fun _ _ => rfl)) da_nil))) da_nil)) (fCons_len (fCons_len fNil_len))) (fun _ _ => rfl))))))) (by decide)) (fun _ h => h) live_r1)
    (dss_cons (ds_set (chk := false) (i := 16) nd rfl (by first | exact Or.inl rfl | exact Or.inr rfl) (de_tupN (da_cons (de_callTy dc_tuple rfl B.tuple bt_tuple (da_cons (de_lc (own := [("k", 18)]) rfl nd (di_r1 rfl B.range (de_callB dc_len rfl B.len bt_len (da_cons (de_var 9 (pv 9)) da_nil))) (blkOk_by (by kernel_rfl)) (by decide) (go_name (chk := false) (i := 18)) (fun _ _ _ _ _ => (dg_name (chk := false) (i := 18) nd rfl (by first | exact Or.inl rfl | exact Or.inr rfl))) (fun _ _ _ _ _ => dts_nil) (fun _ _ _ _ _ => (de_ix (de_var 5 (pv 5)) (de_ix (de_var 10 (pv 10)) (de_var 18 (pv 18)) (fun _ _ => rfl)) (fun _ _ => rfl)))) da_nil)) (da_cons (de_callTy dc_tuple rfl B.tuple bt_tuple (da_cons (de_var 15 (pv 15)) da_nil)) da_nil)) (fCons_len (fCons_len fNil_len))))
    (dss_cons (ds_if (dt_not (dt_val (de_callD D__law_same (hr.mono (by first | decide | omega)) rfl (fCons_len (fCons_len fNil_len)) (da_cons (de_callD D_judge_shown_least (hr.mono (by first | decide | omega)) rfl (fCons_len (fCons_len fNil_len)) (da_cons (de_var 8 (pv 8)) (da_cons (de_var 16 (pv 16)) da_nil))) (da_cons de_bl da_nil))))) (dss_one (ds_ret de_bl)) dss_nil)
    (dss_one (ds_ret (de_and (de_callD D__law_are_spoilt_judged (hr.mono (by first | decide | omega)) rfl (fCons_len (fCons_len (fCons_len (fCons_len (fCons_len fNil_len))))) (da_cons (de_var 0 (pv 0)) (da_cons (de_var 8 (pv 8)) (da_cons (de_ix (de_var 16 (pv 16)) de_int (fun _ _ => rfl)) (da_cons (de_ix (de_var 16 (pv 16)) de_int (fun _ _ => rfl)) (da_cons (de_var 4 (pv 4)) da_nil)))))) (de_one (de_callD D__law_are_spoilt_judged (hr.mono (by first | decide | omega)) rfl (fCons_len (fCons_len (fCons_len (fCons_len (fCons_len fNil_len))))) (da_cons (de_var 0 (pv 0)) (da_cons (de_var 1 (pv 1)) (da_cons (de_var 5 (pv 5)) (da_cons (de_var 6 (pv 6)) (da_cons (de_var 4 (pv 4)) da_nil)))))))))))))))))))))))
theorem f__law_is_told {P : Program} {w : World} {K : PySem.W.Frag} {mg : Str → Option Value} {base : Heap} (A : At K mg "_law_is_told" s__law_is_told ["draws", "machine", "shown", "rounds", "cell"]) (B : Bs mg) (D__law_same : Df P w K mg base "_law_same" 6 2 (m__law_same 6)) (D_judge_shown_least : Df P w K mg base "judge_shown_least" 4 2 m_judge_shown_least) (D_shown_least : Df P w K mg base "shown_least" 4 1 m_shown_least) (D__law_put_in : Df P w K mg base "_law_put_in" 2 3 m__law_put_in) (D__law_mixed : Df P w K mg base "_law_mixed" 3 2 m__law_mixed) (D__law_are_spoilt_judged : Df P w K mg base "_law_are_spoilt_judged" 7 5 m__law_are_spoilt_judged) : Df P w K mg base "_law_is_told" 8 5 m__law_is_told :=
  df_mkC A sc__law_is_told rfl (b__law_is_told B D__law_same D_judge_shown_least D_shown_least D__law_put_in D__law_mixed D__law_are_spoilt_judged)
abbrev s_law : Stmt := topS 38
theorem sc_law : FnScope ["script", "draws", "cell", "tracks", "letter", "m", "ring", "most", "ladder", "window", "due", "wrong", "twice", "told", "own"] ["script"] (defScope s_law) := ⟨rfl, rfl, rfl, by decide +kernel, rfl, by decide +kernel, by decide +kernel⟩
noncomputable def sd_law_1 : FS := (fSet false 1 (fCall m__law_draws (fCons (fVar 0) (fCons (fC (.int 700)) fNil))))
noncomputable def sd_law_2 : FS := (fSet false 2 (fCall m__law_cell (fCons (fVar 0) fNil)))
noncomputable def sd_law_3 : FS := (fSet false 4 (fBin gAdd (fC (.int 1)) (fCall m__law_take (fCons (fVar 1) (fCons (fBin gSub (fBin gShl (fC (.int 1)) (fVar 3)) (fC (.int 1))) fNil)))))
noncomputable def sd_law_4 : FS := (fSet false 5 (fBin gAdd (fC (.int 2)) (fCall m__law_take (fCons (fVar 1) (fCons (fC (.int 18)) fNil)))))
noncomputable def le_law_1 : FE := (fCB gInt (fCons (fBin gEq (fVar 14) (fVar 4)) fNil))
noncomputable def sd_law_5 : FS := (fSet false 6 (fCall m__law_counter (fCons (fVar 3) (fCons (fCB gTuple (fCons (fLc (fItR1 (fBin gShl (fC (.int 1)) (fVar 3))) (tgN false 14) fYes le_law_1 [14]) fNil)) (fCons (fVar 5) (fCons (fTupN (fCons (fC (.int 0)) fNil)) fNil))))))
noncomputable def sd_law_6 : FS := (fIfS (fNot (fTst (fCall m__law_is_told (fCons (fVar 1) (fCons (fVar 6) (fCons (fCall m__law_ring_shown (fCons (fVar 4) (fCons (fVar 5) fNil))) (fCons (fBin gAdd (fBin gMul (fTupN (fCons (fVar 4) fNil)) (fVar 5)) (fTupN (fCons (fC (.int 0)) fNil))) (fCons (fVar 2) fNil)))))))) (fRet [0] (fC (.bool false))) fNext)
noncomputable def sd_law_7 : FS := (fSet false 7 (fBin gAdd (fC (.int 1)) (fCall m__law_take (fCons (fVar 1) (fCons (fC (.int 14)) fNil)))))
noncomputable def sd_law_8 : FS := (fSet false 8 (fCall m__law_ladder (fCons (fVar 3) (fCons (fTupN (fCons (fVar 4) fNil)) (fCons (fVar 7) (fCons (fTupN (fCons (fVar 7) fNil)) fNil))))))
noncomputable def sd_law_9 : FS := (fIfS (fNot (fTst (fCall m__law_is_told (fCons (fVar 1) (fCons (fVar 8) (fCons (fCall m__law_ladder_shown (fCons (fVar 4) (fCons (fVar 7) fNil))) (fCons (fTupN (fCons (fC (.int 0)) (fCons (fC (.int 0)) (fCons (fC (.int 0)) fNil)))) (fCons (fVar 2) fNil)))))))) (fRet [0] (fC (.bool false))) fNext)
noncomputable def lb_law_1 : FS := (fWipe [3, 4, 5, 6, 7, 8] (fSeq sd_law_3 (fSeq sd_law_4 (fSeq sd_law_5 (fSeq sd_law_6 (fSeq sd_law_7 (fSeq sd_law_8 sd_law_9)))))))
noncomputable def sd_law_10 : FS := (fFor (fItE (fTupN (fCons (fC (.int 1)) (fCons (fC (.int 2)) fNil)))) (tgN false 3) lb_law_1)
noncomputable def sd_law_11 : FS := (fSet false 9 (fTupN (fCons (fC (.int 1)) (fCons (fTupN (fCons (fTupN (fCons (fC (.int 0)) (fCons (fC (.int 1)) fNil))) (fCons (fTupN (fCons (fC (.int 2)) (fCons (fC (.int 3)) fNil))) (fCons (fTupN (fCons (fC (.int 0)) (fCons (fC (.int 1)) fNil))) (fCons (fTupN (fCons (fC (.int 2)) (fCons (fC (.int 3)) fNil))) fNil))))) (fCons (fTupN (fCons (fC (.bool false)) (fCons (fC (.bool false)) (fCons (fC (.bool true)) (fCons (fC (.bool true)) fNil))))) fNil)))))
noncomputable def sd_law_12 : FS := (fSet false 10 (fTupN (fCons (fTupN (fCons (fTupN fNil) (fCons (fTupN (fCons (fC (.int 1)) fNil)) (fCons (fTupN (fCons (fC (.int 1)) (fCons (fC (.int 0)) fNil))) (fCons (fTupN (fCons (fC (.int 1)) (fCons (fC (.int 1)) fNil))) fNil))))) (fCons (fTupN (fCons (fTupN (fCons (fC (.int 0)) fNil)) (fCons (fTupN fNil) (fCons (fTupN fNil) (fCons (fTupN fNil) (fCons (fTupN fNil) (fCons (fTupN (fCons (fC (.int 0)) fNil)) fNil))))))) fNil))))
noncomputable def sd_law_13 : FS := (fSet false 11 (fTupN (fCons (fTupN (fCons (fTupN fNil) (fCons (fTupN (fCons (fC (.int 1)) fNil)) (fCons (fTupN (fCons (fC (.int 1)) (fCons (fC (.int 0)) fNil))) (fCons (fTupN (fCons (fC (.int 1)) (fCons (fC (.int 1)) fNil))) fNil))))) (fCons (fTupN (fCons (fTupN (fCons (fC (.int 1)) (fCons (fC (.int 0)) fNil))) (fCons (fTupN fNil) (fCons (fTupN fNil) (fCons (fTupN fNil) (fCons (fTupN fNil) (fCons (fTupN (fCons (fC (.int 0)) (fCons (fC (.int 0)) fNil))) fNil))))))) fNil))))
noncomputable def sd_law_14 : FS := (fSet false 12 (fTupN (fCons (fC (.int 1)) (fCons (fTupN (fCons (fTupN (fCons (fC (.int 1)) (fCons (fC (.int 2)) fNil))) (fCons (fTupN (fCons (fC (.int 1)) (fCons (fC (.int 2)) fNil))) (fCons (fTupN (fCons (fC (.int 2)) (fCons (fC (.int 1)) fNil))) fNil)))) (fCons (fTupN (fCons (fC (.bool true)) (fCons (fC (.bool true)) (fCons (fC (.bool false)) fNil)))) fNil)))))
noncomputable def sd_law_15 : FS := (fSet false 13 (fTupN (fCons (fCall m_shown_least (fCons (fVar 9) fNil)) (fCons (fCall m_judge_shown_least (fCons (fVar 9) (fCons (fVar 10) fNil))) (fCons (fCall m_judge_shown_least (fCons (fVar 9) (fCons (fVar 11) fNil))) (fCons (fCall m_judge_shown_least (fCons (fVar 12) (fCons (fTupN (fCons (fTupN (fCons (fTupN fNil) (fCons (fTupN (fCons (fC (.int 0)) fNil)) (fCons (fTupN (fCons (fC (.int 1)) fNil)) fNil)))) (fCons (fTupN (fCons (fTupN (fCons (fC (.int 1)) fNil)) (fCons (fTupN fNil) (fCons (fTupN fNil) fNil)))) fNil))) fNil))) fNil))))))
noncomputable def sd_law_16 : FS := (fRet [0] (fCall (m__law_same 6) (fCons (fVar 13) (fCons (fTupN (fCons (fVar 10) (fCons (fC (.bool true)) (fCons (fC (.bool false)) (fCons (fC (.bool false)) fNil))))) fNil))))
noncomputable def d_law : FS := (fSeq sd_law_1 (fSeq sd_law_2 (fSeq sd_law_10 (fSeq sd_law_11 (fSeq sd_law_12 (fSeq sd_law_13 (fSeq sd_law_14 (fSeq sd_law_15 sd_law_16))))))))
noncomputable def m_law : Den := runD 15 1 d_law
theorem b_law {P : Program} {w : World} {K : PySem.W.Frag} {mg : Str → Option Value} {base : Heap} (B : Bs mg) (D__law_draws : Df P w K mg base "_law_draws" 1 2 m__law_draws) (D__law_cell : Df P w K mg base "_law_cell" 1 1 m__law_cell) (D__law_take : Df P w K mg base "_law_take" 1 2 m__law_take) (D__law_counter : Df P w K mg base "_law_counter" 1 4 m__law_counter) (D__law_is_told : Df P w K mg base "_law_is_told" 8 5 m__law_is_told) (D__law_ring_shown : Df P w K mg base "_law_ring_shown" 1 2 m__law_ring_shown) (D__law_ladder : Df P w K mg base "_law_ladder" 1 4 m__law_ladder) (D__law_ladder_shown : Df P w K mg base "_law_ladder_shown" 1 2 m__law_ladder_shown) (D_judge_shown_least : Df P w K mg base "judge_shown_least" 4 2 m_judge_shown_least) (D_shown_least : Df P w K mg base "shown_least" 4 1 m_shown_least) (D__law_same : Df P w K mg base "_law_same" 6 2 (m__law_same 6)) (f : Addr) (cdv : Value) (A : Around) (outer : List PySem.Env) (s : Shared) (H : Hp) (E : XK) (hcd : PySem.W.kdsCode K cdv = true) (hr : Room 8 (A.deeper (envOfC "law" (defScope s_law) s.heap.objs.size f cdv))) :
    DSs (cxOf CX0 P w K mg base ["script", "draws", "cell", "tracks", "letter", "m", "ring", "most", "ladder", "window", "due", "wrong", "twice", "told", "own"] "law" (defScope s_law) f cdv A outer s H E).nox (List.range 1) (defBody s_law) d_law :=
  have nd := (sc_law).nd
  (dss_cons (ds_set (chk := false) (i := 1) nd rfl (by first | exact Or.inl rfl | exact Or.inr rfl) (de_callD D__law_draws (hr.mono (by first | decide | omega)) rfl (fCons_len (fCons_len fNil_len)) (da_cons (de_var 0 (pv 0)) (da_cons de_int da_nil))))
    (dss_cons (ds_set (chk := false) (i := 2) nd rfl (by first | exact Or.inl rfl | exact Or.inr rfl) (de_callD D__law_cell (hr.mono (by first | decide | omega)) rfl (fCons_len fNil_len) (da_cons (de_var 0 (pv 0)) da_nil)))
    (dss_cons (ds_for (pl2 := [0]) PassesOwn.never rfl (di_e (de_tupN (da_cons de_int (da_cons de_int da_nil)) (fCons_len (fCons_len fNil_len)))) (dg_name (chk := false) (i := 3) nd rfl (by first | exact Or.inl rfl | exact Or.inr rfl)) (dss_wipe [3, 4, 5, 6, 7, 8] (dss_cons (ds_set (chk := false) (i := 4) nd rfl (by first | exact Or.inl rfl | exact Or.inr rfl) (de_bin dop_add de_int (de_callD D__law_take (hr.mono (by first | decide | omega)) rfl (fCons_len (fCons_len fNil_len)) (da_cons (de_var 1 (pv 1)) (da_cons (de_bin dop_sub (de_bin dop_shl de_int (de_var 3 (pv 3))) de_int) da_nil)))))
    (dss_cons (ds_set (chk := false) (i := 5) nd rfl (by first | exact Or.inl rfl | exact Or.inr rfl) (de_bin dop_add de_int (de_callD D__law_take (hr.mono (by first | decide | omega)) rfl (fCons_len (fCons_len fNil_len)) (da_cons (de_var 1 (pv 1)) (da_cons de_int da_nil)))))
    (dss_cons (ds_set (chk := false) (i := 6) nd rfl (by first | exact Or.inl rfl | exact Or.inr rfl) (de_callD D__law_counter (hr.mono (by first | decide | omega)) rfl (fCons_len (fCons_len (fCons_len (fCons_len fNil_len)))) (da_cons (de_var 3 (pv 3)) (da_cons (de_callTy dc_tuple rfl B.tuple bt_tuple (da_cons (de_lc (own := [("own", 14)]) rfl nd (di_r1 rfl B.range (de_bin dop_shl de_int (de_var 3 (pv 3)))) (blkOk_by (by kernel_rfl)) (by decide) (go_name (chk := false) (i := 14)) (fun _ _ _ _ _ => (dg_name (chk := false) (i := 14) nd rfl (by first | exact Or.inl rfl | exact Or.inr rfl))) (fun _ _ _ _ _ => dts_nil) (fun _ _ _ _ _ => (de_callTy dc_int rfl B.int bt_int (da_cons (de_cmp (dop_eq hr.units) (de_var 14 (pv 14)) (de_var 4 (pv 4))) da_nil)))) da_nil)) (da_cons (de_var 5 (pv 5)) (da_cons (de_tupN (da_cons de_int da_nil) (fCons_len fNil_len)) da_nil))))))
    (dss_cons (ds_if (dt_not (dt_val (de_callD D__law_is_told (hr.mono (by first | decide | omega)) rfl (fCons_len (fCons_len (fCons_len (fCons_len (fCons_len fNil_len))))) (da_cons (de_var 1 (pv 1)) (da_cons (de_var 6 (pv 6)) (da_cons (de_callD D__law_ring_shown (hr.mono (by first | decide | omega)) rfl (fCons_len (fCons_len fNil_len)) (da_cons (de_var 4 (pv 4)) (da_cons (de_var 5 (pv 5)) da_nil))) (da_cons (de_bin dop_add (de_bin dop_mul (de_tupN (da_cons (de_var 4 (pv 4)) da_nil) (fCons_len fNil_len)) (de_var 5 (pv 5))) (de_tupN (da_cons de_int da_nil) (fCons_len fNil_len))) (da_cons (de_var 2 (pv 2)) da_nil)))))))) (dss_one (ds_ret de_bl)) dss_nil)
    (dss_cons (ds_set (chk := false) (i := 7) nd rfl (by first | exact Or.inl rfl | exact Or.inr rfl) (de_bin dop_add de_int (de_callD D__law_take (hr.mono (by first | decide | omega)) rfl (fCons_len (fCons_len fNil_len)) (da_cons (de_var 1 (pv 1)) (da_cons de_int da_nil)))))
    (dss_cons (ds_set (chk := false) (i := 8) nd rfl (by first | exact Or.inl rfl | exact Or.inr rfl) (de_callD D__law_ladder (hr.mono (by first | decide | omega)) rfl (fCons_len (fCons_len (fCons_len (fCons_len fNil_len)))) (da_cons (de_var 3 (pv 3)) (da_cons (de_tupN (da_cons (de_var 4 (pv 4)) da_nil) (fCons_len fNil_len)) (da_cons (de_var 7 (pv 7)) (da_cons (de_tupN (da_cons (de_var 7 (pv 7)) da_nil) (fCons_len fNil_len)) da_nil))))))
    (dss_one (ds_if (dt_not (dt_val (de_callD D__law_is_told (hr.mono (by first | decide | omega)) rfl (fCons_len (fCons_len (fCons_len (fCons_len (fCons_len fNil_len))))) (da_cons (de_var 1 (pv 1)) (da_cons (de_var 8 (pv 8)) (da_cons (de_callD D__law_ladder_shown (hr.mono (by first | decide | omega)) rfl (fCons_len (fCons_len fNil_len)) (da_cons (de_var 4 (pv 4)) (da_cons (de_var 7 (pv 7)) da_nil))) (da_cons (de_tupN (da_cons de_int (da_cons de_int (da_cons de_int da_nil))) (fCons_len (fCons_len (fCons_len fNil_len)))) (da_cons (de_var 2 (pv 2)) da_nil)))))))) (dss_one (ds_ret de_bl)) dss_nil)))))))) (by decide)) (fun _ h => h) (live_no np_tupN))
    (dss_cons (ds_set (chk := false) (i := 9) nd rfl (by first | exact Or.inl rfl | exact Or.inr rfl) (de_tupN (da_cons de_int (da_cons (de_tupN (da_cons (de_tupN (da_cons de_int (da_cons de_int da_nil)) (fCons_len (fCons_len fNil_len))) (da_cons (de_tupN (da_cons de_int (da_cons de_int da_nil)) (fCons_len (fCons_len fNil_len))) (da_cons (de_tupN (da_cons de_int (da_cons de_int da_nil)) (fCons_len (fCons_len fNil_len))) (da_cons (de_tupN (da_cons de_int (da_cons de_int da_nil)) (fCons_len (fCons_len fNil_len))) da_nil)))) (fCons_len (fCons_len (fCons_len (fCons_len fNil_len))))) (da_cons (de_tupN (da_cons de_bl (da_cons de_bl (da_cons de_bl (da_cons de_bl da_nil)))) (fCons_len (fCons_len (fCons_len (fCons_len fNil_len))))) da_nil))) (fCons_len (fCons_len (fCons_len fNil_len)))))
    (dss_cons (ds_set (chk := false) (i := 10) nd rfl (by first | exact Or.inl rfl | exact Or.inr rfl) (de_tupN (da_cons (de_tupN (da_cons (de_tupN da_nil fNil_len) (da_cons (de_tupN (da_cons de_int da_nil) (fCons_len fNil_len)) (da_cons (de_tupN (da_cons de_int (da_cons de_int da_nil)) (fCons_len (fCons_len fNil_len))) (da_cons (de_tupN (da_cons de_int (da_cons de_int da_nil)) (fCons_len (fCons_len fNil_len))) da_nil)))) (fCons_len (fCons_len (fCons_len (fCons_len fNil_len))))) (da_cons (de_tupN (da_cons (de_tupN (da_cons de_int da_nil) (fCons_len fNil_len)) (da_cons (de_tupN da_nil fNil_len) (da_cons (de_tupN da_nil fNil_len) (da_cons (de_tupN da_nil fNil_len) (da_cons (de_tupN da_nil fNil_len) (da_cons (de_tupN (da_cons de_int da_nil) (fCons_len fNil_len)) da_nil)))))) (fCons_len (fCons_len (fCons_len (fCons_len (fCons_len (fCons_len fNil_len))))))) da_nil)) (fCons_len (fCons_len fNil_len))))
    (dss_cons (ds_set (chk := false) (i := 11) nd rfl (by first | exact Or.inl rfl | exact Or.inr rfl) (de_tupN (da_cons (de_tupN (da_cons (de_tupN da_nil fNil_len) (da_cons (de_tupN (da_cons de_int da_nil) (fCons_len fNil_len)) (da_cons (de_tupN (da_cons de_int (da_cons de_int da_nil)) (fCons_len (fCons_len fNil_len))) (da_cons (de_tupN (da_cons de_int (da_cons de_int da_nil)) (fCons_len (fCons_len fNil_len))) da_nil)))) (fCons_len (fCons_len (fCons_len (fCons_len fNil_len))))) (da_cons (de_tupN (da_cons (de_tupN (da_cons de_int (da_cons de_int da_nil)) (fCons_len (fCons_len fNil_len))) (da_cons (de_tupN da_nil fNil_len) (da_cons (de_tupN da_nil fNil_len) (da_cons (de_tupN da_nil fNil_len) (da_cons (de_tupN da_nil fNil_len) (da_cons (de_tupN (da_cons de_int (da_cons de_int da_nil)) (fCons_len (fCons_len fNil_len))) da_nil)))))) (fCons_len (fCons_len (fCons_len (fCons_len (fCons_len (fCons_len fNil_len))))))) da_nil)) (fCons_len (fCons_len fNil_len))))
    (dss_cons (ds_set (chk := false) (i := 12) nd rfl (by first | exact Or.inl rfl | exact Or.inr rfl) (de_tupN (da_cons de_int (da_cons (de_tupN (da_cons (de_tupN (da_cons de_int (da_cons de_int da_nil)) (fCons_len (fCons_len fNil_len))) (da_cons (de_tupN (da_cons de_int (da_cons de_int da_nil)) (fCons_len (fCons_len fNil_len))) (da_cons (de_tupN (da_cons de_int (da_cons de_int da_nil)) (fCons_len (fCons_len fNil_len))) da_nil))) (fCons_len (fCons_len (fCons_len fNil_len)))) (da_cons (de_tupN (da_cons de_bl (da_cons de_bl (da_cons de_bl da_nil))) (fCons_len (fCons_len (fCons_len fNil_len)))) da_nil))) (fCons_len (fCons_len (fCons_len fNil_len)))))
    (dss_cons (ds_set (chk := false) (i := 13) nd rfl (by first | exact Or.inl rfl | exact Or.inr rfl) (de_tupN (da_cons (de_callD D_shown_least (hr.mono (by first | decide | omega)) rfl (fCons_len fNil_len) (da_cons (de_var 9 (pv 9)) da_nil)) (da_cons (de_callD D_judge_shown_least (hr.mono (by first | decide | omega)) rfl (fCons_len (fCons_len fNil_len)) (da_cons (de_var 9 (pv 9)) (da_cons (de_var 10 (pv 10)) da_nil))) (da_cons (de_callD D_judge_shown_least (hr.mono (by first | decide | omega)) rfl (fCons_len (fCons_len fNil_len)) (da_cons (de_var 9 (pv 9)) (da_cons (de_var 11 (pv 11)) da_nil))) (da_cons (de_callD D_judge_shown_least (hr.mono (by first | decide | omega)) rfl (fCons_len (fCons_len fNil_len)) (da_cons (de_var 12 (pv 12)) (da_cons (de_tupN (da_cons (de_tupN (da_cons (de_tupN da_nil fNil_len) (da_cons (de_tupN (da_cons de_int da_nil) (fCons_len fNil_len)) (da_cons (de_tupN (da_cons de_int da_nil) (fCons_len fNil_len)) da_nil))) (fCons_len (fCons_len (fCons_len fNil_len)))) (da_cons (de_tupN (da_cons (de_tupN (da_cons de_int da_nil) (fCons_len fNil_len)) (da_cons (de_tupN da_nil fNil_len) (da_cons (de_tupN da_nil fNil_len) da_nil))) (fCons_len (fCons_len (fCons_len fNil_len)))) da_nil)) (fCons_len (fCons_len fNil_len))) da_nil))) da_nil)))) (fCons_len (fCons_len (fCons_len (fCons_len fNil_len))))))
    (dss_one (ds_ret (de_callD D__law_same (hr.mono (by first | decide | omega)) rfl (fCons_len (fCons_len fNil_len)) (da_cons (de_var 13 (pv 13)) (da_cons (de_tupN (da_cons (de_var 10 (pv 10)) (da_cons de_bl (da_cons de_bl (da_cons de_bl da_nil)))) (fCons_len (fCons_len (fCons_len (fCons_len fNil_len))))) da_nil)))))))))))))
theorem law_fn {K : PySem.W.Frag} {mg : Str → Option Value} (B : Bs mg) (A_letters_for : At K mg "letters_for" s_letters_for ["tracks"]) (A_words_to_states : At K mg "words_to_states" s_words_to_states ["machine"]) (A_state_from : At K mg "state_from" s_state_from ["machine", "state", "word"]) (A_state_behind : At K mg "state_behind" s_state_behind ["machine", "word"]) (A_pairs_behind : At K mg "pairs_behind" s_pairs_behind ["one", "other", "pair"]) (A_do_ends_differ : At K mg "do_ends_differ" s_do_ends_differ ["one", "other", "pair"]) (A_word_back : At K mg "word_back" s_word_back ["ways", "pair"]) (A_parting_from : At K mg "parting_from" s_parting_from ["one", "other", "first"]) (A_parting_of_states : At K mg "parting_of_states" s_parting_of_states ["machine", "i", "j"]) (A_pairs_of_states : At K mg "pairs_of_states" s_pairs_of_states ["size"]) (A_shown_least : At K mg "shown_least" s_shown_least ["machine"]) (A_is_word_for : At K mg "is_word_for" s_is_word_for ["tracks", "word"]) (A_do_words_lead : At K mg "do_words_lead" s_do_words_lead ["machine", "words"]) (A_does_word_part : At K mg "does_word_part" s_does_word_part ["machine", "pair", "word"]) (A_judge_shown_least : At K mg "judge_shown_least" s_judge_shown_least ["machine", "shown"]) (A__law_draws : At K mg "_law_draws" s__law_draws ["script", "many"]) (A__law_take : At K mg "_law_take" s__law_take ["draws", "many"]) (A__law_cell : At K mg "_law_cell" s__law_cell ["script"]) (A__law_same : At K mg "_law_same" s__law_same ["actual", "due"]) (A__law_order : At K mg "_law_order" s__law_order ["draws", "many"]) (A__law_mixed : At K mg "_law_mixed" s__law_mixed ["draws", "machine"]) (A__law_counter : At K mg "_law_counter" s__law_counter ["tracks", "weights", "m", "ends"]) (A__law_ladder : At K mg "_law_ladder" s__law_ladder ["tracks", "letters", "most", "ends"]) (A__law_word : At K mg "_law_word" s__law_word ["draws", "tracks", "length"]) (A__law_from : At K mg "_law_from" s__law_from ["machine", "state", "word"]) (A__law_is_shown : At K mg "_law_is_shown" s__law_is_shown ["machine", "words", "parts"]) (A__law_ring_shown : At K mg "_law_ring_shown" s__law_ring_shown ["letter", "m"]) (A__law_ladder_shown : At K mg "_law_ladder_shown" s__law_ladder_shown ["letter", "most"]) (A__law_put_in : At K mg "_law_put_in" s__law_put_in ["draws", "word", "rounds"]) (A__law_are_spoilt_judged : At K mg "_law_are_spoilt_judged" s__law_are_spoilt_judged ["draws", "machine", "words", "parts", "cell"]) (A__law_is_told : At K mg "_law_is_told" s__law_is_told ["draws", "machine", "shown", "rounds", "cell"]) (A_law : At K mg "law" s_law ["script"]) {fa : Addr} (hfa : mg "law" = some (.ref fa)) : ∃ fd : FuncData, (∀ (s : Shared) (u : Value), BindsTo s fd ⟨[u], []⟩ [("script", u)]) ∧ ∀ (P : Program) (w : World) (base : Heap), FnOk P w K mg base CX0 9 fa fd ["script"] (spD ⟨K, P, w⟩ 1 m_law) := by
  obtain ⟨f, fd, F, hm, hb⟩ := A_law.ex
  rw [hm] at hfa
  cases hfa
  refine ⟨fd, fun s u => .of_eq (hb [u] rfl), fun P w base => ?_⟩
  have D_letters_for := f_letters_for (P := P) (w := w) (base := base) A_letters_for B
  have D_words_to_states := f_words_to_states (P := P) (w := w) (base := base) A_words_to_states B
  have D_state_from := f_state_from (P := P) (w := w) (base := base) A_state_from B
  have D_state_behind := f_state_behind (P := P) (w := w) (base := base) A_state_behind B D_state_from
  have D_pairs_behind := f_pairs_behind (P := P) (w := w) (base := base) A_pairs_behind B
  have D_do_ends_differ := f_do_ends_differ (P := P) (w := w) (base := base) A_do_ends_differ B
  have D_word_back := f_word_back (P := P) (w := w) (base := base) A_word_back B
  have D_parting_from := f_parting_from (P := P) (w := w) (base := base) A_parting_from B D_pairs_behind D_do_ends_differ D_word_back
  have D_parting_of_states := f_parting_of_states (P := P) (w := w) (base := base) A_parting_of_states B D_parting_from
  have D_pairs_of_states := f_pairs_of_states (P := P) (w := w) (base := base) A_pairs_of_states B
  have D_shown_least := f_shown_least (P := P) (w := w) (base := base) A_shown_least B D_words_to_states D_pairs_of_states D_parting_of_states
  have D_is_word_for := f_is_word_for (P := P) (w := w) (base := base) A_is_word_for B D_letters_for
  have D_do_words_lead := f_do_words_lead (P := P) (w := w) (base := base) A_do_words_lead B D_state_behind D_is_word_for
  have D_does_word_part := f_does_word_part (P := P) (w := w) (base := base) A_does_word_part B D_state_from D_is_word_for
  have D_judge_shown_least := f_judge_shown_least (P := P) (w := w) (base := base) A_judge_shown_least B D_does_word_part D_do_words_lead D_pairs_of_states
  have D__law_draws := f__law_draws (P := P) (w := w) (base := base) A__law_draws B
  have D__law_take := f__law_take (P := P) (w := w) (base := base) A__law_take B
  have D__law_cell := f__law_cell (P := P) (w := w) (base := base) A__law_cell B
  have D__law_same := f__law_same (P := P) (w := w) (base := base) A__law_same B
  have D__law_order := f__law_order (P := P) (w := w) (base := base) A__law_order B D__law_take
  have D__law_mixed := f__law_mixed (P := P) (w := w) (base := base) A__law_mixed B D__law_order
  have D__law_counter := f__law_counter (P := P) (w := w) (base := base) A__law_counter B
  have D__law_ladder := f__law_ladder (P := P) (w := w) (base := base) A__law_ladder B
  have D__law_word := f__law_word (P := P) (w := w) (base := base) A__law_word B D__law_take
  have D__law_from := f__law_from (P := P) (w := w) (base := base) A__law_from B
  have D__law_is_shown := f__law_is_shown (P := P) (w := w) (base := base) A__law_is_shown B D__law_from
  have D__law_ring_shown := f__law_ring_shown (P := P) (w := w) (base := base) A__law_ring_shown B
  have D__law_ladder_shown := f__law_ladder_shown (P := P) (w := w) (base := base) A__law_ladder_shown B
  have D__law_put_in := f__law_put_in (P := P) (w := w) (base := base) A__law_put_in B D__law_take
  have D__law_are_spoilt_judged := f__law_are_spoilt_judged (P := P) (w := w) (base := base) A__law_are_spoilt_judged B D__law_take D__law_word D__law_same D__law_is_shown D_judge_shown_least
  have D__law_is_told := f__law_is_told (P := P) (w := w) (base := base) A__law_is_told B D__law_same D_judge_shown_least D_shown_least D__law_put_in D__law_mixed D__law_are_spoilt_judged
  exact fn_denC F sc_law rfl fun cdv A outer s H E hcd hr => b_law B D__law_draws D__law_cell D__law_take D__law_counter D__law_is_told D__law_ring_shown D__law_ladder D__law_ladder_shown D_judge_shown_least D_shown_least D__law_same _ cdv A outer s H E hcd hr
end LW

namespace LW
open PySem PySem.Spec PyProof.Rows L2 PD
theorem same_eq : ∀ k, m__law_same k = sameD k
  | 0 => rfl
  | k + 1 => by
    show runD 3 2 (d__law_same m__law_same k) = runD 3 2 (q_same (sameD k))
    rw [← same_eq k]
    rfl
theorem same6 {t : T} (h : SOk 6 t) : m__law_same 6 [.dat t, .dat t] = some (.dat (.bool true), []) := by rw [same_eq]; exact same_ok 6 t h
theorem e_take {ds : List Int} {many : Nat} (h : 0 < many) : ∃ (v : Nat) (ds' : List Int), m__law_take [.obj (.lst (ds.map .int)), .dat (.int (many : Nat))] = some (.dat (nI v), [.lst (ds'.map .int)]) ∧ v < many := take_nat h
theorem e_law_order {ds : List Int} {many : Nat} (hm : many ≤ 1000) : ∃ (od : List Nat) (ds' : List Int), m__law_order [.obj (.lst (ds.map .int)), .dat (.int many)] = some (.dat (tI od), [.lst (ds'.map .int)]) ∧ IsP od many := by
  obtain ⟨⟨ds', left, fs⟩, e, h1, h2, h3⟩ := for_r (β := List Int × List Nat × List Nat) (g := tgN false 4) (b := lb__law_order_1)
    (fun i o => [some (.obj (.lst (o.1.map .int))), some (.dat (.int many)), some (.obj (.lst (o.2.1.map nI))), some (.obj (.lst (o.2.2.map nI))), none])
    (fun i o => o.2.1.length + i = many ∧ o.2.2.length = i ∧ (o.2.2 ++ o.2.1).Perm (List.range many)) many 0 (fun i ⟨ds, left, fs⟩ hi ⟨h1, h2, h3⟩ => by
      have h1 : left.length + i = many := h1
      have h2 : fs.length = i := h2
      have h3 : (fs ++ left).Perm (List.range many) := h3
      obtain ⟨v, ds', tk, hv⟩ := e_take (ds := ds) (many := left.length) (by omega)
      have hz : (fs.map nI).length < 1000000 := by simp; omega
      have hpop := popAt_ok hv (by omega)
      have happ : gAppend (fs.map nI) [nI left[v]] = some (.none, fs.map nI ++ [nI left[v]]) := gAppend_ok hz
      refine ⟨[some (.obj (.lst (ds.map .int))), some (.dat (.int many)), some (.obj (.lst (left.map nI))), some (.obj (.lst (fs.map nI))), some (.dat (.int i))], ⟨ds', left.eraseIdx v, fs ++ [left[v]]⟩, by simp, .inl ?_, ?_, ?_, ?_⟩
      · simp only [nI] at tk hpop happ
        simp [lb__law_order_1, tk, hpop, happ, nI]
      · show (left.eraseIdx v).length + (i + 1) = many
        rw [List.length_eraseIdx_of_lt hv]; omega
      · show (fs ++ [left[v]]).length = i + 1
        simp [h2]
      · exact (perm_erase left v hv fs).trans h3) ⟨ds, List.range many, []⟩ ⟨by simp, rfl, by simp⟩
  have h1 : left.length + many = many := h1
  have h3 : (fs ++ left).Perm (List.range many) := h3
  have : left = [] := List.eq_nil_of_length_eq_zero (by omega)
  subst this
  rw [List.append_nil] at h3
  refine ⟨fs, ds', ?_, h3⟩
  have e1 : fFor (fItR1 (fVar 1)) (tgN false 4) lb__law_order_1 [some (.obj (.lst (ds.map .int))), some (.dat (.int many)), some (.obj (.lst ((List.range many).map nI))), some (.obj (.lst [])), none] = _ :=
    for_rng (n := many) (by simp) (by omega) e
  have hr : fListRg (fRg1 (fVar 1)) [some (.obj (.lst (ds.map .int))), some (.dat (.int many)), none, none, none] = some (.tmp (.lst ((List.range many).map nI)), [some (.obj (.lst (ds.map .int))), some (.dat (.int many)), none, none, none]) := by
    unfold fListRg fRg1
    have hg : guardP (RgOk 0 (many : Int)) = some () := guardP_pos (by unfold RgOk; refine ⟨by omega, by omega, by omega, by omega, by omega⟩)
    have : rgT 0 (many : Int) = (List.range many).map nI := by unfold rgT nI; simp
    simp [hg, this]
  unfold m__law_order d__law_order
  rw [ev_run2]
  simp [-ev_for, hr, guard_small, e1]
  rfl
section
variable {tr B n N : Nat} {R M : Nat → Nat → Nat} {w : Nat → List Nat} {e : Nat → Bool} {v : Nat → Nat}
abbrev MX (ds : List Int) (m : T) (s : List Nat) (tr B N : Nat) (M : Nat → Nat → Nat) (e : Nat → Bool) (L1 L2 : List T) (x8 x9 : Option Sl) : Ev := [ol ds, dd m, di tr, dt (rowsM B N M), dt (endsM N e), dd (tI s), oT L1, oT L2, x8, x9]
theorem e_mixed {ds : List Int} (hB : B ≤ 1000) (hN : N + 1 ≤ 1000) (hM : ∀ k, k < N + 1 → ∀ l, l < B → M k l < N + 1) :
    ∃ (s : List Nat) (ds' : List Int), m__law_mixed [.obj (.lst (ds.map .int)), .dat (mk tr B (N + 1) M e)] = some (.dat (.tuple [mk tr B (N + 1) (nmM s M) (nmE s e), tI s]), [.lst (ds'.map .int)]) ∧ IsP s (N + 1) ∧ pg s 0 = 0 := by
  obtain ⟨od, ds', k1, hod⟩ := e_law_order (ds := ds) (many := N) (by omega)
  obtain ⟨m, hm⟩ : ∃ m, m = mk tr B (N + 1) M e := ⟨_, rfl⟩
  rw [← hm]
  obtain ⟨s, hs0⟩ : ∃ s, s = 0 :: od.map (· + 1) := ⟨_, rfl⟩
  have P : IsP s (N + 1) := by rw [hs0]; exact perm_up hod
  refine ⟨s, ds', ?_, P, by rw [hs0]; rfl⟩
  have hs : ∀ k, k < N + 1 → atI (s.map nI) (k : Int) = some (nI (pg s k)) := fun k hk => atI_nI (by rw [P.len]; exact hk)
  have t1 : sd__law_mixed_1 [ol ds, dd m, none, none, none, none, none, none, none, none] = some (.nx [ol ds, dd m, di tr, dt (rowsM B (N + 1) M), dt (endsM (N + 1) e), none, none, none, none, none]) := by
    rw [hm]
    simp [sd__law_mixed_1, mk, fAsg]
  have c1 : (fCall m__law_order (fCons (fVar 0) (fCons (fBin PD.gSub (fCB gLen (fCons (fVar 3) fNil)) (fC (.int 1))) fNil))) [ol ds, dd m, di tr, dt (rowsM B (N + 1) M), dt (endsM (N + 1) e), none, none, none, none, none] = some (.dat (.tuple (od.map nI)), [ol ds', dd m, di tr, dt (rowsM B (N + 1) M), dt (endsM (N + 1) e), none, none, none, none, none]) := by
    have k1' : m__law_order [.obj (.lst (ds.map .int)), .dat (.int ((N : Int) + 1 - 1))] = some (.dat (.tuple (od.map nI)), [.lst (ds'.map .int)]) := by
      rw [show (N : Int) + 1 - 1 = N by omega]; exact k1
    generalize od.map nI = Z at *
    simp at k1'
    simp [k1']
  have lc1 := fun (h : ∀ x ∈ od, ∃ ρ1 ρ3, tgN false 8 (nI x) [ol ds', dd m, di tr, dt (rowsM B (N + 1) M), dt (endsM (N + 1) e), none, none, none, none, none] = some ρ1 ∧ le__law_mixed_1 ρ1 = some (.dat (nI (x + 1)), ρ3) ∧ wipeE ρ3 [8] = [ol ds', dd m, di tr, dt (rowsM B (N + 1) M), dt (endsM (N + 1) e), none, none, none, none, none]) => h
  have t2 : sd__law_mixed_2 [ol ds, dd m, di tr, dt (rowsM B (N + 1) M), dt (endsM (N + 1) e), none, none, none, none, none] = some (.nx [ol ds', dd m, di tr, dt (rowsM B (N + 1) M), dt (endsM (N + 1) e), dd (tI s), none, none, none, none]) := by
    have key : ∀ ys : List Nat, fLcL (fun _ => True) (tgN false 8) fYes le__law_mixed_1 [8] (ys.map nI) [ol ds', dd m, di tr, dt (rowsM B (N + 1) M), dt (endsM (N + 1) e), none, none, none, none, none] = some ((ys.map fun x => nI (x + 1)), [ol ds', dd m, di tr, dt (rowsM B (N + 1) M), dt (endsM (N + 1) e), none, none, none, none, none]) := by
      intro ys
      induction ys with
      | nil => rw [List.map_nil, fLcL, guardP_pos (by trivial)]; rfl
      | cons y ys ih =>
        have e2 : le__law_mixed_1 [ol ds', dd m, di tr, dt (rowsM B (N + 1) M), dt (endsM (N + 1) e), none, none, none, dd (nI y), none] = some (.dat (nI (y + 1)), [ol ds', dd m, di tr, dt (rowsM B (N + 1) M), dt (endsM (N + 1) e), none, none, none, dd (nI y), none]) := by simp [le__law_mixed_1, nI]
        rw [List.map_cons, fLcL, guardP_pos (by trivial)]
        simp [e2, ih]
    have lc : (fLc (fItE (fCall m__law_order (fCons (fVar 0) (fCons (fBin PD.gSub (fCB gLen (fCons (fVar 3) fNil)) (fC (.int 1))) fNil)))) (tgN false 8) fYes le__law_mixed_1 [8]) [ol ds, dd m, di tr, dt (rowsM B (N + 1) M), dt (endsM (N + 1) e), none, none, none, none, none] = some (.tmp (.lst (od.map fun x => nI (x + 1))), [ol ds', dd m, di tr, dt (rowsM B (N + 1) M), dt (endsM (N + 1) e), none, none, none, none, none]) := by
      rw [ev_lc, ev_itE, c1]
      simp only [Option.bind_some, ev_itOf_t, Option.map_some, guard_small (show (od.map nI).length ≤ 1000000 by rw [List.length_map, hod.len]; omega)]
      rw [show wipeE [ol ds', dd m, di tr, dt (rowsM B (N + 1) M), dt (endsM (N + 1) e), none, none, none, none, none] [8] = [ol ds', dd m, di tr, dt (rowsM B (N + 1) M), dt (endsM (N + 1) e), none, none, none, none, none] from rfl, show (ckOf (od.map nI) none) = fun _ => True from rfl, key]
      rfl
    have a1 : ∀ ρ, gAdd (.dat (.tuple [.int 0])) (.dat (tI (od.map (· + 1)))) ρ = some (.dat (tI s)) := fun ρ => by
      rw [hs0]
      exact addI_ok (a := [0]) (by have := hod.len; simp; omega) ρ
    have e3 : od.map (fun x => nI (x + 1)) = (od.map (· + 1)).map nI := by rw [List.map_map]; rfl
    rw [e3] at lc
    have e4 : PyData.tuple ((od.map (· + 1)).map nI) = tI (od.map (· + 1)) := rfl
    generalize (od.map (· + 1)).map nI = Z at *
    simp [-ev_add, -ev_lc, sd__law_mixed_2, lc, gTuple, e4, a1]
  have t3 : sd__law_mixed_3 [ol ds', dd m, di tr, dt (rowsM B (N + 1) M), dt (endsM (N + 1) e), dd (tI s), none, none, none, none] = some (.nx (MX ds' m s tr B (N + 1) M e (List.replicate (N + 1) (.tuple [])) (List.replicate (N + 1) (.bool false)) none none)) := by
    have q1 := fun ρ => rep1L (t := .tuple []) (k := N + 1) (ρ := ρ) hN
    have q2 := fun ρ => rep1L (t := .bool false) (k := N + 1) (ρ := ρ) hN
    push_cast at q1 q2
    generalize List.replicate (N + 1) (PyData.tuple []) = Z1 at *
    generalize List.replicate (N + 1) (PyData.bool false) = Z2 at *
    simp [-ev_mul, sd__law_mixed_3, fPar, q1, q2]
  obtain ⟨⟨L1, L2⟩, e1, h1, h2⟩ := for_r (β := List T × List T) (g := tgN false 8) (b := lb__law_mixed_1) (fun i L => MX ds' m s tr B (N + 1) M e L.1 L.2 none none) (fun i L => Plcd (pg s) (N + 1) i (fun k => rowM B fun l => pg s (M k l)) L.1 ∧ Plcd (pg s) (N + 1) i (fun k => .bool (e k)) L.2) (N + 1) 0 (fun i ⟨L1, L2⟩ hi ⟨h1, h2⟩ => by
    have h1 : Plcd (pg s) (N + 1) i (fun k => rowM B fun l => pg s (M k l)) L1 := h1
    have h2 : Plcd (pg s) (N + 1) i (fun k => .bool (e k)) L2 := h2
    have inj : ∀ i j, i < N + 1 → j < N + 1 → pg s i = pg s j → i = j := fun i j h h' z => P.inj h h' z
    have r1 := rowsM_at (B := B) (M := M) hi
    have r2 := endsM_at (e := e) hi
    have r3 := hs i hi
    have x1 := ixN_nat (n := L1.length) (k := pg s i) (by rw [h1.1]; exact P.lt hi)
    have x2 := ixN_nat (n := L2.length) (k := pg s i) (by rw [h2.1]; exact P.lt hi)
    have lc := row_named (g := tgN false 9) (te := le__law_mixed_2) (f := fBin gIx (fVar 3) (fVar 8)) (vs := [9]) (ρ := MX ds' m s tr B (N + 1) M e L1 L2 (di i) none) P hB (hM i hi) (by simp [r1]) (by simp) (by simp) (fun q hq hq2 => ⟨MX ds' m s tr B (N + 1) M e L1 L2 (di i) (dd (nI q)), MX ds' m s tr B (N + 1) M e L1 L2 (di i) (dd (nI q)), by simp, by simp only [nI] at hq2 ⊢; simp [le__law_mixed_2, tI, hq2], by simp⟩)
    have hrb := row_back (B := B) (M := M) (s := s) (i := i)
    have p1 := h1.set inj hi (P.lt hi)
    have p2 := h2.set inj hi (P.lt hi)
    refine ⟨MX ds' m s tr B (N + 1) M e L1 L2 (di i) none, ⟨L1.set (pg s i) (rowM B fun l => pg s (M i l)), L2.set (pg s i) (.bool (e i))⟩, by simp, .inl ?_, p1, p2⟩
    generalize (rowM B fun l => pg s (M i l)) = Z at *
    generalize (List.range B).map (fun l => nI (pg s (M i l))) = Z2 at *
    simp only [nI] at r3
    have u1 : (fSetIx (fCB gTuple (fCons (fLc (fItE (fBin gIx (fVar 3) (fVar 8))) (tgN false 9) fYes le__law_mixed_2 [9]) fNil)) (fVar 6) (fBin gIx (fVar 5) (fVar 8))) (MX ds' m s tr B (N + 1) M e L1 L2 (di i) none) = some (.nx (MX ds' m s tr B (N + 1) M e (L1.set (pg s i) Z) L2 (di i) none)) := by
      simp [-ev_lc, lc, gTuple, hrb, r3, x1, tI]
    have u2 : (fSetIx (fBin gIx (fVar 4) (fVar 8)) (fVar 7) (fBin gIx (fVar 5) (fVar 8))) (MX ds' m s tr B (N + 1) M e (L1.set (pg s i) Z) L2 (di i) none) = some (.nx (MX ds' m s tr B (N + 1) M e (L1.set (pg s i) Z) (L2.set (pg s i) (.bool (e i))) (di i) none)) := by
      simp [r2, r3, x2, tI]
    unfold lb__law_mixed_1
    rw [ev_wipeS, seq_nx u1, u2]
    rfl) ⟨List.replicate (N + 1) (.tuple []), List.replicate (N + 1) (.bool false)⟩ ⟨⟨by simp, fun k hk => by omega⟩, ⟨by simp, fun k hk => by omega⟩⟩
  have t4 : sd__law_mixed_4 (MX ds' m s tr B (N + 1) M e (List.replicate (N + 1) (.tuple [])) (List.replicate (N + 1) (.bool false)) none none) = _ := for_rng (n := N + 1) (by simp) (by omega) e1
  have h1 := h1.all P
  have h2 := h2.all P
  have h1 : L1 = rowsM B (N + 1) (nmM s M) := h1
  have h2 : L2 = endsM (N + 1) (nmE s e) := h2
  subst h1 h2
  have t5 : sd__law_mixed_5 (MX ds' m s tr B (N + 1) M e (rowsM B (N + 1) (nmM s M)) (endsM (N + 1) (nmE s e)) none none) = some (.rt (.dat (.tuple [mk tr B (N + 1) (nmM s M) (nmE s e), tI s])) (MX ds' m s tr B (N + 1) M e (rowsM B (N + 1) (nmM s M)) (endsM (N + 1) (nmE s e)) none none)) := by
    simp [sd__law_mixed_5, gTuple, mk]
  exact run_rt rfl ((seq_nx t1).trans ((seq_nx t2).trans ((seq_nx t3).trans ((seq_nx t4).trans t5)))) (by simp)
end
theorem ct_d {tr m : Nat} {ws : List Nat} (hm0 : 0 < m) (hm : m ≤ 1000) (hw : ws.length ≤ 1000) {x3 : Option Sl} {e : Nat → Bool} (hin : ∀ (k : Nat) (ρ : Ev), ρ[3]? = some x3 → ρ[5]? = some (di k) → fBin gIn (fVar 5) (fVar 3) ρ = some (.dat (.bool (e k)), ρ)) :
    ∃ x4, d__law_counter [di tr, dd (tI ws), di m, x3, none, none, none] = some (.rt (.dat (mk tr ws.length m (ctM ws m) e)) [di tr, dd (tI ws), di m, x3, x4, none, none]) := by
  have e1 : fLc (fItR1 (fVar 2)) (tgN false 5) fYes le__law_counter_3 [5] [di tr, dd (tI ws), di m, x3, none, none, none] = some (.tmp (.lst (rowsM ws.length m (ctM ws m))), [di tr, dd (tI ws), di m, x3, none, none, none]) := lc_rng (n := m) (fun k => rowM ws.length (ctM ws m k)) (by simp) (by omega) (by simp) (by simp) (fun k hk => by
    have e2 : fLc (fItE (fVar 1)) (tgN false 6) fYes le__law_counter_2 [6] [di tr, dd (tI ws), di m, x3, none, di k, none] = _ := lc_tupE (e := nI) (xs := ws) (fun x => nI ((k + x) % m)) (by simp [tI]) (by omega) (by simp) (by simp) (fun x hx => by
      have q := mod_nat (a := k + x) (m := m) hm0
      have q7 : ∀ (i j : Int) ρ, gAdd (.dat (.int i)) (.dat (.int j)) ρ = some (.dat (.int (i + j))) := fun i j ρ => by simp
      push_cast at q
      exact ⟨[di tr, dd (tI ws), di m, x3, none, di k, dd (nI x)], [di tr, dd (tI ws), di m, x3, none, di k, dd (nI x)], by simp, by simp only [nI] at q ⊢; simp [-ev_add, -ev_gI, le__law_counter_2, q, q7], by simp⟩)
    have hr := ct_row ws m k
    refine ⟨[di tr, dd (tI ws), di m, x3, none, di k, none], [di tr, dd (tI ws), di m, x3, none, di k, none], by simp, ?_, by simp⟩
    generalize rowM ws.length (ctM ws m k) = Z at *
    generalize ws.map (fun x => nI ((k + x) % m)) = Z2 at *
    simp [-ev_lc, le__law_counter_3, e2, gTuple, hr])
  obtain ⟨tb, htb⟩ : ∃ tb, tb = rowsM ws.length m (ctM ws m) := ⟨_, rfl⟩
  rw [← htb] at e1
  have e3 : fLc (fItR1 (fVar 2)) (tgN false 5) fYes le__law_counter_1 [5] [di tr, dd (tI ws), di m, x3, oT tb, none, none] = some (.tmp (.lst (endsM m e)), [di tr, dd (tI ws), di m, x3, oT tb, none, none]) := lc_rng (n := m) (fun k => .bool (e k)) (by simp) (by omega) (by simp) (by simp) (fun k hk => ⟨[di tr, dd (tI ws), di m, x3, oT tb, di k, none], [di tr, dd (tI ws), di m, x3, oT tb, di k, none], by simp, hin k _ rfl rfl, by simp⟩)
  refine ⟨oT tb, ?_⟩
  unfold d__law_counter mk
  rw [← htb]
  have t1 : (fSet false 4 (fLc (fItR1 (fVar 2)) (tgN false 5) fYes le__law_counter_3 [5])) [di tr, dd (tI ws), di m, x3, none, none, none] = some (.nx [di tr, dd (tI ws), di m, x3, oT tb, none, none]) := by simp [-ev_lc, e1]
  rw [seq_nx t1]
  simp [-ev_lc, e3, gTuple]
theorem ld_d {tr most a : Nat} (ht : tr ≤ 5) (hm : most ≤ 900) {x3 : Option Sl} {e : Nat → Bool} (hin : ∀ (k : Nat) (ρ : Ev), ρ[3]? = some x3 → ρ[5]? = some (di k) → fBin gIn (fVar 5) (fVar 3) ρ = some (.dat (.bool (e k)), ρ)) :
    ∃ x4, d__law_ladder [di tr, dd (tI [a]), di most, x3, none, none, none] = some (.rt (.dat (mk tr (2 ^ tr) (most + 1) (ldM a most) e)) [di tr, dd (tI [a]), di most, x3, x4, none, none]) := by
  have hB2 : 2 ^ tr ≤ 32 := (Nat.pow_le_pow_right (by decide) ht : 2 ^ tr ≤ 2 ^ 5)
  have sh := two_one tr (by omega)
  obtain ⟨B, hB⟩ : ∃ B, B = 2 ^ tr := ⟨_, rfl⟩
  rw [← hB] at hB2 sh ⊢
  have e1 : fLc (fItR1 (fBin gAdd (fVar 2) (fC (.int 1)))) (tgN false 5) fYes le__law_ladder_3 [5] [di tr, dd (tI [a]), di most, x3, none, none, none] = some (.tmp (.lst (rowsM B (most + 1) (ldM a most))), [di tr, dd (tI [a]), di most, x3, none, none, none]) := lc_rng (n := most + 1) (fun k => rowM B (ldM a most k)) (by simp) (by omega) (by simp) (by simp) (fun k hk => by
    have e2 : fLc (fItR1 (fBin gShl (fC (.int 1)) (fVar 0))) (tgN false 6) fYes le__law_ladder_2 [6] [di tr, dd (tI [a]), di most, x3, none, di k, none] = _ := lc_rng (n := B) (fun l => nI (ldM a most k l)) (by simp only [nI] at sh; simp [-ev_gI, sh]) (by omega) (by simp) (by simp) (fun l hl => by
      have h := gin_t (es := [a]) (k := l) (i := 1) (j := 6) (ρ := [di tr, dd (tI [a]), di most, x3, none, di k, di l]) rfl rfl
      refine ⟨[di tr, dd (tI [a]), di most, x3, none, di k, di l], [di tr, dd (tI [a]), di most, x3, none, di k, di l], by simp, ?_, by simp⟩
      have h2 : (fTst (fBin gIn (fVar 6) (fVar 1))) [di tr, dd (tI [a]), di most, x3, none, di k, di l] = some (decide (l = a), [di tr, dd (tI [a]), di most, x3, none, di k, di l]) := by
        rw [ev_tst, h]
        simp
      have h8 : ∀ ρ, gMin [.dat (.int ((k : Int) + 1)), .dat (.int (most : Nat))] ρ = some (.dat (.int ((min (k + 1) most : Nat) : Int))) := fun ρ => by simp; omega
      unfold le__law_ladder_2 ldM
      by_cases e : l = a
      · simp only [e, if_true, nI]
        rw [show ((min (k + 1) most : Nat) : Int) = ((min (k + 1) most : Nat) : Int) from rfl]
        subst e
        generalize ((min (k + 1) most : Nat) : Int) = Z at *
        unfold fIf
        rw [h2]
        simp [-ev_min, h8]
      · unfold fIf
        rw [h2]
        simp [e, nI])
    have hr : PyData.tuple ((List.range B).map fun l => nI (ldM a most k l)) = rowM B (ldM a most k) := by simp [rowM, tI, Function.comp_def]
    refine ⟨[di tr, dd (tI [a]), di most, x3, none, di k, none], [di tr, dd (tI [a]), di most, x3, none, di k, none], by simp, ?_, by simp⟩
    generalize rowM B (ldM a most k) = Z at *
    generalize (List.range B).map (fun l => nI (ldM a most k l)) = Z2 at *
    simp [-ev_lc, le__law_ladder_3, e2, gTuple, hr])
  obtain ⟨tb, htb⟩ : ∃ tb, tb = rowsM B (most + 1) (ldM a most) := ⟨_, rfl⟩
  rw [← htb] at e1
  have e3 : fLc (fItR1 (fBin gAdd (fVar 2) (fC (.int 1)))) (tgN false 5) fYes le__law_ladder_1 [5] [di tr, dd (tI [a]), di most, x3, oT tb, none, none] = some (.tmp (.lst (endsM (most + 1) e)), [di tr, dd (tI [a]), di most, x3, oT tb, none, none]) := lc_rng (n := most + 1) (fun k => .bool (e k)) (by simp) (by omega) (by simp) (by simp) (fun k hk => ⟨[di tr, dd (tI [a]), di most, x3, oT tb, di k, none], [di tr, dd (tI [a]), di most, x3, oT tb, di k, none], by simp, hin k _ rfl rfl, by simp⟩)
  refine ⟨oT tb, ?_⟩
  unfold d__law_ladder mk
  rw [← htb]
  have t1 : (fSet false 4 (fLc (fItR1 (fBin gAdd (fVar 2) (fC (.int 1)))) (tgN false 5) fYes le__law_ladder_3 [5])) [di tr, dd (tI [a]), di most, x3, none, none, none] = some (.nx [di tr, dd (tI [a]), di most, x3, oT tb, none, none]) := by simp [-ev_lc, e1]
  rw [seq_nx t1]
  simp [-ev_lc, e3, gTuple]
theorem e_counter_t {tr m : Nat} {ws es : List Nat} (hm0 : 0 < m) (hm : m ≤ 1000) (hw : ws.length ≤ 1000) :
    m__law_counter [.dat (.int tr), .dat (tI ws), .dat (.int m), .dat (tI es)] = some (.dat (mk tr ws.length m (ctM ws m) fun k => decide (k ∈ es)), []) := by
  obtain ⟨x4, h⟩ := ct_d (tr := tr) (x3 := dd (tI es)) (e := fun k => decide (k ∈ es)) hm0 hm hw fun k ρ h3 h5 => gin_t h3 h5
  exact run_rt rfl h (by simp)
theorem e_ladder_t {tr most a : Nat} {es : List Nat} (ht : tr ≤ 5) (hm : most ≤ 900) :
    m__law_ladder [.dat (.int tr), .dat (tI [a]), .dat (.int most), .dat (tI es)] = some (.dat (mk tr (2 ^ tr) (most + 1) (ldM a most) fun k => decide (k ∈ es)), []) := by
  obtain ⟨x4, h⟩ := ld_d (a := a) (x3 := dd (tI es)) (e := fun k => decide (k ∈ es)) ht hm fun k ρ h3 h5 => gin_t h3 h5
  exact run_rt rfl h (by simp)
end LW

namespace LW
open PySem PySem.Spec PyProof.Rows L2 PD
/-! ### ranges from a start -/
theorem it_r2 {f1 f2 : FE} {ρ : Ev} {a n : Nat} (h1 : f1 ρ = some (.dat (.int a), ρ)) (h2 : f2 ρ = some (.dat (.int n), ρ)) (ha : a ≤ 1000000) (hn : n ≤ 1000000) : fItR2 f1 f2 ρ = some ((List.range (n - a)).map fun k => nI (a + k), none, ρ) := by
  have hg : guardP (-(2 ^ 62) ≤ (a : Int) ∧ (a : Int) < 2 ^ 62 ∧ -(2 ^ 62) ≤ (n : Int) ∧ (n : Int) < 2 ^ 62) = some () := guardP_pos ⟨by omega, by omega, by omega, by omega⟩
  rw [ev_itR2, h1]
  simp only [Option.bind_some, ev_intOf, h2, hg, Option.map_some]
  rw [show ((n : Int) - (a : Int)).toNat = n - a by omega]
  congr 2
theorem lc_it {α : Type} {e : α → T} {it : FI} {g : GT} {te : FE} {vs : List Nat} {ρ : Ev} {xs : List α} (F : α → T) (hf : it ρ = some (xs.map e, none, ρ)) (hn : xs.length ≤ 1000000) (hw : wipeE ρ vs = ρ) (hb : backE ρ ρ vs = ρ)
    (h : ∀ x ∈ xs, ∃ ρ1 ρ3, g (e x) ρ = some ρ1 ∧ te ρ1 = some (.dat (F x), ρ3) ∧ wipeE ρ3 vs = ρ) : fLc it g fYes te vs ρ = some (.tmp (.lst (xs.map F)), ρ) := by
  have key : ∀ ys : List α, (∀ x ∈ ys, ∃ ρ1 ρ3, g (e x) ρ = some ρ1 ∧ te ρ1 = some (.dat (F x), ρ3) ∧ wipeE ρ3 vs = ρ) → fLcL (ckOf (xs.map e) none) g fYes te vs (ys.map e) ρ = some (ys.map F, ρ) := by
    intro ys
    induction ys with
    | nil => intro _; rw [List.map_nil, fLcL, guardP_pos (by trivial)]; rfl
    | cons y ys ih =>
      intro hy
      obtain ⟨ρ1, ρ3, e1, e2, e3⟩ := hy y List.mem_cons_self
      rw [List.map_cons, fLcL, guardP_pos (by trivial)]
      simp only [Option.bind_some, e1, ev_yes, if_true, e2, e3, ih fun x hx => hy x (List.mem_cons_of_mem _ hx), Option.map_some, List.map_cons]
  rw [ev_lc, hf]
  simp only [Option.bind_some, guard_small (show (xs.map e).length ≤ 1000000 by simpa using hn), hw]
  rw [key xs h]
  simp only [Option.map_some, hb]
theorem flat_len {α : Type} {β : Type} (c : α → Nat) (F : α → Nat → β) (K : Nat) : ∀ ys : List α, (∀ y ∈ ys, c y ≤ K) → (ys.flatMap fun x => (List.range (c x)).map (F x)).length ≤ ys.length * K
  | [], _ => by simp
  | y :: ys, h => by
    have := flat_len c F K ys fun z hz => h z (by simp [hz])
    have h1 := h y (by simp)
    rw [List.flatMap_cons, List.length_append, List.length_cons, Nat.succ_mul, List.length_map, List.length_range]
    omega
theorem lc2_r {g g1 : GT} {te : FE} {f : FE} {it1 : FI} {vs vs1 : List Nat} {ρ : Ev} {n : Nat} (c : Nat → Nat) (st : Nat → Nat) (F : Nat → Nat → T) (hf : f ρ = some (.dat (.int n), ρ)) (hn : n ≤ 1000) (hc : ∀ i, i < n → c i ≤ 1000) (hw : wipeE ρ vs = ρ) (hb : backE ρ ρ vs = ρ)
    (h : ∀ i, i < n → ∃ ρ1, g (nI i) ρ = some ρ1 ∧ it1 ρ1 = some ((List.range (c i)).map fun k => nI (st i + k), none, ρ1) ∧ wipeE ρ1 vs1 = ρ1 ∧ wipeE ρ1 vs = ρ ∧ ∀ k, k < c i → ∃ ρ2 ρ3, g1 (nI (st i + k)) ρ1 = some ρ2 ∧ te ρ2 = some (.dat (F i k), ρ3) ∧ wipeE ρ3 vs1 = ρ1) :
    fLc2 (fItR1 f) g fYes it1 g1 fYes te vs vs1 ρ = some (.tmp (.lst ((List.range n).flatMap fun i => (List.range (c i)).map (F i))), ρ) := by
  have hg : guardP (-(2 ^ 62) ≤ (n : Int) ∧ (n : Int) < 2 ^ 62) = some () := g_rg1 (by omega) (by omega)
  have key : ∀ ys : List Nat, (∀ i ∈ ys, i < n) →
      fLc2L (fun _ => True) g fYes it1 g1 fYes te vs vs1 (ys.map fun i => PyData.int (0 + (i : Nat))) ρ = some (ys.flatMap fun i => (List.range (c i)).map (F i), ρ) := by
    intro ys
    induction ys with
    | nil => intro _; rw [List.map_nil, fLc2L, guardP_pos (by trivial)]; rfl
    | cons y ys ih =>
      intro hy
      obtain ⟨ρ1, e1, e2, e3, e4, e5⟩ := h y (hy y List.mem_cons_self)
      have e1 : g (.int (0 + (y : Nat))) ρ = some ρ1 := by rw [Int.zero_add]; exact e1
      have inner : ∀ zs : List Nat, (∀ k ∈ zs, k < c y) → fLcL (fun _ => True) g1 fYes te vs1 (zs.map fun k => nI (st y + k)) ρ1 = some (zs.map (F y), ρ1) := by
        intro zs
        induction zs with
        | nil => intro _; rw [List.map_nil, fLcL, guardP_pos (by trivial)]; rfl
        | cons z zs ih2 =>
          intro hz
          obtain ⟨ρ2, ρ3, q1, q2, q3⟩ := e5 z (hz z List.mem_cons_self)
          rw [List.map_cons, fLcL, guardP_pos (by trivial)]
          simp only [Option.bind_some, q1, ev_yes, if_true, q2, q3, ih2 fun x hx => hz x (List.mem_cons_of_mem _ hx), Option.map_some, List.map_cons]
      have inner := inner (List.range (c y)) fun k hk => List.mem_range.mp hk
      rw [List.map_cons, fLc2L, guardP_pos (by trivial)]
      simp only [Option.bind_some, e1, ev_yes, if_true, e2, e3]
      rw [show (ckOf ((List.range (c y)).map fun k => nI (st y + k)) none) = fun _ => True from rfl, inner]
      simp only [Option.bind_some, e4, ih fun x hx => hy x (List.mem_cons_of_mem _ hx), Option.map_some, List.flatMap_cons]
  have hlen : ((List.range n).flatMap fun i => (List.range (c i)).map (F i)).length ≤ 1000000 := by
    have := flat_len c F 1000 (List.range n) fun i hi => hc i (List.mem_range.mp hi)
    rw [List.length_range] at this
    omega
  unfold fLc2
  rw [ev_itR1, hf]
  simp only [Option.bind_some, ev_intOf, hg, Option.map_some, Int.toNat_natCast, hw]
  rw [show (ckOf ((List.range n).map fun i => PyData.int (0 + (i : Nat))) none) = fun _ => True from rfl, key (List.range n) fun i hi => List.mem_range.mp hi]
  simp only [Option.bind_some, guard_small hlen, Option.map_some, hb]
/-! ### pairs of states -/
def pT (p : Nat × Nat) : T := .tuple [nI p.1, nI p.2]
def prs (n : Nat) : List (Nat × Nat) := (List.range n).flatMap fun i => (List.range (n - (i + 1))).map fun k => (i, i + 1 + k)
theorem prs_mem {n : Nat} {p : Nat × Nat} : p ∈ prs n ↔ p.1 < p.2 ∧ p.2 < n := by
  unfold prs
  rw [List.mem_flatMap]
  constructor
  · rintro ⟨i, hi, h⟩
    obtain ⟨k, hk, rfl⟩ := List.mem_map.mp h
    have hi := List.mem_range.mp hi
    have hk := List.mem_range.mp hk
    exact ⟨by show i < i + 1 + k; omega, by show i + 1 + k < n; omega⟩
  · rintro ⟨h1, h2⟩
    refine ⟨p.1, List.mem_range.mpr (by omega), List.mem_map.mpr ⟨p.2 - (p.1 + 1), List.mem_range.mpr (by omega), ?_⟩⟩
    show (p.1, p.1 + 1 + (p.2 - (p.1 + 1))) = p
    rw [show p.1 + 1 + (p.2 - (p.1 + 1)) = p.2 by omega]
theorem prs_len (n : Nat) : (prs n).length ≤ n * n := by
  have := flat_len (fun i => n - (i + 1)) (fun i k => (i, i + 1 + k)) n (List.range n) fun i hi => by omega
  rwa [List.length_range] at this
theorem e_prs {n : Nat} (hn : n ≤ 100) : m_pairs_of_states [.dat (.int n)] = some (.obj (.lst ((prs n).map pT)), []) := by
  have e1 : fLc2 (fItR1 (fVar 0)) (tgN false 1) fYes (fItR2 (fBin gAdd (fVar 1) (fC (.int 1))) (fVar 0)) (tgN false 2) fYes le_pairs_of_states_1 [1, 2] [2] [di n, none, none] = _ := lc2_r (n := n) (fun i => n - (i + 1)) (fun i => i + 1) (fun i k => pT (i, i + 1 + k)) (by simp) (by omega) (fun i hi => by omega) (by simp) (by simp) (fun i hi => by
    refine ⟨[di n, di i, none], by simp [nI], it_r2 (by simp) (by simp) (by omega) (by omega), by simp, by simp, fun k hk => ⟨[di n, di i, di (i + 1 + k : Nat)], [di n, di i, di (i + 1 + k : Nat)], by simp [nI], ?_, by simp⟩⟩
    simp [le_pairs_of_states_1, pT, nI])
  have e2 : ((List.range n).flatMap fun i => (List.range (n - (i + 1))).map fun k => pT (i, i + 1 + k)) = (prs n).map pT := by
    unfold prs
    rw [List.map_flatMap]
    congr 1
    funext i
    rw [List.map_map]
    rfl
  rw [e2] at e1
  exact run_rt rfl (ρ := [di n, none, none]) (by
    unfold d_pairs_of_states
    generalize (prs n).map pT = Z at *
    show (fRet [0] _) [di n, none, none] = _
    simp [e1]) (by simp)
end LW

namespace LW
open PySem PySem.Spec PyProof.Rows L2 PD
theorem two_le {tr : Nat} (ht : tr ≤ 5) : 2 ^ tr ≤ 32 := (Nat.pow_le_pow_right (by decide) ht : 2 ^ tr ≤ 2 ^ 5)
def zT (u : List Int) : T := .tuple (u.map .int)
def wsT (ws : List (List Int)) : T := .tuple (ws.map zT)
@[simp] theorem tup_zT (u : List Int) : tupOf (.dat (zT u)) = some (u.map .int) := rfl
@[simp] theorem tup_wsT (u : List (List Int)) : tupOf (.dat (wsT u)) = some (u.map zT) := rfl
@[simp] theorem it_zT (u : List Int) (ρ : Ev) : itOf (.dat (zT u)) ρ = some (u.map .int, none) := rfl
@[simp] theorem it_wsT (u : List (List Int)) (ρ : Ev) : itOf (.dat (wsT u)) ρ = some (u.map zT, none) := rfl
def okw (B : Nat) (u : List Int) : Prop := ∀ x ∈ u, 0 ≤ x ∧ x < (B : Int)
def rn (M : Nat → Nat → Nat) (s : Nat) (u : List Int) : Nat := u.foldl (fun s x => M s x.toNat) s
theorem rn_app (M : Nat → Nat → Nat) (s : Nat) (u v : List Int) : rn M s (u ++ v) = rn M (rn M s u) v := by unfold rn; rw [List.foldl_append]
section
variable {tr B n : Nat} {M : Nat → Nat → Nat} {e : Nat → Bool}
theorem rn_lt (hM : ∀ k, k < n → ∀ l, l < B → M k l < n) : ∀ (u : List Int) (s : Nat), s < n → okw B u → rn M s u < n
  | [], s, h, _ => h
  | x :: u, s, h, ho => by
    have hx := ho x (by simp)
    exact rn_lt hM u (M s x.toNat) (hM s h _ (by omega)) fun y hy => ho y (by simp [hy])
theorem e_from (hM : ∀ k, k < n → ∀ l, l < B → M k l < n) {s : Nat} (hs : s < n) {u : List Int} (hu : okw B u) :
    m_state_from [.dat (mk tr B n M e), .dat (.int s), .dat (zT u)] = some (.dat (nI (rn M s u)), []) := by
  obtain ⟨m, hm⟩ : ∃ m, m = mk tr B n M e := ⟨_, rfl⟩
  rw [← hm]
  obtain ⟨q, e1, h1, h2⟩ := for_t (β := Nat) (g := tgN false 3) (b := lb_state_from_1) (fun _ q => [dd m, di q, dd (zT u), none]) (fun i q => q < n ∧ q = rn M s (u.take i)) (u.map .int) (fun i x q hx ⟨h1, h2⟩ => by
    have hi := (List.getElem?_eq_some_iff.mp hx).1
    rw [List.length_map] at hi
    rw [List.getElem?_map, List.getElem?_eq_getElem hi] at hx
    have hx : some (PyData.int u[i]) = some x := hx
    cases hx
    have ho := hu u[i] (List.getElem_mem hi)
    obtain ⟨y, hy⟩ : ∃ y : Nat, u[i] = y := ⟨u[i].toNat, by omega⟩
    have hyB : y < B := by omega
    have a1 := rowsM_at (B := B) (M := M) h1
    have a2 : atI (((List.range B).map (M q)).map nI) (y : Int) = some (nI (M q y)) := by
      have := atI_nI (ps := (List.range B).map (M q)) (i := y) (by simpa using hyB)
      rwa [pg_range_map hyB] at this
    have a3 : rowM B (M q) = .tuple (((List.range B).map (M q)).map nI) := rfl
    rw [a3] at a1
    refine ⟨[dd m, di q, dd (zT u), di u[i]], M q y, by simp, .inl ?_, hM q h1 y hyB, ?_⟩
    · rw [hy, hm]
      generalize ((List.range B).map (M q)).map nI = Z at *
      simp [lb_state_from_1, mk, a1, a2, nI]
    · rw [List.take_succ, List.getElem?_eq_getElem hi, rn_app, ← h2]
      show M q y = M q u[i].toNat
      rw [hy]
      rfl) s ⟨hs, by simp [rn]⟩
  rw [List.length_map, List.take_length] at h2
  have e2 : fFor (fItE (fVar 2)) (tgN false 3) lb_state_from_1 [dd m, di s, dd (zT u), none] = _ := for_tup (xs := u.map .int) (by simp [zT]) e1
  subst h2
  exact run_rt rfl ((seq_nx e2).trans (show (fRet [0, 1, 2] (fVar 1)) [dd m, di (rn M s u), dd (zT u), none] = some (.rt (.dat (nI (rn M s u))) [dd m, di (rn M s u), dd (zT u), none]) by simp [nI])) (by simp)
theorem from_eq : m__law_from = m_state_from := rfl
open Classical in
noncomputable def bo (p : Prop) : Bool := decide p
theorem bo_iff {p : Prop} : bo p = true ↔ p := @decide_eq_true_iff p (Classical.propDecidable p)
theorem bo_t {p : Prop} (h : p) : bo p = true := bo_iff.mpr h
theorem bo_f {p : Prop} (h : ¬ p) : bo p = false := by
  rw [Bool.eq_false_iff]
  exact fun z => h (bo_iff.mp z)
theorem all_bo {α : Type} (p : α → Bool) (xs : List α) (ρ : Ev) : gAll [.tmp (.lst (xs.map fun x => .bool (p x)))] ρ = some (.dat (.bool (xs.all p))) := by
  have h : boolsOf (xs.map fun x => PyData.bool (p x)) = some (xs.map p) := by
    have := boolsOf_map (xs.map p)
    rwa [List.map_map] at this
  unfold gAll
  simp [h]
theorem e_word_for (ht : tr ≤ 5) {u : List Int} (hl : u.length ≤ 1000) : m_is_word_for [.dat (.int tr), .dat (zT u)] = some (.dat (.bool (bo (okw (2 ^ tr) u))), []) := by
  have sh := two_one tr (by omega)
  obtain ⟨B, hB⟩ : ∃ B, B = 2 ^ tr := ⟨_, rfl⟩
  rw [← hB] at sh ⊢
  have k1 : m_letters_for [.dat (.int tr)] = some (.dat (.int B), []) := by
    simp only [nI] at sh
    unfold m_letters_for d_letters_for
    rw [ev_run1]
    simp [-ev_gI, sh]
  have e1 : fLc (fItE (fVar 1)) (tgN false 2) fYes le_is_word_for_1 [2] [di tr, dd (zT u), none] = some (.tmp (.lst (u.map fun x => .bool (decide (0 ≤ x ∧ x < (B : Int))))), [di tr, dd (zT u), none]) := lc_tupE (e := .int) (xs := u) (fun x => .bool (decide (0 ≤ x ∧ x < (B : Int)))) (by simp [zT]) (by omega) (by simp) (by simp) (fun x hx => by
    refine ⟨[di tr, dd (zT u), di x], [di tr, dd (zT u), di x], by simp, ?_, by simp⟩
    by_cases h : 0 ≤ x
    · simp [le_is_word_for_1, h, k1]
    · simp [le_is_word_for_1, h, k1])
  have e2 := all_bo (fun x => decide (0 ≤ x ∧ x < (B : Int))) u
  have e3 : (u.all fun x => decide (0 ≤ x ∧ x < (B : Int))) = bo (okw B u) := by
    rw [Bool.eq_iff_iff, List.all_eq_true, bo_iff]
    exact ⟨fun h x hx => of_decide_eq_true (h x hx), fun h x hx => decide_eq_true (h x hx)⟩
  rw [e3] at e2
  exact run_rt rfl (ρ := [di tr, dd (zT u), none]) (by
    unfold d_is_word_for
    generalize u.map (fun x => PyData.bool (decide (0 ≤ x ∧ x < (B : Int)))) = Z at *
    show (fRet [0, 1] _) [di tr, dd (zT u), none] = _
    simp [-ev_lc, e1, e2]) (by simp)
def gw (ws : List (List Int)) (k : Nat) : List Int := ws.getD k []
theorem gw_get {ws : List (List Int)} {k : Nat} (h : k < ws.length) : ws[k]? = some (gw ws k) := by
  unfold gw
  rw [List.getD_eq_getElem?_getD, List.getElem?_eq_getElem h]
  rfl
theorem gw_mem {ws : List (List Int)} {k : Nat} (h : k < ws.length) : gw ws k ∈ ws := List.mem_of_getElem? (gw_get h)
theorem gw_at {ws : List (List Int)} {k : Nat} (h : k < ws.length) : atI (ws.map zT) (k : Int) = some (zT (gw ws k)) := PD.atI_nat (by rw [List.getElem?_map, gw_get h]; rfl)
def Lead (B n : Nat) (M : Nat → Nat → Nat) (ws : List (List Int)) : Prop := ws.length = n ∧ (∀ u ∈ ws, okw B u) ∧ ∀ k, k < n → rn M 0 (gw ws k) = k
theorem e_lead (ht : tr ≤ 5) (hn : n ≤ 100) (hn0 : 0 < n) (hM : ∀ k, k < n → ∀ l, l < 2 ^ tr → M k l < n) {ws : List (List Int)} (hws : ws.length ≤ 1000) (hu : ∀ u ∈ ws, u.length ≤ 1000) :
    m_do_words_lead [.dat (mk tr (2 ^ tr) n M e), .dat (wsT ws)] = some (.dat (.bool (bo (Lead (2 ^ tr) n M ws))), []) := by
  have kw := fun (u : List Int) (h : u ∈ ws) => e_word_for ht (u := u) (hu u h)
  have kf := fun (s : Nat) (hs : s < n) (u : List Int) (ho : okw (2 ^ tr) u) => e_from (tr := tr) (e := e) hM hs ho
  generalize 2 ^ tr = B at *
  obtain ⟨m, hm⟩ : ∃ m, m = mk tr B n M e := ⟨_, rfl⟩
  have h0 : (fBin gIx (fVar 0) (fC (.int 0))) [dd m, dd (wsT ws), none, none] = some (.dat (.int tr), [dd m, dd (wsT ws), none, none]) := by rw [hm]; simp [mk]
  have h1 : (fCB gLen (fCons (fBin gIx (fVar 0) (fC (.int 1))) fNil)) [dd m, dd (wsT ws), none, none] = some (.dat (.int n), [dd m, dd (wsT ws), none, none]) := by rw [hm]; simp [mk]
  have h2 : ∀ ρ : Ev, ρ[0]? = some (dd m) → (fBin gIx (fVar 0) (fC (.int 0))) ρ = some (.dat (.int tr), ρ) := fun ρ h => by rw [hm] at h; simp [h, mk]
  rw [← hm] at kf ⊢
  have e1 : fLc (fItE (fVar 1)) (tgN false 2) fYes le_do_words_lead_2 [2] [dd m, dd (wsT ws), none, none] = some (.tmp (.lst (ws.map fun u => .bool (bo (okw B u)))), [dd m, dd (wsT ws), none, none]) := lc_tupE (e := zT) (xs := ws) (fun u => .bool (bo (okw B u))) (by simp [wsT]) (by omega) (by simp) (by simp) (fun u hu => by
    have k := kw u hu
    have h := h2 [dd m, dd (wsT ws), dd (zT u), none] rfl
    exact ⟨[dd m, dd (wsT ws), dd (zT u), none], [dd m, dd (wsT ws), dd (zT u), none], by simp, by simp [-ev_bin, le_do_words_lead_2, h, k], by simp⟩)
  have e2 := all_bo (fun u => bo (okw B u)) ws
  by_cases c1 : ws.length = n
  · by_cases c2 : ∀ u ∈ ws, okw B u
    · have c2' : (ws.all fun u => bo (okw B u)) = true := List.all_eq_true.mpr fun u hu => bo_t (c2 u hu)
      rw [c2'] at e2
      have e3 : fLc (fItR1 (fCB gLen (fCons (fVar 1) fNil))) (tgN false 3) fYes le_do_words_lead_1 [3] [dd m, dd (wsT ws), none, none] = some (.tmp (.lst ((List.range n).map fun k => .bool ((rn M 0 (gw ws k) : Int) == (k : Int)))), [dd m, dd (wsT ws), none, none]) := lc_rng (n := n) (fun k => .bool ((rn M 0 (gw ws k) : Int) == (k : Int))) (by simp [c1]) (by omega) (by simp) (by simp) (fun k hk => by
        have a := gw_at (ws := ws) (k := k) (by omega)
        have k2 := kf 0 hn0 (gw ws k) (c2 _ (gw_mem (by omega)))
        have k3 : m_state_behind [.dat m, .dat (zT (gw ws k))] = some (.dat (nI (rn M 0 (gw ws k))), []) := by
          have k2 : m_state_from [.dat m, .dat (.int 0), .dat (zT (gw ws k))] = _ := k2
          unfold m_state_behind d_state_behind
          rw [ev_run2]
          simp [k2]
        exact ⟨[dd m, dd (wsT ws), none, di k], [dd m, dd (wsT ws), none, di k], by simp, by simp only [nI] at k3; simp [le_do_words_lead_1, a, k3], by simp⟩)
      have e4 := all_bo (fun k : Nat => ((rn M 0 (gw ws k) : Int) == (k : Int))) (List.range n)
      have e5 : ((List.range n).all fun k : Nat => ((rn M 0 (gw ws k) : Int) == (k : Int))) = bo (Lead B n M ws) := by
        rw [Bool.eq_iff_iff, List.all_eq_true, bo_iff]
        constructor
        · intro h
          exact ⟨c1, c2, fun k hk => by have := h k (List.mem_range.mpr hk); rw [beq_iff_eq] at this; omega⟩
        · rintro ⟨_, _, h⟩ k hk
          rw [beq_iff_eq, h k (List.mem_range.mp hk)]
      rw [e5] at e4
      generalize ((List.range n).map fun k : Nat => PyData.bool ((rn M 0 (gw ws k) : Int) == (k : Int))) = Z at *
      generalize (ws.map fun u => PyData.bool (bo (okw B u))) = Z2 at *
      exact run_rt rfl (ρ := [dd m, dd (wsT ws), none, none]) (by
        show d_do_words_lead [dd m, dd (wsT ws), none, none] = _
        have t1 : (fIfS (fOr (fTst (fBin gNe (fCB gLen (fCons (fVar 1) fNil)) (fCB gLen (fCons (fBin gIx (fVar 0) (fC (.int 1))) fNil)))) (fNot (fTst (fCB gAll (fCons (fLc (fItE (fVar 1)) (tgN false 2) fYes le_do_words_lead_2 [2]) fNil))))) (fRet [0, 1] (fC (.bool false))) fNext) [dd m, dd (wsT ws), none, none] = some (.nx [dd m, dd (wsT ws), none, none]) := by
          have g1 : (fBin gNe (fCB gLen (fCons (fVar 1) fNil)) (fCB gLen (fCons (fBin gIx (fVar 0) (fC (.int 1))) fNil))) [dd m, dd (wsT ws), none, none] = some (.dat (.bool false), [dd m, dd (wsT ws), none, none]) := by
            rw [ev_bin]
            have : (fCB gLen (fCons (fVar 1) fNil)) [dd m, dd (wsT ws), none, none] = some (.dat (.int n), [dd m, dd (wsT ws), none, none]) := by simp [c1]
            rw [this, Option.bind_some, h1]
            simp
          simp [-ev_bin, -ev_lc, g1, e1, e2]
        unfold d_do_words_lead
        rw [seq_nx t1]
        simp [-ev_lc, e3, e4]) (by simp)
    · have c2' : (ws.all fun u => bo (okw B u)) = false := by
        rw [Bool.eq_false_iff]
        intro z
        exact c2 fun u hu => by
          exact bo_iff.mp (List.all_eq_true.mp z u hu)
      rw [c2'] at e2
      rw [bo_f fun z => c2 z.2.1]
      generalize (ws.map fun u => PyData.bool (bo (okw B u))) = Z2 at *
      exact run_rt rfl (ρ := [dd m, dd (wsT ws), none, none]) (by
        show d_do_words_lead [dd m, dd (wsT ws), none, none] = _
        have g1 : (fBin gNe (fCB gLen (fCons (fVar 1) fNil)) (fCB gLen (fCons (fBin gIx (fVar 0) (fC (.int 1))) fNil))) [dd m, dd (wsT ws), none, none] = some (.dat (.bool false), [dd m, dd (wsT ws), none, none]) := by
          rw [ev_bin]
          have : (fCB gLen (fCons (fVar 1) fNil)) [dd m, dd (wsT ws), none, none] = some (.dat (.int n), [dd m, dd (wsT ws), none, none]) := by simp [c1]
          rw [this, Option.bind_some, h1]
          simp
        unfold d_do_words_lead
        rw [ev_seq]
        simp [-ev_bin, -ev_lc, g1, e1, e2]) (by simp)
  · rw [bo_f fun z => c1 z.1]
    exact run_rt rfl (ρ := [dd m, dd (wsT ws), none, none]) (by
      show d_do_words_lead [dd m, dd (wsT ws), none, none] = _
      have g1 : (fBin gNe (fCB gLen (fCons (fVar 1) fNil)) (fCB gLen (fCons (fBin gIx (fVar 0) (fC (.int 1))) fNil))) [dd m, dd (wsT ws), none, none] = some (.dat (.bool true), [dd m, dd (wsT ws), none, none]) := by
        rw [ev_bin]
        have : (fCB gLen (fCons (fVar 1) fNil)) [dd m, dd (wsT ws), none, none] = some (.dat (.int ws.length), [dd m, dd (wsT ws), none, none]) := by simp
        rw [this, Option.bind_some, h1]
        have : ((ws.length : Int) == (n : Int)) = false := by rw [beq_eq_false_iff_ne]; omega
        simp [this, c1]
      unfold d_do_words_lead
      rw [ev_seq]
      simp [-ev_bin, -ev_lc, g1]) (by simp)
end
end LW

namespace LW
open PySem PySem.Spec PyProof.Rows L2 PD
section
variable {tr B n : Nat} {M : Nat → Nat → Nat} {e : Nat → Bool}
def Sep (B : Nat) (M : Nat → Nat → Nat) (e : Nat → Bool) (p : Nat × Nat) (u : List Int) : Prop := okw B u ∧ e (rn M p.1 u) ≠ e (rn M p.2 u)
theorem ne_bool (a b : Bool) (ρ : Ev) : gNe (.dat (.bool a)) (.dat (.bool b)) ρ = some (.dat (.bool (!(a == b)))) := by simp
theorem eq_bool (a b : Bool) (ρ : Ev) : gEq (.dat (.bool a)) (.dat (.bool b)) ρ = some (.dat (.bool (a == b))) := by simp
theorem e_part (ht : tr ≤ 5) (hM : ∀ k, k < n → ∀ l, l < 2 ^ tr → M k l < n) {p : Nat × Nat} (h1 : p.1 < n) (h2 : p.2 < n) {u : List Int} (hu : u.length ≤ 1000) :
    m_does_word_part [.dat (mk tr (2 ^ tr) n M e), .dat (pT p), .dat (zT u)] = some (.dat (.bool (bo (Sep (2 ^ tr) M e p u))), []) := by
  have kw := e_word_for ht hu
  have kf := fun (s : Nat) (hs : s < n) (ho : okw (2 ^ tr) u) => e_from (tr := tr) (e := e) hM hs ho
  have lt := fun (s : Nat) (hs : s < n) (ho : okw (2 ^ tr) u) => rn_lt hM u s hs ho
  generalize 2 ^ tr = B at *
  obtain ⟨m, hm⟩ : ∃ m, m = mk tr B n M e := ⟨_, rfl⟩
  have a0 : ∀ ρ : Ev, ρ[0]? = some (dd m) → (fBin gIx (fVar 0) (fC (.int 0))) ρ = some (.dat (.int tr), ρ) := fun ρ h => by rw [hm] at h; simp [h, mk]
  have a2 : ∀ ρ : Ev, ρ[0]? = some (dd m) → (fBin gIx (fVar 0) (fC (.int 2))) ρ = some (.dat (.tuple (endsM n e)), ρ) := fun ρ h => by rw [hm] at h; simp [h, mk]
  rw [← hm] at kf ⊢
  have g0 := a0 [dd m, dd (pT p), dd (zT u), none, none] rfl
  by_cases ho : okw B u
  · rw [bo_t ho] at kw
    have f1 := kf p.1 h1 ho
    have f2 := kf p.2 h2 ho
    have e1 := endsM_at (e := e) (lt p.1 h1 ho)
    have e2 := endsM_at (e := e) (lt p.2 h2 ho)
    have hb : (!(e (rn M p.1 u) == e (rn M p.2 u))) = bo (Sep B M e p u) := by
      rw [Bool.eq_iff_iff, bo_iff]
      unfold Sep
      simp [ho]
    have t1 : (fIfS (fNot (fTst (fCall m_is_word_for (fCons (fBin gIx (fVar 0) (fC (.int 0))) (fCons (fVar 2) fNil))))) (fRet [0, 1, 2] (fC (.bool false))) fNext) [dd m, dd (pT p), dd (zT u), none, none] = some (.nx [dd m, dd (pT p), dd (zT u), none, none]) := by
      simp [-ev_bin, g0, kw]
    have t2 : (fAsg (tgTup (tgCons (tgN false 3) (tgCons (tgN false 4) tgNil))) (fVar 1)) [dd m, dd (pT p), dd (zT u), none, none] = some (.nx [dd m, dd (pT p), dd (zT u), di p.1, di p.2]) := by simp [fAsg, pT, nI]
    have b2 := a2 [dd m, dd (pT p), dd (zT u), di p.1, di p.2] rfl
    have c1 : (fCall m_state_from (fCons (fVar 0) (fCons (fVar 3) (fCons (fVar 2) fNil)))) [dd m, dd (pT p), dd (zT u), di p.1, di p.2] = some (.dat (nI (rn M p.1 u)), [dd m, dd (pT p), dd (zT u), di p.1, di p.2]) := by simp [f1]
    have c2 : (fCall m_state_from (fCons (fVar 0) (fCons (fVar 4) (fCons (fVar 2) fNil)))) [dd m, dd (pT p), dd (zT u), di p.1, di p.2] = some (.dat (nI (rn M p.2 u)), [dd m, dd (pT p), dd (zT u), di p.1, di p.2]) := by simp [f2]
    have d1 : ∀ s ρ, atI (endsM n e) (s : Nat) = some (.bool (e s)) → gIx (.dat (.tuple (endsM n e))) (.dat (nI s)) ρ = some (.dat (.bool (e s))) := fun s ρ h => by simp [nI, h]
    have c3 : (fBin gIx (fBin gIx (fVar 0) (fC (.int 2))) (fCall m_state_from (fCons (fVar 0) (fCons (fVar 3) (fCons (fVar 2) fNil))))) [dd m, dd (pT p), dd (zT u), di p.1, di p.2] = some (.dat (.bool (e (rn M p.1 u))), [dd m, dd (pT p), dd (zT u), di p.1, di p.2]) := by
      rw [ev_bin, b2, Option.bind_some, c1, Option.bind_some, d1 _ _ e1]; rfl
    have c4 : (fBin gIx (fBin gIx (fVar 0) (fC (.int 2))) (fCall m_state_from (fCons (fVar 0) (fCons (fVar 4) (fCons (fVar 2) fNil))))) [dd m, dd (pT p), dd (zT u), di p.1, di p.2] = some (.dat (.bool (e (rn M p.2 u))), [dd m, dd (pT p), dd (zT u), di p.1, di p.2]) := by
      rw [ev_bin, b2, Option.bind_some, c2, Option.bind_some, d1 _ _ e2]; rfl
    have t3 : (fRet [0, 1, 2] (fBin gNe (fBin gIx (fBin gIx (fVar 0) (fC (.int 2))) (fCall m_state_from (fCons (fVar 0) (fCons (fVar 3) (fCons (fVar 2) fNil))))) (fBin gIx (fBin gIx (fVar 0) (fC (.int 2))) (fCall m_state_from (fCons (fVar 0) (fCons (fVar 4) (fCons (fVar 2) fNil))))))) [dd m, dd (pT p), dd (zT u), di p.1, di p.2] = some (.rt (.dat (.bool (bo (Sep B M e p u)))) [dd m, dd (pT p), dd (zT u), di p.1, di p.2]) := by
      have : ∀ (x y : FE) ρ a b, x ρ = some (.dat (.bool a), ρ) → y ρ = some (.dat (.bool b), ρ) → (fBin gNe x y) ρ = some (.dat (.bool (!(a == b))), ρ) := fun x y ρ a b hx hy => by rw [ev_bin, hx, Option.bind_some, hy, Option.bind_some, ne_bool]; rfl
      have c5 := this _ _ _ _ _ c3 c4
      rw [hb] at c5
      generalize (fBin gNe (fBin gIx (fBin gIx (fVar 0) (fC (.int 2))) (fCall m_state_from (fCons (fVar 0) (fCons (fVar 3) (fCons (fVar 2) fNil))))) (fBin gIx (fBin gIx (fVar 0) (fC (.int 2))) (fCall m_state_from (fCons (fVar 0) (fCons (fVar 4) (fCons (fVar 2) fNil)))))) = f at *
      simp [c5]
    exact run_rt rfl ((seq_nx t1).trans ((seq_nx t2).trans t3)) (by simp)
  · rw [bo_f ho] at kw
    rw [bo_f fun z => ho z.1]
    exact run_rt rfl (ρ := [dd m, dd (pT p), dd (zT u), none, none]) (by
      show d_does_word_part [dd m, dd (pT p), dd (zT u), none, none] = _
      unfold d_does_word_part
      rw [ev_seq]
      simp [-ev_bin, g0, kw]) (by simp)
def pk (n k : Nat) : Nat × Nat := (prs n).getD k (0, 0)
theorem pk_get {k : Nat} (h : k < (prs n).length) : (prs n)[k]? = some (pk n k) := by
  unfold pk
  rw [List.getD_eq_getElem?_getD, List.getElem?_eq_getElem h]; rfl
theorem pk_at {k : Nat} (h : k < (prs n).length) : atI ((prs n).map pT) (k : Int) = some (pT (pk n k)) := PD.atI_nat (by rw [List.getElem?_map, pk_get h]; rfl)
theorem pk_lt {k : Nat} (h : k < (prs n).length) : (pk n k).1 < (pk n k).2 ∧ (pk n k).2 < n := prs_mem.mp (List.mem_of_getElem? (pk_get h))
def JD (B n : Nat) (M : Nat → Nat → Nat) (e : Nat → Bool) (ws ps : List (List Int)) : Prop := ps.length = (prs n).length ∧ Lead B n M ws ∧ ∀ k, k < (prs n).length → Sep B M e (pk n k) (gw ps k)
theorem e_judge (ht : tr ≤ 5) (hn : n ≤ 100) (hn0 : 0 < n) (hM : ∀ k, k < n → ∀ l, l < 2 ^ tr → M k l < n) {ws ps : List (List Int)} (hws : ws.length ≤ 1000) (hu : ∀ u ∈ ws, u.length ≤ 1000) (hps : ∀ u ∈ ps, u.length ≤ 1000) :
    m_judge_shown_least [.dat (mk tr (2 ^ tr) n M e), .dat (.tuple [wsT ws, wsT ps])] = some (.dat (.bool (bo (JD (2 ^ tr) n M e ws ps))), []) := by
  have kl := e_lead (tr := tr) (e := e) ht hn hn0 hM hws hu
  have kp := fun (p : Nat × Nat) (h1 : p.1 < n) (h2 : p.2 < n) (u : List Int) (h : u ∈ ps) => e_part (tr := tr) (e := e) ht hM h1 h2 (hps u h)
  have kq := e_prs (n := n) hn
  generalize 2 ^ tr = B at *
  obtain ⟨m, hm⟩ : ∃ m, m = mk tr B n M e := ⟨_, rfl⟩
  have h1 : ∀ ρ : Ev, ρ[0]? = some (dd m) → (fCB gLen (fCons (fBin gIx (fVar 0) (fC (.int 1))) fNil)) ρ = some (.dat (.int n), ρ) := fun ρ h => by rw [hm] at h; simp [h, mk]
  rw [← hm] at kl kp ⊢
  have lp := prs_len n
  have hnn : n * n ≤ 10000 := Nat.mul_le_mul hn hn
  have t1 : (fAsg (tgTup (tgCons (tgN false 2) (tgCons (tgN false 3) tgNil))) (fVar 1)) [dd m, dd (.tuple [wsT ws, wsT ps]), none, none, none, none] = some (.nx [dd m, dd (.tuple [wsT ws, wsT ps]), dd (wsT ws), dd (wsT ps), none, none]) := by simp [fAsg]
  have t2 : (fSet false 4 (fCall m_pairs_of_states (fCons (fCB gLen (fCons (fBin gIx (fVar 0) (fC (.int 1))) fNil)) fNil))) [dd m, dd (.tuple [wsT ws, wsT ps]), dd (wsT ws), dd (wsT ps), none, none] = some (.nx [dd m, dd (.tuple [wsT ws, wsT ps]), dd (wsT ws), dd (wsT ps), oT ((prs n).map pT), none]) := by
    have g := h1 [dd m, dd (.tuple [wsT ws, wsT ps]), dd (wsT ws), dd (wsT ps), none, none] rfl
    generalize (prs n).map pT = Z at *
    generalize (fCB gLen (fCons (fBin gIx (fVar 0) (fC (.int 1))) fNil)) = f at *
    simp [g, kq]
  have hat := fun (k : Nat) (h : k < (prs n).length) => pk_at h
  have hlt := fun (k : Nat) (h : k < (prs n).length) => pk_lt h
  obtain ⟨L, hL⟩ : ∃ L, L = (prs n).length := ⟨_, rfl⟩
  have hLT : ((prs n).map pT).length = L := by rw [List.length_map, hL]
  rw [← hL] at hat hlt lp
  generalize (prs n).map pT = PT at *
  obtain ⟨ρ0, hρ0⟩ : ∃ ρ0 : Ev, ρ0 = [dd m, dd (.tuple [wsT ws, wsT ps]), dd (wsT ws), dd (wsT ps), oT PT, none] := ⟨_, rfl⟩
  have l3 : (fCB gLen (fCons (fVar 3) fNil)) ρ0 = some (.dat (.int ps.length), ρ0) := by rw [hρ0]; simp
  have l4 : (fCB gLen (fCons (fVar 4) fNil)) ρ0 = some (.dat (.int L), ρ0) := by rw [hρ0]; simp [hLT]
  have cl : (fCall m_do_words_lead (fCons (fVar 0) (fCons (fVar 2) fNil))) ρ0 = some (.dat (.bool (bo (Lead B n M ws))), ρ0) := by rw [hρ0]; simp [kl]
  have ou : outs [.dat m, .dat (.tuple [wsT ws, wsT ps])] ρ0 = some [] := by rw [hρ0]; simp
  have start : d_judge_shown_least [dd m, dd (.tuple [wsT ws, wsT ps]), none, none, none, none] = (fSeq (fIfS (fOr (fTst (fBin gNe (fCB gLen (fCons (fVar 3) fNil)) (fCB gLen (fCons (fVar 4) fNil)))) (fNot (fTst (fCall m_do_words_lead (fCons (fVar 0) (fCons (fVar 2) fNil)))))) (fRet [0, 1] (fC (.bool false))) fNext)
    (fRet [0, 1] (fCB gAll (fCons (fLc (fItR1 (fCB gLen (fCons (fVar 4) fNil))) (tgN false 5) fYes le_judge_shown_least_1 [5]) fNil)))) ρ0 := by
    rw [hρ0]
    exact (seq_nx t1).trans (seq_nx t2)
  have gn : (fBin gNe (fCB gLen (fCons (fVar 3) fNil)) (fCB gLen (fCons (fVar 4) fNil))) ρ0 = some (.dat (.bool (!decide (ps.length = L))), ρ0) := by
    rw [ev_bin, l3, Option.bind_some, l4, Option.bind_some]
    have : ((ps.length : Int) == (L : Int)) = decide (ps.length = L) := by rw [Bool.eq_iff_iff, beq_iff_eq, decide_eq_true_iff]; omega
    simp [this]
  by_cases c1 : ps.length = L
  · rw [decide_eq_true c1] at gn
    by_cases c2 : Lead B n M ws
    · rw [bo_t c2] at cl
      have e3 : fLc (fItR1 (fCB gLen (fCons (fVar 4) fNil))) (tgN false 5) fYes le_judge_shown_least_1 [5] ρ0 = some (.tmp (.lst ((List.range L).map fun k => .bool (bo (Sep B M e (pk n k) (gw ps k))))), ρ0) := lc_rng (n := L) (fun k => .bool (bo (Sep B M e (pk n k) (gw ps k)))) l4 (by omega) (by rw [hρ0]; simp) (by rw [hρ0]; simp) (fun k hk => by
        have a := hat k hk
        have b := gw_at (ws := ps) (k := k) (by omega)
        have c := kp (pk n k) (by have := hlt k hk; omega) (by have := hlt k hk; omega) (gw ps k) (gw_mem (by omega))
        exact ⟨[dd m, dd (.tuple [wsT ws, wsT ps]), dd (wsT ws), dd (wsT ps), oT PT, di k], [dd m, dd (.tuple [wsT ws, wsT ps]), dd (wsT ws), dd (wsT ps), oT PT, di k], by rw [hρ0]; simp, by simp [le_judge_shown_least_1, a, b, c], by rw [hρ0]; simp⟩)
      have e4 := all_bo (fun k : Nat => bo (Sep B M e (pk n k) (gw ps k))) (List.range L)
      have e5 : ((List.range L).all fun k : Nat => bo (Sep B M e (pk n k) (gw ps k))) = bo (JD B n M e ws ps) := by
        rw [Bool.eq_iff_iff, List.all_eq_true, bo_iff]
        constructor
        · intro h
          exact ⟨by rw [c1, hL], c2, fun k hk => bo_iff.mp (h k (List.mem_range.mpr (by rw [hL]; exact hk)))⟩
        · rintro ⟨_, _, h⟩ k hk
          exact bo_iff.mpr (h k (by rw [← hL]; exact List.mem_range.mp hk))
      rw [e5] at e4
      refine run_rt rfl (ρ := ρ0) (start.trans ?_) ou
      generalize ((List.range L).map fun k => PyData.bool (bo (Sep B M e (pk n k) (gw ps k)))) = Z at *
      have r0 : ∀ b : Bool, retOf [0, 1] (.dat (.bool b)) ρ0 = some (.dat (.bool b)) := fun b => by simp
      rw [ev_seq]
      simp [-ev_bin, -ev_lc, -ev_call, gn, cl, e3, e4]
    · rw [bo_f c2] at cl
      rw [bo_f fun z => c2 z.2.1]
      refine run_rt rfl (ρ := ρ0) (start.trans ?_) ou
      rw [ev_seq]
      simp [-ev_bin, -ev_lc, -ev_call, gn, cl]
  · rw [decide_eq_false c1] at gn
    rw [bo_f fun z => c1 (by rw [hL]; exact z.1)]
    refine run_rt rfl (ρ := ρ0) (start.trans ?_) ou
    rw [ev_seq]
    simp [-ev_bin, -ev_lc, -ev_call, gn]
end
end LW

namespace LW
open PySem PySem.Spec PyProof.Rows L2 PD
theorem lc_itF {α : Type} {e : α → T} {it : FI} {g : GT} {tt : FB} {te : FE} {vs : List Nat} {ρ : Ev} {xs : List α} (p : α → Bool) (F : α → T) (hf : it ρ = some (xs.map e, none, ρ)) (hn : xs.length ≤ 1000000) (hw : wipeE ρ vs = ρ) (hb : backE ρ ρ vs = ρ)
    (h : ∀ x ∈ xs, ∃ ρ1 ρ2, g (e x) ρ = some ρ1 ∧ tt ρ1 = some (p x, ρ2) ∧ wipeE ρ2 vs = ρ ∧ (p x = true → ∃ ρ3, te ρ2 = some (.dat (F x), ρ3) ∧ wipeE ρ3 vs = ρ)) : fLc it g tt te vs ρ = some (.tmp (.lst ((xs.filter p).map F)), ρ) := by
  have key : ∀ ys : List α, (∀ x ∈ ys, x ∈ xs) → fLcL (fun _ => True) g tt te vs (ys.map e) ρ = some ((ys.filter p).map F, ρ) := by
    intro ys
    induction ys with
    | nil => intro _; rw [List.map_nil, fLcL, guardP_pos (by trivial)]; rfl
    | cons y ys ih =>
      intro hy
      obtain ⟨ρ1, ρ2, e1, e2, e3, e4⟩ := h y (hy y List.mem_cons_self)
      have ih := ih fun x hx => hy x (List.mem_cons_of_mem _ hx)
      rw [List.map_cons, fLcL, guardP_pos (by trivial), List.filter_cons]
      cases hp : p y with
      | true =>
        obtain ⟨ρ3, e5, e6⟩ := e4 hp
        rw [hp] at e2
        simp only [Option.bind_some, e1, e2, if_true, e5, e6, ih, Option.map_some, List.map_cons]
      | false =>
        rw [hp] at e2
        simp only [Option.bind_some, e1, e2, Bool.false_eq_true, if_false, e3, ih]
  rw [ev_lc, hf]
  simp only [Option.bind_some, guard_small (show (xs.map e).length ≤ 1000000 by simpa using hn), hw]
  rw [show (ckOf (xs.map e) none) = fun _ => True from rfl, key xs fun _ h => h]
  simp only [Option.map_some, hb]
theorem for_bad {g : GT} {b : FS} {ρ : Ev} {v : Sl} (P : Ev → Prop) (good : T → Prop) : ∀ xs : List T, (∀ x ∈ xs, ∃ ρ1, g x ρ = some ρ1 ∧ ((good x ∧ b ρ1 = some (.nx ρ)) ∨ (¬ good x ∧ ∃ ρ', b ρ1 = some (.rt v ρ') ∧ P ρ'))) →
    ((∀ x ∈ xs, good x) ∧ fForL (fun _ => True) g b xs ρ = some (.nx ρ)) ∨ ((¬ ∀ x ∈ xs, good x) ∧ ∃ ρ', fForL (fun _ => True) g b xs ρ = some (.rt v ρ') ∧ P ρ')
  | [], _ => .inl ⟨by simp, by rw [fForL, guardP_pos (by trivial)]; rfl⟩
  | x :: xs, h => by
    obtain ⟨ρ1, e1, h1⟩ := h x (by simp)
    rw [fForL, guardP_pos (by trivial)]
    simp only [Option.bind_some, e1]
    rcases h1 with ⟨gx, e2⟩ | ⟨bx, ρ', e2, hp⟩
    · rw [e2]
      rcases for_bad P good xs fun y hy => h y (by simp [hy]) with ⟨ga, e3⟩ | ⟨ba, ρ', e3, hp⟩
      · exact .inl ⟨fun y hy => by
          cases hy with
          | head => exact gx
          | tail _ hy => exact ga y hy, e3⟩
      · exact .inr ⟨fun z => ba fun y hy => z y (by simp [hy]), ρ', e3, hp⟩
    · rw [e2]
      exact .inr ⟨fun z => bx (z x (by simp)), ρ', rfl, hp⟩
theorem any_range (B : Nat) (x : Int) : ((List.range B).map nI).any (fun y => PyData.eqv y (.int x)) = decide (0 ≤ x ∧ x < (B : Int)) := by
  rw [Bool.eq_iff_iff, List.any_eq_true, decide_eq_true_iff]
  constructor
  · rintro ⟨y, hy, h⟩
    obtain ⟨k, hk, rfl⟩ := List.mem_map.mp hy
    have hk := List.mem_range.mp hk
    have e : PyData.eqv (nI k) (.int x) = ((k : Int) == x) := by simp [nI]
    rw [e, beq_iff_eq] at h
    omega
  · rintro ⟨h1, h2⟩
    refine ⟨nI x.toNat, List.mem_map.mpr ⟨x.toNat, List.mem_range.mpr (by omega), rfl⟩, ?_⟩
    have e : PyData.eqv (nI x.toNat) (.int x) = (((x.toNat : Nat) : Int) == x) := by simp [nI]
    rw [e, beq_iff_eq]
    omega
theorem addL_ok {xs ys : List T} {i : Nat} {ρ : Ev} (hi : ρ[i]? = some (some (.obj (.lst xs)))) (h : xs.length + ys.length ≤ 1000000) : gAdd (.plc i) (.tmp (.lst ys)) ρ = some (.tmp (.lst (xs ++ ys))) := by
  have hg := guard_small h
  rw [ev_add]
  have h0 : gI0 (fun i j => .int (i + j)) (.plc i) (.tmp (.lst ys)) ρ = none := rfl
  have h1 : lstOf (.plc i) ρ = some xs := by unfold lstOf; simp only [hi]
  rw [h0, Option.none_or, ev_addT, ev_addL, h1]
  simp only [ev_tupOf_p, Option.bind_none, Option.none_or, ev_lstOf_t, Option.bind_some, hg, Option.map_some, Option.some_or]
end LW

namespace LW
open PySem PySem.Spec PyProof.Rows L2 PD
section
variable {tr B n : Nat} {M : Nat → Nat → Nat} {e : Nat → Bool}
abbrev IS (m : T) (ws ps : List (List Int)) (x3 x4 x5 x6 x7 x8 x9 x10 : Option Sl) : Ev := [dd m, dd (wsT ws), dd (wsT ps), x3, x4, x5, x6, x7, x8, x9, x10]
def prI (n i : Nat) : List (Nat × Nat) := (List.range i).flatMap fun i => (List.range (n - (i + 1))).map fun k => (i, i + 1 + k)
theorem prI_len (n i : Nat) : (prI n i).length ≤ i * n := by
  have := flat_len (fun i => n - (i + 1)) (fun i k => (i, i + 1 + k)) n (List.range i) fun i hi => by omega
  rwa [List.length_range] at this
theorem shown_pairs (hn : n ≤ 100) {m : T} {ws ps : List (List Int)} :
    sd__law_is_shown_3 (IS m ws ps (di n) (oT []) none none none none none none) = some (.nx (IS m ws ps (di n) (oT ((prs n).map pT)) none none none none none none)) := by
  obtain ⟨_, e1, _⟩ := for_r (β := Unit) (g := tgN false 5) (b := lb__law_is_shown_1) (fun i _ => IS m ws ps (di n) (oT ((prI n i).map pT)) none none none none none none) (fun _ _ => True) n 0 (fun i _ hi _ => by
    have e2 : fLc (fItR2 (fBin gAdd (fVar 5) (fC (.int 1))) (fVar 3)) (tgN false 8) fYes le__law_is_shown_1 [8] (IS m ws ps (di n) (oT ((prI n i).map pT)) (di i) none none none none none) = some (.tmp (.lst ((List.range (n - (i + 1))).map fun k => pT (i, i + 1 + k))), IS m ws ps (di n) (oT ((prI n i).map pT)) (di i) none none none none none) :=
      lc_it (e := fun k => nI (i + 1 + k)) (xs := List.range (n - (i + 1))) (fun k => pT (i, i + 1 + k)) (it_r2 (by simp) (by simp) (by omega) (by omega)) (by simp; omega) (by simp) (by simp) (fun k hk => ⟨IS m ws ps (di n) (oT ((prI n i).map pT)) (di i) none none (dd (nI (i + 1 + k))) none none, IS m ws ps (di n) (oT ((prI n i).map pT)) (di i) none none (dd (nI (i + 1 + k))) none none, by simp, by simp [le__law_is_shown_1, pT, nI], by simp⟩)
    have hl := prI_len n i
    have hin : i * n ≤ 100 * 100 := Nat.mul_le_mul (by omega) hn
    have a := addL_ok (xs := (prI n i).map pT) (ys := (List.range (n - (i + 1))).map fun k => pT (i, i + 1 + k)) (i := 4) (ρ := IS m ws ps (di n) (oT ((prI n i).map pT)) (di i) none none none none none) rfl (by simp; omega)
    have hs : (prI n i).map pT ++ (List.range (n - (i + 1))).map (fun k => pT (i, i + 1 + k)) = (prI n (i + 1)).map pT := by
      unfold prI
      rw [List.range_succ, List.flatMap_append, List.map_append]
      simp
    rw [hs] at a
    refine ⟨IS m ws ps (di n) (oT ((prI n i).map pT)) (di i) none none none none none, (), by simp, .inl ?_, trivial⟩
    generalize (List.range (n - (i + 1))).map (fun k => pT (i, i + 1 + k)) = Z at *
    generalize (prI n (i + 1)).map pT = Z2 at *
    generalize (prI n i).map pT = Z3 at *
    simp [-ev_add, -ev_lc, lb__law_is_shown_1, e2, a]) () trivial
  have h0 : prI n 0 = [] := rfl
  rw [h0] at e1
  exact for_rng (n := n) (by simp) (by omega) e1
theorem gt0 (n : Nat) (ρ : Ev) : gGt (.dat (.int (n : Nat))) (.dat (.int 0)) ρ = some (.dat (.bool (decide (0 < n)))) := by simp
theorem len_tmp (xs : List T) (ρ : Ev) : gLen [.tmp (.lst xs)] ρ = some (.dat (.int xs.length)) := by simp
theorem filt0 {α : Type} (xs : List α) (p : α → Bool) : decide (0 < (xs.filter p).length) = xs.any p := by
  rw [Bool.eq_iff_iff, decide_eq_true_iff, List.length_pos_iff, List.any_eq_true]
  rw [ne_eq, List.filter_eq_nil_iff]
  simp
theorem shown_letters (ht : tr ≤ 5) {m : T} {ws ps : List (List Int)} (hm0 : ∀ ρ : Ev, ρ[0]? = some (dd m) → (fBin gIx (fVar 0) (fC (.int 0))) ρ = some (.dat (.int tr), ρ)) {x3 x4 : Option Sl} :
    sd__law_is_shown_5 (IS m ws ps x3 x4 none none none none none none) = some (.nx (IS m ws ps x3 x4 none (oT ((List.range (2 ^ tr)).map nI)) none none none none)) := by
  have hB := two_le ht
  have sh := two_one tr (by omega)
  have g := hm0 (IS m ws ps x3 x4 none none none none none none) rfl
  have q : (fBin gShl (fC (.int 1)) (fBin gIx (fVar 0) (fC (.int 0)))) (IS m ws ps x3 x4 none none none none none none) = some (.dat (.int (2 ^ tr : Nat)), IS m ws ps x3 x4 none none none none none none) := by
    rw [ev_bin]
    have : (fC (.int 1)) (IS m ws ps x3 x4 none none none none none none) = some (.dat (.int 1), IS m ws ps x3 x4 none none none none none none) := rfl
    rw [this, Option.bind_some, g, Option.bind_some, sh]
    rfl
  have hr : fListRg (fRg1 (fBin gShl (fC (.int 1)) (fBin gIx (fVar 0) (fC (.int 0))))) (IS m ws ps x3 x4 none none none none none none) = some (.tmp (.lst ((List.range (2 ^ tr)).map nI)), IS m ws ps x3 x4 none none none none none none) := by
    unfold fListRg fRg1
    have hg : guardP (RgOk 0 ((2 ^ tr : Nat) : Int)) = some () := guardP_pos (by unfold RgOk; generalize 2 ^ tr = B at *; refine ⟨by omega, by omega, by omega, by omega, by omega⟩)
    have : rgT 0 ((2 ^ tr : Nat) : Int) = (List.range (2 ^ tr)).map nI := by
      generalize 2 ^ tr = B
      unfold rgT nI; simp
    simp only [q, Option.bind_some, Option.map_some, ev_intOf, hg, this]
  unfold sd__law_is_shown_5
  rw [ev_set, hr]
  rfl
theorem shown_bad (hB : B ≤ 1000) {m : T} {ws ps : List (List Int)} (hws : ws.length ≤ 1000) (hps : ps.length ≤ 100000) (hu : ∀ u ∈ ws, u.length ≤ 1000) (hp : ∀ u ∈ ps, u.length ≤ 1000) {x3 x4 : Option Sl} :
    sd__law_is_shown_6 (IS m ws ps x3 x4 none (oT ((List.range B).map nI)) none none none none) = if bo (∀ u ∈ ws ++ ps, okw B u) = true then some (Fl.nx (IS m ws ps x3 x4 none (oT ((List.range B).map nI)) none none none none)) else some (Fl.rt (.dat (.bool false)) (IS m ws ps x3 x4 none (oT ((List.range B).map nI)) none none none none)) := by
  have a1 : ∀ ρ, gAdd (.dat (wsT ws)) (.dat (wsT ps)) ρ = some (.dat (wsT (ws ++ ps))) := fun ρ => by
    have := addT_ok (xs := ws.map zT) (ys := ps.map zT) (ρ := ρ) (by simp; omega)
    rw [← List.map_append] at this
    exact this
  have e1 : fLc (fItE (fBin gAdd (fVar 1) (fVar 2))) (tgN false 9) lf__law_is_shown_2 le__law_is_shown_3 [9] (IS m ws ps x3 x4 none (oT ((List.range B).map nI)) none none none none) = some (.tmp (.lst (((ws ++ ps).filter fun u => u.any fun x => !decide (0 ≤ x ∧ x < (B : Int))).map zT)), IS m ws ps x3 x4 none (oT ((List.range B).map nI)) none none none none) := lc_itF (e := zT) (xs := ws ++ ps) (fun u => u.any fun x => !decide (0 ≤ x ∧ x < (B : Int))) zT (by
      generalize (List.range B).map nI = Z at *
      simp [-ev_add, a1]) (by simp; omega) (by simp) (by simp) (fun u hu' => by
    have hul : u.length ≤ 1000 := by
      rcases List.mem_append.mp hu' with h | h
      · exact hu u h
      · exact hp u h
    have e2 : fLc (fItE (fVar 9)) (tgN false 10) lf__law_is_shown_1 le__law_is_shown_2 [10] (IS m ws ps x3 x4 none (oT ((List.range B).map nI)) none none (dd (zT u)) none) = some (.tmp (.lst ((u.filter fun x => !decide (0 ≤ x ∧ x < (B : Int))).map .int)), IS m ws ps x3 x4 none (oT ((List.range B).map nI)) none none (dd (zT u)) none) := lc_itF (e := .int) (xs := u) (fun x => !decide (0 ≤ x ∧ x < (B : Int))) .int (by simp) (by omega) (by simp) (by simp) (fun x hx => by
      have q := any_range B x
      have hd : guardP (min (PyData.depthAll ((List.range B).map nI)) (PyData.depth (.int x)) ≤ 60) = some () := guardP_pos (by rw [depth_i]; omega)
      refine ⟨IS m ws ps x3 x4 none (oT ((List.range B).map nI)) none none (dd (zT u)) (di x), IS m ws ps x3 x4 none (oT ((List.range B).map nI)) none none (dd (zT u)) (di x), by simp, ?_, by simp, fun _ => ⟨IS m ws ps x3 x4 none (oT ((List.range B).map nI)) none none (dd (zT u)) (di x), by simp [le__law_is_shown_2], by simp⟩⟩
      have h3 : py (.plc 6) (IS m ws ps x3 x4 none (oT ((List.range B).map nI)) none none (dd (zT u)) (di x)) = some (.list ((List.range B).map nI)) := rfl
      rw [← q]
      generalize (List.range B).map nI = Z at *
      have h4 : gNotIn (.dat (.int x)) (.plc 6) (IS m ws ps x3 x4 none (oT Z) none none (dd (zT u)) (di x)) = some (.dat (.bool (!Z.any fun y => PyData.eqv y (.int x)))) := by
        rw [ev_notIn, h3]
        show ((some (PyData.int x)).bind _) = _
        simp only [Option.bind_some, seqOf, hd, Option.map_some]
      simp [-ev_notIn, lf__law_is_shown_1, h4])
    have e3 := filt0 u fun x => !decide (0 ≤ x ∧ x < (B : Int))
    refine ⟨IS m ws ps x3 x4 none (oT ((List.range B).map nI)) none none (dd (zT u)) none, IS m ws ps x3 x4 none (oT ((List.range B).map nI)) none none (dd (zT u)) none, by simp, ?_, by simp, fun _ => ⟨IS m ws ps x3 x4 none (oT ((List.range B).map nI)) none none (dd (zT u)) none, by simp [le__law_is_shown_3], by simp⟩⟩
    have e4 := gt0 (u.filter fun x => !decide (0 ≤ x ∧ x < (B : Int))).length
    rw [e3] at e4
    have e5 := len_tmp ((u.filter fun x => !decide (0 ≤ x ∧ x < (B : Int))).map .int)
    rw [List.length_map] at e5
    generalize (u.any fun x => !decide (0 ≤ x ∧ x < (B : Int))) = b at *
    generalize (u.filter fun x => !decide (0 ≤ x ∧ x < (B : Int))) = ff at *
    generalize (List.range B).map nI = Z at *
    simp [-ev_lc, -ev_gt, -ev_len, lf__law_is_shown_2, e2, e5, e4])
  have e3 := filt0 (ws ++ ps) fun u => u.any fun x => !decide (0 ≤ x ∧ x < (B : Int))
  have e4 := gt0 ((ws ++ ps).filter fun u => u.any fun x => !decide (0 ≤ x ∧ x < (B : Int))).length
  rw [e3] at e4
  have e5 := len_tmp (((ws ++ ps).filter fun u => u.any fun x => !decide (0 ≤ x ∧ x < (B : Int))).map zT)
  rw [List.length_map] at e5
  have e6 : ((ws ++ ps).any fun u => u.any fun x => !decide (0 ≤ x ∧ x < (B : Int))) = !bo (∀ u ∈ ws ++ ps, okw B u) := by
    rw [Bool.eq_iff_iff, List.any_eq_true, Bool.not_eq_true', Bool.eq_false_iff, ne_eq, bo_iff]
    constructor
    · rintro ⟨u, hu, h⟩ z
      obtain ⟨x, hx, h⟩ := List.any_eq_true.mp h
      have := z u hu x hx
      simp [this] at h
    · intro h
      refine Classical.byContradiction fun z => h fun u hu x hx => ?_
      refine Classical.byContradiction fun y => z ⟨u, hu, List.any_eq_true.mpr ⟨x, hx, ?_⟩⟩
      rw [decide_eq_false y]; rfl
  rw [e6] at e4
  generalize ((ws ++ ps).filter fun u => u.any fun x => !decide (0 ≤ x ∧ x < (B : Int))) = ff at *
  generalize (List.range B).map nI = Z at *
  by_cases c : ∀ u ∈ ws ++ ps, okw B u
  · rw [bo_t c, if_pos rfl]
    rw [bo_t c] at e4
    simp [-ev_lc, -ev_gt, -ev_len, sd__law_is_shown_6, e1, e5, e4]
  · rw [bo_f c, if_neg Bool.false_ne_true]
    rw [bo_f c] at e4
    simp [-ev_lc, -ev_gt, -ev_len, sd__law_is_shown_6, e1, e5, e4]
end
end LW

namespace LW
open PySem PySem.Spec PyProof.Rows L2 PD
section
variable {tr B n : Nat} {M : Nat → Nat → Nat} {e : Nat → Bool}
theorem e_isshown (ht : tr ≤ 5) (hn : n ≤ 100) (hn0 : 0 < n) (hM : ∀ k, k < n → ∀ l, l < 2 ^ tr → M k l < n) {ws ps : List (List Int)} (hws : ws.length ≤ 1000) (hps : ps.length ≤ 100000) (hu : ∀ u ∈ ws, u.length ≤ 1000) (hp : ∀ u ∈ ps, u.length ≤ 1000) :
    m__law_is_shown [.dat (mk tr (2 ^ tr) n M e), .dat (wsT ws), .dat (wsT ps)] = some (.dat (.bool (bo (JD (2 ^ tr) n M e ws ps))), []) := by
  have hB32 := two_le ht
  have sl := fun {m : T} (hm0) => shown_letters (tr := tr) ht (m := m) (ws := ws) (ps := ps) (x3 := di n) (x4 := oT ((prs n).map pT)) hm0
  have kf := fun (s : Nat) (hs : s < n) (u : List Int) (ho : okw (2 ^ tr) u) => e_from (tr := tr) (e := e) hM hs ho
  have lt := fun (s : Nat) (hs : s < n) (u : List Int) (ho : okw (2 ^ tr) u) => rn_lt hM u s hs ho
  generalize 2 ^ tr = B at *
  have sb := fun {m : T} => shown_bad (B := B) (by omega) (m := m) hws hps hu hp (x3 := di n) (x4 := oT ((prs n).map pT))
  obtain ⟨m, hm⟩ : ∃ m, m = mk tr B n M e := ⟨_, rfl⟩
  have a0 : ∀ ρ : Ev, ρ[0]? = some (dd m) → (fBin gIx (fVar 0) (fC (.int 0))) ρ = some (.dat (.int tr), ρ) := fun ρ h => by rw [hm] at h; simp [h, mk]
  have a1 : ∀ ρ : Ev, ρ[0]? = some (dd m) → (fCB gLen (fCons (fBin gIx (fVar 0) (fC (.int 1))) fNil)) ρ = some (.dat (.int n), ρ) := fun ρ h => by rw [hm] at h; simp [h, mk]
  have a2 : ∀ ρ : Ev, ρ[0]? = some (dd m) → (fBin gIx (fVar 0) (fC (.int 2))) ρ = some (.dat (.tuple (endsM n e)), ρ) := fun ρ h => by rw [hm] at h; simp [h, mk]
  have sl := sl a0
  have sb := sb (m := m)
  rw [← hm] at kf ⊢
  have t1 : sd__law_is_shown_1 (IS m ws ps none none none none none none none none) = some (.nx (IS m ws ps (di n) none none none none none none none)) := by
    have g := a1 (IS m ws ps none none none none none none none none) rfl
    unfold sd__law_is_shown_1
    rw [ev_set, g]
    rfl
  have t2 : sd__law_is_shown_2 (IS m ws ps (di n) none none none none none none none) = some (.nx (IS m ws ps (di n) (oT []) none none none none none none)) := by simp [sd__law_is_shown_2]
  have t3 := shown_pairs (n := n) hn (m := m) (ws := ws) (ps := ps)
  have lp := prs_len n
  have hnn : n * n ≤ 10000 := Nat.mul_le_mul hn hn
  have hat := fun (k : Nat) (h : k < (prs n).length) => pk_at h
  have hlt := fun (k : Nat) (h : k < (prs n).length) => pk_lt h
  obtain ⟨L, hL⟩ : ∃ L, L = (prs n).length := ⟨_, rfl⟩
  have hLT : ((prs n).map pT).length = L := by rw [List.length_map, hL]
  rw [← hL] at hat hlt lp
  generalize (prs n).map pT = PT at *
  have ou : ∀ x3 x4 x5 x6 x7 x8 x9 x10, outs [.dat m, .dat (wsT ws), .dat (wsT ps)] (IS m ws ps x3 x4 x5 x6 x7 x8 x9 x10) = some [] := fun _ _ _ _ _ _ _ _ => by simp
  have start : ∀ f : FS, fSeq sd__law_is_shown_1 (fSeq sd__law_is_shown_2 (fSeq sd__law_is_shown_3 f)) (IS m ws ps none none none none none none none none) = f (IS m ws ps (di n) (oT PT) none none none none none none) := fun f => by
    rw [seq_nx t1, seq_nx t2, seq_nx t3]
  by_cases c4 : ws.length = n ∧ ps.length = L
  · have t4 : sd__law_is_shown_4 (IS m ws ps (di n) (oT PT) none none none none none none) = some (.nx (IS m ws ps (di n) (oT PT) none none none none none none)) := by
      simp [sd__law_is_shown_4, c4.1, c4.2, hLT]
    by_cases c6 : ∀ u ∈ ws ++ ps, okw B u
    · rw [bo_t c6, if_pos rfl] at sb
      have oks : ∀ u ∈ ws, okw B u := fun u hu => c6 u (by simp [hu])
      have okp : ∀ u ∈ ps, okw B u := fun u hu => c6 u (by simp [hu])
      have e7 : fLc (fItR1 (fVar 3)) (tgN false 7) lf__law_is_shown_3 le__law_is_shown_4 [7] (IS m ws ps (di n) (oT PT) none (oT ((List.range B).map nI)) none none none none) = some (.tmp (.lst (((List.range n).filter fun k => !decide (rn M 0 (gw ws k) = k)).map nI)), IS m ws ps (di n) (oT PT) none (oT ((List.range B).map nI)) none none none none) := lc_rngF (n := n) (fun k => !decide (rn M 0 (gw ws k) = k)) nI (by simp) (by omega) (by simp) (by simp) (fun k hk => by
        have a := gw_at (ws := ws) (k := k) (by omega)
        have k2 := kf 0 hn0 (gw ws k) (oks _ (gw_mem (by omega)))
        rw [← from_eq] at k2
        have k2 : m__law_from [.dat m, .dat (.int 0), .dat (zT (gw ws k))] = _ := k2
        have hb : ((rn M 0 (gw ws k) : Int) == (k : Int)) = decide (rn M 0 (gw ws k) = k) := by rw [Bool.eq_iff_iff, beq_iff_eq, decide_eq_true_iff]; omega
        generalize (List.range B).map nI = Z at *
        refine ⟨IS m ws ps (di n) (oT PT) none (oT Z) (di k) none none none, IS m ws ps (di n) (oT PT) none (oT Z) (di k) none none none, by simp, ?_, by simp, fun _ => ⟨IS m ws ps (di n) (oT PT) none (oT Z) (di k) none none none, by simp [le__law_is_shown_4, nI], by simp⟩⟩
        simp only [nI] at k2
        generalize rn M 0 (gw ws k) = r at *
        simp [lf__law_is_shown_3, a, k2, hb])
      have e3 := filt0 (List.range n) fun k => !decide (rn M 0 (gw ws k) = k)
      have e4 := gt0 ((List.range n).filter fun k => !decide (rn M 0 (gw ws k) = k)).length
      rw [e3] at e4
      have e5 := len_tmp (((List.range n).filter fun k => !decide (rn M 0 (gw ws k) = k)).map nI)
      rw [List.length_map] at e5
      generalize hlt2 : (List.range B).map nI = LT at *
      by_cases c7 : ∀ k, k < n → rn M 0 (gw ws k) = k
      · have e6 : ((List.range n).any fun k => !decide (rn M 0 (gw ws k) = k)) = false := by
          rw [Bool.eq_false_iff]
          intro z
          obtain ⟨k, hk, h⟩ := List.any_eq_true.mp z
          rw [decide_eq_true (c7 k (List.mem_range.mp hk))] at h
          cases h
        rw [e6] at e4
        have t7 : sd__law_is_shown_7 (IS m ws ps (di n) (oT PT) none (oT LT) none none none none) = some (.nx (IS m ws ps (di n) (oT PT) none (oT LT) none none none none)) := by
          generalize ((List.range n).filter fun k => !decide (rn M 0 (gw ws k) = k)) = ff at *
          simp [-ev_lc, -ev_gt, -ev_len, sd__law_is_shown_7, e7, e5, e4]
        have lead : Lead B n M ws := ⟨c4.1, oks, c7⟩
        have fb := for_bad (g := tgN false 7) (b := lb__law_is_shown_2) (ρ := IS m ws ps (di n) (oT PT) none (oT LT) none none none none) (v := .dat (.bool false)) (fun ρ' => outs [.dat m, .dat (wsT ws), .dat (wsT ps)] ρ' = some []) (fun x => ∃ k : Nat, x = .int k ∧ k < L ∧ Sep B M e (pk n k) (gw ps k)) ((List.range L).map fun i => PyData.int (0 + (i : Nat))) (fun x hx => by
          obtain ⟨k, hk, rfl⟩ := List.mem_map.mp hx
          have hk := List.mem_range.mp hk
          have hx0 : (0 : Int) + (k : Int) = (k : Int) := by omega
          rw [hx0]
          have ha := hat k hk
          have hl := hlt k hk
          have b := gw_at (ws := ps) (k := k) (by omega)
          have ho := okp _ (gw_mem (ws := ps) (k := k) (by omega))
          have f1 := kf (pk n k).1 (by omega) (gw ps k) ho
          have f2 := kf (pk n k).2 (by omega) (gw ps k) ho
          rw [← from_eq] at f1 f2
          have e1 := endsM_at (e := e) (lt (pk n k).1 (by omega) (gw ps k) ho)
          have e2 := endsM_at (e := e) (lt (pk n k).2 (by omega) (gw ps k) ho)
          have hgood : (∃ k' : Nat, PyData.int (k : Int) = .int k' ∧ k' < L ∧ Sep B M e (pk n k') (gw ps k')) ↔ e (rn M (pk n k).1 (gw ps k)) ≠ e (rn M (pk n k).2 (gw ps k)) := by
            constructor
            · rintro ⟨k', h, _, h2⟩
              have : k = k' := by injection h with h; omega
              subst this
              exact h2.2
            · intro h
              exact ⟨k, rfl, hk, ho, h⟩
          have d1 : ∀ s ρ, atI (endsM n e) (s : Nat) = some (.bool (e s)) → gIx (.dat (.tuple (endsM n e))) (.dat (nI s)) ρ = some (.dat (.bool (e s))) := fun s ρ h => by simp [nI, h]
          obtain ⟨ρ2, hρ2⟩ : ∃ ρ2 : Ev, ρ2 = IS m ws ps (di n) (oT PT) (di (pk n k).1) (oT LT) (di k) (di (pk n k).2) none none := ⟨_, rfl⟩
          have s1 : (fAsg (tgTup (tgCons (tgN false 5) (tgCons (tgN false 8) tgNil))) (fBin gIx (fVar 4) (fVar 7))) (IS m ws ps (di n) (oT PT) none (oT LT) (di k) none none none) = some (.nx ρ2) := by
            rw [hρ2]
            simp [fAsg, ha, pT, nI]
          have b2 := a2 ρ2 (by rw [hρ2]; rfl)
          have g1 : (fCall m__law_from (fCons (fVar 0) (fCons (fVar 5) (fCons (fBin gIx (fVar 2) (fVar 7)) fNil)))) ρ2 = some (.dat (nI (rn M (pk n k).1 (gw ps k))), ρ2) := by rw [hρ2]; simp [b, f1]
          have g2 : (fCall m__law_from (fCons (fVar 0) (fCons (fVar 8) (fCons (fBin gIx (fVar 2) (fVar 7)) fNil)))) ρ2 = some (.dat (nI (rn M (pk n k).2 (gw ps k))), ρ2) := by rw [hρ2]; simp [b, f2]
          have g3 : (fBin gIx (fBin gIx (fVar 0) (fC (.int 2))) (fCall m__law_from (fCons (fVar 0) (fCons (fVar 5) (fCons (fBin gIx (fVar 2) (fVar 7)) fNil))))) ρ2 = some (.dat (.bool (e (rn M (pk n k).1 (gw ps k)))), ρ2) := by
            rw [ev_bin, b2, Option.bind_some, g1, Option.bind_some, d1 _ _ e1]; rfl
          have g4 : (fBin gIx (fBin gIx (fVar 0) (fC (.int 2))) (fCall m__law_from (fCons (fVar 0) (fCons (fVar 8) (fCons (fBin gIx (fVar 2) (fVar 7)) fNil))))) ρ2 = some (.dat (.bool (e (rn M (pk n k).2 (gw ps k)))), ρ2) := by
            rw [ev_bin, b2, Option.bind_some, g2, Option.bind_some, d1 _ _ e2]; rfl
          have hc : ∀ (x y : FE) ρ a b, x ρ = some (.dat (.bool a), ρ) → y ρ = some (.dat (.bool b), ρ) → (fBin gEq x y) ρ = some (.dat (.bool (a == b)), ρ) := fun x y ρ a b hx hy => by rw [ev_bin, hx, Option.bind_some, hy, Option.bind_some, eq_bool]; rfl
          have g5 := hc _ _ _ _ _ g3 g4
          refine ⟨IS m ws ps (di n) (oT PT) none (oT LT) (di k) none none none, by simp, ?_⟩
          unfold lb__law_is_shown_2
          rw [ev_wipeS, seq_nx s1]
          generalize (fBin gEq (fBin gIx (fBin gIx (fVar 0) (fC (.int 2))) (fCall m__law_from (fCons (fVar 0) (fCons (fVar 5) (fCons (fBin gIx (fVar 2) (fVar 7)) fNil))))) (fBin gIx (fBin gIx (fVar 0) (fC (.int 2))) (fCall m__law_from (fCons (fVar 0) (fCons (fVar 8) (fCons (fBin gIx (fVar 2) (fVar 7)) fNil)))))) = cnd at *
          by_cases c : e (rn M (pk n k).1 (gw ps k)) = e (rn M (pk n k).2 (gw ps k))
          · rw [show (e (rn M (pk n k).1 (gw ps k)) == e (rn M (pk n k).2 (gw ps k))) = true from beq_iff_eq.mpr c] at g5
            refine .inr ⟨fun z => (hgood.mp z) c, ρ2, ?_, by rw [hρ2]; exact ou _ _ _ _ _ _ _ _⟩
            simp [g5]
          · rw [show (e (rn M (pk n k).1 (gw ps k)) == e (rn M (pk n k).2 (gw ps k))) = false from by rw [beq_eq_false_iff_ne]; exact c] at g5
            refine .inl ⟨hgood.mpr c, ?_⟩
            simp [g5]
            rw [hρ2]
            rfl)
        have hsep : (∀ x ∈ (List.range L).map fun i => PyData.int (0 + (i : Nat)), ∃ k : Nat, x = .int k ∧ k < L ∧ Sep B M e (pk n k) (gw ps k)) ↔ JD B n M e ws ps := by
          constructor
          · intro h
            refine ⟨by rw [c4.2, hL], lead, fun k hk => ?_⟩
            obtain ⟨k', h1, h2, h3⟩ := h (.int (0 + (k : Nat))) (List.mem_map.mpr ⟨k, List.mem_range.mpr (by rw [hL]; exact hk), rfl⟩)
            have : k = k' := by injection h1 with h1; omega
            subst this
            exact h3
          · rintro ⟨_, _, h⟩ x hx
            obtain ⟨k, hk, rfl⟩ := List.mem_map.mp hx
            have hk := List.mem_range.mp hk
            exact ⟨k, by rw [Int.zero_add], hk, h k (by rw [← hL]; exact hk)⟩
        rcases fb with ⟨good, e8⟩ | ⟨bad, ρ', e8, hou⟩
        · have t8 : sd__law_is_shown_8 (IS m ws ps (di n) (oT PT) none (oT LT) none none none none) = _ := for_rng (n := L) (by simp [hLT]) (by omega) e8
          rw [bo_t (hsep.mp good)]
          exact run_rt rfl ((start _).trans ((seq_nx t4).trans ((seq_nx sl).trans ((seq_nx sb).trans ((seq_nx t7).trans ((seq_nx t8).trans (show sd__law_is_shown_9 (IS m ws ps (di n) (oT PT) none (oT LT) none none none none) = some (.rt (.dat (.bool true)) (IS m ws ps (di n) (oT PT) none (oT LT) none none none none)) by simp [sd__law_is_shown_9]))))))) (ou _ _ _ _ _ _ _ _)
        · have t8 : sd__law_is_shown_8 (IS m ws ps (di n) (oT PT) none (oT LT) none none none none) = _ := for_rng (n := L) (by simp [hLT]) (by omega) e8
          rw [bo_f fun z => bad (hsep.mpr z)]
          refine run_rt rfl ((start _).trans ((seq_nx t4).trans ((seq_nx sl).trans ((seq_nx sb).trans ((seq_nx t7).trans ?_))))) hou
          rw [ev_seq, t8]
          rfl
      · have e6 : ((List.range n).any fun k => !decide (rn M 0 (gw ws k) = k)) = true := by
          refine Classical.byContradiction fun z => c7 fun k hk => Classical.byContradiction fun y => z (List.any_eq_true.mpr ⟨k, List.mem_range.mpr hk, ?_⟩)
          rw [decide_eq_false y]; rfl
        rw [e6] at e4
        have t7 : sd__law_is_shown_7 (IS m ws ps (di n) (oT PT) none (oT LT) none none none none) = some (.rt (.dat (.bool false)) (IS m ws ps (di n) (oT PT) none (oT LT) none none none none)) := by
          generalize ((List.range n).filter fun k => !decide (rn M 0 (gw ws k) = k)) = ff at *
          simp [-ev_lc, -ev_gt, -ev_len, sd__law_is_shown_7, e7, e5, e4]
        rw [bo_f fun z => c7 z.2.1.2.2]
        refine run_rt rfl ((start _).trans ((seq_nx t4).trans ((seq_nx sl).trans ((seq_nx sb).trans ?_)))) (ou (di n) (oT PT) none (oT LT) none none none none)
        rw [ev_seq, t7]
        rfl
    · rw [bo_f c6, if_neg Bool.false_ne_true] at sb
      rw [bo_f fun z => c6 fun u hu => by
        rcases List.mem_append.mp hu with h | h
        · exact z.2.1.2.1 u h
        · obtain ⟨k, hk, e⟩ := List.getElem_of_mem h
          have h3 := z.2.2 k (by rw [← z.1]; exact hk)
          have : gw ps k = u := by
            have := gw_get hk
            rw [List.getElem?_eq_getElem hk, e] at this
            exact (Option.some.inj this).symm
          rw [← this]
          exact h3.1]
      refine run_rt rfl ((start _).trans ((seq_nx t4).trans ((seq_nx sl).trans ?_))) (ou (di n) (oT PT) none (oT ((List.range B).map nI)) none none none none)
      rw [ev_seq, sb]
      rfl
  · rw [bo_f fun z => c4 ⟨z.2.1.1, by rw [hL]; exact z.1⟩]
    have t4 : sd__law_is_shown_4 (IS m ws ps (di n) (oT PT) none none none none none none) = some (.rt (.dat (.bool false)) (IS m ws ps (di n) (oT PT) none none none none none none)) := by
      have h1 : ((ws.length : Int) == (n : Int)) = decide (ws.length = n) := by rw [Bool.eq_iff_iff, beq_iff_eq, decide_eq_true_iff]; omega
      have h2 : ((ps.length : Int) == (L : Int)) = decide (ps.length = L) := by rw [Bool.eq_iff_iff, beq_iff_eq, decide_eq_true_iff]; omega
      by_cases c : ws.length = n
      · have c' : ps.length ≠ L := fun z => c4 ⟨c, z⟩
        simp [sd__law_is_shown_4, h1, h2, hLT, c, c']
      · simp [sd__law_is_shown_4, h1, h2, hLT, c]
    refine run_rt rfl ((start _).trans ?_) (ou (di n) (oT PT) none none none none none none)
    rw [ev_seq, t4]
    rfl
end
end LW

namespace LW
open PySem PySem.Spec PyProof.Rows L2 PD
/-! ### dicts laid one key behind another -/
def kvG (key val : Nat → T) (g : Nat) : List (T × T) := (List.range g).map fun i => (key i, val i)
section
variable {key val : Nat → T} {G : Nat}
theorem kvG_succ (key val : Nat → T) (g : Nat) : kvG key val (g + 1) = kvG key val g ++ [(key g, val g)] := by simp [kvG, List.range_succ]
theorem dGet_kvG (h : ∀ i j, i ≤ G → j ≤ G → PD.keyOf (key i) = PD.keyOf (key j) → i = j) {i : Nat} (hi : i ≤ G) : ∀ g, g ≤ G + 1 → dGet (kvG key val g) (key i) = if i < g then some (val i) else none
  | 0, _ => by simp [dGet, kvG]
  | g + 1, hg => by
    have ih := dGet_kvG h hi g (by omega)
    unfold dGet at ih ⊢
    rw [kvG_succ, List.find?_append]
    by_cases hlt : i < g
    · rw [if_pos hlt] at ih
      rw [if_pos (by omega)]
      cases hf : List.find? (fun p : T × T => decide (PD.keyOf p.1 = PD.keyOf (key i))) (kvG key val g) with
      | none => rw [hf] at ih; cases ih
      | some x => rw [hf] at ih; exact ih
    · rw [if_neg hlt] at ih
      cases hf : List.find? (fun p : T × T => decide (PD.keyOf p.1 = PD.keyOf (key i))) (kvG key val g) with
      | some x => rw [hf] at ih; cases ih
      | none =>
        by_cases e : g = i
        · subst e
          rw [if_pos (by omega)]
          simp [hf]
        · rw [if_neg (by omega)]
          have : ¬ PD.keyOf (key g) = PD.keyOf (key i) := fun z => e (h _ _ (by omega) hi z)
          simp [this, hf]
theorem kOk_kvG (h : ∀ i, lfOf (key i) = none ∧ (tkOf (key i)).isSome = true) (i g : Nat) : kOk (kvG key val g) (key i) = true := by
  unfold kOk
  rw [(h i).1]
  simp only [(h i).2, Bool.true_and]
  rw [List.all_eq_true]
  intro p hp
  unfold kvG at hp
  obtain ⟨k, _, rfl⟩ := List.mem_map.mp hp
  exact (h k).2
theorem dPut_kvG (h : ∀ i j, i ≤ G → j ≤ G → PD.keyOf (key i) = PD.keyOf (key j) → i = j) {g : Nat} (hg : g ≤ G) : dPut (kvG key val g) (key g) (val g) = kvG key val (g + 1) := by
  unfold dPut
  rw [if_neg, kvG_succ]
  rw [List.any_eq_true]
  rintro ⟨p, hp, h2⟩
  unfold kvG at hp
  obtain ⟨k, hk, rfl⟩ := List.mem_map.mp hp
  have hk := List.mem_range.mp hk
  have := h k g (by omega) hg (of_decide_eq_true h2)
  omega
end
theorem key_pT (p r : Nat × Nat) : PD.keyOf (pT p) = PD.keyOf (pT r) ↔ p = r := by
  constructor
  · intro h
    have h : some (NestedKey.tup [.num (p.1 : Int), .num (p.2 : Int)]) = some (NestedKey.tup [.num (r.1 : Int), .num (r.2 : Int)]) := h
    injection h with h
    injection h with h
    injection h with h1 h2
    injection h2 with h2 h3
    injection h1 with h1
    injection h2 with h2
    exact Prod.ext (by omega) (by omega)
  · intro h; rw [h]
theorem pT_key (p : Nat × Nat) : lfOf (pT p) = none ∧ (tkOf (pT p)).isSome = true := ⟨rfl, rfl⟩
section
variable {tr B n T0 a : Nat} {M : Nat → Nat → Nat} {e : Nat → Bool} {q : Nat → Nat × Nat}
def vP (q : Nat → Nat × Nat) (a : Nat) : Nat → T
  | 0 => .none
  | i + 1 => .tuple [pT (q i), .int (a : Nat)]
abbrev kvP (q : Nat → Nat × Nat) (a g : Nat) : List (T × T) := kvG (fun i => pT (q i)) (vP q a) g
theorem wh_back (hq : ∀ i j, i ≤ T0 → j ≤ T0 → q i = q j → i = j) : ∀ (i c : Nat), i ≤ T0 → c + i ≤ 1000 → fWh lt_word_back_1 lb_word_back_1 [oD (kvP q a (T0 + 1)), dd (pT (q i)), oT (List.replicate c (.int (a : Nat))), none] = some (.nx [oD (kvP q a (T0 + 1)), dd (pT (q 0)), oT (List.replicate (c + i) (.int (a : Nat))), none])
  | 0, c, _, _ => by
    have d := dGet_kvG (val := vP q a) (key := fun i => pT (q i)) (G := T0) (fun i j hi hj h => hq i j hi hj ((key_pT _ _).mp h)) (Nat.zero_le _) (T0 + 1) (Nat.le_refl _)
    rw [if_pos (by omega)] at d
    have d : dGet (kvP q a (T0 + 1)) (pT (q 0)) = some .none := d
    have o : kOk (kvP q a (T0 + 1)) (pT (q 0)) = true := kOk_kvG (fun i => pT_key (q i)) 0 _
    generalize kvP q a (T0 + 1) = kv at *
    generalize pT (q 0) = p at *
    exact wh_f (by simp [lt_word_back_1, d, o])
  | i + 1, c, hi, hc => by
    have d := dGet_kvG (val := vP q a) (key := fun i => pT (q i)) (G := T0) (fun i j hi hj h => hq i j hi hj ((key_pT _ _).mp h)) hi (T0 + 1) (Nat.le_refl _)
    rw [if_pos (by omega)] at d
    have d : dGet (kvP q a (T0 + 1)) (pT (q (i + 1))) = some (.tuple [pT (q i), .int (a : Nat)]) := d
    have o : kOk (kvP q a (T0 + 1)) (pT (q (i + 1))) = true := kOk_kvG (fun i => pT_key (q i)) (i + 1) _
    have ih := wh_back hq i (c + 1) (by omega) (by omega)
    have ap : gAppend (List.replicate c (.int (a : Nat))) [.int (a : Nat)] = some (.none, List.replicate (c + 1) (.int (a : Nat))) := by
      rw [gAppend_ok (by simp; omega), ← List.replicate_succ']
    rw [show c + (i + 1) = c + 1 + i by omega, ← ih]
    generalize kvP q a (T0 + 1) = kv at *
    generalize pT (q (i + 1)) = p at *
    generalize pT (q i) = p2 at *
    generalize List.replicate (c + 1) (PyData.int (a : Nat)) = R1 at *
    generalize List.replicate c (PyData.int (a : Nat)) = R0 at *
    exact wh_t (ρ1 := [oD kv, dd p, oT R0, none]) (by simp [lt_word_back_1, d, o]) (by simp [lb_word_back_1, d, o, fAsg, ap, PD.isObj])
theorem e_back (hq : ∀ i j, i ≤ T0 → j ≤ T0 → q i = q j → i = j) (hT : T0 ≤ 900) : m_word_back [.obj (.dic (kvP q a (T0 + 1))), .dat (pT (q T0))] = some (.dat (tI (List.replicate T0 a)), [.dic (kvP q a (T0 + 1))]) := by
  have w := wh_back (a := a) hq T0 0 (Nat.le_refl _) (by omega)
  rw [Nat.zero_add] at w
  have hr : PyData.tuple (List.replicate T0 (PyData.int (a : Nat))).reverse = tI (List.replicate T0 a) := by
    rw [List.reverse_replicate]
    unfold tI
    rw [List.map_replicate]; rfl
  have w : fWh lt_word_back_1 lb_word_back_1 [oD (kvP q a (T0 + 1)), dd (pT (q T0)), oT [], none] = _ := w
  generalize kvP q a (T0 + 1) = kv at *
  generalize pT (q T0) = p at *
  generalize pT (q 0) = p0 at *
  generalize List.replicate T0 (PyData.int (a : Nat)) = R0 at *
  have t1 : (fSet false 2 (fLstN fNil)) [oD kv, dd p, none, none] = some (.nx [oD kv, dd p, oT [], none]) := by simp
  have t3 : (fRet [0, 1] (fCB gTuple (fCons (fRevL (fVar 2)) fNil))) [oD kv, dd p0, oT R0, none] = some (.rt (.dat (tI (List.replicate T0 a))) [oD kv, dd p0, oT R0, none]) := by
    simp [gTuple, hr]
  exact run_rt rfl ((seq_nx t1).trans ((seq_nx w).trans t3)) (by simp)
end
end LW

namespace LW
open PySem PySem.Spec PyProof.Rows L2 PD
section
variable {tr B n T0 a : Nat} {M : Nat → Nat → Nat} {e : Nat → Bool} {q : Nat → Nat × Nat}
def bhT (B : Nat) (M : Nat → Nat → Nat) (p : Nat × Nat) : List T := (List.range B).map fun l => pT (M p.1 l, M p.2 l)
theorem e_behind (hB : B ≤ 1000) {p : Nat × Nat} (h1 : p.1 < n) (h2 : p.2 < n) : m_pairs_behind [.dat (mk tr B n M e), .dat (mk tr B n M e), .dat (pT p)] = some (.obj (.lst (bhT B M p)), []) := by
  obtain ⟨m, hm⟩ : ∃ m, m = mk tr B n M e := ⟨_, rfl⟩
  rw [← hm]
  have r1 := rowsM_at (B := B) (M := M) h1
  have r2 := rowsM_at (B := B) (M := M) h2
  have l1 : ∀ l, l < B → atI (((List.range B).map (M p.1)).map nI) (l : Int) = some (nI (M p.1 l)) := fun l hl => by
    have := atI_nI (ps := (List.range B).map (M p.1)) (i := l) (by simpa using hl)
    rwa [pg_range_map hl] at this
  have l2 : ∀ l, l < B → atI (((List.range B).map (M p.2)).map nI) (l : Int) = some (nI (M p.2 l)) := fun l hl => by
    have := atI_nI (ps := (List.range B).map (M p.2)) (i := l) (by simpa using hl)
    rwa [pg_range_map hl] at this
  have q1 : rowM B (M p.1) = .tuple (((List.range B).map (M p.1)).map nI) := rfl
  have q2 : rowM B (M p.2) = .tuple (((List.range B).map (M p.2)).map nI) := rfl
  have ll : (((List.range B).map (M p.1)).map nI).length = B := by simp
  rw [q1] at r1
  rw [q2] at r2
  have hbh : bhT B M p = (List.range B).map fun l => .tuple [nI (M p.1 l), nI (M p.2 l)] := rfl
  generalize ((List.range B).map (M p.1)).map nI = Z1 at *
  generalize ((List.range B).map (M p.2)).map nI = Z2 at *
  have t1 : (fAsg (tgTup (tgCons (tgN false 3) (tgCons (tgN false 4) tgNil))) (fTupN (fCons (fBin gIx (fBin gIx (fVar 0) (fC (.int 1))) (fBin gIx (fVar 2) (fC (.int 0)))) (fCons (fBin gIx (fBin gIx (fVar 1) (fC (.int 1))) (fBin gIx (fVar 2) (fC (.int 1)))) fNil)))) [dd m, dd m, dd (pT p), none, none, none] = some (.nx [dd m, dd m, dd (pT p), dt Z1, dt Z2, none]) := by
    have a0 : atI [nI p.1, nI p.2] 0 = some (nI p.1) := rfl
    have a1 : atI [nI p.1, nI p.2] 1 = some (nI p.2) := rfl
    simp only [nI] at a0 a1
    rw [hm]
    simp [fAsg, mk, pT, nI, a0, a1, r1, r2]
  have e1 : fLc (fItR1 (fCB gLen (fCons (fVar 3) fNil))) (tgN false 5) fYes le_pairs_behind_1 [5] [dd m, dd m, dd (pT p), dt Z1, dt Z2, none] = some (.tmp (.lst (bhT B M p)), [dd m, dd m, dd (pT p), dt Z1, dt Z2, none]) := by
    rw [hbh]
    exact lc_rng (n := B) (fun l => .tuple [nI (M p.1 l), nI (M p.2 l)]) (by simp [ll]) (by omega) (by simp) (by simp) (fun l hl => by
      have b1 := l1 l hl
      have b2 := l2 l hl
      exact ⟨[dd m, dd m, dd (pT p), dt Z1, dt Z2, di l], [dd m, dd m, dd (pT p), dt Z1, dt Z2, di l], by simp, by simp [le_pairs_behind_1, b1, b2], by simp⟩)
  have t2 : (fRet [0, 1, 2] (fLc (fItR1 (fCB gLen (fCons (fVar 3) fNil))) (tgN false 5) fYes le_pairs_behind_1 [5])) [dd m, dd m, dd (pT p), dt Z1, dt Z2, none] = some (.rt (.obj (.lst (bhT B M p))) [dd m, dd m, dd (pT p), dt Z1, dt Z2, none]) := by
    generalize bhT B M p = Z at *
    simp [-ev_lc, e1]
  exact run_rt rfl ((seq_nx t1).trans t2) (by simp)
theorem e_differ {p : Nat × Nat} (h1 : p.1 < n) (h2 : p.2 < n) : m_do_ends_differ [.dat (mk tr B n M e), .dat (mk tr B n M e), .dat (pT p)] = some (.dat (.bool (!(e p.1 == e p.2))), []) := by
  obtain ⟨m, hm⟩ : ∃ m, m = mk tr B n M e := ⟨_, rfl⟩
  have r1 := endsM_at (e := e) h1
  have r2 := endsM_at (e := e) h2
  have a0 : atI [nI p.1, nI p.2] 0 = some (nI p.1) := rfl
  have a1 : atI [nI p.1, nI p.2] 1 = some (nI p.2) := rfl
  simp only [nI] at a0 a1
  have c1 : (fBin gIx (fBin gIx (fVar 0) (fC (.int 2))) (fBin gIx (fVar 2) (fC (.int 0)))) [dd m, dd m, dd (pT p)] = some (.dat (.bool (e p.1)), [dd m, dd m, dd (pT p)]) := by rw [hm]; simp [mk, pT, nI, a0, r1]
  have c2 : (fBin gIx (fBin gIx (fVar 1) (fC (.int 2))) (fBin gIx (fVar 2) (fC (.int 1)))) [dd m, dd m, dd (pT p)] = some (.dat (.bool (e p.2)), [dd m, dd m, dd (pT p)]) := by rw [hm]; simp [mk, pT, nI, a1, r2]
  rw [← hm]
  refine run_rt rfl (ρ := [dd m, dd m, dd (pT p)]) ?_ (by simp)
  show d_do_ends_differ [dd m, dd m, dd (pT p)] = _
  unfold d_do_ends_differ
  generalize (fBin gIx (fBin gIx (fVar 0) (fC (.int 2))) (fBin gIx (fVar 2) (fC (.int 0)))) = f1 at *
  generalize (fBin gIx (fBin gIx (fVar 1) (fC (.int 2))) (fBin gIx (fVar 2) (fC (.int 1)))) = f2 at *
  simp [c1, c2]
/-- pairs behind one another in a chain, by one letter -/
structure Chain (B n : Nat) (M : Nat → Nat → Nat) (e : Nat → Bool) (a T0 : Nat) (q : Nat → Nat × Nat) : Prop where
  aB : a < B
  lt : ∀ t, t ≤ T0 → (q t).1 < n ∧ (q t).2 < n
  inj : ∀ i j, i ≤ T0 → j ≤ T0 → q i = q j → i = j
  go : ∀ t, t < T0 → (M (q t).1 a, M (q t).2 a) = q (t + 1)
  stay : ∀ t, t < T0 → ∀ l, l < B → l ≠ a → (M (q t).1 l, M (q t).2 l) = q t
  same : ∀ t, t < T0 → e (q t).1 = e (q t).2
  diff : e (q T0).1 ≠ e (q T0).2
def FL (q : Nat → Nat × Nat) (g : Nat) : List T := (List.range g).map fun i => pT (q i)
@[simp] theorem FL_len (q : Nat → Nat × Nat) (g : Nat) : (FL q g).length = g := by simp [FL]
abbrev PQ (m p0 : T) (K : List (T × T)) (F : List T) (t : Nat) (x6 x7 : Option Sl) : Ev := [dd m, dd m, dd p0, oD K, oT F, di (t : Nat), x6, x7]
theorem wh_rt {c : FB} {b : FS} {ρ ρ1 ρ2 : Ev} {r : Sl} (hc : c ρ = some (true, ρ1)) (hb : b ρ1 = some (.rt r ρ2)) : fWh c b ρ = some (.rt r ρ2) := by
  rw [fWh_eq, hc]
  simp only [Option.bind_some, if_true, hb]
theorem fnd_at {g t : Nat} (h : t < g) : atI (FL q g) (t : Int) = some (pT (q t)) := PD.atI_nat (by unfold FL; rw [List.getElem?_map, List.getElem?_range h]; rfl)
theorem part_step (C : Chain B n M e a T0 q) (hB : B ≤ 1000) (hT : T0 ≤ 900) {t : Nat} (ht : t < T0) {p0 : T} :
    lb_parting_from_2 (PQ (mk tr B n M e) p0 (kvP q a (t + 1)) (FL q (t + 1)) t none none) = some (.nx (PQ (mk tr B n M e) p0 (kvP q a (t + 2)) (FL q (t + 2)) (t + 1) none none)) := by
  have kd := e_differ (tr := tr) (B := B) (M := M) (e := e) (C.lt t (by omega)).1 (C.lt t (by omega)).2
  have kb := e_behind (tr := tr) (M := M) (e := e) hB (C.lt t (by omega)).1 (C.lt t (by omega)).2
  rw [show (e (q t).1 == e (q t).2) = true from beq_iff_eq.mpr (C.same t ht)] at kd
  generalize mk tr B n M e = m at *
  have fa := fun (g : Nat) (h : t < g) => fnd_at (q := q) h
  have bl : (bhT B M (q t)).length = B := by simp [bhT]
  have bat : ∀ l, l < B → atI (bhT B M (q t)) (l : Int) = some (pT (if l = a then q (t + 1) else q t)) := fun l hl => PD.atI_nat (by
    unfold bhT
    rw [List.getElem?_map, List.getElem?_range hl]
    show some (pT (M (q t).1 l, M (q t).2 l)) = _
    by_cases h : l = a
    · rw [if_pos h, h, C.go t ht]
    · rw [if_neg h, C.stay t ht l hl h])
  have inj : ∀ i j, i ≤ T0 → j ≤ T0 → PD.keyOf (pT (q i)) = PD.keyOf (pT (q j)) → i = j := fun i j hi hj h => C.inj i j hi hj ((key_pT _ _).mp h)
  have dg := fun (i g : Nat) (hi : i ≤ T0) (hg : g ≤ T0 + 1) => dGet_kvG (key := fun i => pT (q i)) (val := vP q a) inj hi g hg
  have ok : ∀ (i g : Nat), kOk (kvP q a g) (pT (q i)) = true := fun i g => kOk_kvG (key := fun i => pT (q i)) (fun i => pT_key (q i)) i g
  have dp : dPut (kvP q a (t + 1)) (pT (q (t + 1))) (.tuple [pT (q t), .int (a : Nat)]) = kvP q a (t + 2) := dPut_kvG (key := fun i => pT (q i)) (val := vP q a) inj (by omega)
  generalize bhT B M (q t) = bh at *
  have t1 : (fIfS (fTst (fCall m_do_ends_differ (fCons (fVar 0) (fCons (fVar 1) (fCons (fBin gIx (fVar 4) (fVar 5)) fNil))))) (fRet [0, 1, 2] (fCall m_word_back (fCons (fVar 3) (fCons (fBin gIx (fVar 4) (fVar 5)) fNil)))) fNext) (PQ m p0 (kvP q a (t + 1)) (FL q (t + 1)) t none none) = some (.nx (PQ m p0 (kvP q a (t + 1)) (FL q (t + 1)) t none none)) := by
    have f := fa (t + 1) (by omega)
    generalize FL q (t + 1) = F at *
    simp [f, kd]
  have t2 : (fSet false 6 (fCall m_pairs_behind (fCons (fVar 0) (fCons (fVar 1) (fCons (fBin gIx (fVar 4) (fVar 5)) fNil))))) (PQ m p0 (kvP q a (t + 1)) (FL q (t + 1)) t none none) = some (.nx (PQ m p0 (kvP q a (t + 1)) (FL q (t + 1)) t (oT bh) none)) := by
    have f := fa (t + 1) (by omega)
    generalize FL q (t + 1) = F at *
    simp [f, kb]
  obtain ⟨g', e3, hg'⟩ := for_r (β := Nat) (g := tgN false 7) (b := lb_parting_from_1) (fun _ g => PQ m p0 (kvP q a g) (FL q g) t (oT bh) none) (fun i g => g = if i ≤ a then t + 1 else t + 2) B 0 (fun i g hi hg => by
    have b := bat i hi
    by_cases h : i = a
    · subst h
      rw [if_pos (Nat.le_refl _)] at hg
      subst hg
      rw [if_pos rfl] at b
      have d : dGet (kvP q i (t + 1)) (pT (q (t + 1))) = none := by
        have := dg (t + 1) (t + 1) (by omega) (by omega)
        rwa [if_neg (by omega)] at this
      have o := ok (t + 1) (t + 1)
      have f := fa (t + 1) (by omega)
      have hz : guardP ((kvP q i (t + 1)).length < sizeLine) = some () := guardP_pos (by rw [sizeLine_eq]; unfold kvP kvG; simp; omega)
      have ap : gAppend (FL q (t + 1)) [pT (q (t + 1))] = some (.none, FL q (t + 2)) := by
        rw [gAppend_ok (by simp; omega)]
        unfold FL
        rw [List.range_succ (n := t + 1), List.map_append]; rfl
      refine ⟨PQ m p0 (kvP q i (t + 1)) (FL q (t + 1)) t (oT bh) (di i), t + 2, by simp, .inl ?_, by rw [if_neg (by omega)]⟩
      generalize kvP q i (t + 1) = K1 at *
      generalize kvP q i (t + 2) = K2 at *
      generalize FL q (t + 1) = F1 at *
      generalize FL q (t + 2) = F2 at *
      generalize pT (q (t + 1)) = P1 at *
      generalize pT (q t) = P2 at *
      simp [lb_parting_from_1, b, d, o, f, dp, hz, ap]
    · rw [if_neg h] at b
      have hgt : g = t + 1 ∨ g = t + 2 := by rw [hg]; split <;> omega
      have d : dGet (kvP q a g) (pT (q t)) = some (vP q a t) := by
        have := dg t g (by omega) (by omega)
        rwa [if_pos (by omega)] at this
      have o := ok t g
      refine ⟨PQ m p0 (kvP q a g) (FL q g) t (oT bh) (di i), g, by simp, .inl ?_, by rw [hg]; split <;> split <;> omega⟩
      generalize kvP q a g = K1 at *
      generalize FL q g = F1 at *
      generalize pT (q t) = P2 at *
      simp [lb_parting_from_1, b, d, o]) (t + 1) (by simp)
  rw [if_neg (by have := C.aB; omega)] at hg'
  subst hg'
  have t3 : (fFor (fItR1 (fCB gLen (fCons (fVar 6) fNil))) (tgN false 7) lb_parting_from_1) (PQ m p0 (kvP q a (t + 1)) (FL q (t + 1)) t (oT bh) none) = _ := for_rng (n := B) (by simp [bl]) (by omega) e3
  have t4 : (fAug false 5 (gI0 fun i j => PyData.int (i + j)) (fC (PyData.int 1))) (PQ m p0 (kvP q a (t + 2)) (FL q (t + 2)) t (oT bh) none) = some (.nx (PQ m p0 (kvP q a (t + 2)) (FL q (t + 2)) (t + 1) (oT bh) none)) := by simp [fAug]
  unfold lb_parting_from_2
  rw [ev_wipeS, seq_nx t1, seq_nx t2, seq_nx t3, t4]
  rfl
theorem part_wh (C : Chain B n M e a T0 q) (hB : B ≤ 1000) (hT : T0 ≤ 900) {p0 : T} : ∀ (d t : Nat), t + d = T0 →
    fWh lt_parting_from_1 lb_parting_from_2 (PQ (mk tr B n M e) p0 (kvP q a (t + 1)) (FL q (t + 1)) t none none) = some (.rt (.dat (tI (List.replicate T0 a))) (PQ (mk tr B n M e) p0 (kvP q a (T0 + 1)) (FL q (T0 + 1)) T0 none none))
  | 0, t, h => by
    have h : t = T0 := by omega
    subst h
    have kd := e_differ (tr := tr) (B := B) (M := M) (e := e) (C.lt t (by omega)).1 (C.lt t (by omega)).2
    rw [show (e (q t).1 == e (q t).2) = false from by rw [beq_eq_false_iff_ne]; exact C.diff] at kd
    have kw := e_back (a := a) C.inj hT
    have f := fnd_at (q := q) (show t < t + 1 by omega)
    generalize mk tr B n M e = m at *
    have hlt : (fTst (fBin gLt (fVar 5) (fCB gLen (fCons (fVar 4) fNil)))) (PQ m p0 (kvP q a (t + 1)) (FL q (t + 1)) t none none) = some (true, PQ m p0 (kvP q a (t + 1)) (FL q (t + 1)) t none none) := by
      have : (t : Int) < (t : Int) + 1 := by omega
      simp [this]
    have hb : lb_parting_from_2 (PQ m p0 (kvP q a (t + 1)) (FL q (t + 1)) t none none) = some (.rt (.dat (tI (List.replicate t a))) (PQ m p0 (kvP q a (t + 1)) (FL q (t + 1)) t none none)) := by
      have t1 : (fIfS (fTst (fCall m_do_ends_differ (fCons (fVar 0) (fCons (fVar 1) (fCons (fBin gIx (fVar 4) (fVar 5)) fNil))))) (fRet [0, 1, 2] (fCall m_word_back (fCons (fVar 3) (fCons (fBin gIx (fVar 4) (fVar 5)) fNil)))) fNext) (PQ m p0 (kvP q a (t + 1)) (FL q (t + 1)) t none none) = some (.rt (.dat (tI (List.replicate t a))) (PQ m p0 (kvP q a (t + 1)) (FL q (t + 1)) t none none)) := by
        generalize FL q (t + 1) = F at *
        generalize kvP q a (t + 1) = K1 at *
        simp [f, kd, kw]
      unfold lb_parting_from_2
      rw [ev_wipeS, ev_seq, t1]
      rfl
    exact wh_rt hlt hb
  | d + 1, t, h => by
    rw [wh_t (ρ1 := PQ (mk tr B n M e) p0 (kvP q a (t + 1)) (FL q (t + 1)) t none none) (by
      have : (t : Int) < (t : Int) + 1 := by omega
      simp [lt_parting_from_1, this]) (part_step C hB hT (by omega))]
    exact part_wh C hB hT d (t + 1) (by omega)
end
end LW

namespace LW
open PySem PySem.Spec PyProof.Rows L2 PD
section
variable {tr B n N : Nat} {R M : Nat → Nat → Nat} {w : Nat → List Nat} {e : Nat → Bool} {v : Nat → Nat}
abbrev WS (m : T) (w : Nat → List Nat) (g : Nat) (x2 x3 x4 : Option Sl) : Ev := [dd m, oD (kvW w g), x2, x3, x4]
theorem words_row (C : Can n B R w) (hB : B ≤ 1000) (hn : n ≤ 1000) (hw : ∀ s, s < n → (w s).length ≤ 1000) {p g : Nat} (hp : p < n) (F : Fnd n B w g (wc B (w p) * B)) :
    ∃ g', lb_words_to_states_2 (WS (mk tr B n R e) w g (di p) none none) = some (.nx (WS (mk tr B n R e) w g' none none none)) ∧ Fnd n B w g' (wc B (w p) * B + B) := by
  obtain ⟨m, hm⟩ : ∃ m, m = mk tr B n R e := ⟨_, rfl⟩
  have hpg := C.seen hp F
  have t1 : (fSet false 3 (fBin gIx (fBin gIx (fVar 0) (fC (.int 1))) (fVar 2))) (WS (mk tr B n R e) w g (di p) none none) = some (.nx (WS (mk tr B n R e) w g (di p) (dd (rowM B (R p))) none)) := by
    have h2 := rowsM_at (B := B) (M := R) hp
    generalize rowM B (R p) = Z at *
    simp [h2, mk]
  rw [← hm] at t1 ⊢
  have hrow : ∀ l, l < B → atI (((List.range B).map (R p)).map nI) (l : Int) = some (nI (R p l)) := fun l hl => by
    have := atI_nI (ps := (List.range B).map (R p)) (i := l) (by simpa using hl)
    rwa [pg_range_map hl] at this
  have hrl : (((List.range B).map (R p)).map nI).length = B := by simp
  have hrr : rowM B (R p) = .tuple (((List.range B).map (R p)).map nI) := rfl
  rw [hrr] at t1
  generalize ((List.range B).map (R p)).map nI = Z at *
  obtain ⟨g', e1, _, F1⟩ := for_r (β := Nat) (g := tgN false 4) (b := lb_words_to_states_1) (fun i g => WS m w g (di p) (dt Z) none) (fun i g => p < g ∧ Fnd n B w g (wc B (w p) * B + i)) B 0 (fun i g hi ⟨hpg, F⟩ => by
    have q := hrow i hi
    have gn := F.gn
    have hq := C.lt p hp i hi
    have d1 := dGet_kvW w (R p i) g
    have d2 := dGet_kvW w p g
    rw [if_pos hpg] at d2
    have o1 := kOk_kvW w (R p i) g
    have o2 := kOk_kvW w p g
    refine ⟨WS m w g (di p) (dt Z) (di i), ?_⟩
    rcases C.step hp hi F with ⟨h, F'⟩ | ⟨h, hg, F', hw2⟩
    · rw [if_pos h] at d1
      simp only [nI] at q d1 o1
      exact ⟨g, by simp, .inl (by simp [lb_words_to_states_1, q, d1, o1]), hpg, F'⟩
    · rw [if_neg h] at d1
      have a1 : ∀ ρ, gAdd (.dat (tI (w p))) (.dat (.tuple [nI i])) ρ = some (.dat (tI (w g))) := fun ρ => by
        rw [hw2]
        exact addI_ok (b := [i]) (by have := hw p hp; simp; omega) ρ
      have d3 := dPut_kvW w g
      have hz : guardP ((kvW w g).length < sizeLine) = some () := guardP_pos (by rw [sizeLine_eq]; unfold kvW; simp; omega)
      have hg3 : guardP (kOk (kvW w g) (nI g) = true ∧ (kvW w g).length < sizeLine) = some () := guardP_pos ⟨kOk_kvW w g g, guardP_some.mp hz⟩
      refine ⟨g + 1, by simp, .inl ?_, by omega, F'⟩
      rw [hg] at q d1 o1
      simp only [nI] at q d1 d2 d3 o1 o2 a1 hg3
      simp [-ev_add, lb_words_to_states_1, q, d1, o1, o2, d2, a1, d3, hz]) g ⟨hpg, F⟩
  have e2 : fFor (fItR1 (fCB gLen (fCons (fVar 3) fNil))) (tgN false 4) lb_words_to_states_1 (WS m w g (di p) (dt Z) none) = _ := for_rng (n := B) (by simp [hrl]) (by omega) e1
  refine ⟨g', ?_, F1⟩
  unfold lb_words_to_states_2
  rw [ev_wipeS, seq_nx t1, e2]
  rfl
theorem e_words (C : Can n B R w) (hB : B ≤ 1000) (hn : n ≤ 1000) (hw : ∀ s, s < n → (w s).length ≤ 1000) :
    m_words_to_states [.dat (mk tr B n R e)] = some (.dat (.tuple ((List.range n).map fun q => tI (w q))), []) := by
  obtain ⟨m, hm⟩ : ∃ m, m = mk tr B n R e := ⟨_, rfl⟩
  have q0 : ∀ ρ : Ev, ρ[0]? = some (dd m) → (fCB gLen (fCons (fBin gIx (fVar 0) (fC (.int 1))) fNil)) ρ = some (.dat (.int n), ρ) := fun ρ hρ => by
    rw [hm] at hρ
    simp [hρ, mk]
  obtain ⟨g', e1, _, F1⟩ := for_r (β := Nat) (g := tgN false 2) (b := lb_words_to_states_2) (fun i g => WS m w g none none none) (fun i g => (i < n → Fnd n B w g (wc B (w i) * B)) ∧ (i = n → g = n)) n 0 (fun i g hi ⟨F, _⟩ => by
    obtain ⟨g', e1, F1⟩ := words_row (tr := tr) (e := e) C hB hn hw hi (F hi)
    rw [← hm] at e1
    exact ⟨WS m w g (di i) none none, g', by simp, .inl e1, fun h => C.next h F1, fun h => C.last h F1⟩) 1 ⟨fun _ => C.start, fun h => by have := C.pos; omega⟩
  have hg := F1 rfl
  subst hg
  have k0 : kvW w 1 = [(.int 0, .tuple [])] := by
    show [(nI 0, tI (w 0))] = _
    rw [C.w0]; rfl
  rw [← hm]
  have t1 : (fSet false 1 (fDic1 (fC (.int 0)) (fTupN fNil))) [dd m, none, none, none, none] = some (.nx (WS m w 1 none none none)) := by
    have : kOk [] (.int 0) = true := rfl
    show _ = some (Fl.nx [dd m, oD (kvW w 1), none, none, none])
    rw [k0]; simp [this]
  have t2 := for_rng (q0 (WS m w 1 none none none) rfl) (by omega) e1
  have e3 : fLc (fItR1 (fCB gLen (fCons (fBin gIx (fVar 0) (fC (.int 1))) fNil))) (tgN false 2) fYes le_words_to_states_1 [2] (WS m w g' none none none) = some (.tmp (.lst ((List.range g').map fun q => tI (w q))), WS m w g' none none none) := lc_rng (n := g') (fun q => tI (w q)) (q0 (WS m w g' none none none) rfl) (by omega) (by simp) (by simp) (fun k hk => by
    have d := dGet_kvW w k g'
    rw [if_pos hk] at d
    have o := kOk_kvW w k g'
    simp only [nI] at d o
    exact ⟨WS m w g' (di k) none none, WS m w g' (di k) none none, by simp, by simp [le_words_to_states_1, d, o], by simp⟩)
  have t3 : (fRet [0] (fCB gTuple (fCons (fLc (fItR1 (fCB gLen (fCons (fBin gIx (fVar 0) (fC (.int 1))) fNil))) (tgN false 2) fYes le_words_to_states_1 [2]) fNil))) (WS m w g' none none none) = some (.rt (.dat (.tuple ((List.range g').map fun q => tI (w q)))) (WS m w g' none none none)) := by
    generalize (List.range g').map (fun q => tI (w q)) = Z at *
    simp [-ev_lc, e3, gTuple]
  exact run_rt rfl ((seq_nx t1).trans ((seq_nx t2).trans t3)) (by simp)
end
section
variable {tr B n T0 a : Nat} {M : Nat → Nat → Nat} {e : Nat → Bool} {q : Nat → Nat × Nat}
theorem e_parting (C : Chain B n M e a T0 q) (hB : B ≤ 1000) (hT : T0 ≤ 900) : m_parting_from [.dat (mk tr B n M e), .dat (mk tr B n M e), .dat (pT (q 0))] = some (.dat (tI (List.replicate T0 a)), []) := by
  have h := part_wh (tr := tr) C hB hT (p0 := pT (q 0)) T0 0 (by omega)
  generalize mk tr B n M e = m at *
  have k0 : kvP q a 1 = [(pT (q 0), .none)] := rfl
  have f0 : FL q 1 = [pT (q 0)] := rfl
  have o0 : kOk [] (pT (q 0)) = true := rfl
  rw [Nat.zero_add, k0, f0] at h
  generalize pT (q 0) = p at *
  have t1 : sd_parting_from_1 [dd m, dd m, dd p, none, none, none, none, none] = some (.nx [dd m, dd m, dd p, oD [(p, .none)], none, none, none, none]) := by simp [sd_parting_from_1, o0]
  have t2 : sd_parting_from_2 [dd m, dd m, dd p, oD [(p, .none)], none, none, none, none] = some (.nx [dd m, dd m, dd p, oD [(p, .none)], oT [p], none, none, none]) := by simp [sd_parting_from_2]
  have t3 : sd_parting_from_3 [dd m, dd m, dd p, oD [(p, .none)], oT [p], none, none, none] = some (.nx (PQ m p [(p, .none)] [p] 0 none none)) := by simp [sd_parting_from_3]
  refine run_rt rfl (ρ := PQ m p (kvP q a (T0 + 1)) (FL q (T0 + 1)) T0 none none) ((seq_nx t1).trans ((seq_nx t2).trans ((seq_nx t3).trans ?_))) (by simp)
  unfold sd_parting_from_4
  rw [ev_seq, h]
  rfl
def rz (a k : Nat) : List Int := List.replicate k (a : Int)
theorem rz_T (a k : Nat) : tI (List.replicate k a) = zT (rz a k) := by
  unfold tI zT rz
  rw [List.map_replicate, List.map_replicate]; rfl
theorem e_least {Tm : Nat × Nat → Nat} (C : Can n B M fun k => List.replicate k a) (hB : B ≤ 1000) (hn : n ≤ 100) (hT : ∀ p, Tm p ≤ 900) (hC : ∀ p : Nat × Nat, p.1 < p.2 → p.2 < n → ∃ q : Nat → Nat × Nat, q 0 = p ∧ Chain B n M e a (Tm p) q) :
    m_shown_least [.dat (mk tr B n M e)] = some (.dat (.tuple [wsT ((List.range n).map (rz a)), wsT ((prs n).map fun p => rz a (Tm p))]), []) := by
  have k1 := e_prs (n := n) hn
  have k2 := e_words (tr := tr) (e := e) C hB (by omega) (fun s hs => by simp; omega)
  have k4 : ∀ p : Nat × Nat, p.1 < p.2 → p.2 < n → m_parting_from [.dat (mk tr B n M e), .dat (mk tr B n M e), .dat (pT p)] = some (.dat (zT (rz a (Tm p))), []) := fun p h1 h2 => by
    obtain ⟨q, h0, hq⟩ := hC p h1 h2
    have := e_parting (tr := tr) hq hB (hT p)
    rw [h0] at this
    rw [this, rz_T]
  have k5 : m_words_to_states [.dat (mk tr B n M e)] = some (.dat (wsT ((List.range n).map (rz a))), []) := by
    rw [k2]
    unfold wsT
    rw [List.map_map]
    congr 3
    exact congrArg PyData.tuple (List.map_congr_left fun k _ => rz_T a k)
  obtain ⟨m, hm⟩ : ∃ m, m = mk tr B n M e := ⟨_, rfl⟩
  have h1 : ∀ ρ : Ev, ρ[0]? = some (dd m) → (fCB gLen (fCons (fBin gIx (fVar 0) (fC (.int 1))) fNil)) ρ = some (.dat (.int n), ρ) := fun ρ h => by rw [hm] at h; simp [h, mk]
  rw [← hm] at k4 k5 ⊢
  have hp : ∀ p ∈ prs n, p.1 < p.2 ∧ p.2 < n := fun p h => prs_mem.mp h
  have lp := prs_len n
  have hnn : n * n ≤ 10000 := Nat.mul_le_mul hn hn
  have e1 : fLc (fItE (fCall m_pairs_of_states (fCons (fCB gLen (fCons (fBin gIx (fVar 0) (fC (.int 1))) fNil)) fNil))) (tgTup (tgCons (tgN false 2) (tgCons (tgN false 3) tgNil))) fYes le_shown_least_1 [2, 3] [dd m, none, none, none] = some (.tmp (.lst ((prs n).map fun p => zT (rz a (Tm p)))), [dd m, none, none, none]) := lc_it (e := pT) (xs := prs n) (fun p => zT (rz a (Tm p))) (by
    have g := h1 [dd m, none, none, none] rfl
    generalize (prs n).map pT = Z at *
    generalize (fCB gLen (fCons (fBin gIx (fVar 0) (fC (.int 1))) fNil)) = f at *
    simp [g, k1]) (by omega) (by simp) (by simp) (fun p hp' => by
    have hpp := hp p hp'
    have k6 := k4 p hpp.1 hpp.2
    have k7 : m_parting_of_states [.dat m, .dat (nI p.1), .dat (nI p.2)] = some (.dat (zT (rz a (Tm p))), []) := by
      have k6 : m_parting_from [.dat m, .dat m, .dat (.tuple [nI p.1, nI p.2])] = _ := k6
      unfold m_parting_of_states d_parting_of_states
      rw [ev_run3]
      simp [k6]
    exact ⟨[dd m, none, dd (nI p.1), dd (nI p.2)], [dd m, none, dd (nI p.1), dd (nI p.2)], by simp [pT], by simp [le_shown_least_1, k7], by simp⟩)
  have hz : PyData.tuple ((prs n).map fun p => zT (rz a (Tm p))) = wsT ((prs n).map fun p => rz a (Tm p)) := by
    unfold wsT
    rw [List.map_map]; rfl
  generalize ((prs n).map fun p => zT (rz a (Tm p))) = Z at *
  have t1 : (fSet false 1 (fLc (fItE (fCall m_pairs_of_states (fCons (fCB gLen (fCons (fBin gIx (fVar 0) (fC (.int 1))) fNil)) fNil))) (tgTup (tgCons (tgN false 2) (tgCons (tgN false 3) tgNil))) fYes le_shown_least_1 [2, 3])) [dd m, none, none, none] = some (.nx [dd m, oT Z, none, none]) := by
    rw [ev_set, e1]
    rfl
  have t2 : (fRet [0] (fTupN (fCons (fCall m_words_to_states (fCons (fVar 0) fNil)) (fCons (fCB gTuple (fCons (fVar 1) fNil)) fNil)))) [dd m, oT Z, none, none] = some (.rt (.dat (.tuple [wsT ((List.range n).map (rz a)), wsT ((prs n).map fun p => rz a (Tm p))])) [dd m, oT Z, none, none]) := by
    rw [← hz]
    simp [k5, gTuple]
  exact run_rt rfl ((seq_nx t1).trans t2) (by simp)
/-! ### rings and ladders -/
def tmR (m : Nat) (p : Nat × Nat) : Nat := if p.1 = 0 then 0 else m - p.2
def tmL (most : Nat) (p : Nat × Nat) : Nat := most - p.2
theorem can_of {n B a : Nat} {M : Nat → Nat → Nat} (S : Src n B M fun k => List.replicate k a) : Can n B M fun k => List.replicate k a :=
  ⟨S.hB, S.pos, S.w0, S.lt, fun k k' h _ => rc_lt S.hB a h, S.le, S.par⟩
theorem chain_ring {m : Nat} (hm : 2 ≤ m) (ha : a < B) {ws : List Nat} (hw : ∀ l, l < B → pg ws l = if l = a then 1 else 0) (p : Nat × Nat) (h1 : p.1 < p.2) (h2 : p.2 < m) :
    ∃ q : Nat → Nat × Nat, q 0 = p ∧ Chain B m (ctM ws m) (fun k => decide (k ∈ [0])) a (tmR m p) q := by
  obtain ⟨i, j⟩ := p
  have h1 : i < j := h1
  have h2 : j < m := h2
  have e0 : ∀ k : Nat, decide (k ∈ [0]) = decide (k = 0) := fun k => by simp
  have go : ∀ k, ctM ws m k a = (k + 1) % m := fun k => by unfold ctM; rw [hw a ha, if_pos rfl]
  have st : ∀ k l, k < m → l < B → l ≠ a → ctM ws m k l = k := fun k l hk hl hla => by unfold ctM; rw [hw l hl, if_neg hla, Nat.add_zero, Nat.mod_eq_of_lt hk]
  by_cases hi : i = 0
  · subst hi
    refine ⟨fun _ => (0, j), rfl, ?_⟩
    have hT : tmR m (0, j) = 0 := if_pos rfl
    rw [hT]
    refine ⟨ha, fun t _ => ⟨by show 0 < m; omega, h2⟩, fun i j hi hj _ => by omega, fun t ht => by omega, fun t ht => by omega, fun t ht => by omega, ?_⟩
    show decide (0 ∈ [0]) ≠ decide (j ∈ [0])
    rw [e0, e0, decide_eq_true rfl, decide_eq_false (by omega)]
    decide
  · have hT : tmR m (i, j) = m - j := if_neg hi
    rw [hT]
    refine ⟨fun t => (i + t, (j + t) % m), by show (i + 0, (j + 0) % m) = (i, j); rw [Nat.add_zero, Nat.add_zero, Nat.mod_eq_of_lt h2], ha, fun t ht => ⟨by show i + t < m; omega, Nat.mod_lt _ (by omega)⟩, fun t u _ _ h => by
      have := congrArg Prod.fst h
      have : i + t = i + u := this
      omega, fun t ht => ?_, fun t ht l hl hla => ?_, fun t ht => ?_, ?_⟩
    · show (ctM ws m (i + t) a, ctM ws m ((j + t) % m) a) = (i + (t + 1), (j + (t + 1)) % m)
      rw [go, go, Nat.mod_add_mod, Nat.mod_eq_of_lt (show i + t + 1 < m by omega)]
      rfl
    · show (ctM ws m (i + t) l, ctM ws m ((j + t) % m) l) = _
      rw [st _ l (by omega) hl hla, st _ l (Nat.mod_lt _ (by omega)) hl hla]
    · show decide (i + t ∈ [0]) = decide ((j + t) % m ∈ [0])
      rw [e0, e0, Nat.mod_eq_of_lt (by omega), decide_eq_false (by omega), decide_eq_false (by omega)]
    · show decide (i + (m - j) ∈ [0]) ≠ decide ((j + (m - j)) % m ∈ [0])
      rw [e0, e0, show j + (m - j) = m by omega, Nat.mod_self, decide_eq_false (by omega), decide_eq_true rfl]
      decide
theorem chain_ladder {most : Nat} (ha : a < B) (p : Nat × Nat) (h1 : p.1 < p.2) (h2 : p.2 < most + 1) :
    ∃ q : Nat → Nat × Nat, q 0 = p ∧ Chain B (most + 1) (ldM a most) (fun k => decide (k ∈ [most])) a (tmL most p) q := by
  obtain ⟨i, j⟩ := p
  have h1 : i < j := h1
  have h2 : j < most + 1 := h2
  have e0 : ∀ k : Nat, decide (k ∈ [most]) = decide (k = most) := fun k => by simp
  refine ⟨fun t => (i + t, j + t), rfl, ha, fun t ht => ?_, fun t u _ _ h => ?_, fun t ht => ?_, fun t ht l hl hla => ?_, fun t ht => ?_, ?_⟩
  · have ht : t ≤ most - j := ht
    exact ⟨by show i + t < most + 1; omega, by show j + t < most + 1; omega⟩
  · have := congrArg Prod.fst h
    have : i + t = i + u := this
    omega
  · have ht : t < most - j := ht
    show (ldM a most (i + t) a, ldM a most (j + t) a) = (i + (t + 1), j + (t + 1))
    unfold ldM
    rw [if_pos rfl, if_pos rfl, Nat.min_eq_left (by omega), Nat.min_eq_left (by omega)]
    rfl
  · show (ldM a most (i + t) l, ldM a most (j + t) l) = _
    unfold ldM
    rw [if_neg hla, if_neg hla]
  · have ht : t < most - j := ht
    show decide (i + t ∈ [most]) = decide (j + t ∈ [most])
    rw [e0, e0, decide_eq_false (by omega), decide_eq_false (by omega)]
  · show decide (i + (most - j) ∈ [most]) ≠ decide (j + (most - j) ∈ [most])
    rw [e0, e0, decide_eq_false (by omega), decide_eq_true (by omega)]
    decide
end
end LW

namespace LW
open PySem PySem.Spec PyProof.Rows L2 PD
section
variable {a : Nat}
theorem rp (a k : Nat) (hk : k ≤ 1000) (ρ : Ev) : gMul (.dat (.tuple [.int (a : Nat)])) (.dat (.int (k : Nat))) ρ = some (.dat (zT (rz a k))) := by
  rw [← rz_T]
  exact repI_ok (x := a) (n := k) (by omega) ρ
def shT (a n : Nat) (Tm : Nat × Nat → Nat) : T := .tuple [wsT ((List.range n).map (rz a)), wsT ((prs n).map fun p => rz a (Tm p))]
theorem pz_succ (a n i : Nat) (Tm : Nat × Nat → Nat) : ((prI n i).map fun p => zT (rz a (Tm p))) ++ ((List.range (n - (i + 1))).map fun k => zT (rz a (Tm (i, i + 1 + k)))) = (prI n (i + 1)).map fun p => zT (rz a (Tm p)) := by
  unfold prI
  rw [List.range_succ, List.flatMap_append, List.map_append]
  simp [Function.comp_def]
theorem e_ring_shown {m : Nat} (hm : m ≤ 100) : m__law_ring_shown [.dat (.int a), .dat (.int m)] = some (.dat (shT a m (tmR m)), []) := by
  obtain ⟨_, e1, _⟩ := for_r (β := Unit) (g := tgN false 3) (b := lb__law_ring_shown_1) (fun i _ => [di a, di m, oT ((prI m i).map fun p => zT (rz a (tmR m p))), none, none, none]) (fun _ _ => True) m 0 (fun i _ hi _ => by
    have e2 : fLc (fItR2 (fBin gAdd (fVar 3) (fC (.int 1))) (fVar 1)) (tgN false 4) fYes le__law_ring_shown_2 [4] [di a, di m, oT ((prI m i).map fun p => zT (rz a (tmR m p))), di i, none, none] = some (.tmp (.lst ((List.range (m - (i + 1))).map fun k => zT (rz a (tmR m (i, i + 1 + k))))), [di a, di m, oT ((prI m i).map fun p => zT (rz a (tmR m p))), di i, none, none]) :=
      lc_it (e := fun k => nI (i + 1 + k)) (xs := List.range (m - (i + 1))) (fun k => zT (rz a (tmR m (i, i + 1 + k)))) (it_r2 (by simp) (by simp) (by omega) (by omega)) (by simp; omega) (by simp) (by simp) (fun k hk => by
        have hk := List.mem_range.mp hk
        refine ⟨[di a, di m, oT ((prI m i).map fun p => zT (rz a (tmR m p))), di i, dd (nI (i + 1 + k)), none], [di a, di m, oT ((prI m i).map fun p => zT (rz a (tmR m p))), di i, dd (nI (i + 1 + k)), none], by simp, ?_, by simp⟩
        generalize (prI m i).map (fun p => zT (rz a (tmR m p))) = Z at *
        by_cases h0 : i = 0
        · subst h0
          have hT : tmR m (0, 0 + 1 + k) = 0 := if_pos rfl
          rw [hT]
          simp [le__law_ring_shown_2, fIf, zT, rz]
        · have hT : tmR m (i, i + 1 + k) = m - (i + 1 + k) := if_neg h0
          rw [hT]
          have hb : ((i : Int) == 0) = false := by rw [beq_eq_false_iff_ne]; omega
          have r := rp a (m - (i + 1 + k)) (by omega)
          rw [show ((m - (i + 1 + k) : Nat) : Int) = (m : Int) - ((i : Int) + 1 + k) by omega] at r
          simp [-ev_mul, le__law_ring_shown_2, fIf, h0, hb, r, nI])
    have hl := prI_len m i
    have hin : i * m ≤ 100 * 100 := Nat.mul_le_mul (by omega) hm
    have ad := addL_ok (xs := (prI m i).map fun p => zT (rz a (tmR m p))) (ys := (List.range (m - (i + 1))).map fun k => zT (rz a (tmR m (i, i + 1 + k)))) (i := 2) (ρ := [di a, di m, oT ((prI m i).map fun p => zT (rz a (tmR m p))), di i, none, none]) rfl (by simp; omega)
    rw [pz_succ] at ad
    refine ⟨[di a, di m, oT ((prI m i).map fun p => zT (rz a (tmR m p))), di i, none, none], (), by simp, .inl ?_, trivial⟩
    generalize (List.range (m - (i + 1))).map (fun k => zT (rz a (tmR m (i, i + 1 + k)))) = Z at *
    generalize (prI m (i + 1)).map (fun p => zT (rz a (tmR m p))) = Z2 at *
    generalize (prI m i).map (fun p => zT (rz a (tmR m p))) = Z3 at *
    simp [-ev_add, -ev_lc, lb__law_ring_shown_1, e2, ad]) () trivial
  have hz : PyData.tuple ((prs m).map fun p => zT (rz a (tmR m p))) = wsT ((prs m).map fun p => rz a (tmR m p)) := by unfold wsT; rw [List.map_map]; rfl
  have e1 : fForL (fun _ => True) (tgN false 3) lb__law_ring_shown_1 ((List.range m).map fun i => PyData.int (0 + (i : Nat))) [di a, di m, oT [], none, none, none] = some (.nx [di a, di m, oT ((prs m).map fun p => zT (rz a (tmR m p))), none, none, none]) := e1
  generalize (prs m).map (fun p => zT (rz a (tmR m p))) = PZ at *
  have t1 : (fSet false 2 (fLstN fNil)) [di a, di m, none, none, none, none] = some (.nx [di a, di m, oT [], none, none, none]) := by simp
  have t2 : (fFor (fItR1 (fVar 1)) (tgN false 3) lb__law_ring_shown_1) [di a, di m, oT [], none, none, none] = _ := for_rng (n := m) (by simp) (by omega) e1
  have e3 : fLc (fItR1 (fVar 1)) (tgN false 5) fYes le__law_ring_shown_1 [5] [di a, di m, oT PZ, none, none, none] = some (.tmp (.lst ((List.range m).map fun k => zT (rz a k))), [di a, di m, oT PZ, none, none, none]) := lc_rng (n := m) (fun k => zT (rz a k)) (by simp) (by omega) (by simp) (by simp) (fun k hk => by
    have r := rp a k (by omega)
    exact ⟨[di a, di m, oT PZ, none, none, di k], [di a, di m, oT PZ, none, none, di k], by simp, by simp [-ev_mul, le__law_ring_shown_1, r], by simp⟩)
  have hw : PyData.tuple ((List.range m).map fun k => zT (rz a k)) = wsT ((List.range m).map (rz a)) := by unfold wsT; rw [List.map_map]; rfl
  have t3 : (fRet [0, 1] (fTupN (fCons (fCB gTuple (fCons (fLc (fItR1 (fVar 1)) (tgN false 5) fYes le__law_ring_shown_1 [5]) fNil)) (fCons (fCB gTuple (fCons (fVar 2) fNil)) fNil)))) [di a, di m, oT PZ, none, none, none] = some (.rt (.dat (shT a m (tmR m))) [di a, di m, oT PZ, none, none, none]) := by
    unfold shT
    rw [← hz, ← hw]
    generalize (List.range m).map (fun k => zT (rz a k)) = Z at *
    simp [-ev_lc, e3, gTuple]
  exact run_rt rfl ((seq_nx t1).trans ((seq_nx t2).trans t3)) (by simp)
theorem e_ladder_shown {m : Nat} (hm : m + 1 ≤ 100) : m__law_ladder_shown [.dat (.int a), .dat (.int m)] = some (.dat (shT a (m + 1) (tmL m)), []) := by
  obtain ⟨_, e1, _⟩ := for_r (β := Unit) (g := tgN false 3) (b := lb__law_ladder_shown_1) (fun i _ => [di a, di m, oT ((prI (m + 1) i).map fun p => zT (rz a (tmL m p))), none, none, none]) (fun _ _ => True) (m + 1) 0 (fun i _ hi _ => by
    have e2 : fLc (fItR2 (fBin gAdd (fVar 3) (fC (.int 1))) (fBin gAdd (fVar 1) (fC (.int 1)))) (tgN false 4) fYes le__law_ladder_shown_2 [4] [di a, di m, oT ((prI (m + 1) i).map fun p => zT (rz a (tmL m p))), di i, none, none] = some (.tmp (.lst ((List.range (m + 1 - (i + 1))).map fun k => zT (rz a (tmL m (i, i + 1 + k))))), [di a, di m, oT ((prI (m + 1) i).map fun p => zT (rz a (tmL m p))), di i, none, none]) :=
      lc_it (e := fun k => nI (i + 1 + k)) (xs := List.range (m + 1 - (i + 1))) (fun k => zT (rz a (tmL m (i, i + 1 + k)))) (it_r2 (by simp) (by simp) (by omega) (by omega)) (by simp; omega) (by simp) (by simp) (fun k hk => by
        have hk := List.mem_range.mp hk
        refine ⟨[di a, di m, oT ((prI (m + 1) i).map fun p => zT (rz a (tmL m p))), di i, dd (nI (i + 1 + k)), none], [di a, di m, oT ((prI (m + 1) i).map fun p => zT (rz a (tmL m p))), di i, dd (nI (i + 1 + k)), none], by simp, ?_, by simp⟩
        generalize (prI (m + 1) i).map (fun p => zT (rz a (tmL m p))) = Z at *
        have hT : tmL m (i, i + 1 + k) = m - (i + 1 + k) := rfl
        rw [hT]
        have r := rp a (m - (i + 1 + k)) (by omega)
        rw [show ((m - (i + 1 + k) : Nat) : Int) = (m : Int) - ((i : Int) + 1 + k) by omega] at r
        simp [-ev_mul, le__law_ladder_shown_2, r, nI])
    have hl := prI_len (m + 1) i
    have hin : i * (m + 1) ≤ 100 * 100 := Nat.mul_le_mul (by omega) hm
    have ad := addL_ok (xs := (prI (m + 1) i).map fun p => zT (rz a (tmL m p))) (ys := (List.range (m + 1 - (i + 1))).map fun k => zT (rz a (tmL m (i, i + 1 + k)))) (i := 2) (ρ := [di a, di m, oT ((prI (m + 1) i).map fun p => zT (rz a (tmL m p))), di i, none, none]) rfl (by simp; omega)
    rw [pz_succ] at ad
    refine ⟨[di a, di m, oT ((prI (m + 1) i).map fun p => zT (rz a (tmL m p))), di i, none, none], (), by simp, .inl ?_, trivial⟩
    generalize (List.range (m + 1 - (i + 1))).map (fun k => zT (rz a (tmL m (i, i + 1 + k)))) = Z at *
    generalize (prI (m + 1) (i + 1)).map (fun p => zT (rz a (tmL m p))) = Z2 at *
    generalize (prI (m + 1) i).map (fun p => zT (rz a (tmL m p))) = Z3 at *
    simp [-ev_add, -ev_lc, lb__law_ladder_shown_1, e2, ad]) () trivial
  have hz : PyData.tuple ((prs (m + 1)).map fun p => zT (rz a (tmL m p))) = wsT ((prs (m + 1)).map fun p => rz a (tmL m p)) := by unfold wsT; rw [List.map_map]; rfl
  have e1 : fForL (fun _ => True) (tgN false 3) lb__law_ladder_shown_1 ((List.range (m + 1)).map fun i => PyData.int (0 + (i : Nat))) [di a, di m, oT [], none, none, none] = some (.nx [di a, di m, oT ((prs (m + 1)).map fun p => zT (rz a (tmL m p))), none, none, none]) := e1
  generalize (prs (m + 1)).map (fun p => zT (rz a (tmL m p))) = PZ at *
  have t1 : (fSet false 2 (fLstN fNil)) [di a, di m, none, none, none, none] = some (.nx [di a, di m, oT [], none, none, none]) := by simp
  have t2 : (fFor (fItR1 (fBin gAdd (fVar 1) (fC (.int 1)))) (tgN false 3) lb__law_ladder_shown_1) [di a, di m, oT [], none, none, none] = _ := for_rng (n := m + 1) (by simp) (by omega) e1
  have e3 : fLc (fItR1 (fBin gAdd (fVar 1) (fC (.int 1)))) (tgN false 5) fYes le__law_ladder_shown_1 [5] [di a, di m, oT PZ, none, none, none] = some (.tmp (.lst ((List.range (m + 1)).map fun k => zT (rz a k))), [di a, di m, oT PZ, none, none, none]) := lc_rng (n := m + 1) (fun k => zT (rz a k)) (by simp) (by omega) (by simp) (by simp) (fun k hk => by
    have r := rp a k (by omega)
    exact ⟨[di a, di m, oT PZ, none, none, di k], [di a, di m, oT PZ, none, none, di k], by simp, by simp [-ev_mul, le__law_ladder_shown_1, r], by simp⟩)
  have hw : PyData.tuple ((List.range (m + 1)).map fun k => zT (rz a k)) = wsT ((List.range (m + 1)).map (rz a)) := by unfold wsT; rw [List.map_map]; rfl
  have t3 : (fRet [0, 1] (fTupN (fCons (fCB gTuple (fCons (fLc (fItR1 (fBin gAdd (fVar 1) (fC (.int 1)))) (tgN false 5) fYes le__law_ladder_shown_1 [5]) fNil)) (fCons (fCB gTuple (fCons (fVar 2) fNil)) fNil)))) [di a, di m, oT PZ, none, none, none] = some (.rt (.dat (shT a (m + 1) (tmL m))) [di a, di m, oT PZ, none, none, none]) := by
    unfold shT
    rw [← hz, ← hw]
    generalize (List.range (m + 1)).map (fun k => zT (rz a k)) = Z at *
    simp [-ev_lc, e3, gTuple]
  exact run_rt rfl ((seq_nx t1).trans ((seq_nx t2).trans t3)) (by simp)
end
end LW

namespace LW
open PySem PySem.Spec PyProof.Rows L2 PD
/-! ### composing pure parts -/
theorem bin_of {g : GB} {f1 f2 : FE} {ρ : Ev} {x y z : T} (h1 : f1 ρ = some (.dat x, ρ)) (h2 : f2 ρ = some (.dat y, ρ)) (h : g (.dat x) (.dat y) ρ = some (.dat z)) : fBin g f1 f2 ρ = some (.dat z, ρ) := by
  rw [ev_bin, h1, Option.bind_some, h2, Option.bind_some, h]; rfl
theorem tup1_of {f1 : FE} {ρ : Ev} {x : T} (h1 : f1 ρ = some (.dat x, ρ)) : fTupN (fCons f1 fNil) ρ = some (.dat (.tuple [x]), ρ) := by simp [h1]
theorem tup2_of {f1 f2 : FE} {ρ : Ev} {x y : T} (h1 : f1 ρ = some (.dat x, ρ)) (h2 : f2 ρ = some (.dat y, ρ)) : fTupN (fCons f1 (fCons f2 fNil)) ρ = some (.dat (.tuple [x, y]), ρ) := by simp [h1, h2]
def DA1 (fa : FA) (ts : List T) (ρ : Ev) : Prop := fa ρ = some (ts.map .dat, ρ)
theorem da_nil' (ρ : Ev) : DA1 fNil [] ρ := rfl
theorem da_cons' {f : FE} {fa : FA} {t : T} {ts : List T} {ρ : Ev} (h : f ρ = some (.dat t, ρ)) (h2 : DA1 fa ts ρ) : DA1 (fCons f fa) (t :: ts) ρ := by
  unfold DA1 at *
  simp [h, h2]
theorem datsOf_map : ∀ ts : List T, datsOf (ts.map .dat) = some ts
  | [] => rfl
  | t :: ts => by
    show (datsOf (Hd.dat t :: ts.map .dat)) = _
    unfold datsOf
    rw [datsOf_map ts]; rfl
theorem lst_of' {fa : FA} {ts : List T} {ρ : Ev} (h : DA1 fa ts ρ) : fLstN fa ρ = some (.tmp (.lst ts), ρ) := by
  unfold DA1 at h
  rw [ev_lstN, h, Option.bind_some, datsOf_map]; rfl
section
variable {ws : List (List Int)}
theorem cutW_to {n : Nat} (ρ : Ev) : gSl (.dat (wsT ws)) none (some (n : Int)) ρ = some (.dat (wsT (ws.take n))) := by
  show some (Hd.dat (.tuple (cutT (ws.map zT) none (some _)))) = _
  rw [cut_to (by omega), ← List.map_take]
  rfl
theorem cutW_from {n : Nat} (ρ : Ev) : gSl (.dat (wsT ws)) (some (n : Int)) none ρ = some (.dat (wsT (ws.drop n))) := by
  show some (Hd.dat (.tuple (cutT (ws.map zT) (some _) none))) = _
  rw [cut_from (by omega), ← List.map_drop]
  rfl
theorem cutW_m1 (ρ : Ev) : gSl (.dat (wsT ws)) none (some (-1)) ρ = some (.dat (wsT (ws.take (ws.length - 1)))) := by
  show some (Hd.dat (.tuple (cutT (ws.map zT) none (some _)))) = _
  rw [cut_m1, ← List.map_take, List.length_map]
  rfl
theorem addW {a b : List (List Int)} (h : a.length + b.length ≤ 1000000) (ρ : Ev) : gAdd (.dat (wsT a)) (.dat (wsT b)) ρ = some (.dat (wsT (a ++ b))) := by
  have := addT_ok (xs := a.map zT) (ys := b.map zT) (ρ := ρ) (by simpa using h)
  rw [← List.map_append] at this
  exact this
theorem addZ {a b : List Int} (h : a.length + b.length ≤ 1000000) (ρ : Ev) : gAdd (.dat (zT a)) (.dat (zT b)) ρ = some (.dat (zT (a ++ b))) := by
  have := addT_ok (xs := a.map .int) (ys := b.map .int) (ρ := ρ) (by simpa using h)
  rw [← List.map_append] at this
  exact this
theorem var_of {i : Nat} {ρ : Ev} {t : T} (h : ρ[i]? = some (dd t)) : fVar i ρ = some (.dat t, ρ) := by simp [h]
theorem sl_to {f : FE} {k : Nat} {i : Nat} {ρ : Ev} (h : f ρ = some (.dat (wsT ws), ρ)) (hi : ρ[i]? = some (di k)) : fSl f fNoPart (fPart (fVar i)) ρ = some (.dat (wsT (ws.take k)), ρ) := by
  have := cutW_to (ws := ws) (n := k) ρ
  simp [h, hi, this]
theorem sl_to1 {f : FE} {ρ : Ev} (h : f ρ = some (.dat (wsT ws), ρ)) : fSl f fNoPart (fPart (fC (.int 1))) ρ = some (.dat (wsT (ws.take 1)), ρ) := by
  have : gSl (.dat (wsT ws)) none (some 1) ρ = some (.dat (wsT (ws.take 1))) := cutW_to (ws := ws) (n := 1) ρ
  simp [h, this]
theorem sl_m1 {f : FE} {ρ : Ev} (h : f ρ = some (.dat (wsT ws), ρ)) : fSl f fNoPart (fPart (fNeg (fC (.int 1)))) ρ = some (.dat (wsT (ws.take (ws.length - 1))), ρ) := by
  have := cutW_m1 (ws := ws) ρ
  simp [h, this]
theorem sl_fr {f : FE} {k : Nat} {i : Nat} {ρ : Ev} (h : f ρ = some (.dat (wsT ws), ρ)) (hi : ρ[i]? = some (di k)) : fSl f (fPart (fBin gAdd (fVar i) (fC (.int 1)))) fNoPart ρ = some (.dat (wsT (ws.drop (k + 1))), ρ) := by
  have := cutW_from (ws := ws) (n := k + 1) ρ
  rw [show ((k + 1 : Nat) : Int) = (k : Int) + 1 by omega] at this
  simp [h, hi, this]
theorem back_of {f : FE} {ρ : Ev} (h : f ρ = some (.dat (wsT ws), ρ)) : fBackT f fNoPart ρ = some (.dat (wsT ws.reverse), ρ) := by
  have : PyData.tuple (ws.map zT).reverse = wsT ws.reverse := by unfold wsT; rw [List.map_reverse]
  rw [← this]
  simp [h]
theorem ix_of {f : FE} {k i : Nat} {ρ : Ev} (h : f ρ = some (.dat (wsT ws), ρ)) (hi : ρ[i]? = some (di k)) (hk : k < ws.length) : fBin gIx f (fVar i) ρ = some (.dat (zT (gw ws k)), ρ) := by
  have a := gw_at hk
  refine bin_of h (var_of hi) ?_
  simp [a]
/-- a word put in the place of another one -/
theorem put_of {f g : FE} {k i : Nat} {ρ : Ev} {u : List Int} (hl : ws.length ≤ 100000) (h : f ρ = some (.dat (wsT ws), ρ)) (hi : ρ[i]? = some (di k)) (hg : g ρ = some (.dat (zT u), ρ)) :
    fBin gAdd (fBin gAdd (fSl f fNoPart (fPart (fVar i))) (fTupN (fCons g fNil))) (fSl f (fPart (fBin gAdd (fVar i) (fC (.int 1)))) fNoPart) ρ = some (.dat (wsT (ws.take k ++ [u] ++ ws.drop (k + 1))), ρ) := by
  refine bin_of (bin_of (sl_to h hi) (tup1_of hg) (addW (b := [u]) ?_ ρ)) (sl_fr h hi) (addW ?_ ρ)
  · rw [List.length_take]; simp; omega
  · rw [List.length_append, List.length_take, List.length_drop]; simp; omega
end
end LW

namespace LW
open PySem PySem.Spec PyProof.Rows L2 PD
section
variable {tr B n : Nat} {M : Nat → Nat → Nat} {e : Nat → Bool}
theorem e_law_word {ds : List Int} {k : Nat} (ht : tr ≤ 5) (hk : k ≤ 1000) : ∃ (u : List Int) (ds' : List Int), m__law_word [.obj (.lst (ds.map .int)), .dat (.int tr), .dat (.int k)] = some (.dat (zT u), [.lst (ds'.map .int)]) ∧ u.length = k := by
  have h2 := two_one tr (by omega)
  have hp := Nat.two_pow_pos tr
  obtain ⟨B, hB⟩ : ∃ B, B = 2 ^ tr := ⟨_, rfl⟩
  rw [← hB] at h2 hp
  obtain ⟨out, ds', e, e1, e2⟩ := lc_rngS (β := List Int) (g := tgN false 3) (te := le__law_word_1) (f := fVar 2) (vs := [3]) (n := k) (fun ds => [ol ds, di tr, di k, none]) (fun _ t => ∃ v : Nat, t = nI v ∧ v < B) ds (by simp) (by omega) (fun b => by simp) (fun b b' => by simp) (fun j hj b => by
    obtain ⟨v, ds', k1, hv⟩ := e_take (ds := b) (many := B) hp
    simp only [nI] at h2 k1
    exact ⟨[ol b, di tr, di k, di j], nI v, [ol ds', di tr, di k, di j], ds', by simp, by simp [-ev_gI, le__law_word_1, h2, k1, nI], by simp, v, rfl, hv⟩)
  obtain ⟨ns, rfl, h1, _⟩ := nats_of e1 e2
  refine ⟨ns.map fun x : Nat => (x : Int), ds', ?_, by simpa using h1⟩
  have hz : PyData.tuple (ns.map nI) = zT (ns.map fun x : Nat => (x : Int)) := by unfold zT; rw [map_nI]
  unfold m__law_word d__law_word
  rw [ev_run3]
  generalize ns.map nI = Z at *
  simp [-ev_lc, e, gTuple, hz]
/-- what a row's words and parts may be -/
def Fine (ws ps : List (List Int)) : Prop := ws.length ≤ 1000 ∧ ps.length ≤ 100000 ∧ (∀ u ∈ ws, u.length ≤ 1000) ∧ ∀ u ∈ ps, u.length ≤ 1000
def rowT (r : List (List Int) × List (List Int)) : T := .tuple [wsT r.1, wsT r.2]
abbrev SJ (ds : List Int) (m : T) (ws ps : List (List Int)) (c : T) (x5 x6 x7 x8 x9 : Option Sl) : Ev := [ol ds, dd m, dd (wsT ws), dd (wsT ps), dd c, x5, x6, x7, x8, x9]
theorem spoilt_loop (ht : tr ≤ 5) (hn : n ≤ 100) (hn0 : 0 < n) (hM : ∀ k, k < n → ∀ l, l < 2 ^ tr → M k l < n) {ds : List Int} {ws ps : List (List Int)} {c : T} {x5 x6 x7 : Option Sl} {rows : List (List (List Int) × List (List Int))} (hr : ∀ r ∈ rows, Fine r.1 r.2) :
    sd__law_are_spoilt_judged_6 (SJ ds (mk tr (2 ^ tr) n M e) ws ps c x5 x6 x7 (oT (rows.map rowT)) none) = some (.nx (SJ ds (mk tr (2 ^ tr) n M e) ws ps c x5 x6 x7 (oT (rows.map rowT)) none)) := by
  have kj := fun (r : List (List Int) × List (List Int)) (h : Fine r.1 r.2) => e_judge (tr := tr) (e := e) ht hn hn0 hM h.1 h.2.2.1 h.2.2.2
  have ks := fun (r : List (List Int) × List (List Int)) (h : Fine r.1 r.2) => e_isshown (tr := tr) (e := e) ht hn hn0 hM h.1 h.2.1 h.2.2.1 h.2.2.2
  obtain ⟨JJ, hJ⟩ : ∃ JJ : List (List Int) → List (List Int) → Bool, JJ = fun a b => bo (JD (2 ^ tr) n M e a b) := ⟨_, rfl⟩
  have kj : ∀ r : List (List Int) × List (List Int), Fine r.1 r.2 → m_judge_shown_least [.dat (mk tr (2 ^ tr) n M e), .dat (.tuple [wsT r.1, wsT r.2])] = some (.dat (.bool (JJ r.1 r.2)), []) := fun r h => by rw [hJ]; exact kj r h
  have ks : ∀ r : List (List Int) × List (List Int), Fine r.1 r.2 → m__law_is_shown [.dat (mk tr (2 ^ tr) n M e), .dat (wsT r.1), .dat (wsT r.2)] = some (.dat (.bool (JJ r.1 r.2)), []) := fun r h => by rw [hJ]; exact ks r h
  generalize mk tr (2 ^ tr) n M e = m at *
  obtain ⟨_, e1, _⟩ := for_l (β := Unit) (g := tgN false 9) (b := lb__law_are_spoilt_judged_1) (ck := ckOf (rows.map rowT) (some 8)) (fun _ _ => SJ ds m ws ps c x5 x6 x7 (oT (rows.map rowT)) none) (fun _ _ => True) (rows.map rowT) (fun i x _ hx _ => by
    obtain ⟨r, hr', rfl⟩ := List.mem_map.mp (List.mem_of_getElem? hx)
    have hf := hr r hr'
    have k1 := kj r hf
    have k2 := ks r hf
    have k3 := same6 (.bool 5 (JJ r.1 r.2))
    have a0 : atI [wsT r.1, wsT r.2] 0 = some (wsT r.1) := rfl
    have a1 : atI [wsT r.1, wsT r.2] 1 = some (wsT r.2) := rfl
    refine ⟨rfl, SJ ds m ws ps c x5 x6 x7 (oT (rows.map rowT)) (dd (rowT r)), (), by simp, .inl ?_, trivial⟩
    unfold rowT at *
    generalize rows.map (fun r => PyData.tuple [wsT r.1, wsT r.2]) = Z at *
    simp [lb__law_are_spoilt_judged_1, k1, k2, k3, a0, a1]) (fun _ _ => rfl) () trivial
  unfold sd__law_are_spoilt_judged_6
  rw [ev_for, ev_itE]
  have hi : itOf (.plc 8) (SJ ds m ws ps c x5 x6 x7 (oT (rows.map rowT)) none) = some (rows.map rowT, some 8) := rfl
  have hv : fVar 8 (SJ ds m ws ps c x5 x6 x7 (oT (rows.map rowT)) none) = some (.plc 8, SJ ds m ws ps c x5 x6 x7 (oT (rows.map rowT)) none) := rfl
  rw [hv, Option.bind_some, hi, Option.map_some, Option.bind_some]
  exact e1
theorem e_spoilt (ht : tr ≤ 5) (hn : n ≤ 100) (hn0 : 0 < n) (hM : ∀ k, k < n → ∀ l, l < 2 ^ tr → M k l < n) {ds : List Int} {ws ps : List (List Int)} {cell : Int} (h1 : 0 < ws.length) (h2 : 0 < ps.length) (h3 : ws.length ≤ 400) (h4 : ps.length ≤ 20000) (h5 : ∀ u ∈ ws, u.length ≤ 900) (h6 : ∀ u ∈ ps, u.length ≤ 900) :
    ∃ ds' : List Int, m__law_are_spoilt_judged [.obj (.lst (ds.map .int)), .dat (mk tr (2 ^ tr) n M e), .dat (wsT ws), .dat (wsT ps), .dat (.int cell)] = some (.dat (.bool true), [.lst (ds'.map .int)]) := by
  have loop := fun {ds : List Int} {x5 x6 x7 : Option Sl} {rows} hr => spoilt_loop (tr := tr) (e := e) ht hn hn0 hM (ds := ds) (ws := ws) (ps := ps) (c := .int cell) (x5 := x5) (x6 := x6) (x7 := x7) (rows := rows) hr
  obtain ⟨m, hm⟩ : ∃ m, m = mk tr (2 ^ tr) n M e := ⟨_, rfl⟩
  have h0 : ∀ ρ : Ev, ρ[1]? = some (dd m) → (fBin gIx (fVar 1) (fC (.int 0))) ρ = some (.dat (.int tr), ρ) := fun ρ h => by rw [hm] at h; simp [h, mk]
  rw [← hm] at loop ⊢
  clear hm hM
  obtain ⟨v1, ds1, k1, l1⟩ := e_take (ds := ds) (many := min 4 ws.length) (by omega)
  obtain ⟨v2, ds2, k2, l2⟩ := e_take (ds := ds1) (many := min 5 ps.length) (by omega)
  obtain ⟨k, hk⟩ : ∃ k, k = ws.length - 1 - v1 := ⟨_, rfl⟩
  obtain ⟨j, hj⟩ : ∃ j, j = ps.length - 1 - v2 := ⟨_, rfl⟩
  have t1 : sd__law_are_spoilt_judged_1 (SJ ds m ws ps (.int cell) none none none none none) = some (.nx (SJ ds2 m ws ps (.int cell) (di k) (di j) none none none)) := by
    have m1 : ∀ ρ, gMin [.dat (.int 4), .dat (.int (ws.length : Nat))] ρ = some (.dat (.int ((min 4 ws.length : Nat) : Int))) := fun ρ => by simp; omega
    have m2 : ∀ ρ, gMin [.dat (.int 5), .dat (.int (ps.length : Nat))] ρ = some (.dat (.int ((min 5 ps.length : Nat) : Int))) := fun ρ => by simp; omega
    have e1 : (ws.length : Int) - 1 - (v1 : Int) = (k : Int) := by omega
    have e2 : (ps.length : Int) - 1 - (v2 : Int) = (j : Int) := by omega
    simp only [nI] at k1 k2
    generalize ((min 4 ws.length : Nat) : Int) = K1 at *
    generalize ((min 5 ps.length : Nat) : Int) = K2 at *
    simp [-ev_min, sd__law_are_spoilt_judged_1, fPar, m1, m2, k1, k2, e1, e2]
  obtain ⟨v3, ds3, k3, l3⟩ := e_take (ds := ds2) (many := 6) (by decide)
  obtain ⟨u, ds4, k4, lu⟩ := e_law_word (tr := tr) (ds := ds3) (k := v3) ht (by omega)
  have t2 : sd__law_are_spoilt_judged_2 (SJ ds2 m ws ps (.int cell) (di k) (di j) none none none) = some (.nx (SJ ds4 m ws ps (.int cell) (di k) (di j) (dd (zT u)) none none)) := by
    have g := h0 (SJ ds2 m ws ps (.int cell) (di k) (di j) none none none) rfl
    simp only [nI] at k3
    have k3 : m__law_take [.obj (.lst (ds2.map .int)), .dat (.int 6)] = some (.dat (.int v3), [.lst (ds3.map .int)]) := k3
    unfold sd__law_are_spoilt_judged_2
    generalize (fBin gIx (fVar 1) (fC (.int 0))) = f at *
    simp [g, k3, k4]
  have hkl : k < ws.length := by omega
  have hjl : j < ps.length := by omega
  obtain ⟨r1, hr1⟩ : ∃ r1, r1 = [(ws.take k ++ [u] ++ ws.drop (k + 1), ps), (ws.take k ++ [gw ws k ++ [cell]] ++ ws.drop (k + 1), ps), (ws.take (ws.length - 1), ps), (ws ++ ws.take 1, ps)] := ⟨_, rfl⟩
  obtain ⟨r2, hr2⟩ : ∃ r2, r2 = [(ws, ps.take j ++ [u] ++ ps.drop (j + 1)), (ws, ps.take j ++ [gw ps j ++ [-1]] ++ ps.drop (j + 1)), (ws, ps.take (ps.length - 1)), (ws, ps ++ [[]])] := ⟨_, rfl⟩
  obtain ⟨r3, hr3⟩ : ∃ r3 : List (List (List Int) × List (List Int)), r3 = [(ws.reverse, ps), (ws, ps.reverse), ([], [])] := ⟨_, rfl⟩
  have gwl : (gw ws k).length ≤ 900 := h5 _ (gw_mem hkl)
  have gpl : (gw ps j).length ≤ 900 := h6 _ (gw_mem hjl)
  have t3 : sd__law_are_spoilt_judged_3 (SJ ds4 m ws ps (.int cell) (di k) (di j) (dd (zT u)) none none) = some (.nx (SJ ds4 m ws ps (.int cell) (di k) (di j) (dd (zT u)) (oT (r1.map rowT)) none)) := by
    obtain ⟨ρ, hρ⟩ : ∃ ρ, ρ = SJ ds4 m ws ps (.int cell) (di k) (di j) (dd (zT u)) none none := ⟨_, rfl⟩
    have w2 : fVar 2 ρ = some (.dat (wsT ws), ρ) := var_of (by rw [hρ]; rfl)
    have w3 : fVar 3 ρ = some (.dat (wsT ps), ρ) := var_of (by rw [hρ]; rfl)
    have w7 : fVar 7 ρ = some (.dat (zT u), ρ) := var_of (by rw [hρ]; rfl)
    have w4 : fVar 4 ρ = some (.dat (.int cell), ρ) := var_of (by rw [hρ]; rfl)
    have i5 : ρ[5]? = some (di k) := by rw [hρ]; rfl
    have q := lst_of' (da_cons' (tup2_of (put_of (by omega) w2 i5 w7) w3) (da_cons' (tup2_of (put_of (by omega) w2 i5 (bin_of (ix_of w2 i5 hkl) (tup1_of w4) (addZ (b := [cell]) (by simp; omega) ρ))) w3) (da_cons' (tup2_of (sl_m1 w2) w3) (da_cons' (tup2_of (bin_of w2 (sl_to1 w2) (addW (by rw [List.length_take]; omega) ρ)) w3) (da_nil' ρ)))))
    unfold sd__law_are_spoilt_judged_3
    rw [ev_set, ← hρ, q, hr1, hρ]
    rfl
  have t4 : sd__law_are_spoilt_judged_4 (SJ ds4 m ws ps (.int cell) (di k) (di j) (dd (zT u)) (oT (r1.map rowT)) none) = some (.nx (SJ ds4 m ws ps (.int cell) (di k) (di j) (dd (zT u)) (oT ((r1 ++ r2).map rowT)) none)) := by
    obtain ⟨ρ, hρ⟩ : ∃ ρ, ρ = SJ ds4 m ws ps (.int cell) (di k) (di j) (dd (zT u)) (oT (r1.map rowT)) none := ⟨_, rfl⟩
    have w2 : fVar 2 ρ = some (.dat (wsT ws), ρ) := var_of (by rw [hρ]; rfl)
    have w3 : fVar 3 ρ = some (.dat (wsT ps), ρ) := var_of (by rw [hρ]; rfl)
    have w7 : fVar 7 ρ = some (.dat (zT u), ρ) := var_of (by rw [hρ]; rfl)
    have i6 : ρ[6]? = some (di j) := by rw [hρ]; rfl
    have c1 : (fNeg (fC (.int 1))) ρ = some (.dat (.int (-1)), ρ) := by simp
    have c0 : (fTupN fNil) ρ = some (.dat (zT []), ρ) := by simp [zT]
    have q := lst_of' (da_cons' (tup2_of w2 (put_of (by omega) w3 i6 w7)) (da_cons' (tup2_of w2 (put_of (by omega) w3 i6 (bin_of (ix_of w3 i6 hjl) (tup1_of c1) (addZ (b := [-1]) (by simp; omega) ρ)))) (da_cons' (tup2_of w2 (sl_m1 w3)) (da_cons' (tup2_of w2 (bin_of w3 (tup1_of c0) (addW (b := [[]]) (by simp; omega) ρ))) (da_nil' ρ)))))
    have w8 : fVar 8 ρ = some (.plc 8, ρ) := by rw [hρ]; rfl
    have ad := addL_ok (xs := r1.map rowT) (ys := r2.map rowT) (i := 8) (ρ := ρ) (by rw [hρ]; rfl) (by rw [hr1, hr2]; simp)
    rw [← List.map_append] at ad
    unfold sd__law_are_spoilt_judged_4
    rw [ev_set, ev_bin, ← hρ, w8, Option.bind_some, q, Option.bind_some]
    have ad' : gAdd (.plc 8) (.tmp (.lst [.tuple [wsT ws, wsT (ps.take j ++ [u] ++ ps.drop (j + 1))], .tuple [wsT ws, wsT (ps.take j ++ [gw ps j ++ [-1]] ++ ps.drop (j + 1))], .tuple [wsT ws, wsT (ps.take (ps.length - 1))], .tuple [wsT ws, wsT (ps ++ [[]])]])) ρ = some (.tmp (.lst ((r1 ++ r2).map rowT))) := by
      rw [← ad, hr2]; rfl
    rw [ad', hρ]
    rfl
  have t5 : sd__law_are_spoilt_judged_5 (SJ ds4 m ws ps (.int cell) (di k) (di j) (dd (zT u)) (oT ((r1 ++ r2).map rowT)) none) = some (.nx (SJ ds4 m ws ps (.int cell) (di k) (di j) (dd (zT u)) (oT ((r1 ++ r2 ++ r3).map rowT)) none)) := by
    obtain ⟨ρ, hρ⟩ : ∃ ρ, ρ = SJ ds4 m ws ps (.int cell) (di k) (di j) (dd (zT u)) (oT ((r1 ++ r2).map rowT)) none := ⟨_, rfl⟩
    have w2 : fVar 2 ρ = some (.dat (wsT ws), ρ) := var_of (by rw [hρ]; rfl)
    have w3 : fVar 3 ρ = some (.dat (wsT ps), ρ) := var_of (by rw [hρ]; rfl)
    have c0 : (fTupN fNil) ρ = some (.dat (wsT []), ρ) := by simp [wsT]
    have q := lst_of' (da_cons' (tup2_of (back_of w2) w3) (da_cons' (tup2_of w2 (back_of w3)) (da_cons' (tup2_of c0 c0) (da_nil' ρ))))
    have w8 : fVar 8 ρ = some (.plc 8, ρ) := by rw [hρ]; rfl
    have ad := addL_ok (xs := (r1 ++ r2).map rowT) (ys := r3.map rowT) (i := 8) (ρ := ρ) (by rw [hρ]; rfl) (by rw [hr1, hr2, hr3]; simp)
    rw [← List.map_append] at ad
    unfold sd__law_are_spoilt_judged_5
    rw [ev_set, ev_bin, ← hρ, w8, Option.bind_some, q, Option.bind_some]
    have ad' : gAdd (.plc 8) (.tmp (.lst [.tuple [wsT ws.reverse, wsT ps], .tuple [wsT ws, wsT ps.reverse], .tuple [wsT [], wsT []]])) ρ = some (.tmp (.lst ((r1 ++ r2 ++ r3).map rowT))) := by
      rw [← ad, hr3]; rfl
    rw [ad', hρ]
    rfl
  have fine : ∀ r ∈ r1 ++ r2 ++ r3, Fine r.1 r.2 := fun r hr => by
    have w5 : ∀ u ∈ ws, u.length ≤ 1000 := fun u h => by have := h5 u h; omega
    have w6 : ∀ u ∈ ps, u.length ≤ 1000 := fun u h => by have := h6 u h; omega
    have put : ∀ (xs : List (List Int)) (i : Nat) (x : List Int), (∀ u ∈ xs, u.length ≤ 1000) → x.length ≤ 1000 → ∀ u ∈ xs.take i ++ [x] ++ xs.drop (i + 1), u.length ≤ 1000 := fun xs i x hx hl u hu => by
      rcases List.mem_append.mp hu with hu | hu
      · rcases List.mem_append.mp hu with hu | hu
        · exact hx u (List.mem_of_mem_take hu)
        · simp at hu; rw [hu]; exact hl
      · exact hx u (List.mem_of_mem_drop hu)
    have pl : ∀ (xs : List (List Int)) (i : Nat) (x : List Int), (xs.take i ++ [x] ++ xs.drop (i + 1)).length ≤ xs.length + 1 := fun xs i x => by
      rw [List.length_append, List.length_append, List.length_take, List.length_drop]; simp; omega
    have lc : (gw ws k ++ [cell]).length ≤ 1000 := by simp; omega
    have lj : (gw ps j ++ [-1]).length ≤ 1000 := by simp; omega
    rw [hr1, hr2, hr3] at hr
    simp only [List.cons_append, List.nil_append, List.mem_cons, List.not_mem_nil, or_false] at hr
    rcases hr with rfl | rfl | rfl | rfl | rfl | rfl | rfl | rfl | rfl | rfl | rfl
    · dsimp only; exact ⟨by have := pl ws k u; omega, by omega, put ws k u w5 (by omega), w6⟩
    · dsimp only; exact ⟨by have := pl ws k (gw ws k ++ [cell]); omega, by omega, put ws k _ w5 lc, w6⟩
    · dsimp only; exact ⟨by rw [List.length_take]; omega, by omega, fun u hu => w5 u (List.mem_of_mem_take hu), w6⟩
    · dsimp only; exact ⟨by rw [List.length_append, List.length_take]; omega, by omega, fun u hu => by
        rcases List.mem_append.mp hu with hu | hu
        · exact w5 u hu
        · exact w5 u (List.mem_of_mem_take hu), w6⟩
    · dsimp only; exact ⟨by omega, by have := pl ps j u; omega, w5, put ps j u w6 (by omega)⟩
    · dsimp only; exact ⟨by omega, by have := pl ps j (gw ps j ++ [-1]); omega, w5, put ps j _ w6 lj⟩
    · dsimp only; exact ⟨by omega, by rw [List.length_take]; omega, w5, fun u hu => w6 u (List.mem_of_mem_take hu)⟩
    · dsimp only; exact ⟨by omega, by rw [List.length_append]; simp; omega, w5, fun u hu => by
        rcases List.mem_append.mp hu with hu | hu
        · exact w6 u hu
        · simp at hu; rw [hu]; simp⟩
    · dsimp only; exact ⟨by rw [List.length_reverse]; omega, by omega, fun u hu => w5 u (List.mem_reverse.mp hu), w6⟩
    · dsimp only; exact ⟨by omega, by rw [List.length_reverse]; omega, w5, fun u hu => w6 u (List.mem_reverse.mp hu)⟩
    · dsimp only; exact ⟨by simp, by simp, by simp, by simp⟩
  have t6 := loop (ds := ds4) (x5 := di k) (x6 := di j) (x7 := dd (zT u)) (rows := r1 ++ r2 ++ r3) fine
  have t7 : sd__law_are_spoilt_judged_7 (SJ ds4 m ws ps (.int cell) (di k) (di j) (dd (zT u)) (oT ((r1 ++ r2 ++ r3).map rowT)) none) = some (.rt (.dat (.bool true)) (SJ ds4 m ws ps (.int cell) (di k) (di j) (dd (zT u)) (oT ((r1 ++ r2 ++ r3).map rowT)) none)) := by
    generalize (r1 ++ r2 ++ r3).map rowT = Z at *
    simp [sd__law_are_spoilt_judged_7]
  exact ⟨ds4, run_rt rfl ((seq_nx t1).trans ((seq_nx t2).trans ((seq_nx t3).trans ((seq_nx t4).trans ((seq_nx t5).trans ((seq_nx t6).trans t7)))))) (by simp)⟩
end
end LW

namespace LW
open PySem PySem.Spec PyProof.Rows L2 PD
section
variable {tr B n a : Nat} {M : Nat → Nat → Nat} {e : Nat → Bool}
/-! ### where a pair stands -/
def off (n i : Nat) : Nat := (prI n i).length
theorem prI_succ (n i : Nat) : prI n (i + 1) = prI n i ++ (List.range (n - (i + 1))).map fun k => (i, i + 1 + k) := by
  unfold prI
  rw [List.range_succ, List.flatMap_append]
  simp
theorem off_succ (n i : Nat) : off n (i + 1) = off n i + (n - (i + 1)) := by
  unfold off
  rw [prI_succ, List.length_append, List.length_map, List.length_range]
theorem prI_at {i k : Nat} (hk : k < n - (i + 1)) : ∀ m, i < m → (prI n m)[off n i + k]? = some (i, i + 1 + k)
  | 0, h => by omega
  | m + 1, h => by
    rw [prI_succ]
    by_cases e : i = m
    · subst e
      rw [List.getElem?_append_right (by unfold off; omega)]
      rw [show off n i + k - (prI n i).length = k by unfold off; omega, List.getElem?_map, List.getElem?_range hk]
      rfl
    · have ih := prI_at hk m (by omega)
      have := (List.getElem?_eq_some_iff.mp ih).1
      rw [List.getElem?_append_left this, ih]
theorem prI_ix : ∀ (m t : Nat) (p : Nat × Nat), (prI n m)[t]? = some p → t = off n p.1 + (p.2 - (p.1 + 1))
  | 0, t, p, h => by cases h
  | m + 1, t, p, h => by
    rw [prI_succ] at h
    by_cases ht : t < (prI n m).length
    · rw [List.getElem?_append_left ht] at h
      exact prI_ix m t p h
    · rw [List.getElem?_append_right (by omega), List.getElem?_map] at h
      have hlt : t - (prI n m).length < n - (m + 1) := by
        refine Nat.lt_of_not_le fun z => ?_
        rw [List.getElem?_eq_none (by simpa using z)] at h
        cases h
      rw [List.getElem?_range hlt] at h
      have h : some (m, m + 1 + (t - (prI n m).length)) = some p := h
      cases h
      show t = off n m + (m + 1 + (t - (prI n m).length) - (m + 1))
      unfold off
      omega
theorem pk_off {i k : Nat} (hi : i < n) (hk : k < n - (i + 1)) : pk n (off n i + k) = (i, i + 1 + k) := by
  have := prI_at hk n hi
  have h2 := pk_get (n := n) (k := off n i + k) (List.getElem?_eq_some_iff.mp this).1
  exact Option.some.inj (h2.symm.trans this)
theorem off_lt {i k : Nat} (hi : i < n) (hk : k < n - (i + 1)) : off n i + k < (prs n).length := (List.getElem?_eq_some_iff.mp (prI_at hk n hi)).1
theorem pk_inj {s t : Nat} (hs : s < (prs n).length) (ht : t < (prs n).length) (h : pk n s = pk n t) : s = t := by
  have h1 := prI_ix n s _ (pk_get hs)
  have h2 := prI_ix n t _ (pk_get ht)
  rw [h] at h1
  omega
/-! ### judgements that hold -/
theorem rn_rz (k s : Nat) : rn M s (rz a (k + 1)) = M (rn M s (rz a k)) a := by
  unfold rz
  rw [List.replicate_succ', rn_app]
  rfl
theorem rn_chain {T0 : Nat} {q : Nat → Nat × Nat} (C : Chain B n M e a T0 q) : ∀ t, t ≤ T0 → (rn M (q 0).1 (rz a t), rn M (q 0).2 (rz a t)) = q t
  | 0, _ => rfl
  | t + 1, h => by
    have ih := rn_chain C t (by omega)
    have h1 : rn M (q 0).1 (rz a t) = (q t).1 := congrArg Prod.fst ih
    have h2 : rn M (q 0).2 (rz a t) = (q t).2 := congrArg Prod.snd ih
    rw [rn_rz, rn_rz, h1, h2]
    exact C.go t (by omega)
theorem okw_rz (ha : a < B) (k : Nat) : okw B (rz a k) := fun x hx => by
  have := List.eq_of_mem_replicate hx
  omega
def Wz (a n : Nat) : List (List Int) := (List.range n).map (rz a)
def Pz (a n : Nat) (Tm : Nat × Nat → Nat) : List (List Int) := (prs n).map fun p => rz a (Tm p)
theorem gw_map {f : Nat → List Int} {k : Nat} (h : k < n) : gw ((List.range n).map f) k = f k := by
  have := gw_get (ws := (List.range n).map f) (k := k) (by simpa using h)
  rw [List.getElem?_map, List.getElem?_range h] at this
  exact (Option.some.inj this).symm
theorem gw_prs {f : Nat × Nat → List Int} {k : Nat} (h : k < (prs n).length) : gw ((prs n).map f) k = f (pk n k) := by
  have := gw_get (ws := (prs n).map f) (k := k) (by simpa using h)
  rw [List.getElem?_map, pk_get h] at this
  exact (Option.some.inj this).symm
/-- shown: a ring's or a ladder's -/
structure Shn (B n a : Nat) (M : Nat → Nat → Nat) (e : Nat → Bool) (Tm : Nat × Nat → Nat) : Prop where
  aB : a < B
  lt : ∀ k, k < n → ∀ l, l < B → M k l < n
  up : ∀ k, k + 1 < n → M k a = k + 1
  ch : ∀ p : Nat × Nat, p.1 < p.2 → p.2 < n → ∃ q : Nat → Nat × Nat, q 0 = p ∧ Chain B n M e a (Tm p) q
theorem Shn.lead {Tm : Nat × Nat → Nat} (S : Shn B n a M e Tm) : ∀ k, k < n → rn M 0 (rz a k) = k
  | 0, _ => rfl
  | k + 1, h => by rw [rn_rz, S.lead k (by omega), S.up k h]
theorem Shn.sep {Tm : Nat × Nat → Nat} (S : Shn B n a M e Tm) {p : Nat × Nat} (h1 : p.1 < p.2) (h2 : p.2 < n) : e (rn M p.1 (rz a (Tm p))) ≠ e (rn M p.2 (rz a (Tm p))) := by
  obtain ⟨q, h0, C⟩ := S.ch p h1 h2
  have h := rn_chain C (Tm p) (Nat.le_refl _)
  rw [h0] at h
  have e1 : rn M p.1 (rz a (Tm p)) = (q (Tm p)).1 := congrArg Prod.fst h
  have e2 : rn M p.2 (rz a (Tm p)) = (q (Tm p)).2 := congrArg Prod.snd h
  rw [e1, e2]
  exact C.diff
theorem Shn.jd {Tm : Nat × Nat → Nat} (S : Shn B n a M e Tm) : JD B n M e (Wz a n) (Pz a n Tm) := by
  refine ⟨by simp [Pz], ⟨by simp [Wz], fun u hu => ?_, fun k hk => ?_⟩, fun k hk => ?_⟩
  · obtain ⟨k, _, rfl⟩ := List.mem_map.mp hu
    exact okw_rz S.aB k
  · unfold Wz
    rw [gw_map hk]
    exact S.lead k hk
  · unfold Pz
    rw [gw_prs hk]
    have := pk_lt hk
    exact ⟨okw_rz S.aB _, S.sep this.1 this.2⟩
/-- words with rounds put in -/
def Wide (B n : Nat) (M : Nat → Nat → Nat) (u v : List Int) : Prop := okw B v ∧ ∀ s, s < n → rn M s v = rn M s u
theorem wide_of (hM : ∀ k, k < n → ∀ l, l < B → M k l < n) {u rd : List Int} (hu : okw B u) (hr : okw B rd) (hl : ∀ s, s < n → rn M s rd = s) (k : Nat) : Wide B n M u (u.take k ++ rd ++ u.drop k) := by
  have ht : okw B (u.take k) := fun x hx => hu x (List.mem_of_mem_take hx)
  refine ⟨fun x hx => ?_, fun s hs => ?_⟩
  · rcases List.mem_append.mp hx with hx | hx
    · rcases List.mem_append.mp hx with hx | hx
      · exact ht x hx
      · exact hr x hx
    · exact hu x (List.mem_of_mem_drop hx)
  · rw [rn_app, rn_app, hl _ (rn_lt hM _ _ hs ht), ← rn_app, List.take_append_drop]
theorem jd_wide {ws ps ws' ps' : List (List Int)} (h : JD B n M e ws ps) (hn0 : 0 < n) (h1 : ws'.length = ws.length) (h2 : ps'.length = ps.length) (w1 : ∀ k, k < ws.length → Wide B n M (gw ws k) (gw ws' k)) (w2 : ∀ k, k < ps.length → Wide B n M (gw ps k) (gw ps' k)) : JD B n M e ws' ps' := by
  obtain ⟨a1, ⟨b1, b2, b3⟩, c1⟩ := h
  refine ⟨by rw [h2]; exact a1, ⟨by rw [h1]; exact b1, fun u hu => ?_, fun k hk => ?_⟩, fun k hk => ?_⟩
  · obtain ⟨k, hk, e⟩ := List.getElem_of_mem hu
    have : gw ws' k = u := by
      have := gw_get hk
      rw [List.getElem?_eq_getElem hk, e] at this
      exact (Option.some.inj this).symm
    rw [← this]
    exact (w1 k (by omega)).1
  · rw [(w1 k (by omega)).2 0 hn0]
    exact b3 k hk
  · have hw := w2 k (by omega)
    have hp := pk_lt hk
    refine ⟨hw.1, ?_⟩
    rw [hw.2 _ (by omega), hw.2 _ (by omega)]
    exact (c1 k hk).2
/-- the pair of the old states -/
def mm (b : Nat → Nat) (p : Nat × Nat) : Nat × Nat := (min (b p.1) (b p.2), max (b p.1) (b p.2))
theorem rn_nm {s : List Nat} (P : IsP s n) (hM : ∀ k, k < n → ∀ l, l < B → M k l < n) : ∀ (u : List Int) (t : Nat), t < n → okw B u → rn (nmM s M) t u = pg s (rn M (s.idxOf t) u)
  | [], t, h, _ => (P.pi h).symm
  | x :: u, t, h, ho => by
    have hx := ho x (by simp)
    have hlt := hM _ (P.ixlt h) x.toNat (by omega)
    have h2 := rn_nm P hM u (pg s (M (s.idxOf t) x.toNat)) (P.lt hlt) fun y hy => ho y (by simp [hy])
    rw [P.ip hlt] at h2
    exact h2
theorem jd_mixed {Tm : Nat × Nat → Nat} (S : Shn B n a M e Tm) {s : List Nat} (P : IsP s n) (s0 : pg s 0 = 0) (hn0 : 0 < n) :
    JD B n (nmM s M) (nmE s e) ((List.range n).map fun k => rz a (s.idxOf k)) ((prs n).map fun p => rz a (Tm (mm s.idxOf p))) := by
  have i0 : s.idxOf 0 = 0 := by
    have := P.ip hn0
    rwa [s0] at this
  refine ⟨by simp, ⟨by simp, fun u hu => ?_, fun k hk => ?_⟩, fun k hk => ?_⟩
  · obtain ⟨k, _, rfl⟩ := List.mem_map.mp hu
    exact okw_rz S.aB _
  · rw [gw_map hk, rn_nm P S.lt _ 0 hn0 (okw_rz S.aB _), i0, S.lead _ (P.ixlt hk), P.pi hk]
  · rw [gw_prs hk]
    have hp := pk_lt hk
    obtain ⟨p, hpp⟩ : ∃ p, p = pk n k := ⟨_, rfl⟩
    rw [← hpp] at hp ⊢
    have ok := okw_rz S.aB (Tm (mm s.idxOf p))
    refine ⟨ok, ?_⟩
    have l1 : p.1 < n := by omega
    rw [rn_nm P S.lt _ p.1 l1 ok, rn_nm P S.lt _ p.2 hp.2 ok]
    show e (s.idxOf (pg s _)) ≠ e (s.idxOf (pg s _))
    rw [P.ip (rn_lt S.lt _ _ (P.ixlt l1) ok), P.ip (rn_lt S.lt _ _ (P.ixlt hp.2) ok)]
    have hne : s.idxOf p.1 ≠ s.idxOf p.2 := fun z => by
      have := P.ixinj l1 hp.2 z
      omega
    have a1 := P.ixlt l1
    have a2 := P.ixlt hp.2
    unfold mm
    dsimp only
    rcases Nat.lt_or_gt_of_ne hne with h | h
    · rw [Nat.min_eq_left (by omega), Nat.max_eq_right (by omega)]
      exact S.sep (p := (s.idxOf p.1, s.idxOf p.2)) h a2
    · rw [Nat.min_eq_right (by omega), Nat.max_eq_left (by omega)]
      exact fun z => S.sep (p := (s.idxOf p.2, s.idxOf p.1)) h a1 z.symm
end
end LW

namespace LW
open PySem PySem.Spec PyProof.Rows L2 PD
theorem place_t {n : Nat} {s : List Nat} (P : IsP s n) {t i j : Nat} (ht : t < n) {ρ : Ev} (hi : ρ[i]? = some (dd (tI s))) (hj : ρ[j]? = some (di t)) : fPl false fPlace (fVar i) (fVar j) ρ = some (.dat (nI (s.idxOf t)), ρ) := by
  have h1 : fVar j ρ = some (.dat (.int t), ρ) := by simp [hj]
  have h2 : fVar i ρ = some (.dat (tI s), ρ) := by simp [hi]
  have h3 : tupOf (.dat (tI s)) = some (s.map nI) := rfl
  have h4 : guardP (min (PyData.depthAll (s.map nI)) (PyData.depth (.int (t : Nat))) ≤ 60) = some () := guardP_pos (by rw [depth_i]; omega)
  have h5 : fPlace (s.map nI) (.int (t : Nat)) = some ((s.idxOf t : Nat) : Int) := by
    refine place_ok (k := s.idxOf t) ?_ rfl fun k hk y hy => ?_
    · have := pg_get (ps := s) (i := s.idxOf t) (by rw [P.len]; exact P.ixlt ht)
      rw [List.getElem?_map, this, P.pi ht]; rfl
    · have hkn : k < n := by have := P.ixlt ht; omega
      have := pg_get (ps := s) (i := k) (by rw [P.len]; exact hkn)
      rw [List.getElem?_map, this] at hy
      have hy : some (nI (pg s k)) = some y := hy
      cases hy
      have h : PyData.eqv (nI (pg s k)) (.int (t : Nat)) = (((pg s k : Nat) : Int) == (t : Int)) := by simp [nI]
      rw [h, beq_eq_false_iff_ne]
      intro z
      have z : pg s k = t := by omega
      have := P.ip hkn
      rw [z] at this
      omega
  rw [ev_pl_t, h2, Option.bind_some]
  simp only [h3, Option.bind_some, h1, h4, h5]
  rfl
theorem cutZ_to {u : List Int} {n : Nat} (ρ : Ev) : gSl (.dat (zT u)) none (some (n : Int)) ρ = some (.dat (zT (u.take n))) := by
  show some (Hd.dat (.tuple (cutT (u.map .int) none (some _)))) = _
  rw [cut_to (by omega), ← List.map_take]
  rfl
theorem cutZ_from {u : List Int} {n : Nat} (ρ : Ev) : gSl (.dat (zT u)) (some (n : Int)) none ρ = some (.dat (zT (u.drop n))) := by
  show some (Hd.dat (.tuple (cutT (u.map .int) (some _) none))) = _
  rw [cut_from (by omega), ← List.map_drop]
  rfl
theorem e_put {ds : List Int} {u rd : List Int} (hu : u.length ≤ 1000) (hr : rd.length ≤ 1000) : ∃ (k : Nat) (ds' : List Int), m__law_put_in [.obj (.lst (ds.map .int)), .dat (zT u), .dat (zT rd)] = some (.dat (zT (u.take k ++ rd ++ u.drop k)), [.lst (ds'.map .int)]) := by
  obtain ⟨k, ds', k1, hk⟩ := e_take (ds := ds) (many := u.length + 1) (by omega)
  refine ⟨k, ds', ?_⟩
  have k1 : m__law_take [.obj (.lst (ds.map .int)), .dat (.int ((u.length : Int) + 1))] = some (.dat (.int k), [.lst (ds'.map .int)]) := k1
  obtain ⟨ρ, hρ⟩ : ∃ ρ : Ev, ρ = [ol ds', dd (zT u), dd (zT rd), di k] := ⟨_, rfl⟩
  have q7 : ∀ (i j : Int) ρ, gAdd (.dat (.int i)) (.dat (.int j)) ρ = some (.dat (.int (i + j))) := fun i j ρ => by simp
  have t1 : (fSet false 3 (fCall m__law_take (fCons (fVar 0) (fCons (fBin gAdd (fCB gLen (fCons (fVar 1) fNil)) (fC (.int 1))) fNil)))) [ol ds, dd (zT u), dd (zT rd), none] = some (.nx ρ) := by
    rw [hρ]
    simp [-ev_add, q7, k1]
  have w1 : fVar 1 ρ = some (.dat (zT u), ρ) := by rw [hρ]; rfl
  have w2 : fVar 2 ρ = some (.dat (zT rd), ρ) := by rw [hρ]; rfl
  have c1 : fSl (fVar 1) fNoPart (fPart (fVar 3)) ρ = some (.dat (zT (u.take k)), ρ) := by
    have := cutZ_to (u := u) (n := k) ρ
    rw [hρ] at this ⊢
    simp [this]
  have c2 : fSl (fVar 1) (fPart (fVar 3)) fNoPart ρ = some (.dat (zT (u.drop k)), ρ) := by
    have := cutZ_from (u := u) (n := k) ρ
    rw [hρ] at this ⊢
    simp [this]
  have c3 := bin_of (bin_of c1 w2 (addZ (by rw [List.length_take]; omega) ρ)) c2 (addZ (by rw [List.length_append, List.length_take, List.length_drop]; omega) ρ)
  have t2 : (fRet [0, 1, 2] (fBin gAdd (fBin gAdd (fSl (fVar 1) fNoPart (fPart (fVar 3))) (fVar 2)) (fSl (fVar 1) (fPart (fVar 3)) fNoPart))) ρ = some (.rt (.dat (zT (u.take k ++ rd ++ u.drop k))) ρ) := by
    generalize (fBin gAdd (fBin gAdd (fSl (fVar 1) fNoPart (fPart (fVar 3))) (fVar 2)) (fSl (fVar 1) (fPart (fVar 3)) fNoPart)) = f at *
    simp [c3]
  exact run_rt rfl ((seq_nx t1).trans t2) (by rw [hρ]; simp)
/-- words out of words, with a state -/
theorem lc_wS {β : Type} {it : FI} {g : GT} {te : FE} {vs : List Nat} {xs : List (List Int)} (S : β → Ev) (Q : List Int → List Int → Prop) (b0 : β) (hf : it (S b0) = some (xs.map zT, none, S b0)) (hn : xs.length ≤ 1000000) (hw : ∀ b, wipeE (S b) vs = S b) (hb : ∀ b b', backE (S b) (S b') vs = S b')
    (h : ∀ x ∈ xs, ∀ b, ∃ ρ1 v ρ3 b', g (zT x) (S b) = some ρ1 ∧ te ρ1 = some (.dat (zT v), ρ3) ∧ wipeE ρ3 vs = S b' ∧ Q x v) :
    ∃ (out : List (List Int)) (b' : β), fLc it g fYes te vs (S b0) = some (.tmp (.lst (out.map zT)), S b') ∧ out.length = xs.length ∧ ∀ k, k < xs.length → Q (gw xs k) (gw out k) := by
  have key : ∀ (ys : List (List Int)) (b : β), (∀ x ∈ ys, x ∈ xs) → ∃ (out : List (List Int)) (b' : β), fLcL (fun _ => True) g fYes te vs (ys.map zT) (S b) = some (out.map zT, S b') ∧ out.length = ys.length ∧ ∀ k, k < ys.length → Q (gw ys k) (gw out k) := by
    intro ys
    induction ys with
    | nil => intro b _; exact ⟨[], b, by rw [List.map_nil, fLcL, guardP_pos (by trivial)]; rfl, rfl, fun k hk => by cases hk⟩
    | cons y ys ih =>
      intro b hy
      obtain ⟨ρ1, v, ρ3, b1, e1, e2, e3, q⟩ := h y (hy y List.mem_cons_self) b
      obtain ⟨out, b2, e4, l, q2⟩ := ih b1 fun x hx => hy x (List.mem_cons_of_mem _ hx)
      refine ⟨v :: out, b2, ?_, by simp [l], fun k hk => ?_⟩
      · rw [List.map_cons, fLcL, guardP_pos (by trivial)]
        simp only [Option.bind_some, e1, ev_yes, if_true, e2, e3, e4, Option.map_some, List.map_cons]
      · rcases k with _ | k
        · exact q
        · exact q2 k (by simpa using hk)
  obtain ⟨out, b', e, l, q⟩ := key xs b0 fun _ h => h
  refine ⟨out, b', ?_, l, q⟩
  rw [ev_lc, hf]
  simp only [Option.bind_some, guard_small (show (xs.map zT).length ≤ 1000000 by simpa using hn), hw]
  rw [show (ckOf (xs.map zT) none) = fun _ => True from rfl, e]
  simp only [Option.map_some, hb]
abbrev UE (ds : List Int) (m sh rd c : T) (x5 x6 x7 x8 x9 x10 x11 x12 x13 x14 x15 x16 : Option Sl) : Ev := [ol ds, dd m, dd sh, dd rd, dd c, x5, x6, x7, x8, x9, x10, x11, x12, x13, x14, x15, x16, none, none]
section
variable {tr B n a : Nat} {M : Nat → Nat → Nat} {e : Nat → Bool}
def kvD (n : Nat) (P : List (List Int)) (g : Nat) : List (T × T) := kvG (fun t => pT (pk n t)) (fun t => zT (gw P t)) g
theorem told_dict (hn : n ≤ 100) (hn2 : 2 ≤ n) {P : List (List Int)} (hP : P.length = (prs n).length) {ds : List Int} {m sh rd c : T} {x5 x7 x8 x10 : Option Sl} {s : List Nat} (hs : s.length = n) :
    sd__law_is_told_9 (UE ds m sh rd c x5 (dd (wsT P)) x7 x8 (dd (tI s)) x10 (oD []) (di (0 : Nat)) none none none none) = some (.nx (UE ds m sh rd c x5 (dd (wsT P)) x7 x8 (dd (tI s)) x10 (oD (kvD n P (prs n).length)) (di (prs n).length) none none none none)) := by
  have L0 : 0 < (prs n).length := by
    have := off_lt (n := n) (i := 0) (k := 0) (by omega) (by omega)
    omega
  have lp := prs_len n
  have hnn : n * n ≤ 10000 := Nat.mul_le_mul hn hn
  have inj : ∀ i j, i ≤ (prs n).length - 1 → j ≤ (prs n).length - 1 → PD.keyOf (pT (pk n i)) = PD.keyOf (pT (pk n j)) → i = j := fun i j hi hj h => pk_inj (by omega) (by omega) ((key_pT _ _).mp h)
  have dp : ∀ g, g < (prs n).length → dPut (kvD n P g) (pT (pk n g)) (zT (gw P g)) = kvD n P (g + 1) := fun g hg => dPut_kvG (key := fun t => pT (pk n t)) (val := fun t => zT (gw P t)) inj (by omega)
  have ok : ∀ i g, kOk (kvD n P g) (pT (pk n i)) = true := fun i g => kOk_kvG (key := fun t => pT (pk n t)) (fun i => pT_key _) i g
  obtain ⟨_, e1, _⟩ := for_r (β := Unit) (g := tgN false 13) (b := lb__law_is_told_2) (fun i _ => UE ds m sh rd c x5 (dd (wsT P)) x7 x8 (dd (tI s)) x10 (oD (kvD n P (off n i))) (di (off n i : Nat)) none none none none) (fun _ _ => True) n 0 (fun i _ hi _ => by
    obtain ⟨_, e2, _⟩ := for_t (β := Unit) (g := tgN false 14) (b := lb__law_is_told_1) (fun k _ => UE ds m sh rd c x5 (dd (wsT P)) x7 x8 (dd (tI s)) x10 (oD (kvD n P (off n i + k))) (di (off n i + k : Nat)) (di i) none none none) (fun _ _ => True) ((List.range (n - (i + 1))).map fun k => nI (i + 1 + k)) (fun k x _ hx _ => by
      have hk := (List.getElem?_eq_some_iff.mp hx).1
      rw [List.length_map, List.length_range] at hk
      rw [List.getElem?_map, List.getElem?_range hk] at hx
      have hx : some (nI (i + 1 + k)) = some x := hx
      cases hx
      have hlt := off_lt hi hk
      have hpk := pk_off hi hk
      have a1 := gw_at (ws := P) (k := off n i + k) (by omega)
      have d1 := dp (off n i + k) hlt
      have o1 := ok (off n i + k) (off n i + k)
      rw [hpk] at d1 o1
      have d1 : dPut (kvD n P (off n i + k)) (.tuple [nI i, nI (i + 1 + k)]) (zT (gw P (off n i + k))) = kvD n P (off n i + k + 1) := d1
      have o1 : kOk (kvD n P (off n i + k)) (.tuple [nI i, nI (i + 1 + k)]) = true := o1
      have hz : guardP ((kvD n P (off n i + k)).length < sizeLine) = some () := guardP_pos (by rw [sizeLine_eq]; unfold kvD kvG; simp; omega)
      refine ⟨UE ds m sh rd c x5 (dd (wsT P)) x7 x8 (dd (tI s)) x10 (oD (kvD n P (off n i + k))) (di (off n i + k : Nat)) (di i) (dd (nI (i + 1 + k))) none none, (), by simp, .inl ?_, trivial⟩
      rw [show off n i + (k + 1) = off n i + k + 1 by omega]
      generalize kvD n P (off n i + k) = K1 at *
      generalize kvD n P (off n i + k + 1) = K2 at *
      generalize off n i + k = z at *
      simp only [nI] at d1 o1
      push_cast at d1 o1
      simp [lb__law_is_told_1, a1, d1, o1, hz, nI]) () trivial
    rw [List.length_map, List.length_range, ← off_succ] at e2
    have e3 : (fFor (fItR2 (fBin gAdd (fVar 13) (fC (.int 1))) (fCB gLen (fCons (fVar 9) fNil))) (tgN false 14) lb__law_is_told_1) (UE ds m sh rd c x5 (dd (wsT P)) x7 x8 (dd (tI s)) x10 (oD (kvD n P (off n i))) (di (off n i : Nat)) (di i) none none none) = some (.nx (UE ds m sh rd c x5 (dd (wsT P)) x7 x8 (dd (tI s)) x10 (oD (kvD n P (off n (i + 1)))) (di (off n (i + 1) : Nat)) (di i) none none none)) := by
      rw [ev_for, it_r2 (a := i + 1) (n := n) (by simp) (by simp [hs]) (by omega) (by omega)]
      exact e2
    refine ⟨UE ds m sh rd c x5 (dd (wsT P)) x7 x8 (dd (tI s)) x10 (oD (kvD n P (off n i))) (di (off n i : Nat)) (di i) none none none, (), by simp, .inl ?_, trivial⟩
    unfold lb__law_is_told_2
    rw [ev_wipeS, e3]
    rfl) () trivial
  have h0 : off n 0 = 0 := rfl
  have h1 : kvD n P 0 = [] := rfl
  rw [h0, h1] at e1
  exact for_rng (n := n) (by simp [hs]) (by omega) e1
theorem told_moved (hn : n ≤ 100) (hn2 : 2 ≤ n) {Tm : Nat × Nat → Nat} {ds : List Int} {m sh rd c : T} {x5 x6 x7 x8 x12 : Option Sl} {s : List Nat} (Q : IsP s n) {b : List Nat} (hb : b = (List.range n).map s.idxOf) :
    sd__law_is_told_11 (UE ds m sh rd c x5 x6 x7 x8 (dd (tI s)) (oT (b.map nI)) (oD (kvD n (Pz a n Tm) (prs n).length)) x12 none none (oT []) none) = some (.nx (UE ds m sh rd c x5 x6 x7 x8 (dd (tI s)) (oT (b.map nI)) (oD (kvD n (Pz a n Tm) (prs n).length)) x12 none none (oT ((prs n).map fun p => zT (rz a (Tm (mm s.idxOf p))))) none)) := by
  have L0 : 0 < (prs n).length := by
    have := off_lt (n := n) (i := 0) (k := 0) (by omega) (by omega)
    omega
  have lp := prs_len n
  have inj : ∀ i j, i ≤ (prs n).length - 1 → j ≤ (prs n).length - 1 → PD.keyOf (pT (pk n i)) = PD.keyOf (pT (pk n j)) → i = j := fun i j hi hj h => pk_inj (by omega) (by omega) ((key_pT _ _).mp h)
  have dg : ∀ p : Nat × Nat, p.1 < p.2 → p.2 < n → dGet (kvD n (Pz a n Tm) (prs n).length) (pT p) = some (zT (rz a (Tm p))) := fun p h1 h2 => by
    have hlt := off_lt (n := n) (i := p.1) (k := p.2 - (p.1 + 1)) (by omega) (by omega)
    have hpk := pk_off (n := n) (i := p.1) (k := p.2 - (p.1 + 1)) (by omega) (by omega)
    have hp : pk n (off n p.1 + (p.2 - (p.1 + 1))) = p := by rw [hpk]; exact Prod.ext rfl (by show p.1 + 1 + (p.2 - (p.1 + 1)) = p.2; omega)
    have := dGet_kvG (key := fun t => pT (pk n t)) (val := fun t => zT (gw (Pz a n Tm) t)) inj (show off n p.1 + (p.2 - (p.1 + 1)) ≤ (prs n).length - 1 by omega) (prs n).length (by omega)
    rw [if_pos hlt] at this
    have this : dGet (kvD n (Pz a n Tm) (prs n).length) (pT (pk n (off n p.1 + (p.2 - (p.1 + 1))))) = some (zT (gw (Pz a n Tm) (off n p.1 + (p.2 - (p.1 + 1))))) := this
    rw [hp] at this
    rw [this]
    unfold Pz
    rw [gw_prs hlt, hp]
  have ok : ∀ p : Nat × Nat, p.1 < p.2 → p.2 < n → kOk (kvD n (Pz a n Tm) (prs n).length) (pT p) = true := fun p h1 h2 => by
    have hpk := pk_off (n := n) (i := p.1) (k := p.2 - (p.1 + 1)) (by omega) (by omega)
    have hp : pk n (off n p.1 + (p.2 - (p.1 + 1))) = p := by rw [hpk]; exact Prod.ext rfl (by show p.1 + 1 + (p.2 - (p.1 + 1)) = p.2; omega)
    rw [← hp]
    exact kOk_kvG (key := fun t => pT (pk n t)) (fun i => pT_key _) _ _
  have hbat : ∀ k, k < n → atI (b.map nI) (k : Int) = some (nI (s.idxOf k)) := fun k hk => by
    have := atI_nI (ps := b) (i := k) (by rw [hb]; simpa using hk)
    rw [hb] at this ⊢
    rwa [pg_range_map hk] at this
  generalize kvD n (Pz a n Tm) (prs n).length = K at *
  generalize b.map nI = bT at *
  obtain ⟨_, e1, _⟩ := for_r (β := Unit) (g := tgN false 13) (b := lb__law_is_told_3) (fun i _ => UE ds m sh rd c x5 x6 x7 x8 (dd (tI s)) (oT bT) (oD K) x12 none none (oT ((prI n i).map fun p => zT (rz a (Tm (mm s.idxOf p))))) none) (fun _ _ => True) n 0 (fun i _ hi _ => by
    have e2 : fLc (fItR2 (fBin gAdd (fVar 13) (fC (.int 1))) (fCB gLen (fCons (fVar 9) fNil))) (tgN false 14) fYes le__law_is_told_4 [14] (UE ds m sh rd c x5 x6 x7 x8 (dd (tI s)) (oT bT) (oD K) x12 (di i) none (oT ((prI n i).map fun p => zT (rz a (Tm (mm s.idxOf p))))) none) = some (.tmp (.lst ((List.range (n - (i + 1))).map fun k => zT (rz a (Tm (mm s.idxOf (i, i + 1 + k)))))), UE ds m sh rd c x5 x6 x7 x8 (dd (tI s)) (oT bT) (oD K) x12 (di i) none (oT ((prI n i).map fun p => zT (rz a (Tm (mm s.idxOf p))))) none) :=
      lc_it (e := fun k => nI (i + 1 + k)) (xs := List.range (n - (i + 1))) (fun k => zT (rz a (Tm (mm s.idxOf (i, i + 1 + k))))) (it_r2 (by simp) (by simp [Q.len]) (by omega) (by omega)) (by simp; omega) (by simp) (by simp) (fun k hk => by
        have hk := List.mem_range.mp hk
        have b1 := hbat i hi
        have b2 := hbat (i + 1 + k) (by omega)
        have hne : s.idxOf i ≠ s.idxOf (i + 1 + k) := fun z => by
          have := Q.ixinj hi (show i + 1 + k < n by omega) z
          omega
        have a1 := Q.ixlt hi
        have a2 := Q.ixlt (show i + 1 + k < n by omega)
        have m12 : (mm s.idxOf (i, i + 1 + k)).1 < (mm s.idxOf (i, i + 1 + k)).2 ∧ (mm s.idxOf (i, i + 1 + k)).2 < n := by
          unfold mm; dsimp only; omega
        have d := dg _ m12.1 m12.2
        have o := ok _ m12.1 m12.2
        have pe : pT (mm s.idxOf (i, i + 1 + k)) = .tuple [.int (min (s.idxOf i : Int) (s.idxOf (i + 1 + k) : Int)), .int (max (s.idxOf i : Int) (s.idxOf (i + 1 + k) : Int))] := by
          unfold pT mm nI
          dsimp only
          congr 3
          · congr 1; omega
          · congr 2; omega
        rw [pe] at d o
        refine ⟨UE ds m sh rd c x5 x6 x7 x8 (dd (tI s)) (oT bT) (oD K) x12 (di i) (dd (nI (i + 1 + k))) (oT ((prI n i).map fun p => zT (rz a (Tm (mm s.idxOf p))))) none, UE ds m sh rd c x5 x6 x7 x8 (dd (tI s)) (oT bT) (oD K) x12 (di i) (dd (nI (i + 1 + k))) (oT ((prI n i).map fun p => zT (rz a (Tm (mm s.idxOf p))))) none, by simp, ?_, by simp⟩
        generalize (prI n i).map (fun p => zT (rz a (Tm (mm s.idxOf p)))) = Z at *
        generalize zT (rz a (Tm (mm s.idxOf (i, i + 1 + k)))) = R at *
        have b2 : atI bT ((i : Int) + 1 + (k : Int)) = some (nI (s.idxOf (i + 1 + k))) := b2
        simp only [nI] at b1 b2
        generalize s.idxOf (i + 1 + k) = y2 at *
        generalize s.idxOf i = y1 at *
        simp [le__law_is_told_4, b1, b2, d, o, nI])
    have hl := prI_len n i
    have hin : i * n ≤ 100 * 100 := Nat.mul_le_mul (by omega) hn
    have ad := addL_ok (xs := (prI n i).map fun p => zT (rz a (Tm (mm s.idxOf p)))) (ys := (List.range (n - (i + 1))).map fun k => zT (rz a (Tm (mm s.idxOf (i, i + 1 + k))))) (i := 15) (ρ := UE ds m sh rd c x5 x6 x7 x8 (dd (tI s)) (oT bT) (oD K) x12 (di i) none (oT ((prI n i).map fun p => zT (rz a (Tm (mm s.idxOf p))))) none) rfl (by simp; omega)
    have hs := pz_succ a n i (fun p => Tm (mm s.idxOf p))
    rw [hs] at ad
    refine ⟨UE ds m sh rd c x5 x6 x7 x8 (dd (tI s)) (oT bT) (oD K) x12 (di i) none (oT ((prI n i).map fun p => zT (rz a (Tm (mm s.idxOf p))))) none, (), by simp, .inl ?_, trivial⟩
    generalize (List.range (n - (i + 1))).map (fun k => zT (rz a (Tm (mm s.idxOf (i, i + 1 + k))))) = Z at *
    generalize (prI n (i + 1)).map (fun p => zT (rz a (Tm (mm s.idxOf p)))) = Z2 at *
    generalize (prI n i).map (fun p => zT (rz a (Tm (mm s.idxOf p)))) = Z3 at *
    simp [-ev_add, -ev_lc, lb__law_is_told_3, e2, ad]) () trivial
  have h0 : (prI n 0).map (fun p => zT (rz a (Tm (mm s.idxOf p)))) = [] := rfl
  rw [h0] at e1
  exact for_rng (n := n) (by simp [Q.len]) (by omega) e1
end
end LW

namespace LW
open PySem PySem.Spec PyProof.Rows L2 PD
section
variable {tr n a : Nat} {M : Nat → Nat → Nat} {e : Nat → Bool} {Tm : Nat × Nat → Nat}
theorem sok_wsT {ws : List (List Int)} (h : ws.length ≤ 1000000) (h2 : ∀ u ∈ ws, u.length ≤ 1000000) : SOk 4 (wsT ws) := sok_map (fun u hu => .tup 2 _ (by have := h2 u hu; simpa using this) fun x hx => by
  obtain ⟨i, _, rfl⟩ := List.mem_map.mp hx
  exact .int 1 i) h
theorem e_told {ds : List Int} (S : Shn (2 ^ tr) n a M e Tm) (hl : m_shown_least [.dat (mk tr (2 ^ tr) n M e)] = some (.dat (shT a n Tm), [])) (ht : tr ≤ 5) (hn : n ≤ 100) (hn2 : 2 ≤ n) (hT : ∀ p, Tm p ≤ 200) {rd : List Int} (hrd : okw (2 ^ tr) rd) (hrl : rd.length ≤ 200) (hround : ∀ s, s < n → rn M s rd = s) {cell : Int} :
    ∃ ds' : List Int, m__law_is_told [.obj (.lst (ds.map .int)), .dat (mk tr (2 ^ tr) n M e), .dat (shT a n Tm), .dat (zT rd), .dat (.int cell)] = some (.dat (.bool true), [.lst (ds'.map .int)]) := by
  have hB32 := two_le ht
  have lp := prs_len n
  have hnn : n * n ≤ 10000 := Nat.mul_le_mul hn hn
  have L0 : 0 < (prs n).length := by
    have := off_lt (n := n) (i := 0) (k := 0) (by omega) (by omega)
    omega
  have lW : (Wz a n).length = n := by simp [Wz]
  have lP : (Pz a n Tm).length = (prs n).length := by simp [Pz]
  have uW : ∀ u ∈ Wz a n, u.length ≤ 200 := fun u hu => by
    obtain ⟨k, hk, rfl⟩ := List.mem_map.mp hu
    have := List.mem_range.mp hk
    simp [rz]; omega
  have uP : ∀ u ∈ Pz a n Tm, u.length ≤ 200 := fun u hu => by
    obtain ⟨p, hp, rfl⟩ := List.mem_map.mp hu
    simp [rz]; exact hT p
  have oW : ∀ u ∈ Wz a n, okw (2 ^ tr) u := fun u hu => by
    obtain ⟨k, hk, rfl⟩ := List.mem_map.mp hu
    exact okw_rz S.aB k
  have oP : ∀ u ∈ Pz a n Tm, okw (2 ^ tr) u := fun u hu => by
    obtain ⟨p, hp, rfl⟩ := List.mem_map.mp hu
    exact okw_rz S.aB _
  have j1 := e_judge (tr := tr) (e := e) ht hn (by omega) S.lt (ws := Wz a n) (ps := Pz a n Tm) (by omega) (fun u h => by have := uW u h; omega) (fun u h => by have := uP u h; omega)
  rw [bo_t S.jd] at j1
  have j2 := fun (ws' ps' : List (List Int)) (h1 : ws'.length = (Wz a n).length) (h2 : ps'.length = (Pz a n Tm).length) (w1 : ∀ k, k < (Wz a n).length → Wide (2 ^ tr) n M (gw (Wz a n) k) (gw ws' k)) (w2 : ∀ k, k < (Pz a n Tm).length → Wide (2 ^ tr) n M (gw (Pz a n Tm) k) (gw ps' k)) (u1 : ∀ u ∈ ws', u.length ≤ 1000) (u2 : ∀ u ∈ ps', u.length ≤ 1000) => by
    have h := e_judge (tr := tr) (e := e) ht hn (by omega) S.lt (ws := ws') (ps := ps') (by omega) u1 u2
    rw [bo_t (jd_wide S.jd (by omega) h1 h2 w1 w2)] at h
    exact h
  have wo := fun (u : List Int) (hu : okw (2 ^ tr) u) (k : Nat) => wide_of S.lt hu hrd hround k
  obtain ⟨N, hN⟩ : ∃ N, n = N + 1 := ⟨n - 1, by omega⟩
  have mx := fun (ds : List Int) => e_mixed (tr := tr) (B := 2 ^ tr) (M := M) (e := e) (N := N) (ds := ds) (by omega) (by omega) (by rw [← hN]; exact S.lt)
  rw [← hN] at mx
  have sp1 := fun (ds : List Int) => e_spoilt (tr := tr) (e := e) ht hn (by omega) S.lt (ds := ds) (ws := Wz a n) (ps := Pz a n Tm) (cell := cell) (by omega) (by omega) (by omega) (by omega) (fun u h => by have := uW u h; omega) (fun u h => by have := uP u h; omega)
  have jm := fun (s : List Nat) (P : IsP s n) (s0 : pg s 0 = 0) => by
    have hl1 : ∀ u ∈ (List.range n).map fun k => rz a (s.idxOf k), u.length ≤ 900 := fun u hu => by
      obtain ⟨k, hk, rfl⟩ := List.mem_map.mp hu
      have := P.ixlt (List.mem_range.mp hk)
      simp [rz]; omega
    have hl2 : ∀ u ∈ (prs n).map fun p => rz a (Tm (mm s.idxOf p)), u.length ≤ 900 := fun u hu => by
      obtain ⟨p, hp, rfl⟩ := List.mem_map.mp hu
      have := hT (mm s.idxOf p)
      simp [rz]; omega
    have hM' : ∀ k, k < n → ∀ l, l < 2 ^ tr → nmM s M k l < n := fun k hk l hl => P.lt (S.lt _ (P.ixlt hk) l hl)
    have h := e_judge (tr := tr) (e := nmE s e) ht hn (by omega) hM' (ws := (List.range n).map fun k => rz a (s.idxOf k)) (ps := (prs n).map fun p => rz a (Tm (mm s.idxOf p))) (by simp; omega) (fun u h => by have := hl1 u h; omega) (fun u h => by have := hl2 u h; omega)
    rw [bo_t (jd_mixed S P s0 (by omega))] at h
    have h2 := fun (ds : List Int) => e_spoilt (tr := tr) (e := nmE s e) ht hn (by omega) hM' (ds := ds) (ws := (List.range n).map fun k => rz a (s.idxOf k)) (ps := (prs n).map fun p => rz a (Tm (mm s.idxOf p))) (cell := cell) (by simp; omega) (by simp; omega) (by simp; omega) (by simp; omega) hl1 hl2
    exact And.intro h h2
  have sh0 : SOk 5 (shT a n Tm) := sok_cons (sok_wsT (by rw [← Wz, lW]; omega) fun u h => by have := uW u h; omega) (sok_cons (sok_wsT (by rw [← Pz, lP]; omega) fun u h => by have := uP u h; omega) sok_nil (by simp)) (by simp)
  have g1 := same6 (sok_cons sh0 (sok_cons (.bool 4 true) sok_nil (by simp)) (by simp))
  have g2 := same6 (.bool 5 true)
  have hsh : shT a n Tm = .tuple [wsT (Wz a n), wsT (Pz a n Tm)] := rfl
  have td := fun {ds : List Int} {m sh rd c : T} {x5 x7 x8 x10 : Option Sl} {s : List Nat} (hs : s.length = n) => told_dict hn hn2 lP (ds := ds) (m := m) (sh := sh) (rd := rd) (c := c) (x5 := x5) (x7 := x7) (x8 := x8) (x10 := x10) hs
  have tm := fun {ds : List Int} {m sh rd c : T} {x5 x6 x7 x8 x12 : Option Sl} {s : List Nat} (Q : IsP s n) => told_moved (a := a) (Tm := Tm) hn hn2 (ds := ds) (m := m) (sh := sh) (rd := rd) (c := c) (x5 := x5) (x6 := x6) (x7 := x7) (x8 := x8) (x12 := x12) Q rfl
  obtain ⟨m, hm⟩ : ∃ m, m = mk tr (2 ^ tr) n M e := ⟨_, rfl⟩
  rw [← hm] at hl j1 j2 mx sp1 ⊢
  rw [hsh] at hl g1 ⊢
  have wat : ∀ k, k < n → atI ((Wz a n).map zT) (k : Int) = some (zT (rz a k)) := fun k hk => by
    have := gw_at (ws := Wz a n) (k := k) (by omega)
    unfold Wz at this
    rwa [gw_map hk] at this
  obtain ⟨W, hW⟩ : ∃ W, W = Wz a n := ⟨_, rfl⟩
  obtain ⟨P, hP⟩ : ∃ P, P = Pz a n Tm := ⟨_, rfl⟩
  rw [← hW] at hl j1 j2 g1 sp1 lW uW oW wat ⊢
  rw [← hP] at hl j1 j2 g1 sp1 lP uP oP td tm ⊢
  obtain ⟨sh, hsh2⟩ : ∃ sh, sh = PyData.tuple [wsT W, wsT P] := ⟨_, rfl⟩
  have t1 : sd__law_is_told_1 (UE ds m sh (zT rd) (.int cell) none none none none none none none none none none none none) = some (.nx (UE ds m sh (zT rd) (.int cell) (dd (wsT W)) (dd (wsT P)) none none none none none none none none none none)) := by
    rw [hsh2]; simp [sd__law_is_told_1, fAsg]
  rw [← hsh2] at hl j1 g1 ⊢
  have t2 : sd__law_is_told_2 (UE ds m sh (zT rd) (.int cell) (dd (wsT W)) (dd (wsT P)) none none none none none none none none none none) = some (.nx (UE ds m sh (zT rd) (.int cell) (dd (wsT W)) (dd (wsT P)) none none none none none none none none none none)) := by
    simp [sd__law_is_told_2, hl, j1, g1]
  -- widened
  obtain ⟨W', ds1, e3, lW', qW⟩ := lc_wS (β := List Int) (it := fItE (fVar 5)) (g := tgN false 17) (te := le__law_is_told_2) (vs := [17]) (xs := W) (fun ds => UE ds m sh (zT rd) (.int cell) (dd (wsT W)) (dd (wsT P)) none none none none none none none none none none) (fun x v => Wide (2 ^ tr) n M x v ∧ v.length ≤ 600) ds (by simp) (by omega) (fun b => by simp) (fun b b' => by simp) (fun u hu b => by
    obtain ⟨k, b', k1⟩ := e_put (ds := b) (u := u) (rd := rd) (by have := uW u hu; omega) (by omega)
    refine ⟨[ol b, dd m, dd sh, dd (zT rd), dd (.int cell), dd (wsT W), dd (wsT P), none, none, none, none, none, none, none, none, none, none, dd (zT u), none], u.take k ++ rd ++ u.drop k, [ol b', dd m, dd sh, dd (zT rd), dd (.int cell), dd (wsT W), dd (wsT P), none, none, none, none, none, none, none, none, none, none, dd (zT u), none], b', by simp, ?_, by simp, wo u (oW u hu) k, ?_⟩
    · generalize u.take k ++ rd ++ u.drop k = v at *
      simp [le__law_is_told_2, k1]
    · have := uW u hu
      rw [List.length_append, List.length_append, List.length_take, List.length_drop]; omega)
  obtain ⟨P', ds2, e4, lP', qP⟩ := lc_wS (β := List Int) (it := fItE (fVar 6)) (g := tgN false 17) (te := le__law_is_told_1) (vs := [17]) (xs := P) (fun ds => UE ds m sh (zT rd) (.int cell) (dd (wsT W)) (dd (wsT P)) none none none none none none none none none none) (fun x v => Wide (2 ^ tr) n M x v ∧ v.length ≤ 600) ds1 (by simp) (by omega) (fun b => by simp) (fun b b' => by simp) (fun u hu b => by
    obtain ⟨k, b', k1⟩ := e_put (ds := b) (u := u) (rd := rd) (by have := uP u hu; omega) (by omega)
    refine ⟨[ol b, dd m, dd sh, dd (zT rd), dd (.int cell), dd (wsT W), dd (wsT P), none, none, none, none, none, none, none, none, none, none, dd (zT u), none], u.take k ++ rd ++ u.drop k, [ol b', dd m, dd sh, dd (zT rd), dd (.int cell), dd (wsT W), dd (wsT P), none, none, none, none, none, none, none, none, none, none, dd (zT u), none], b', by simp, ?_, by simp, wo u (oP u hu) k, ?_⟩
    · generalize u.take k ++ rd ++ u.drop k = v at *
      simp [le__law_is_told_1, k1]
    · have := uP u hu
      rw [List.length_append, List.length_append, List.length_take, List.length_drop]; omega)
  have memW : ∀ (xs ys : List (List Int)), ys.length = xs.length → (∀ k, k < xs.length → Wide (2 ^ tr) n M (gw xs k) (gw ys k) ∧ (gw ys k).length ≤ 600) → ∀ u ∈ ys, u.length ≤ 1000 := fun xs ys hl h u hu => by
    obtain ⟨k, hk, e⟩ := List.getElem_of_mem hu
    have h1 : gw ys k = u := by
      have := gw_get hk
      rw [List.getElem?_eq_getElem hk, e] at this
      exact (Option.some.inj this).symm
    have := (h k (by omega)).2
    rw [h1] at this
    omega
  have jw := j2 W' P' lW' lP' (fun k hk => (qW k hk).1) (fun k hk => (qP k hk).1) (memW _ _ lW' qW) (memW _ _ lP' qP)
  have w1 : PyData.tuple (W'.map zT) = wsT W' := rfl
  have w2 : PyData.tuple (P'.map zT) = wsT P' := rfl
  generalize W'.map zT = WZ at *
  generalize P'.map zT = PZ at *
  obtain ⟨wd, hwd⟩ : ∃ wd, wd = PyData.tuple [wsT W', wsT P'] := ⟨_, rfl⟩
  have t3 : sd__law_is_told_3 (UE ds m sh (zT rd) (.int cell) (dd (wsT W)) (dd (wsT P)) none none none none none none none none none none) = some (.nx (UE ds2 m sh (zT rd) (.int cell) (dd (wsT W)) (dd (wsT P)) (dd wd) none none none none none none none none none)) := by
    rw [hwd]
    simp [-ev_lc, sd__law_is_told_3, e3, e4, gTuple, w1, w2]
  rw [← hwd] at jw
  have t4 : sd__law_is_told_4 (UE ds2 m sh (zT rd) (.int cell) (dd (wsT W)) (dd (wsT P)) (dd wd) none none none none none none none none none) = some (.nx (UE ds2 m sh (zT rd) (.int cell) (dd (wsT W)) (dd (wsT P)) (dd wd) none none none none none none none none none)) := by
    simp [sd__law_is_told_4, jw, g2]
  obtain ⟨s, ds3, k5, Q, s0⟩ := mx ds2
  obtain ⟨jo, so⟩ := jm s Q s0
  obtain ⟨mxd, hmx⟩ : ∃ mxd, mxd = mk tr (2 ^ tr) n (nmM s M) (nmE s e) := ⟨_, rfl⟩
  rw [← hmx] at k5 jo so
  have t5 : sd__law_is_told_5 (UE ds2 m sh (zT rd) (.int cell) (dd (wsT W)) (dd (wsT P)) (dd wd) none none none none none none none none none) = some (.nx (UE ds3 m sh (zT rd) (.int cell) (dd (wsT W)) (dd (wsT P)) (dd wd) (dd mxd) (dd (tI s)) none none none none none none none)) := by
    simp [sd__law_is_told_5, k5, fAsg]
  obtain ⟨b, hb⟩ : ∃ b, b = (List.range n).map s.idxOf := ⟨_, rfl⟩
  have e6 : fLc (fItR1 (fCB gLen (fCons (fVar 9) fNil))) (tgN false 18) fYes le__law_is_told_3 [18] (UE ds3 m sh (zT rd) (.int cell) (dd (wsT W)) (dd (wsT P)) (dd wd) (dd mxd) (dd (tI s)) none none none none none none none) = some (.tmp (.lst ((List.range n).map fun k => nI (s.idxOf k))), UE ds3 m sh (zT rd) (.int cell) (dd (wsT W)) (dd (wsT P)) (dd wd) (dd mxd) (dd (tI s)) none none none none none none none) := lc_rng (n := n) (fun k => nI (s.idxOf k)) (by simp [Q.len]) (by omega) (by simp) (by simp) (fun k hk => ⟨[ol ds3, dd m, dd sh, dd (zT rd), dd (.int cell), dd (wsT W), dd (wsT P), dd wd, dd mxd, dd (tI s), none, none, none, none, none, none, none, none, di k], [ol ds3, dd m, dd sh, dd (zT rd), dd (.int cell), dd (wsT W), dd (wsT P), dd wd, dd mxd, dd (tI s), none, none, none, none, none, none, none, none, di k], by simp, place_t Q hk rfl rfl, by simp⟩)
  have hbT : (List.range n).map (fun k => nI (s.idxOf k)) = b.map nI := by rw [hb, List.map_map]; rfl
  rw [hbT] at e6
  have t6 : sd__law_is_told_6 (UE ds3 m sh (zT rd) (.int cell) (dd (wsT W)) (dd (wsT P)) (dd wd) (dd mxd) (dd (tI s)) none none none none none none none) = some (.nx (UE ds3 m sh (zT rd) (.int cell) (dd (wsT W)) (dd (wsT P)) (dd wd) (dd mxd) (dd (tI s)) (oT (b.map nI)) none none none none none none)) := by
    generalize b.map nI = bT at *
    simp [-ev_lc, sd__law_is_told_6, e6]
  have t7 : sd__law_is_told_7 (UE ds3 m sh (zT rd) (.int cell) (dd (wsT W)) (dd (wsT P)) (dd wd) (dd mxd) (dd (tI s)) (oT (b.map nI)) none none none none none none) = some (.nx (UE ds3 m sh (zT rd) (.int cell) (dd (wsT W)) (dd (wsT P)) (dd wd) (dd mxd) (dd (tI s)) (oT (b.map nI)) (oD []) none none none none none)) := by simp [sd__law_is_told_7]
  have t8 : sd__law_is_told_8 (UE ds3 m sh (zT rd) (.int cell) (dd (wsT W)) (dd (wsT P)) (dd wd) (dd mxd) (dd (tI s)) (oT (b.map nI)) (oD []) none none none none none) = some (.nx (UE ds3 m sh (zT rd) (.int cell) (dd (wsT W)) (dd (wsT P)) (dd wd) (dd mxd) (dd (tI s)) (oT (b.map nI)) (oD []) (di (0 : Nat)) none none none none)) := by simp [sd__law_is_told_8]
  have t9 := td (ds := ds3) (m := m) (sh := sh) (rd := zT rd) (c := .int cell) (x5 := dd (wsT W)) (x7 := dd wd) (x8 := dd mxd) (x10 := oT (b.map nI)) (s := s) Q.len
  have t11 := tm (ds := ds3) (m := m) (sh := sh) (rd := zT rd) (c := .int cell) (x5 := dd (wsT W)) (x6 := dd (wsT P)) (x7 := dd wd) (x8 := dd mxd) (x12 := di (prs n).length) (s := s) Q
  rw [← hb] at t11
  have hbat : ∀ k, k < n → atI (b.map nI) (k : Int) = some (nI (s.idxOf k)) := fun k hk => by
    have := atI_nI (ps := b) (i := k) (by rw [hb]; simpa using hk)
    rw [hb] at this ⊢
    rwa [pg_range_map hk] at this
  obtain ⟨LL, hLL⟩ : ∃ LL, LL = (prs n).length := ⟨_, rfl⟩
  rw [← hLL] at t9 t11
  obtain ⟨K, hK⟩ : ∃ K, K = kvD n P LL := ⟨_, rfl⟩
  rw [← hK] at t9 t11
  have hz : PyData.tuple ((prs n).map fun p => zT (rz a (Tm (mm s.idxOf p)))) = wsT ((prs n).map fun p => rz a (Tm (mm s.idxOf p))) := by unfold wsT; rw [List.map_map]; rfl
  have hy : PyData.tuple ((List.range n).map fun k => zT (rz a (s.idxOf k))) = wsT ((List.range n).map fun k => rz a (s.idxOf k)) := by unfold wsT; rw [List.map_map]; rfl
  generalize ((prs n).map fun p => zT (rz a (Tm (mm s.idxOf p)))) = MZ at *
  generalize ((prs n).map fun p => rz a (Tm (mm s.idxOf p))) = MP at *
  generalize ((List.range n).map fun k => rz a (s.idxOf k)) = MW at *
  generalize b.map nI = bT at *
  have t10 : sd__law_is_told_10 (UE ds3 m sh (zT rd) (.int cell) (dd (wsT W)) (dd (wsT P)) (dd wd) (dd mxd) (dd (tI s)) (oT bT) (oD K) (di LL) none none none none) = some (.nx (UE ds3 m sh (zT rd) (.int cell) (dd (wsT W)) (dd (wsT P)) (dd wd) (dd mxd) (dd (tI s)) (oT bT) (oD K) (di LL) none none (oT []) none)) := by simp [sd__law_is_told_10]
  have e12 : fLc (fItR1 (fCB gLen (fCons (fVar 9) fNil))) (tgN false 18) fYes le__law_is_told_5 [18] (UE ds3 m sh (zT rd) (.int cell) (dd (wsT W)) (dd (wsT P)) (dd wd) (dd mxd) (dd (tI s)) (oT bT) (oD K) (di LL) none none (oT MZ) none) = some (.tmp (.lst ((List.range n).map fun k => zT (rz a (s.idxOf k)))), UE ds3 m sh (zT rd) (.int cell) (dd (wsT W)) (dd (wsT P)) (dd wd) (dd mxd) (dd (tI s)) (oT bT) (oD K) (di LL) none none (oT MZ) none) := lc_rng (n := n) (fun k => zT (rz a (s.idxOf k))) (by simp [Q.len]) (by omega) (by simp) (by simp) (fun k hk => by
    have b1 := hbat k hk
    have b2 := wat _ (Q.ixlt hk)
    simp only [nI] at b1
    generalize s.idxOf k = y at *
    exact ⟨[ol ds3, dd m, dd sh, dd (zT rd), dd (.int cell), dd (wsT W), dd (wsT P), dd wd, dd mxd, dd (tI s), oT bT, oD K, di LL, none, none, oT MZ, none, none, di k], [ol ds3, dd m, dd sh, dd (zT rd), dd (.int cell), dd (wsT W), dd (wsT P), dd wd, dd mxd, dd (tI s), oT bT, oD K, di LL, none, none, oT MZ, none, none, di k], by simp, by simp [le__law_is_told_5, b1, b2], by simp⟩)
  generalize ((List.range n).map fun k => zT (rz a (s.idxOf k))) = WY at *
  obtain ⟨ow, how⟩ : ∃ ow, ow = PyData.tuple [wsT MW, wsT MP] := ⟨_, rfl⟩
  have t12 : sd__law_is_told_12 (UE ds3 m sh (zT rd) (.int cell) (dd (wsT W)) (dd (wsT P)) (dd wd) (dd mxd) (dd (tI s)) (oT bT) (oD K) (di LL) none none (oT MZ) none) = some (.nx (UE ds3 m sh (zT rd) (.int cell) (dd (wsT W)) (dd (wsT P)) (dd wd) (dd mxd) (dd (tI s)) (oT bT) (oD K) (di LL) none none (oT MZ) (dd ow))) := by
    rw [how]
    simp [-ev_lc, sd__law_is_told_12, e12, gTuple, hz, hy]
  have o0 : ∀ ρ : Ev, ρ[16]? = some (dd ow) → (fBin gIx (fVar 16) (fC (.int 0))) ρ = some (.dat (wsT MW), ρ) := fun ρ h => by
    have : atI [wsT MW, wsT MP] 0 = some (wsT MW) := rfl
    rw [how] at h; simp [h, this]
  have o1 : ∀ ρ : Ev, ρ[16]? = some (dd ow) → (fBin gIx (fVar 16) (fC (.int 1))) ρ = some (.dat (wsT MP), ρ) := fun ρ h => by
    have : atI [wsT MW, wsT MP] 1 = some (wsT MP) := rfl
    rw [how] at h; simp [h, this]
  rw [← how] at jo
  have t13 : sd__law_is_told_13 (UE ds3 m sh (zT rd) (.int cell) (dd (wsT W)) (dd (wsT P)) (dd wd) (dd mxd) (dd (tI s)) (oT bT) (oD K) (di LL) none none (oT MZ) (dd ow)) = some (.nx (UE ds3 m sh (zT rd) (.int cell) (dd (wsT W)) (dd (wsT P)) (dd wd) (dd mxd) (dd (tI s)) (oT bT) (oD K) (di LL) none none (oT MZ) (dd ow))) := by
    simp [sd__law_is_told_13, jo, g2]
  obtain ⟨ds4, k14⟩ := so ds3
  obtain ⟨ds5, k15⟩ := sp1 ds4
  have t14 : sd__law_is_told_14 (UE ds3 m sh (zT rd) (.int cell) (dd (wsT W)) (dd (wsT P)) (dd wd) (dd mxd) (dd (tI s)) (oT bT) (oD K) (di LL) none none (oT MZ) (dd ow)) = some (.rt (.dat (.bool true)) (UE ds5 m sh (zT rd) (.int cell) (dd (wsT W)) (dd (wsT P)) (dd wd) (dd mxd) (dd (tI s)) (oT bT) (oD K) (di LL) none none (oT MZ) (dd ow))) := by
    have p0 := o0 (UE ds3 m sh (zT rd) (.int cell) (dd (wsT W)) (dd (wsT P)) (dd wd) (dd mxd) (dd (tI s)) (oT bT) (oD K) (di LL) none none (oT MZ) (dd ow)) rfl
    have p1 := o1 (UE ds3 m sh (zT rd) (.int cell) (dd (wsT W)) (dd (wsT P)) (dd wd) (dd mxd) (dd (tI s)) (oT bT) (oD K) (di LL) none none (oT MZ) (dd ow)) rfl
    unfold sd__law_is_told_14
    generalize (fBin gIx (fVar 16) (fC (.int 0))) = f0 at *
    generalize (fBin gIx (fVar 16) (fC (.int 1))) = f1 at *
    simp [p0, p1, k14, k15]
  exact ⟨ds5, run_rt rfl ((seq_nx t1).trans ((seq_nx t2).trans ((seq_nx t3).trans ((seq_nx t4).trans ((seq_nx t5).trans ((seq_nx t6).trans ((seq_nx t7).trans ((seq_nx t8).trans ((seq_nx t9).trans ((seq_nx t10).trans ((seq_nx t11).trans ((seq_nx t12).trans ((seq_nx t13).trans t14))))))))))))) (by simp)⟩
end
end LW

namespace LW
open PySem PySem.Spec PyProof.Rows L2 PD
theorem shn_ring {m a B : Nat} (hB : 2 ≤ B) (hm : 2 ≤ m) (ha : a < B) {ws : List Nat} (hw : ∀ l, l < B → pg ws l = if l = a then 1 else 0) : Shn B m a (ctM ws m) (fun k => decide (k ∈ [0])) (tmR m) :=
  ⟨ha, (src_ring hB hm ha hw).lt, fun k hk => by unfold ctM; rw [hw a ha, if_pos rfl, Nat.mod_eq_of_lt hk], fun p h1 h2 => chain_ring hm ha hw p h1 h2⟩
theorem shn_ladder {most a B : Nat} (hB : 2 ≤ B) (ha : a < B) : Shn B (most + 1) a (ldM a most) (fun k => decide (k ∈ [most])) (tmL most) :=
  ⟨ha, (src_ladder hB ha).lt, fun k hk => by unfold ldM; rw [if_pos rfl, Nat.min_eq_left (by omega)], fun p h1 h2 => chain_ladder ha p h1 h2⟩
abbrev LE (ns ds : List Int) (c : T) (x3 x4 x5 x6 x7 x8 x9 x10 x11 x12 x13 : Option Sl) : Ev := [some (.rol (ns.map .int)), ol ds, dd c, x3, x4, x5, x6, x7, x8, x9, x10, x11, x12, x13, none]
theorem law_b {ns ds : List Int} {tr : Nat} {cell : Int} (ht1 : 1 ≤ tr) (ht : tr ≤ 2) :
    ∃ ds' : List Int, lb_law_1 (LE ns ds (.int cell) (di tr) none none none none none none none none none none) = some (.nx (LE ns ds' (.int cell) none none none none none none none none none none none)) := by
  have hB2 : 2 ^ tr ≤ 4 := (Nat.pow_le_pow_right (by decide) ht : 2 ^ tr ≤ 2 ^ 2)
  have hB1 : 2 ≤ 2 ^ tr := (Nat.pow_le_pow_right (by decide) ht1 : 2 ^ 1 ≤ 2 ^ tr)
  have sh := two_one tr (by omega)
  obtain ⟨v2, ds2, k2, l2⟩ := e_take (ds := ds) (many := 2 ^ tr - 1) (by omega)
  obtain ⟨a, ha⟩ : ∃ a, a = 1 + v2 := ⟨_, rfl⟩
  have haB : a < 2 ^ tr := by omega
  have q7 : ∀ (i j : Int) ρ, gAdd (.dat (.int i)) (.dat (.int j)) ρ = some (.dat (.int (i + j))) := fun i j ρ => by simp
  have t3 : sd_law_3 (LE ns ds (.int cell) (di tr) none none none none none none none none none none) = some (.nx (LE ns ds2 (.int cell) (di tr) (di a) none none none none none none none none none)) := by
    have k2' : m__law_take [.obj (.lst (ds.map .int)), .dat (.int (((2 ^ tr : Nat) : Int) - 1))] = some (.dat (nI v2), [.lst (ds2.map .int)]) := by
      rw [show ((2 ^ tr : Nat) : Int) - 1 = ((2 ^ tr - 1 : Nat) : Int) by omega]
      exact k2
    have haI : (1 : Int) + (v2 : Int) = (a : Int) := by omega
    generalize 2 ^ tr = B at *
    simp only [nI] at sh k2'
    simp [-ev_add, -ev_gI, sd_law_3, sh, k2', q7, haI]
  obtain ⟨v4, ds4, k4, l4⟩ := e_take (ds := ds2) (many := 18) (by decide)
  obtain ⟨m, hm⟩ : ∃ m, m = 2 + v4 := ⟨_, rfl⟩
  have t4 : sd_law_4 (LE ns ds2 (.int cell) (di tr) (di a) none none none none none none none none none) = some (.nx (LE ns ds4 (.int cell) (di tr) (di a) (di m) none none none none none none none none)) := by
    have haI : (2 : Int) + (v4 : Int) = (m : Int) := by omega
    simp only [nI] at k4
    simp [-ev_add, sd_law_4, show m__law_take [.obj (.lst (ds2.map .int)), .dat (.int 18)] = _ from k4, q7, haI]
  have hone : ∀ l, l < 2 ^ tr → pg (one (2 ^ tr) a) l = if l = a then 1 else 0 := fun l hl => by unfold one; rw [pg_range_map hl]
  have S1 := shn_ring hB1 (show 2 ≤ m by omega) haB hone
  have L1 := e_least (tr := tr) (e := fun k => decide (k ∈ [0])) (can_of (src_ring hB1 (show 2 ≤ m by omega) haB hone)) (by omega) (by omega) (Tm := tmR m) (fun p => by unfold tmR; split <;> omega) (fun p h1 h2 => chain_ring (by omega) haB hone p h1 h2)
  have ct := e_counter_t (tr := tr) (m := m) (ws := one (2 ^ tr) a) (es := [0]) (by omega) (by omega) (by simp [one]; omega)
  have hol : (one (2 ^ tr) a).length = 2 ^ tr := by simp [one]
  rw [hol] at ct
  have rs := e_ring_shown (a := a) (m := m) (by omega)
  have okr : okw (2 ^ tr) (rz a m ++ [0]) := fun x hx => by
    rcases List.mem_append.mp hx with hx | hx
    · exact okw_rz haB m x hx
    · simp at hx; omega
  have rnd1 : ∀ s, s < m → rn (ctM (one (2 ^ tr) a) m) s (rz a m ++ [0]) = s := fun s hs => by
    have go : ∀ k, ctM (one (2 ^ tr) a) m k a = (k + 1) % m := fun k => by unfold ctM; rw [hone a haB, if_pos rfl]
    have h : ∀ t, rn (ctM (one (2 ^ tr) a) m) s (rz a t) = (s + t) % m := fun t => by
      induction t with
      | zero => rw [Nat.add_zero, Nat.mod_eq_of_lt hs]; rfl
      | succ t ih => rw [rn_rz, ih, go, Nat.mod_add_mod, Nat.add_assoc]
    rw [rn_app, h, Nat.add_mod_right, Nat.mod_eq_of_lt hs]
    show ctM (one (2 ^ tr) a) m s 0 = s
    unfold ctM
    rw [hone 0 (by omega), if_neg (by omega), Nat.add_zero, Nat.mod_eq_of_lt hs]
  obtain ⟨ds6, k6⟩ := e_told (ds := ds4) (cell := cell) S1 L1 (by omega) (by omega) (by omega) (fun p => by unfold tmR; split <;> omega) okr (by simp [rz]; omega) rnd1
  obtain ⟨v7, ds7, k7, l7⟩ := e_take (ds := ds6) (many := 14) (by decide)
  obtain ⟨mo, hmo⟩ : ∃ mo, mo = 1 + v7 := ⟨_, rfl⟩
  have S2 := shn_ladder (most := mo) (a := a) hB1 haB
  have L2' := e_least (tr := tr) (e := fun k => decide (k ∈ [mo])) (can_of (src_ladder (most := mo) hB1 haB)) (by omega) (by omega) (Tm := tmL mo) (fun p => by unfold tmL; omega) (fun p h1 h2 => chain_ladder haB p h1 h2)
  have la := e_ladder_t (tr := tr) (a := a) (most := mo) (es := [mo]) (by omega) (by omega)
  have ls := e_ladder_shown (a := a) (m := mo) (by omega)
  have ok0 : okw (2 ^ tr) [0, 0, 0] := fun x hx => by simp at hx; omega
  have rnd2 : ∀ s, s < mo + 1 → rn (ldM a mo) s [0, 0, 0] = s := fun s hs => by
    have h : ldM a mo s 0 = s := by unfold ldM; rw [if_neg (by omega)]
    show ldM a mo (ldM a mo (ldM a mo s 0) 0) 0 = s
    rw [h, h, h]
  obtain ⟨ds9, k9⟩ := e_told (ds := ds7) (cell := cell) S2 L2' (by omega) (by omega) (by omega) (fun p => by unfold tmL; omega) ok0 (by decide) rnd2
  obtain ⟨B, hB⟩ : ∃ B, B = 2 ^ tr := ⟨_, rfl⟩
  rw [← hB] at sh hB2 ct k6 k9 la
  generalize mk tr B m (ctM (one B a) m) (fun k => decide (k ∈ [0])) = mr at *
  generalize mk tr B (mo + 1) (ldM a mo) (fun k => decide (k ∈ [mo])) = ml at *
  have t5 : sd_law_5 (LE ns ds4 (.int cell) (di tr) (di a) (di m) none none none none none none none none) = some (.nx (LE ns ds4 (.int cell) (di tr) (di a) (di m) (dd mr) none none none none none none none)) := by
    have e1 : fLc (fItR1 (fBin gShl (fC (.int 1)) (fVar 3))) (tgN false 14) fYes le_law_1 [14] (LE ns ds4 (.int cell) (di tr) (di a) (di m) none none none none none none none none) = some (.tmp (.lst ((List.range B).map fun l => nI (if l = a then 1 else 0))), LE ns ds4 (.int cell) (di tr) (di a) (di m) none none none none none none none none) := lc_rng (n := B) (fun l => nI (if l = a then 1 else 0)) (by simp only [nI] at sh; simp [-ev_gI, sh]) (by omega) (by simp) (by simp) (fun l hl => by
      refine ⟨[some (.rol (ns.map .int)), ol ds4, di cell, di tr, di a, di m, none, none, none, none, none, none, none, none, di l], [some (.rol (ns.map .int)), ol ds4, di cell, di tr, di a, di m, none, none, none, none, none, none, none, none, di l], by simp, ?_, by simp⟩
      by_cases e : l = a
      · subst e
        simp [le_law_1, nI]
      · have h2 : ((l : Int) == (a : Int)) = false := by rw [beq_eq_false_iff_ne]; omega
        simp [le_law_1, nI, e, h2])
    have e2 : PyData.tuple ((List.range B).map fun l => nI (if l = a then 1 else 0)) = tI (one B a) := by simp [tI, one, Function.comp_def]
    have ct : m__law_counter [.dat (.int tr), .dat (tI (one B a)), .dat (.int m), .dat (.tuple [.int 0])] = some (.dat mr, []) := ct
    generalize tI (one B a) = OB at *
    generalize (List.range B).map (fun l => nI (if l = a then 1 else 0)) = Z at *
    simp [-ev_lc, sd_law_5, e1, gTuple, e2, ct]
  have t6 : sd_law_6 (LE ns ds4 (.int cell) (di tr) (di a) (di m) (dd mr) none none none none none none none) = some (.nx (LE ns ds6 (.int cell) (di tr) (di a) (di m) (dd mr) none none none none none none none)) := by
    have r1 := rp a m (by omega)
    have r2 : ∀ ρ, gAdd (.dat (zT (rz a m))) (.dat (.tuple [.int 0])) ρ = some (.dat (zT (rz a m ++ [0]))) := fun ρ => addZ (b := [0]) (by simp [rz]; omega) ρ
    generalize rz a m ++ [0] = rd at *
    generalize shT a m (tmR m) = shd at *
    simp [-ev_add, -ev_mul, sd_law_6, rs, r1, r2, k6]
  have t7 : sd_law_7 (LE ns ds6 (.int cell) (di tr) (di a) (di m) (dd mr) none none none none none none none) = some (.nx (LE ns ds7 (.int cell) (di tr) (di a) (di m) (dd mr) (di mo) none none none none none none)) := by
    have haI : (1 : Int) + (v7 : Int) = (mo : Int) := by omega
    simp only [nI] at k7
    simp [-ev_add, sd_law_7, show m__law_take [.obj (.lst (ds6.map .int)), .dat (.int 14)] = _ from k7, q7, haI]
  have t8 : sd_law_8 (LE ns ds7 (.int cell) (di tr) (di a) (di m) (dd mr) (di mo) none none none none none none) = some (.nx (LE ns ds7 (.int cell) (di tr) (di a) (di m) (dd mr) (di mo) (dd ml) none none none none none)) := by
    have la : m__law_ladder [.dat (.int tr), .dat (.tuple [.int a]), .dat (.int mo), .dat (.tuple [.int mo])] = some (.dat ml, []) := la
    simp [sd_law_8, la]
  have t9 : sd_law_9 (LE ns ds7 (.int cell) (di tr) (di a) (di m) (dd mr) (di mo) (dd ml) none none none none none) = some (.nx (LE ns ds9 (.int cell) (di tr) (di a) (di m) (dd mr) (di mo) (dd ml) none none none none none)) := by
    have z0 : zT [0, 0, 0] = .tuple [.int 0, .int 0, .int 0] := rfl
    rw [z0] at k9
    generalize shT a (mo + 1) (tmL mo) = shd at *
    simp [sd_law_9, ls, k9]
  refine ⟨ds9, ?_⟩
  unfold lb_law_1
  rw [ev_wipeS, (seq_nx t3).trans ((seq_nx t4).trans ((seq_nx t5).trans ((seq_nx t6).trans ((seq_nx t7).trans ((seq_nx t8).trans t9)))))]
  rfl
end LW

namespace LW
open PySem PySem.Spec PyProof.Rows L2 PD
theorem pow60 : ∃ P : Int, 0 < P ∧ ∀ ρ : Ev, gPow (.dat (.int 10)) (.dat (.int 60)) ρ = some (.dat (.int P)) := ⟨10 ^ 60, by decide, fun ρ => by simp [g_pow]⟩
theorem mod_int {x P : Int} (h : 0 < P) (ρ : Ev) : gMod (.dat (.int x)) (.dat (.int P)) ρ = some (.dat (.int (x % P))) := by
  have hg : guardP (ModOk x P) = some () := g_mod h
  simp [hg]
theorem e_cell (ns : List Int) (hl : ns.length ≤ 1000) : ∃ c : Int, m__law_cell [.rol (ns.map .int)] = some (.dat (.int c), []) := by
  obtain ⟨P, hP, pw⟩ := pow60
  by_cases h : ns.length = 0
  · refine ⟨0, ?_⟩
    have : ns = [] := List.eq_nil_of_length_eq_zero h
    subst this
    unfold m__law_cell d__law_cell
    rw [ev_run1]
    simp
  · obtain ⟨k, hk⟩ : ∃ k, k = ((ns.length - 1) % 7) % ns.length := ⟨_, rfl⟩
    have hkl : k < ns.length := by rw [hk]; exact Nat.mod_lt _ (by omega)
    have q1 := fun ρ => mod_nat (a := ns.length - 1) (m := 7) (by decide) ρ
    have q2 := fun ρ => mod_nat (a := (ns.length - 1) % 7) (m := ns.length) (by omega) ρ
    rw [← hk] at q2
    rw [show ((ns.length - 1 : Nat) : Int) = (ns.length : Int) - 1 by omega] at q1
    have q1 : ∀ ρ : Ev, gMod (.dat (.int ((ns.length : Int) - 1))) (.dat (.int 7)) ρ = some (.dat (nI ((ns.length - 1) % 7))) := q1
    have a : atI (ns.map PyData.int) (k : Int) = some (PyData.int ns[k]) := PD.atI_nat (by rw [List.getElem?_map, List.getElem?_eq_getElem hkl]; rfl)
    simp only [nI] at q1 q2
    generalize (ns.length - 1) % 7 = k7 at *
    obtain ⟨ρ, hρ⟩ : ∃ ρ : Ev, ρ = [some (.rol (ns.map .int)), none] := ⟨_, rfl⟩
    have l0 : ∀ x, (fCB gLen (fCons (fVar 0) fNil)) [some (.rol (ns.map .int)), x] = some (.dat (.int ns.length), [some (.rol (ns.map .int)), x]) := fun x => by simp
    have h0 : ((ns.length : Int) == 0) = false := by rw [beq_eq_false_iff_ne]; omega
    have t1 : (fIfS (fTst (fBin gEq (fCB gLen (fCons (fVar 0) fNil)) (fC (.int 0)))) (fRet [0] (fC (.int 0))) fNext) [some (.rol (ns.map .int)), none] = some (.nx [some (.rol (ns.map .int)), none]) := by
      simp [h0, h]
    have t2 : (fSet false 1 (fCB gInt (fCons (fBin gIx (fVar 0) (fBin gMod (fBin gMod (fCB gInt (fCons (fBin PD.gSub (fCB gLen (fCons (fVar 0) fNil)) (fC (.int 1))) fNil)) (fC (.int 7))) (fCB gLen (fCons (fVar 0) fNil)))) fNil))) [some (.rol (ns.map .int)), none] = some (.nx [some (.rol (ns.map .int)), di ns[k]]) := by
      generalize ns[k] = x at *
      generalize hNZ : ns.map PyData.int = NZ at *
      have hlz : NZ.length = ns.length := by rw [← hNZ]; simp
      simp [-ev_gI, hlz, q1, q2, a]
    generalize ns[k] = x at *
    have m1 := fun ρ => mod_int (x := -x) hP ρ
    have m2 := fun ρ => mod_int (x := x) hP ρ
    generalize -x % P = y1 at *
    generalize x % P = y2 at *
    by_cases hx : x < 0
    · refine ⟨-y1, run_rt rfl (ρ := [some (.rol (ns.map .int)), di x]) ((seq_nx t1).trans ((seq_nx t2).trans ?_)) (by simp)⟩
      rw [ev_seq]
      have t3 : (fIfS (fTst (fBin gLt (fVar 1) (fC (.int 0)))) (fRet [0] (fNeg (fBin gMod (fCB gInt (fCons (fNeg (fVar 1)) fNil)) (fBin gPow (fC (.int 10)) (fC (.int 60)))))) fNext) [some (.rol (ns.map .int)), di x] = some (.rt (.dat (.int (-y1))) [some (.rol (ns.map .int)), di x]) := by
        simp [-ev_gI, hx, pw, m1]
      rw [t3]; rfl
    · refine ⟨y2, run_rt rfl (ρ := [some (.rol (ns.map .int)), di x]) ((seq_nx t1).trans ((seq_nx t2).trans ((seq_nx (ρ1 := [some (.rol (ns.map .int)), di x]) ?_).trans ?_))) (by simp)⟩
      · simp [-ev_gI, hx]
      · simp [-ev_gI, pw, m2]
/-! ### the written machines -/
def Mw (s l : Nat) : Nat := pg ([[0, 1], [2, 3], [0, 1], [2, 3]].getD s []) l
def ew (s : Nat) : Bool := [false, false, true, true].getD s false
def M2 (s l : Nat) : Nat := pg ([[1, 2], [1, 2], [2, 1]].getD s []) l
def e2 (s : Nat) : Bool := [true, true, false].getD s false
def w4 (s : Nat) : List Nat := [[], [1], [1, 0], [1, 1]].getD s []
theorem allN4 {p : Nat → Prop} (h0 : p 0) (h1 : p 1) (h2 : p 2) (h3 : p 3) : ∀ k, k < 4 → p k := fun k hk => by
  rcases k with _ | _ | _ | _ | k
  · exact h0
  · exact h1
  · exact h2
  · exact h3
  · omega
theorem allN2 {p : Nat → Prop} (h0 : p 0) (h1 : p 1) : ∀ k, k < 2 → p k := fun k hk => by
  rcases k with _ | _ | k
  · exact h0
  · exact h1
  · omega
theorem allN3 {p : Nat → Prop} (h0 : p 0) (h1 : p 1) (h2 : p 2) : ∀ k, k < 3 → p k := fun k hk => by
  rcases k with _ | _ | _ | k
  · exact h0
  · exact h1
  · exact h2
  · omega
theorem Mw_lt : ∀ k, k < 4 → ∀ l, l < 2 → Mw k l < 4 := allN4 (allN2 (by decide) (by decide)) (allN2 (by decide) (by decide)) (allN2 (by decide) (by decide)) (allN2 (by decide) (by decide))
theorem M2_lt : ∀ k, k < 3 → ∀ l, l < 2 → M2 k l < 3 := allN3 (allN2 (by decide) (by decide)) (allN2 (by decide) (by decide)) (allN2 (by decide) (by decide))
theorem can_w : Can 4 2 Mw w4 := by
  refine ⟨by decide, by decide, rfl, Mw_lt, ?_, ?_, ?_⟩
  · intro k k' h h'
    rcases k' with _ | _ | _ | _ | k' <;> rcases k with _ | _ | _ | _ | k <;> first | omega | decide
  · exact allN4 (allN2 (by decide) (by decide)) (allN2 (by decide) (by decide)) (allN2 (by decide) (by decide)) (allN2 (by decide) (by decide))
  · exact allN4 (fun h => absurd rfl h) (fun _ => ⟨0, 1, by decide, by decide, rfl, rfl⟩) (fun _ => ⟨1, 0, by decide, by decide, rfl, rfl⟩) (fun _ => ⟨1, 1, by decide, by decide, rfl, rfl⟩)
def wsD : List (List Int) := [[], [1], [1, 0], [1, 1]]
def psD : List (List Int) := [[0], [], [], [], [], [0]]
def psX : List (List Int) := [[1, 0], [], [], [], [], [0, 0]]
def ws2 : List (List Int) := [[], [0], [1]]
def ps2 : List (List Int) := [[1], [], []]
theorem all6 {p : Nat → Prop} (h0 : p 0) (h1 : p 1) (h2 : p 2) (h3 : p 3) (h4 : p 4) (h5 : p 5) : ∀ k, k < 6 → p k := fun k hk => by
  rcases k with _ | _ | _ | _ | _ | _ | k
  · exact h0
  · exact h1
  · exact h2
  · exact h3
  · exact h4
  · exact h5
  · omega
theorem jd_w : JD 2 4 Mw ew wsD psD := by
  refine ⟨rfl, ⟨rfl, by unfold okw wsD; decide, allN4 rfl rfl rfl rfl⟩, ?_⟩
  exact all6 (p := fun k => Sep 2 Mw ew (pk 4 k) (gw psD k)) ⟨by unfold okw; decide, by decide⟩ ⟨by unfold okw; decide, by decide⟩ ⟨by unfold okw; decide, by decide⟩ ⟨by unfold okw; decide, by decide⟩ ⟨by unfold okw; decide, by decide⟩ ⟨by unfold okw; decide, by decide⟩
theorem jd_x : ¬ JD 2 4 Mw ew wsD psX := fun z => (z.2.2 0 (by decide)).2 rfl
theorem jd_2 : ¬ JD 2 3 M2 e2 ws2 ps2 := fun z => (z.2.2 0 (by decide)).2 rfl
abbrev wi : T := .tuple [.int 1, .tuple [.tuple [.int 0, .int 1], .tuple [.int 2, .int 3], .tuple [.int 0, .int 1], .tuple [.int 2, .int 3]], .tuple [.bool false, .bool false, .bool true, .bool true]]
abbrev tw : T := .tuple [.int 1, .tuple [.tuple [.int 1, .int 2], .tuple [.int 1, .int 2], .tuple [.int 2, .int 1]], .tuple [.bool true, .bool true, .bool false]]
abbrev du : T := .tuple [.tuple [.tuple [], .tuple [.int 1], .tuple [.int 1, .int 0], .tuple [.int 1, .int 1]], .tuple [.tuple [.int 0], .tuple [], .tuple [], .tuple [], .tuple [], .tuple [.int 0]]]
abbrev wr : T := .tuple [.tuple [.tuple [], .tuple [.int 1], .tuple [.int 1, .int 0], .tuple [.int 1, .int 1]], .tuple [.tuple [.int 1, .int 0], .tuple [], .tuple [], .tuple [], .tuple [], .tuple [.int 0, .int 0]]]
abbrev s2 : T := .tuple [.tuple [.tuple [], .tuple [.int 0], .tuple [.int 1]], .tuple [.tuple [.int 1], .tuple [], .tuple []]]
theorem wi_mk : wi = mk 1 2 4 Mw ew := rfl
theorem tw_mk : tw = mk 1 2 3 M2 e2 := rfl
theorem c_due : m_judge_shown_least [.dat wi, .dat du] = some (.dat (.bool true), []) := by
  have h := e_judge (tr := 1) (n := 4) (M := Mw) (e := ew) (by decide) (by decide) (by decide) Mw_lt (ws := wsD) (ps := psD) (by decide) (by decide) (by decide)
  rw [bo_t jd_w] at h
  exact h
theorem c_wrong : m_judge_shown_least [.dat wi, .dat wr] = some (.dat (.bool false), []) := by
  have h := e_judge (tr := 1) (n := 4) (M := Mw) (e := ew) (by decide) (by decide) (by decide) Mw_lt (ws := wsD) (ps := psX) (by decide) (by decide) (by decide)
  rw [bo_f jd_x] at h
  exact h
theorem c_twice : m_judge_shown_least [.dat tw, .dat s2] = some (.dat (.bool false), []) := by
  have h := e_judge (tr := 1) (n := 3) (M := M2) (e := e2) (by decide) (by decide) (by decide) M2_lt (ws := ws2) (ps := ps2) (by decide) (by decide) (by decide)
  rw [bo_f jd_2] at h
  exact h
end LW

namespace LW
open PySem PySem.Spec PyProof.Rows L2 PD
/-! ### a parting by one letter, with a pair beside it -/
section
variable {p r r1 : Nat × Nat} {m : T}
def qf (p r r1 : Nat × Nat) (i : Nat) : Nat × Nat := [p, r, r1].getD i (0, 0)
def vf (p : Nat × Nat) (i : Nat) : T := [.none, .tuple [pT p, .int 0], .tuple [pT p, .int 1]].getD i .none
abbrev kf3 (p r r1 : Nat × Nat) (g : Nat) : List (T × T) := kvG (fun i => pT (qf p r r1 i)) (vf p) g
theorem qf_inj (h1 : p ≠ r) (h2 : p ≠ r1) (h3 : r ≠ r1) : ∀ i j, i ≤ 2 → j ≤ 2 → PD.keyOf (pT (qf p r r1 i)) = PD.keyOf (pT (qf p r r1 j)) → i = j := fun i j hi hj h => by
  have h := (key_pT _ _).mp h
  rcases i with _ | _ | _ | i <;> rcases j with _ | _ | _ | j <;> first | rfl | omega | exact absurd h h1 | exact absurd h h2 | exact absurd h h3 | exact absurd h.symm h1 | exact absurd h.symm h2 | exact absurd h.symm h3
theorem part1 (h1 : p ≠ r) (h2 : p ≠ r1) (h3 : r ≠ r1) (kd : m_do_ends_differ [.dat m, .dat m, .dat (pT p)] = some (.dat (.bool false), [])) (kr : m_do_ends_differ [.dat m, .dat m, .dat (pT r)] = some (.dat (.bool true), []))
    (kb : m_pairs_behind [.dat m, .dat m, .dat (pT p)] = some (.obj (.lst [pT r, pT r1]), [])) : m_parting_from [.dat m, .dat m, .dat (pT p)] = some (.dat (.tuple [.int 0]), []) := by
  have inj := qf_inj h1 h2 h3
  have dg := fun (i g : Nat) (hi : i ≤ 2) (hg : g ≤ 3) => dGet_kvG (key := fun i => pT (qf p r r1 i)) (val := vf p) inj hi g hg
  have ok : ∀ (i g : Nat), kOk (kf3 p r r1 g) (pT (qf p r r1 i)) = true := fun i g => kOk_kvG (key := fun i => pT (qf p r r1 i)) (fun i => pT_key _) i g
  have dp := fun (g : Nat) (hg : g ≤ 2) => dPut_kvG (key := fun i => pT (qf p r r1 i)) (val := vf p) inj hg
  have d01 : dGet (kf3 p r r1 1) (pT r) = none := dg 1 1 (by decide) (by decide)
  have d02 : dGet (kf3 p r r1 2) (pT r1) = none := dg 2 2 (by decide) (by decide)
  have d31 : dGet (kf3 p r r1 3) (pT r) = some (.tuple [pT p, .int 0]) := dg 1 3 (by decide) (by decide)
  have d30 : dGet (kf3 p r r1 3) (pT p) = some .none := dg 0 3 (by decide) (by decide)
  have p1 : dPut (kf3 p r r1 1) (pT r) (.tuple [pT p, .int 0]) = kf3 p r r1 2 := dp 1 (by decide)
  have p2 : dPut (kf3 p r r1 2) (pT r1) (.tuple [pT p, .int 1]) = kf3 p r r1 3 := dp 2 (by decide)
  have o11 : kOk (kf3 p r r1 1) (pT r) = true := ok 1 1
  have o22 : kOk (kf3 p r r1 2) (pT r1) = true := ok 2 2
  have o31 : kOk (kf3 p r r1 3) (pT r) = true := ok 1 3
  have o30 : kOk (kf3 p r r1 3) (pT p) = true := ok 0 3
  have z1 : guardP ((kf3 p r r1 1).length < sizeLine) = some () := guardP_pos (by rw [sizeLine_eq]; simp [kvG])
  have z2 : guardP ((kf3 p r r1 2).length < sizeLine) = some () := guardP_pos (by rw [sizeLine_eq]; simp [kvG])
  have z3 : guardP (1 < sizeLine) = some () := guardP_pos (by rw [sizeLine_eq]; decide)
  have k1 : kf3 p r r1 1 = [(pT p, .none)] := rfl
  have o0 : kOk [] (pT p) = true := rfl
  rw [k1] at d01 p1 o11 z1
  generalize kf3 p r r1 2 = K2 at *
  generalize kf3 p r r1 3 = K3 at *
  have ap1 : gAppend [pT p] [pT r] = some (.none, [pT p, pT r]) := gAppend_ok (xs := [pT p]) (by simp)
  have ap2 : gAppend [pT p, pT r] [pT r1] = some (.none, [pT p, pT r, pT r1]) := gAppend_ok (xs := [pT p, pT r]) (by simp)
  have ap3 : gAppend [] [PyData.int 0] = some (.none, [.int 0]) := gAppend_ok (xs := []) (by simp)
  generalize pT p = tp at *
  generalize pT r = tr' at *
  generalize pT r1 = tr1 at *
  clear dg ok dp inj h1 h2 h3
  have i00 : atI [tp] 0 = some tp := rfl
  have i0 : atI [tp, tr'] 0 = some tp := rfl
  have i31 : atI [tp, tr', tr1] 1 = some tr' := rfl
  have b0 : atI [tr', tr1] 0 = some tr' := rfl
  have b1 : atI [tr', tr1] 1 = some tr1 := rfl
  have kw : m_word_back [.obj (.dic K3), .dat tr'] = some (.dat (.tuple [.int 0]), [.dic K3]) := by
    have w : fWh lt_word_back_1 lb_word_back_1 [oD K3, dd tr', oT [], none] = some (.nx [oD K3, dd tp, oT [.int 0], none]) := by
      rw [wh_t (ρ1 := [oD K3, dd tr', oT [], none]) (ρ2 := [oD K3, dd tp, oT [.int 0], none]) (by simp [lt_word_back_1, d31, o31]) (by simp [lb_word_back_1, d31, o31, fAsg, ap3, PD.isObj])]
      exact wh_f (by simp [lt_word_back_1, d30, o30])
    have t1 : (fSet false 2 (fLstN fNil)) [oD K3, dd tr', none, none] = some (.nx [oD K3, dd tr', oT [], none]) := by simp
    have t3 : (fRet [0, 1] (fCB gTuple (fCons (fRevL (fVar 2)) fNil))) [oD K3, dd tp, oT [.int 0], none] = some (.rt (.dat (.tuple [.int 0])) [oD K3, dd tp, oT [.int 0], none]) := by simp [gTuple]
    exact run_rt rfl ((seq_nx t1).trans ((seq_nx w).trans t3)) (by simp)
  have hb1 : lb_parting_from_2 (PQ m tp [(tp, .none)] [tp] 0 none none) = some (.nx (PQ m tp K3 [tp, tr', tr1] 1 none none)) := by
    have t1 : (fIfS (fTst (fCall m_do_ends_differ (fCons (fVar 0) (fCons (fVar 1) (fCons (fBin gIx (fVar 4) (fVar 5)) fNil))))) (fRet [0, 1, 2] (fCall m_word_back (fCons (fVar 3) (fCons (fBin gIx (fVar 4) (fVar 5)) fNil)))) fNext) (PQ m tp [(tp, .none)] [tp] 0 none none) = some (.nx (PQ m tp [(tp, .none)] [tp] 0 none none)) := by
      simp [i00, kd]
    have t2 : (fSet false 6 (fCall m_pairs_behind (fCons (fVar 0) (fCons (fVar 1) (fCons (fBin gIx (fVar 4) (fVar 5)) fNil))))) (PQ m tp [(tp, .none)] [tp] 0 none none) = some (.nx (PQ m tp [(tp, .none)] [tp] 0 (oT [tr', tr1]) none)) := by
      simp [i00, kb]
    obtain ⟨_, e3, _⟩ := for_r (β := Unit) (g := tgN false 7) (b := lb_parting_from_1) (fun i _ => PQ m tp (if i = 0 then [(tp, .none)] else if i = 1 then K2 else K3) (if i = 0 then [tp] else if i = 1 then [tp, tr'] else [tp, tr', tr1]) 0 (oT [tr', tr1]) none) (fun _ _ => True) 2 0 (fun i _ hi _ => by
      rcases (show i = 0 ∨ i = 1 by omega) with rfl | rfl
      · refine ⟨PQ m tp [(tp, .none)] [tp] 0 (oT [tr', tr1]) (di 0), (), by simp, .inl ?_, trivial⟩
        simp [lb_parting_from_1, b0, d01, o11, i00, p1, z3, ap1]
      · refine ⟨PQ m tp K2 [tp, tr'] 0 (oT [tr', tr1]) (di 1), (), by simp, .inl ?_, trivial⟩
        simp [lb_parting_from_1, b1, d02, o22, i0, p2, z2, ap2]) () trivial
    have t3 : (fFor (fItR1 (fCB gLen (fCons (fVar 6) fNil))) (tgN false 7) lb_parting_from_1) (PQ m tp [(tp, .none)] [tp] 0 (oT [tr', tr1]) none) = some (.nx (PQ m tp K3 [tp, tr', tr1] 0 (oT [tr', tr1]) none)) := for_rng (n := 2) (by simp) (by omega) e3
    have t4 : (fAug false 5 (gI0 fun i j => PyData.int (i + j)) (fC (PyData.int 1))) (PQ m tp K3 [tp, tr', tr1] 0 (oT [tr', tr1]) none) = some (.nx (PQ m tp K3 [tp, tr', tr1] 1 (oT [tr', tr1]) none)) := by simp [fAug]
    unfold lb_parting_from_2
    rw [ev_wipeS, seq_nx t1, seq_nx t2, seq_nx t3, t4]
    rfl
  have hb2 : lb_parting_from_2 (PQ m tp K3 [tp, tr', tr1] 1 none none) = some (.rt (.dat (.tuple [.int 0])) (PQ m tp K3 [tp, tr', tr1] 1 none none)) := by
    have t1 : (fIfS (fTst (fCall m_do_ends_differ (fCons (fVar 0) (fCons (fVar 1) (fCons (fBin gIx (fVar 4) (fVar 5)) fNil))))) (fRet [0, 1, 2] (fCall m_word_back (fCons (fVar 3) (fCons (fBin gIx (fVar 4) (fVar 5)) fNil)))) fNext) (PQ m tp K3 [tp, tr', tr1] 1 none none) = some (.rt (.dat (.tuple [.int 0])) (PQ m tp K3 [tp, tr', tr1] 1 none none)) := by
      simp [i31, kr, kw]
    unfold lb_parting_from_2
    rw [ev_wipeS, ev_seq, t1]
    rfl
  have h : fWh lt_parting_from_1 lb_parting_from_2 (PQ m tp [(tp, .none)] [tp] 0 none none) = some (.rt (.dat (.tuple [.int 0])) (PQ m tp K3 [tp, tr', tr1] 1 none none)) := by
    rw [wh_t (ρ1 := PQ m tp [(tp, .none)] [tp] 0 none none) (by simp [lt_parting_from_1]) hb1]
    exact wh_rt (ρ1 := PQ m tp K3 [tp, tr', tr1] 1 none none) (by simp [lt_parting_from_1]) hb2
  have t1 : sd_parting_from_1 [dd m, dd m, dd tp, none, none, none, none, none] = some (.nx [dd m, dd m, dd tp, oD [(tp, .none)], none, none, none, none]) := by simp [sd_parting_from_1, o0]
  have t2 : sd_parting_from_2 [dd m, dd m, dd tp, oD [(tp, .none)], none, none, none, none] = some (.nx [dd m, dd m, dd tp, oD [(tp, .none)], oT [tp], none, none, none]) := by simp [sd_parting_from_2]
  have t3 : sd_parting_from_3 [dd m, dd m, dd tp, oD [(tp, .none)], oT [tp], none, none, none] = some (.nx (PQ m tp [(tp, .none)] [tp] 0 none none)) := by simp [sd_parting_from_3]
  refine run_rt rfl (ρ := PQ m tp K3 [tp, tr', tr1] 1 none none) ((seq_nx t1).trans ((seq_nx t2).trans ((seq_nx t3).trans ?_))) (by simp)
  unfold sd_parting_from_4
  rw [ev_seq, h]
  rfl
end
theorem part0 {p : Nat × Nat} (h1 : p.1 < 4) (h2 : p.2 < 4) (h : ew p.1 ≠ ew p.2) : m_parting_from [.dat wi, .dat wi, .dat (pT p)] = some (.dat (.tuple []), []) := by
  have C : Chain 2 4 Mw ew 0 0 (fun _ => p) := ⟨by decide, fun _ _ => ⟨h1, h2⟩, fun i j hi hj _ => by omega, fun t ht => by omega, fun t ht => by omega, fun t ht => by omega, h⟩
  exact e_parting (tr := 1) C (by decide) (by decide)
theorem partw {p : Nat × Nat} (h1 : p.1 < 4) (h2 : p.2 < 4) (he : ew p.1 = ew p.2) (hb : bhT 2 Mw p = [pT (0, 2), pT (1, 3)]) (n1 : p ≠ (0, 2)) (n2 : p ≠ (1, 3)) : m_parting_from [.dat wi, .dat wi, .dat (pT p)] = some (.dat (.tuple [.int 0]), []) := by
  have kd := e_differ (tr := 1) (B := 2) (M := Mw) (e := ew) h1 h2
  rw [show (ew p.1 == ew p.2) = true from beq_iff_eq.mpr he] at kd
  have kb := e_behind (tr := 1) (M := Mw) (e := ew) (B := 2) (by decide) h1 h2
  rw [hb] at kb
  have kr := e_differ (tr := 1) (B := 2) (n := 4) (M := Mw) (e := ew) (p := (0, 2)) (by decide) (by decide)
  exact part1 n1 n2 (by decide) kd kr kb
def pw (p : Nat × Nat) : T := if p = (0, 1) ∨ p = (2, 3) then .tuple [.int 0] else .tuple []
theorem c_least : m_shown_least [.dat wi] = some (.dat du, []) := by
  have k1 := e_prs (n := 4) (by decide)
  have k5 : m_words_to_states [.dat wi] = some (.dat (.tuple [.tuple [], .tuple [.int 1], .tuple [.int 1, .int 0], .tuple [.int 1, .int 1]]), []) :=
    e_words (tr := 1) (e := ew) can_w (by decide) (by decide) (allN4 (by decide) (by decide) (by decide) (by decide))
  have k4 : ∀ p ∈ prs 4, m_parting_from [.dat wi, .dat wi, .dat (pT p)] = some (.dat (pw p), []) := fun p hp => by
    have : p ∈ [(0, 1), (0, 2), (0, 3), (1, 2), (1, 3), (2, 3)] := hp
    simp only [List.mem_cons, List.not_mem_nil, or_false] at this
    rcases this with rfl | rfl | rfl | rfl | rfl | rfl
    · exact partw (by decide) (by decide) rfl rfl (by decide) (by decide)
    · exact part0 (by decide) (by decide) (by decide)
    · exact part0 (by decide) (by decide) (by decide)
    · exact part0 (by decide) (by decide) (by decide)
    · exact part0 (by decide) (by decide) (by decide)
    · exact partw (by decide) (by decide) rfl rfl (by decide) (by decide)
  have lp : (prs 4).length ≤ 1000000 := by decide
  have hm0 : (fCB gLen (fCons (fBin gIx (fVar 0) (fC (.int 1))) fNil)) [dd wi, none, none, none] = some (.dat (.int (4 : Nat)), [dd wi, none, none, none]) := by
    have : atI [PyData.int 1, .tuple [.tuple [.int 0, .int 1], .tuple [.int 2, .int 3], .tuple [.int 0, .int 1], .tuple [.int 2, .int 3]], .tuple [.bool false, .bool false, .bool true, .bool true]] 1 = some (.tuple [.tuple [.int 0, .int 1], .tuple [.int 2, .int 3], .tuple [.int 0, .int 1], .tuple [.int 2, .int 3]]) := rfl
    simp [this]
  have hz : PyData.tuple ((prs 4).map pw) = .tuple [.tuple [.int 0], .tuple [], .tuple [], .tuple [], .tuple [], .tuple [.int 0]] := rfl
  generalize wi = m at *
  have e1 : fLc (fItE (fCall m_pairs_of_states (fCons (fCB gLen (fCons (fBin gIx (fVar 0) (fC (.int 1))) fNil)) fNil))) (tgTup (tgCons (tgN false 2) (tgCons (tgN false 3) tgNil))) fYes le_shown_least_1 [2, 3] [dd m, none, none, none] = some (.tmp (.lst ((prs 4).map pw)), [dd m, none, none, none]) := lc_it (e := pT) (xs := prs 4) pw (by
    generalize (prs 4).map pT = Z at *
    generalize (fCB gLen (fCons (fBin gIx (fVar 0) (fC (.int 1))) fNil)) = f at *
    have k1 : m_pairs_of_states [.dat (.int 4)] = some (.obj (.lst Z), []) := k1
    have hm0 : f [dd m, none, none, none] = some (.dat (.int 4), [dd m, none, none, none]) := hm0
    simp [hm0, k1]) lp (by simp) (by simp) (fun p hp' => by
    have k6 := k4 p hp'
    have k7 : m_parting_of_states [.dat m, .dat (nI p.1), .dat (nI p.2)] = some (.dat (pw p), []) := by
      have k6 : m_parting_from [.dat m, .dat m, .dat (.tuple [nI p.1, nI p.2])] = _ := k6
      unfold m_parting_of_states d_parting_of_states
      rw [ev_run3]
      simp [k6]
    exact ⟨[dd m, none, dd (nI p.1), dd (nI p.2)], [dd m, none, dd (nI p.1), dd (nI p.2)], by simp [pT], by simp [le_shown_least_1, k7], by simp⟩)
  generalize ((prs 4).map pw) = Z at *
  have t1 : (fSet false 1 (fLc (fItE (fCall m_pairs_of_states (fCons (fCB gLen (fCons (fBin gIx (fVar 0) (fC (.int 1))) fNil)) fNil))) (tgTup (tgCons (tgN false 2) (tgCons (tgN false 3) tgNil))) fYes le_shown_least_1 [2, 3])) [dd m, none, none, none] = some (.nx [dd m, oT Z, none, none]) := by
    rw [ev_set, e1]
    rfl
  have t2 : (fRet [0] (fTupN (fCons (fCall m_words_to_states (fCons (fVar 0) fNil)) (fCons (fCB gTuple (fCons (fVar 1) fNil)) fNil)))) [dd m, oT Z, none, none] = some (.rt (.dat du) [dd m, oT Z, none, none]) := by
    simp [k5, gTuple, hz]
  exact run_rt rfl ((seq_nx t1).trans t2) (by simp)
end LW

namespace LW
open PySem PySem.Spec PyProof.Rows L2 PD
theorem law_true (ns : List Int) (h63 : ns.length ≤ 63) (_ : ∀ z ∈ ns, PySem.Builtin.Int.intBits z ≤ 1048576) : ∃ cs, m_law [.rol (ns.map .int)] = some (.dat (.bool true), cs) := by
  obtain ⟨ds, hd⟩ := draws_ok ns 700 (by omega) (by decide)
  have hd : m__law_draws [.rol (ns.map .int), .dat (.int 700)] = some (.obj (.lst (ds.map .int)), []) := hd
  obtain ⟨c, hc⟩ := e_cell ns (by omega)
  have t1 : sd_law_1 [some (.rol (ns.map .int)), none, none, none, none, none, none, none, none, none, none, none, none, none, none] = some (.nx [some (.rol (ns.map .int)), ol ds, none, none, none, none, none, none, none, none, none, none, none, none, none]) := by
    simp [sd_law_1, hd]
  have t2 : sd_law_2 [some (.rol (ns.map .int)), ol ds, none, none, none, none, none, none, none, none, none, none, none, none, none] = some (.nx (LE ns ds (.int c) none none none none none none none none none none none)) := by
    simp [sd_law_2, hc]
  obtain ⟨ds3, e3, _⟩ := for_t (β := List Int) (g := tgN false 3) (b := lb_law_1) (fun _ ds => LE ns ds (.int c) none none none none none none none none none none none) (fun _ _ => True) [PyData.int 1, .int 2] (fun i x ds hx _ => by
    obtain ⟨m, rfl, h1, h2⟩ : ∃ m : Nat, x = .int m ∧ 1 ≤ m ∧ m ≤ 2 := by
      have := List.mem_of_getElem? hx
      simp at this
      rcases this with rfl | rfl
      · exact ⟨1, rfl, by decide, by decide⟩
      · exact ⟨2, rfl, by decide, by decide⟩
    obtain ⟨ds', e⟩ := law_b (ns := ns) (ds := ds) (cell := c) h1 h2
    exact ⟨LE ns ds (.int c) (di m) none none none none none none none none none none, ds', by simp, .inl e, trivial⟩) ds trivial
  have t3 : sd_law_10 (LE ns ds (.int c) none none none none none none none none none none none) = some (.nx (LE ns ds3 (.int c) none none none none none none none none none none none)) := for_tup (by simp) e3
  have t4 : sd_law_11 (LE ns ds3 (.int c) none none none none none none none none none none none) = some (.nx (LE ns ds3 (.int c) none none none none none none (dd wi) none none none none)) := by
    simp [sd_law_11]
  have t5 : sd_law_12 (LE ns ds3 (.int c) none none none none none none (dd wi) none none none none) = some (.nx (LE ns ds3 (.int c) none none none none none none (dd wi) (dd du) none none none)) := by
    generalize wi = w at *
    simp [sd_law_12]
  have t6 : sd_law_13 (LE ns ds3 (.int c) none none none none none none (dd wi) (dd du) none none none) = some (.nx (LE ns ds3 (.int c) none none none none none none (dd wi) (dd du) (dd wr) none none)) := by
    generalize wi = w at *
    generalize du = d at *
    simp [sd_law_13]
  have t7 : sd_law_14 (LE ns ds3 (.int c) none none none none none none (dd wi) (dd du) (dd wr) none none) = some (.nx (LE ns ds3 (.int c) none none none none none none (dd wi) (dd du) (dd wr) (dd tw) none)) := by
    generalize wi = w at *
    generalize du = d at *
    generalize wr = r at *
    simp [sd_law_14]
  have c1 := c_least
  have c2 := c_due
  have c3 := c_wrong
  have c4 := c_twice
  have sd : SOk 5 du := sok_cons (x := .tuple _) (sok_wsT (ws := wsD) (by decide) (by decide)) (sok_cons (x := .tuple _) (sok_wsT (ws := psD) (by decide) (by decide)) sok_nil (by simp)) (by simp)
  have s := same6 (sok_cons sd (sok_cons (.bool 4 true) (sok_cons (.bool 4 false) (sok_cons (.bool 4 false) sok_nil (by simp)) (by simp)) (by simp)) (by simp))
  have t8 : sd_law_15 (LE ns ds3 (.int c) none none none none none none (dd wi) (dd du) (dd wr) (dd tw) none) = some (.nx (LE ns ds3 (.int c) none none none none none none (dd wi) (dd du) (dd wr) (dd tw) (dt [du, .bool true, .bool false, .bool false]))) := by
    generalize wi = w at *
    generalize du = d at *
    generalize wr = r at *
    generalize tw = tt at *
    simp [sd_law_15, c1, c2, c3, c4]
  have t9 : sd_law_16 (LE ns ds3 (.int c) none none none none none none (dd wi) (dd du) (dd wr) (dd tw) (dt [du, .bool true, .bool false, .bool false])) = some (.rt (.dat (.bool true)) (LE ns ds3 (.int c) none none none none none none (dd wi) (dd du) (dd wr) (dd tw) (dt [du, .bool true, .bool false, .bool false]))) := by
    generalize wi = w at *
    generalize du = d at *
    generalize wr = r at *
    generalize tw = tt at *
    simp [sd_law_16, s]
  have fin : d_law [some (.rol (ns.map .int)), none, none, none, none, none, none, none, none, none, none, none, none, none, none] = some (.rt (.dat (.bool true)) (LE ns ds3 (.int c) none none none none none none (dd wi) (dd du) (dd wr) (dd tw) (dt [du, .bool true, .bool false, .bool false]))) := by
    unfold d_law
    rw [seq_nx t1, seq_nx t2, seq_nx t3, seq_nx t4, seq_nx t5, seq_nx t6, seq_nx t7, seq_nx t8, t9]
  exact ⟨[], run_rt rfl fin (by simp)⟩
end LW

open PySem PySem.W PyProof.Rows
set_option maxRecDepth 100000 in
set_option maxHeartbeats 0 in
theorem PySem.Challenge.cw_everynumber_k08_showings_of_rings_and_la_holds : PySem.Challenge.rw_everynumber_k08_showings_of_rings_and_la.Holds := by
  w_on; o_law; k_head; (case hw => w_witness2)
  k_fill
  refine PD.walk_pd (l := PySem.Challenge.rw_everynumber_k08_showings_of_rings_and_la) (k := 9) (m := LW.m_law) rfl rfl ⟨rfl, by decide, by decide⟩ (fun w h Y => PySem.W.kIn_of Y) ?F (fun ns h1 h2 => LW.law_true ns h1 h2)
  case F =>
    intro w mg fa h KX G hmg
    have B : PD.Bs mg := by
      refine' PD.bs_mk KX G ?_ ?_ ?_ ?_ ?_ ?_ ?_ ?_ ?_ ?_ ?_ ?_ ?_ ?_ ?_ ?_ ?_ <;> k_is
    have A_letters_for : PD.At (PD.KOf KX) mg "letters_for" LW.s_letters_for ["tracks"] := by
      refine' PD.at_mk KX G ?a ?l ?c ?k (fun _ _ _ _ _ _ us hl => match us, hl with | [_], _ => rfl)
      (case a => k_is); (case l => k_is); (case c => k_is); (case k => k_is)
    have A_words_to_states : PD.At (PD.KOf KX) mg "words_to_states" LW.s_words_to_states ["machine"] := by
      refine' PD.at_mk KX G ?a ?l ?c ?k (fun _ _ _ _ _ _ us hl => match us, hl with | [_], _ => rfl)
      (case a => k_is); (case l => k_is); (case c => k_is); (case k => k_is)
    have A_state_from : PD.At (PD.KOf KX) mg "state_from" LW.s_state_from ["machine", "state", "word"] := by
      refine' PD.at_mk KX G ?a ?l ?c ?k (fun _ _ _ _ _ _ us hl => match us, hl with | [_, _, _], _ => rfl)
      (case a => k_is); (case l => k_is); (case c => k_is); (case k => k_is)
    have A_state_behind : PD.At (PD.KOf KX) mg "state_behind" LW.s_state_behind ["machine", "word"] := by
      refine' PD.at_mk KX G ?a ?l ?c ?k (fun _ _ _ _ _ _ us hl => match us, hl with | [_, _], _ => rfl)
      (case a => k_is); (case l => k_is); (case c => k_is); (case k => k_is)
    have A_pairs_behind : PD.At (PD.KOf KX) mg "pairs_behind" LW.s_pairs_behind ["one", "other", "pair"] := by
      refine' PD.at_mk KX G ?a ?l ?c ?k (fun _ _ _ _ _ _ us hl => match us, hl with | [_, _, _], _ => rfl)
      (case a => k_is); (case l => k_is); (case c => k_is); (case k => k_is)
    have A_do_ends_differ : PD.At (PD.KOf KX) mg "do_ends_differ" LW.s_do_ends_differ ["one", "other", "pair"] := by
      refine' PD.at_mk KX G ?a ?l ?c ?k (fun _ _ _ _ _ _ us hl => match us, hl with | [_, _, _], _ => rfl)
      (case a => k_is); (case l => k_is); (case c => k_is); (case k => k_is)
    have A_word_back : PD.At (PD.KOf KX) mg "word_back" LW.s_word_back ["ways", "pair"] := by
      refine' PD.at_mk KX G ?a ?l ?c ?k (fun _ _ _ _ _ _ us hl => match us, hl with | [_, _], _ => rfl)
      (case a => k_is); (case l => k_is); (case c => k_is); (case k => k_is)
    have A_parting_from : PD.At (PD.KOf KX) mg "parting_from" LW.s_parting_from ["one", "other", "first"] := by
      refine' PD.at_mk KX G ?a ?l ?c ?k (fun _ _ _ _ _ _ us hl => match us, hl with | [_, _, _], _ => rfl)
      (case a => k_is); (case l => k_is); (case c => k_is); (case k => k_is)
    have A_parting_of_states : PD.At (PD.KOf KX) mg "parting_of_states" LW.s_parting_of_states ["machine", "i", "j"] := by
      refine' PD.at_mk KX G ?a ?l ?c ?k (fun _ _ _ _ _ _ us hl => match us, hl with | [_, _, _], _ => rfl)
      (case a => k_is); (case l => k_is); (case c => k_is); (case k => k_is)
    have A_pairs_of_states : PD.At (PD.KOf KX) mg "pairs_of_states" LW.s_pairs_of_states ["size"] := by
      refine' PD.at_mk KX G ?a ?l ?c ?k (fun _ _ _ _ _ _ us hl => match us, hl with | [_], _ => rfl)
      (case a => k_is); (case l => k_is); (case c => k_is); (case k => k_is)
    have A_shown_least : PD.At (PD.KOf KX) mg "shown_least" LW.s_shown_least ["machine"] := by
      refine' PD.at_mk KX G ?a ?l ?c ?k (fun _ _ _ _ _ _ us hl => match us, hl with | [_], _ => rfl)
      (case a => k_is); (case l => k_is); (case c => k_is); (case k => k_is)
    have A_is_word_for : PD.At (PD.KOf KX) mg "is_word_for" LW.s_is_word_for ["tracks", "word"] := by
      refine' PD.at_mk KX G ?a ?l ?c ?k (fun _ _ _ _ _ _ us hl => match us, hl with | [_, _], _ => rfl)
      (case a => k_is); (case l => k_is); (case c => k_is); (case k => k_is)
    have A_do_words_lead : PD.At (PD.KOf KX) mg "do_words_lead" LW.s_do_words_lead ["machine", "words"] := by
      refine' PD.at_mk KX G ?a ?l ?c ?k (fun _ _ _ _ _ _ us hl => match us, hl with | [_, _], _ => rfl)
      (case a => k_is); (case l => k_is); (case c => k_is); (case k => k_is)
    have A_does_word_part : PD.At (PD.KOf KX) mg "does_word_part" LW.s_does_word_part ["machine", "pair", "word"] := by
      refine' PD.at_mk KX G ?a ?l ?c ?k (fun _ _ _ _ _ _ us hl => match us, hl with | [_, _, _], _ => rfl)
      (case a => k_is); (case l => k_is); (case c => k_is); (case k => k_is)
    have A_judge_shown_least : PD.At (PD.KOf KX) mg "judge_shown_least" LW.s_judge_shown_least ["machine", "shown"] := by
      refine' PD.at_mk KX G ?a ?l ?c ?k (fun _ _ _ _ _ _ us hl => match us, hl with | [_, _], _ => rfl)
      (case a => k_is); (case l => k_is); (case c => k_is); (case k => k_is)
    have A__law_draws : PD.At (PD.KOf KX) mg "_law_draws" LW.s__law_draws ["script", "many"] := by
      refine' PD.at_mk KX G ?a ?l ?c ?k (fun _ _ _ _ _ _ us hl => match us, hl with | [_, _], _ => rfl)
      (case a => k_is); (case l => k_is); (case c => k_is); (case k => k_is)
    have A__law_take : PD.At (PD.KOf KX) mg "_law_take" LW.s__law_take ["draws", "many"] := by
      refine' PD.at_mk KX G ?a ?l ?c ?k (fun _ _ _ _ _ _ us hl => match us, hl with | [_, _], _ => rfl)
      (case a => k_is); (case l => k_is); (case c => k_is); (case k => k_is)
    have A__law_cell : PD.At (PD.KOf KX) mg "_law_cell" LW.s__law_cell ["script"] := by
      refine' PD.at_mk KX G ?a ?l ?c ?k (fun _ _ _ _ _ _ us hl => match us, hl with | [_], _ => rfl)
      (case a => k_is); (case l => k_is); (case c => k_is); (case k => k_is)
    have A__law_same : PD.At (PD.KOf KX) mg "_law_same" LW.s__law_same ["actual", "due"] := by
      refine' PD.at_mk KX G ?a ?l ?c ?k (fun _ _ _ _ _ _ us hl => match us, hl with | [_, _], _ => rfl)
      (case a => k_is); (case l => k_is); (case c => k_is); (case k => k_is)
    have A__law_order : PD.At (PD.KOf KX) mg "_law_order" LW.s__law_order ["draws", "many"] := by
      refine' PD.at_mk KX G ?a ?l ?c ?k (fun _ _ _ _ _ _ us hl => match us, hl with | [_, _], _ => rfl)
      (case a => k_is); (case l => k_is); (case c => k_is); (case k => k_is)
    have A__law_mixed : PD.At (PD.KOf KX) mg "_law_mixed" LW.s__law_mixed ["draws", "machine"] := by
      refine' PD.at_mk KX G ?a ?l ?c ?k (fun _ _ _ _ _ _ us hl => match us, hl with | [_, _], _ => rfl)
      (case a => k_is); (case l => k_is); (case c => k_is); (case k => k_is)
    have A__law_counter : PD.At (PD.KOf KX) mg "_law_counter" LW.s__law_counter ["tracks", "weights", "m", "ends"] := by
      refine' PD.at_mk KX G ?a ?l ?c ?k (fun _ _ _ _ _ _ us hl => match us, hl with | [_, _, _, _], _ => rfl)
      (case a => k_is); (case l => k_is); (case c => k_is); (case k => k_is)
    have A__law_ladder : PD.At (PD.KOf KX) mg "_law_ladder" LW.s__law_ladder ["tracks", "letters", "most", "ends"] := by
      refine' PD.at_mk KX G ?a ?l ?c ?k (fun _ _ _ _ _ _ us hl => match us, hl with | [_, _, _, _], _ => rfl)
      (case a => k_is); (case l => k_is); (case c => k_is); (case k => k_is)
    have A__law_word : PD.At (PD.KOf KX) mg "_law_word" LW.s__law_word ["draws", "tracks", "length"] := by
      refine' PD.at_mk KX G ?a ?l ?c ?k (fun _ _ _ _ _ _ us hl => match us, hl with | [_, _, _], _ => rfl)
      (case a => k_is); (case l => k_is); (case c => k_is); (case k => k_is)
    have A__law_from : PD.At (PD.KOf KX) mg "_law_from" LW.s__law_from ["machine", "state", "word"] := by
      refine' PD.at_mk KX G ?a ?l ?c ?k (fun _ _ _ _ _ _ us hl => match us, hl with | [_, _, _], _ => rfl)
      (case a => k_is); (case l => k_is); (case c => k_is); (case k => k_is)
    have A__law_is_shown : PD.At (PD.KOf KX) mg "_law_is_shown" LW.s__law_is_shown ["machine", "words", "parts"] := by
      refine' PD.at_mk KX G ?a ?l ?c ?k (fun _ _ _ _ _ _ us hl => match us, hl with | [_, _, _], _ => rfl)
      (case a => k_is); (case l => k_is); (case c => k_is); (case k => k_is)
    have A__law_ring_shown : PD.At (PD.KOf KX) mg "_law_ring_shown" LW.s__law_ring_shown ["letter", "m"] := by
      refine' PD.at_mk KX G ?a ?l ?c ?k (fun _ _ _ _ _ _ us hl => match us, hl with | [_, _], _ => rfl)
      (case a => k_is); (case l => k_is); (case c => k_is); (case k => k_is)
    have A__law_ladder_shown : PD.At (PD.KOf KX) mg "_law_ladder_shown" LW.s__law_ladder_shown ["letter", "most"] := by
      refine' PD.at_mk KX G ?a ?l ?c ?k (fun _ _ _ _ _ _ us hl => match us, hl with | [_, _], _ => rfl)
      (case a => k_is); (case l => k_is); (case c => k_is); (case k => k_is)
    have A__law_put_in : PD.At (PD.KOf KX) mg "_law_put_in" LW.s__law_put_in ["draws", "word", "rounds"] := by
      refine' PD.at_mk KX G ?a ?l ?c ?k (fun _ _ _ _ _ _ us hl => match us, hl with | [_, _, _], _ => rfl)
      (case a => k_is); (case l => k_is); (case c => k_is); (case k => k_is)
    have A__law_are_spoilt_judged : PD.At (PD.KOf KX) mg "_law_are_spoilt_judged" LW.s__law_are_spoilt_judged ["draws", "machine", "words", "parts", "cell"] := by
      refine' PD.at_mk KX G ?a ?l ?c ?k (fun _ _ _ _ _ _ us hl => match us, hl with | [_, _, _, _, _], _ => rfl)
      (case a => k_is); (case l => k_is); (case c => k_is); (case k => k_is)
    have A__law_is_told : PD.At (PD.KOf KX) mg "_law_is_told" LW.s__law_is_told ["draws", "machine", "shown", "rounds", "cell"] := by
      refine' PD.at_mk KX G ?a ?l ?c ?k (fun _ _ _ _ _ _ us hl => match us, hl with | [_, _, _, _, _], _ => rfl)
      (case a => k_is); (case l => k_is); (case c => k_is); (case k => k_is)
    have A_law : PD.At (PD.KOf KX) mg "law" LW.s_law ["script"] := by
      refine' PD.at_mk KX G ?a ?l ?c ?k (fun _ _ _ _ _ _ us hl => match us, hl with | [_], _ => rfl)
      (case a => k_is); (case l => k_is); (case c => k_is); (case k => k_is)
    exact LW.law_fn B A_letters_for A_words_to_states A_state_from A_state_behind A_pairs_behind A_do_ends_differ A_word_back A_parting_from A_parting_of_states A_pairs_of_states A_shown_least A_is_word_for A_do_words_lead A_does_word_part A_judge_shown_least A__law_draws A__law_take A__law_cell A__law_same A__law_order A__law_mixed A__law_counter A__law_ladder A__law_word A__law_from A__law_is_shown A__law_ring_shown A__law_ladder_shown A__law_put_in A__law_are_spoilt_judged A__law_is_told A_law hmg
