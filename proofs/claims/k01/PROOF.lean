import PyProof.Rows.All
import HandS.ForMost
import HandS.EndBits
import HandS.Wide
import HandS.WideBits
import KE.DataEq
import KE.DataCmp
import KE.DataFind
import KE.DataIsa
import KE.DataMinMax
import KE.DataAny
import HandS.TupMul
import HandS.TupAny
import HandS.Conv
import HandS.Style
import HandS.SortInts
import HandS.Deep
import KE.KTupSum
import HandS.Strs
import Wide.All
import OpenK.AllK
import PySem.Challenge.RW_everynumber_k01_letters_as_sets_of_track
set_option Elab.async false
set_option linter.all false
set_option maxRecDepth 100000
namespace PD
open PySem PySem.Spec PyProof.Rows L2

/-- pure data -/
abbrev T := PyData
abbrev Sto := L2.St

/-- an exact tuple: tracked with its object, or an object of the module -/
def ExT (ob : Obj) : Prop := ob.cls = .type "tuple" ∧ ob.dict = none
def SqX (K : PySem.W.Frag) (H : Hp) (a : Addr) (xs : List V) : Prop :=
  (∃ ob, H a = some (.frz ob (.tup xs)) ∧ ExT ob) ∨
    ∃ (o : Obj) (its : Array Value) (n : Nat), K.lookup a = some o ∧ ExT o ∧ o.data = .seq its n ∧ its.size ≤ sizeLine ∧ Vals xs its.toList
theorem SqX.t {K : PySem.W.Frag} {H : Hp} {a : Addr} {xs : List V} (h : SqX K H a xs) : SqT K H a xs := by
  rcases h with ⟨ob, h, _⟩ | ⟨o, its, n, hk, hx, hd, hz, r⟩
  · exact .inl (.inr ⟨ob, h⟩)
  · exact .inr ⟨o, its, n, hk, hx.1, hd, hz, r⟩
theorem SqX.new {K : PySem.W.Frag} {H : Hp} {p : Addr} {ob : Obj} {xs : List V} (h : ExT ob) : SqX K (upd H p (.frz ob (.tup xs))) p xs := .inl ⟨ob, upd_same, h⟩

mutual
inductive Rp (K : PySem.W.Frag) (H : Hp) : V → T → Prop
  | non : Rp K H .non .none
  | bl (b : Bool) : Rp K H (.bl b) (.bool b)
  | int (i : Int) : Rp K H (.int i) (.int i)
  | str (x : Str) : Rp K H (.str x) (.str x)
  | tup {a : Addr} {xs : List V} {ds : List T} : SqX K H a xs → RpL K H xs ds → Rp K H (.ref a) (.tuple ds)
inductive RpL (K : PySem.W.Frag) (H : Hp) : List V → List T → Prop
  | nil : RpL K H [] []
  | cons {v : V} {vs : List V} {d : T} {ds : List T} : Rp K H v d → RpL K H vs ds → RpL K H (v :: vs) (d :: ds)
end

/-- the tuples stand -/
def TSt (K : PySem.W.Frag) (H H' : Hp) : Prop := ∀ a xs, SqX K H a xs → SqX K H' a xs
theorem TSt.refl (K : PySem.W.Frag) (H : Hp) : TSt K H H := fun _ _ h => h
theorem TSt.trans {K : PySem.W.Frag} {H H1 H2 : Hp} (a : TSt K H H1) (b : TSt K H1 H2) : TSt K H H2 := fun x xs h => b x xs (a x xs h)

section
variable {K : PySem.W.Frag} {H H' : Hp}
mutual
theorem Rp.mono (h : TSt K H H') : ∀ (d : T) (v : V), Rp K H v d → Rp K H' v d
  | .none, _, r => by cases r; exact .non
  | .bool b, _, r => by cases r; exact .bl b
  | .int i, _, r => by cases r; exact .int i
  | .str x, _, r => by cases r; exact .str x
  | .tuple ds, _, r => by
    cases r with
    | tup hs ha => exact .tup (h _ _ hs) (RpL.mono h ds _ ha)
  | .list _, _, r => by cases r
  | .dict _, _, r => by cases r
theorem RpL.mono (h : TSt K H H') : ∀ (ds : List T) (vs : List V), RpL K H vs ds → RpL K H' vs ds
  | [], _, r => by cases r; exact .nil
  | d :: ds, _, r => by
    cases r with
    | cons h1 h2 => exact .cons (Rp.mono h d _ h1) (RpL.mono h ds _ h2)
end
theorem Rp.m (h : TSt K H H') {d : T} {v : V} (r : Rp K H v d) : Rp K H' v d := Rp.mono h d v r
theorem RpL.m (h : TSt K H H') {d : List T} {v : List V} (r : RpL K H v d) : RpL K H' v d := RpL.mono h d v r

mutual
theorem Rp.dp : ∀ (d : T) (v : V), Rp K H v d → Dp K H v d
  | .none, _, r => by cases r; exact .non
  | .bool b, _, r => by cases r; exact .bl b
  | .int i, _, r => by cases r; exact .int i
  | .str x, _, r => by cases r; exact .str x
  | .tuple ds, _, r => by
    cases r with
    | tup hs ha => exact .tup hs.t (RpL.dp ds _ ha)
  | .list _, _, r => by cases r
  | .dict _, _, r => by cases r
theorem RpL.dp : ∀ (ds : List T) (vs : List V), RpL K H vs ds → DpAll K H vs ds
  | [], _, r => by cases r; exact .nil
  | d :: ds, _, r => by
    cases r with
    | cons h1 h2 => exact .cons (Rp.dp d _ h1) (RpL.dp ds _ h2)
end
mutual
theorem Rp.plain : ∀ (d : T) (v : V), Rp K H v d → d.plain = true
  | .none, _, r => by rfl
  | .bool b, _, r => by rfl
  | .int i, _, r => by rfl
  | .str x, _, r => by rfl
  | .tuple ds, _, r => by
    cases r with
    | tup hs ha => exact RpL.plain ds _ ha
  | .list _, _, r => by cases r
  | .dict _, _, r => by cases r
theorem RpL.plain : ∀ (ds : List T) (vs : List V), RpL K H vs ds → PyData.plainAll ds = true
  | [], _, r => by rfl
  | d :: ds, _, r => by
    cases r with
    | cons h1 h2 => simp [PyData.plainAll, Rp.plain d _ h1, RpL.plain ds _ h2]
end

theorem RpL.length : ∀ {vs : List V} {ds : List T}, RpL K H vs ds → vs.length = ds.length
  | _, _, .nil => rfl
  | _, _, .cons _ t => by simp [RpL.length t]
theorem RpL.get : ∀ {vs : List V} {ds : List T} {i : Nat} {d : T}, RpL K H vs ds → ds[i]? = some d → ∃ v, vs[i]? = some v ∧ Rp K H v d
  | _, _, _, _, .nil, h => by simp at h
  | _, _, 0, _, .cons r _, h => by
    simp at h; subst h; exact ⟨_, rfl, r⟩
  | _, _, i + 1, _, .cons _ t, h => by
    obtain ⟨v, e, r⟩ := RpL.get (i := i) t (by simpa using h)
    exact ⟨v, by simpa using e, r⟩
theorem RpL.getV : ∀ {vs : List V} {ds : List T} {i : Nat} {v : V}, RpL K H vs ds → vs[i]? = some v → ∃ d, ds[i]? = some d ∧ Rp K H v d
  | _, _, _, _, .nil, h => by simp at h
  | _, _, 0, _, .cons r _, h => by
    simp at h; subst h; exact ⟨_, rfl, r⟩
  | _, _, i + 1, _, .cons _ t, h => by
    obtain ⟨v, e, r⟩ := RpL.getV (i := i) t (by simpa using h)
    exact ⟨v, by simpa using e, r⟩
theorem RpL.append : ∀ {vs ws : List V} {ds es : List T}, RpL K H vs ds → RpL K H ws es → RpL K H (vs ++ ws) (ds ++ es)
  | _, _, _, _, .nil, s => s
  | _, _, _, _, .cons r t, s => .cons r (RpL.append t s)
theorem RpL.take : ∀ {vs : List V} {ds : List T} (n : Nat), RpL K H vs ds → RpL K H (vs.take n) (ds.take n)
  | _, _, 0, _ => .nil
  | _, _, _ + 1, .nil => .nil
  | _, _, n + 1, .cons r t => .cons r (RpL.take n t)
theorem RpL.drop : ∀ {vs : List V} {ds : List T} (n : Nat), RpL K H vs ds → RpL K H (vs.drop n) (ds.drop n)
  | _, _, 0, r => r
  | _, _, _ + 1, .nil => .nil
  | _, _, n + 1, .cons _ t => RpL.drop n t
theorem RpL.set : ∀ {vs : List V} {ds : List T} (i : Nat) {v : V} {d : T}, RpL K H vs ds → Rp K H v d → RpL K H (vs.set i v) (ds.set i d)
  | _, _, _, _, _, .nil, _ => .nil
  | _, _, 0, _, _, .cons _ t, r => .cons r t
  | _, _, i + 1, _, _, .cons q t, r => .cons q (RpL.set i t r)
theorem RpL.eraseIdx : ∀ {vs : List V} {ds : List T} (i : Nat), RpL K H vs ds → RpL K H (vs.eraseIdx i) (ds.eraseIdx i)
  | _, _, _, .nil => .nil
  | _, _, 0, .cons _ t => t
  | _, _, i + 1, .cons q t => .cons q (RpL.eraseIdx i t)
theorem RpL.dropLast : ∀ {vs : List V} {ds : List T}, RpL K H vs ds → RpL K H vs.dropLast ds.dropLast
  | _, _, .nil => .nil
  | _, _, .cons q .nil => .nil
  | _, _, .cons q (.cons q' t) => .cons q (RpL.dropLast (.cons q' t))
theorem RpL.one {v : V} {d : T} (r : Rp K H v d) : RpL K H [v] [d] := .cons r .nil
theorem RpL.reverse : ∀ {vs : List V} {ds : List T}, RpL K H vs ds → RpL K H vs.reverse ds.reverse
  | _, _, .nil => .nil
  | _, _, .cons q t => by
    rw [List.reverse_cons, List.reverse_cons]
    exact (RpL.reverse t).append (.one q)
theorem RpL.rep {vs : List V} {ds : List T} (h : RpL K H vs ds) : ∀ k : Nat, RpL K H (List.replicate k vs).flatten (List.replicate k ds).flatten
  | 0 => .nil
  | k + 1 => by
    rw [List.replicate_succ, List.replicate_succ, List.flatten_cons, List.flatten_cons]
    exact h.append (RpL.rep h k)
theorem RpL.ints : ∀ {ns : List Int} {vs : List V}, RpL K H vs (ns.map .int) → vs = ns.map V.int
  | [], _, h => by cases h; rfl
  | n :: ns, _, h => by
    cases h with
    | cons h1 h2 =>
      cases h1
      rw [RpL.ints h2]; rfl
theorem RpL.ofInts : ∀ (ns : List Int), RpL K H (ns.map V.int) (ns.map .int)
  | [] => .nil
  | n :: ns => .cons (.int n) (RpL.ofInts ns)
theorem RpL.bools : ∀ {ns : List Bool} {vs : List V}, RpL K H vs (ns.map .bool) → vs = ns.map V.bl
  | [], _, h => by cases h; rfl
  | n :: ns, _, h => by
    cases h with
    | cons h1 h2 =>
      cases h1
      rw [RpL.bools h2]; rfl
end

/-! ### the state -/
/-- what a mutable object holds -/
inductive C where
  | lst (xs : List T)
/-- what stands in a slot: data, a list that is read only, an object that is owned -/
inductive Sl where
  | dat (t : T) | rol (xs : List T) | obj (c : C)
abbrev Ev := List (Option Sl)

def RpC (K : PySem.W.Frag) (H : Hp) (a : Addr) : C → Prop
  | .lst xs => ∃ vs, H a = some (.lst vs) ∧ RpL K H vs xs
/-- a list that is known to the object -/
def RoL (K : PySem.W.Frag) (H : Hp) (a : Addr) (xs : List T) : Prop :=
  ∃ vs, ((∃ o, H a = some (.frz o (.lst vs))) ∨ ∃ (o : Obj) (its : Array Value) (n : Nat), K.lookup a = some o ∧ o.cls = .type "list" ∧ o.dict = none ∧ o.data = .seq its n ∧ its.size ≤ sizeLine ∧ Vals vs its.toList) ∧ RpL K H vs xs
theorem RoL.sq {K : PySem.W.Frag} {H : Hp} {a : Addr} {xs : List T} (h : RoL K H a xs) : ∃ vs, SqL K H a vs ∧ RpL K H vs xs := by
  obtain ⟨vs, h, r⟩ := h
  rcases h with ⟨o, h⟩ | h
  · exact ⟨vs, .inl (.inr ⟨o, h⟩), r⟩
  · exact ⟨vs, .inr h, r⟩
theorem RpC.sq {K : PySem.W.Frag} {H : Hp} {a : Addr} {xs : List T} (h : RpC K H a (.lst xs)) : ∃ vs, SqL K H a vs ∧ RpL K H vs xs := by
  obtain ⟨vs, h, r⟩ := h
  exact ⟨vs, .inl (.inl h), r⟩

structure SR (K : PySem.W.Frag) (H : Hp) (σ : Sto) (ρ : Ev) : Prop where
  len : ρ.length = σ.length
  dat : ∀ (i : Nat) (t : T), ρ[i]? = some (some (.dat t)) → ∃ v, σ[i]? = some (some v) ∧ Rp K H v t
  rol : ∀ (i : Nat) (xs : List T), ρ[i]? = some (some (.rol xs)) → ∃ a, σ[i]? = some (some (.ref a)) ∧ RoL K H a xs
  obj : ∀ (i : Nat) (c : C), ρ[i]? = some (some (.obj c)) → ∃ a, σ[i]? = some (some (.ref a)) ∧ RpC K H a c
  sep : ∀ (i j : Nat) (c d : C) (a : Addr), ρ[i]? = some (some (.obj c)) → ρ[j]? = some (some (.obj d)) → σ[i]? = some (some (.ref a)) → σ[j]? = some (some (.ref a)) → i = j

def Own (σ : Sto) (ρ : Ev) (a : Addr) : Prop := ∃ (i : Nat) (c : C), ρ[i]? = some (some (.obj c)) ∧ σ[i]? = some (some (.ref a))

/-- from one state to a later one: what is not owned stands; what is owned was owned, or is new -/
structure Go (K : PySem.W.Frag) (σ : Sto) (ρ : Ev) (H : Hp) (σ' : Sto) (ρ' : Ev) (H' : Hp) : Prop where
  keep : ∀ a o, H a = some o → ¬ Own σ ρ a → H' a = some o
  own : ∀ a, Own σ' ρ' a → Own σ ρ a ∨ H a = none
  tst : TSt K H H'
  dom : ∀ a, H' a = none → H a = none

section
variable {K : PySem.W.Frag} {H H1 H2 : Hp} {σ σ1 σ2 : Sto} {ρ ρ1 ρ2 : Ev}
theorem Go.refl : Go K σ ρ H σ ρ H := ⟨fun _ _ h _ => h, fun _ h => .inl h, .refl K H, fun _ h => h⟩
theorem Go.trans (a : Go K σ ρ H σ1 ρ1 H1) (b : Go K σ1 ρ1 H1 σ2 ρ2 H2) : Go K σ ρ H σ2 ρ2 H2 := by
  refine ⟨fun x o h n => ?_, fun x h => ?_, a.tst.trans b.tst, fun x h => a.dom x (b.dom x h)⟩
  · refine b.keep x o (a.keep x o h n) fun z => ?_
    rcases a.own x z with z | z
    · exact n z
    · rw [h] at z; cases z
  · rcases b.own x h with z | z
    · exact a.own x z
    · cases e : H x with
      | none => exact .inr rfl
      | some o =>
        by_cases n : Own σ ρ x
        · exact .inl n
        · rw [a.keep x o e n] at z; cases z
/-- what is owned is tracked as its content -/
theorem SR.own_some (S : SR K H σ ρ) {a : Addr} (h : Own σ ρ a) : ∃ vs, H a = some (.lst vs) := by
  obtain ⟨i, c, h1, h2⟩ := h
  obtain ⟨b, e, r⟩ := S.obj i c h1
  rw [h2] at e; cases e
  cases c with
  | lst xs => obtain ⟨vs, e, _⟩ := r; exact ⟨vs, e⟩
theorem RpC.m {K : PySem.W.Frag} {H H' : Hp} {a : Addr} {c : C} (t : TSt K H H') (e : ∀ o, H a = some o → H' a = some o) (r : RpC K H a c) : RpC K H' a c := by
  cases c with
  | lst xs => obtain ⟨vs, h, r⟩ := r; exact ⟨vs, e _ h, r.m t⟩
theorem RoL.m {K : PySem.W.Frag} {H H' : Hp} {a : Addr} {xs : List T} (t : TSt K H H') (e : ∀ o vs, H a = some (.frz o vs) → H' a = some (.frz o vs)) (r : RoL K H a xs) : RoL K H' a xs := by
  obtain ⟨vs, h, r⟩ := r
  refine ⟨vs, ?_, r.m t⟩
  rcases h with ⟨o, h⟩ | h
  · exact .inl ⟨o, e _ _ h⟩
  · exact .inr h
/-- tuples stand if all but lists stand -/
theorem tst_of {H H' : Hp} (h : ∀ a o, H a = some o → (∀ vs, o ≠ .lst vs) → H' a = some o) : TSt K H H' := fun a xs q => by
  rcases q with ⟨o, q, x⟩ | q
  · exact .inl ⟨o, h _ _ q fun _ z => (nomatch z), x⟩
  · exact .inr q
theorem tst_new {H : Hp} {p : Addr} {o : HO} (n : H p = none) : TSt K H (upd H p o) := tst_of fun a u h _ => by
  rw [upd_ne (ne_of_none h n)]; exact h
theorem tst_lst {H : Hp} {p : Addr} {o : HO} {vs : List V} (n : H p = some (.lst vs)) : TSt K H (upd H p o) := tst_of fun a u h d => by
  have : a ≠ p := by
    rintro rfl
    rw [h] at n; cases n
    exact d vs rfl
  rw [upd_ne this]; exact h
theorem upd_none {H : Hp} {p a : Addr} {o : HO} (h : upd H p o a = none) : H a = none := by
  unfold upd at h
  split at h
  · cases h
  · exact h
/-- the state where the heap has changed, but nothing of what it holds -/
theorem SR.stay (S : SR K H σ ρ) (t : TSt K H H1) (e : ∀ a o, H a = some o → H1 a = some o) : SR K H1 σ ρ where
  len := S.len
  dat := fun i x h => let ⟨v, e1, r⟩ := S.dat i x h; ⟨v, e1, r.m t⟩
  rol := fun i x h => let ⟨a, e1, r⟩ := S.rol i x h; ⟨a, e1, r.m t fun o vs q => e _ _ q⟩
  obj := fun i c h => let ⟨a, e1, r⟩ := S.obj i c h; ⟨a, e1, r.m t fun o q => e a o q⟩
  sep := S.sep
theorem same_new {H : Hp} {p : Addr} {o : HO} (n : H p = none) : ∀ a u, H a = some u → upd H p o a = some u := fun a u h => by
  rw [upd_ne (ne_of_none h n)]; exact h
theorem SR.new (S : SR K H σ ρ) {p : Addr} {o : HO} (n : H p = none) : SR K (upd H p o) σ ρ := S.stay (tst_new n) (same_new n)
theorem Go.new {p : Addr} {o : HO} (n : H p = none) : Go K σ ρ H σ ρ (upd H p o) := ⟨fun a u h _ => same_new n a u h, fun _ h => .inl h, tst_new n, fun _ h => upd_none h⟩
/-- a new address is not owned -/
theorem SR.not_own (S : SR K H σ ρ) {p : Addr} (n : H p = none) : ¬ Own σ ρ p := fun h => by
  obtain ⟨vs, e⟩ := S.own_some h
  rw [n] at e; cases e
/-- the owned object of slot i is written -/
theorem SR.put (S : SR K H σ ρ) {i : Nat} {c c' : C} {a : Addr} {o : HO} (h : ρ[i]? = some (some (.obj c))) (e : σ[i]? = some (some (.ref a))) (new : RpC K (upd H a o) a c') : SR K (upd H a o) σ (ρ.set i (some (.obj c'))) := by
  obtain ⟨vs, ea⟩ := S.own_some ⟨i, c, h, e⟩
  have t : TSt K H (upd H a o) := tst_lst ea
  have lt : i < ρ.length := (List.getElem?_eq_some_iff.mp h).1
  have old : ∀ {j : Nat} {x : Sl}, (∀ c, x ≠ .obj c) → (ρ.set i (some (.obj c')))[j]? = some (some x) → j ≠ i ∧ ρ[j]? = some (some x) := fun {j x} nx q => by
    by_cases hj : j = i
    · subst hj
      rw [List.getElem?_set_self lt] at q
      cases q
      exact absurd rfl (nx _)
    · rw [List.getElem?_set_ne (Ne.symm hj)] at q
      exact ⟨hj, q⟩
  refine ⟨by rw [List.length_set]; exact S.len, fun j x q => ?_, fun j x q => ?_, fun j x q => ?_, fun j k x y b q1 q2 q3 q4 => ?_⟩
  · obtain ⟨_, q⟩ := old (x := .dat x) (fun _ z => nomatch z) q
    obtain ⟨v, e1, r⟩ := S.dat j x q
    exact ⟨v, e1, r.m t⟩
  · obtain ⟨_, q⟩ := old (x := .rol x) (fun _ z => nomatch z) q
    obtain ⟨v, e1, r⟩ := S.rol j x q
    refine ⟨v, e1, r.m t fun o vs q => ?_⟩
    have : v ≠ a := by rintro rfl; rw [ea] at q; cases q
    rw [upd_ne this]; exact q
  · by_cases hj : j = i
    · subst hj
      rw [List.getElem?_set_self lt] at q
      cases q
      exact ⟨a, e, new⟩
    · rw [List.getElem?_set_ne (Ne.symm hj)] at q
      obtain ⟨b, e1, r⟩ := S.obj j x q
      have : b ≠ a := by
        rintro rfl
        exact hj (S.sep j i x c b q h e1 e)
      exact ⟨b, e1, r.m t fun o q => by rw [upd_ne this]; exact q⟩
  · have back : ∀ {m : Nat} {z : C}, (ρ.set i (some (.obj c')))[m]? = some (some (.obj z)) → ∃ z', ρ[m]? = some (some (.obj z')) := fun {m z} q => by
      by_cases hm : m = i
      · subst hm; exact ⟨c, h⟩
      · rw [List.getElem?_set_ne (Ne.symm hm)] at q
        exact ⟨z, q⟩
    obtain ⟨x', p1⟩ := back q1
    obtain ⟨y', p2⟩ := back q2
    exact S.sep j k x' y' b p1 p2 q3 q4
theorem own_put {i : Nat} {c c' : C} {a : Addr} (h : ρ[i]? = some (some (.obj c))) : Own σ (ρ.set i (some (.obj c'))) a → Own σ ρ a := by
  rintro ⟨j, x, q, e⟩
  by_cases hj : j = i
  · subst hj; exact ⟨j, c, h, e⟩
  · rw [List.getElem?_set_ne (Ne.symm hj)] at q
    exact ⟨j, x, q, e⟩
theorem Go.put (S : SR K H σ ρ) {i : Nat} {c c' : C} {a : Addr} {o : HO} (h : ρ[i]? = some (some (.obj c))) (e : σ[i]? = some (some (.ref a))) : Go K σ ρ H σ (ρ.set i (some (.obj c'))) (upd H a o) := by
  obtain ⟨vs, ea⟩ := S.own_some ⟨i, c, h, e⟩
  refine ⟨fun b u q n => ?_, fun b q => .inl (own_put h q), tst_lst ea, fun _ h => upd_none h⟩
  have : b ≠ a := by rintro rfl; exact n ⟨i, c, h, e⟩
  rw [upd_ne this]; exact q
end
end PD

namespace PD
open PySem PySem.Spec PyProof.Rows L2

/-! ### what an expression hands on -/
inductive Hd where
  | dat (t : T) | tmp (c : C) | plc (i : Nat)
def HR (K : PySem.W.Frag) (H0 H : Hp) (σ : Sto) (ρ : Ev) : Hd → V → Prop
  | .dat t, u => Rp K H u t
  | .tmp c, u => ∃ a, u = .ref a ∧ RpC K H a c ∧ H0 a = none ∧ ¬ Own σ ρ a
  | .plc i, u => σ[i]? = some (some u)
abbrev FE := Ev → Option (Hd × Ev)
abbrev FB := Ev → Option (Bool × Ev)
abbrev FA := Ev → Option (List Hd × Ev)
inductive HRs (K : PySem.W.Frag) (H0 H : Hp) (σ : Sto) (ρ : Ev) : List Hd → List V → Prop
  | nil : HRs K H0 H σ ρ [] []
  | cons {h : Hd} {u : V} {hs : List Hd} {us : List V} : HR K H0 H σ ρ h u → HRs K H0 H σ ρ hs us → HRs K H0 H σ ρ (h :: hs) (u :: us)
/-- the temporaries stand apart -/
def TD (hs : List Hd) (us : List V) : Prop := ∀ (i j : Nat) (c d : C) (a : Addr), hs[i]? = some (.tmp c) → hs[j]? = some (.tmp d) → us[i]? = some (.ref a) → us[j]? = some (.ref a) → i = j
/-- owned slots stay owned -/
def Kp (ρ ρ' : Ev) : Prop := ∀ (i : Nat) (c : C), ρ[i]? = some (some (.obj c)) → ∃ c', ρ'[i]? = some (some (.obj c'))
theorem Kp.refl {ρ : Ev} : Kp ρ ρ := fun _ c h => ⟨c, h⟩
theorem Kp.trans {ρ ρ1 ρ2 : Ev} (a : Kp ρ ρ1) (b : Kp ρ1 ρ2) : Kp ρ ρ2 := fun i c h => let ⟨c1, h1⟩ := a i c h; b i c1 h1
theorem Kp.put {ρ : Ev} {i : Nat} {c : C} : Kp ρ (ρ.set i (some (.obj c))) := fun j d h => by
  by_cases e : j = i
  · subst e
    exact ⟨c, List.getElem?_set_self (List.getElem?_eq_some_iff.mp h).1⟩
  · exact ⟨d, by rw [List.getElem?_set_ne (Ne.symm e)]; exact h⟩

section
variable {K : PySem.W.Frag} {H0 H H1 H2 : Hp} {σ : Sto} {ρ ρ1 ρ2 : Ev}
theorem HR.go {h : Hd} {u : V} (r : HR K H0 H σ ρ h u) (g : Go K σ ρ H σ ρ1 H1) : HR K H0 H1 σ ρ1 h u := by
  cases h with
  | dat t => exact Rp.m g.tst r
  | tmp c =>
    obtain ⟨a, e, rc, n, no⟩ := r
    cases c with
    | lst xs =>
      obtain ⟨vs, ea, rv⟩ := rc
      refine ⟨a, e, ⟨vs, g.keep a _ ea no, rv.m g.tst⟩, n, fun z => ?_⟩
      rcases g.own a z with z | z
      · exact no z
      · rw [ea] at z; cases z
  | plc i => exact r
theorem HR.back {h : Hd} {u : V} (r : HR K H1 H σ ρ h u) (g : ∀ a, H1 a = none → H0 a = none) : HR K H0 H σ ρ h u := by
  cases h with
  | dat t => exact r
  | tmp c => obtain ⟨a, e, rc, n, no⟩ := r; exact ⟨a, e, rc, g a n, no⟩
  | plc i => exact r
theorem HRs.go {hs : List Hd} {us : List V} (r : HRs K H0 H σ ρ hs us) (g : Go K σ ρ H σ ρ1 H1) : HRs K H0 H1 σ ρ1 hs us := by
  induction r with
  | nil => exact .nil
  | cons h _ ih => exact .cons (h.go g) ih
theorem HRs.back {hs : List Hd} {us : List V} (r : HRs K H1 H σ ρ hs us) (g : ∀ a, H1 a = none → H0 a = none) : HRs K H0 H σ ρ hs us := by
  induction r with
  | nil => exact .nil
  | cons h _ ih => exact .cons (h.back g) ih
theorem HRs.len {hs : List Hd} {us : List V} (r : HRs K H0 H σ ρ hs us) : hs.length = us.length := by
  induction r with
  | nil => rfl
  | cons h _ ih => simp [ih]
theorem HRs.get {hs : List Hd} {us : List V} (r : HRs K H0 H σ ρ hs us) : ∀ {i : Nat} {h : Hd}, hs[i]? = some h → ∃ u, us[i]? = some u ∧ HR K H0 H σ ρ h u := by
  induction r with
  | nil => intro i h e; simp at e
  | cons h _ ih =>
    intro i h' e
    cases i with
    | zero => simp at e; subst e; exact ⟨_, rfl, h⟩
    | succ i => simpa using ih (by simpa using e)
/-- all data -/
def datsOf : List Hd → Option (List T)
  | [] => some []
  | .dat t :: hs => (datsOf hs).map (t :: ·)
  | _ :: _ => none
theorem HRs.dats {hs : List Hd} {us : List V} (r : HRs K H0 H σ ρ hs us) : ∀ {ts : List T}, datsOf hs = some ts → RpL K H us ts := by
  induction r with
  | nil => intro ts e; cases e; exact .nil
  | @cons h u hs us h1 _ ih =>
    intro ts e
    cases h with
    | dat t =>
      simp only [datsOf, Option.map_eq_some_iff] at e
      obtain ⟨ts', e, rfl⟩ := e
      exact .cons h1 (ih e)
    | tmp c => cases e
    | plc i => cases e
end

/-! ### the judgements -/
section
variable (X : Cx)
structure DE (e : Expr) (f : FE) : Prop where
  run : ∃ t : TE, PE X e t ∧ ∀ (σ : Sto) (H : Hp) (ρ : Ev) (h : Hd) (ρ' : Ev) (Q : VK), SR X.K H σ ρ → f ρ = some (h, ρ') →
    (∀ u H', Go X.K σ ρ H σ ρ' H' → SR X.K H' σ ρ' → Kp ρ ρ' → HR X.K H H' σ ρ' h u → Q u H') → t σ H Q
structure DT (e : Expr) (f : FB) : Prop where
  run : ∃ t : TT, PT X e t ∧ ∀ (σ : Sto) (H : Hp) (ρ : Ev) (b : Bool) (ρ' : Ev) (Q : Bool → Hp → Prop), SR X.K H σ ρ → f ρ = some (b, ρ') →
    (∀ H', Go X.K σ ρ H σ ρ' H' → SR X.K H' σ ρ' → Kp ρ ρ' → Q b H') → t σ H Q
/-- .. whatever its whole is -/
structure DW (e : Expr) (f : FB) : Prop where
  run : ∃ t : TT, PW X e t ∧ ∀ (σ : Sto) (H : Hp) (ρ : Ev) (b : Bool) (ρ' : Ev) (Q : Bool → Hp → Prop), SR X.K H σ ρ → f ρ = some (b, ρ') →
    (∀ H', Go X.K σ ρ H σ ρ' H' → SR X.K H' σ ρ' → Kp ρ ρ' → Q b H') → t σ H Q
structure DA (es : List Expr) (f : FA) : Prop where
  run : ∃ t : TA, PA X es t ∧ ∀ (σ : Sto) (H : Hp) (ρ : Ev) (hs : List Hd) (ρ' : Ev) (Q : List V → Hp → Prop), SR X.K H σ ρ → f ρ = some (hs, ρ') →
    (∀ us H', Go X.K σ ρ H σ ρ' H' → SR X.K H' σ ρ' → Kp ρ ρ' → HRs X.K H H' σ ρ' hs us → TD hs us → Q us H') → t σ H Q
end

section
variable {X : Cx} {e a b c : Expr} {es : List Expr} {fa fb fc : FE} {pos : Pos}

/-! ### names, constants -/
def fVar (i : Nat) : FE := fun ρ => match ρ[i]? with
  | some (some (.dat t)) => some (.dat t, ρ)
  | some (some _) => some (.plc i, ρ)
  | _ => none
theorem de_var (i : Nat) {x : Str} (h : PE X (.Name x pos) (tVar i)) : DE X (.Name x pos) (fVar i) := by
  refine ⟨_, h, fun σ H ρ h ρ' Q S e q => ?_⟩
  unfold fVar at e
  split at e
  · rename_i t ht
    cases e
    obtain ⟨v, ev, r⟩ := S.dat i t ht
    exact ⟨v, ev, q v H .refl S .refl r⟩
  · rename_i s hs hn
    cases e
    cases s with
    | dat t => exact (hs t rfl).elim
    | rol xs =>
      obtain ⟨a, ev, r⟩ := S.rol i xs hn
      exact ⟨_, ev, q _ H .refl S .refl ev⟩
    | obj c =>
      obtain ⟨a, ev, r⟩ := S.obj i c hn
      exact ⟨_, ev, q _ H .refl S .refl ev⟩
  · cases e
def fC (t : T) : FE := fun ρ => some (.dat t, ρ)
theorem de_c {v : V} {t : T} (h : PE X e (tC v)) (r : ∀ H, Rp X.K H v t) : DE X e (fC t) := by
  refine ⟨_, h, fun σ H ρ h ρ' Q S e q => ?_⟩
  cases e
  exact q v H .refl S .refl (r H)
theorem de_int {i j} : DE X (.Constant (.int i) j pos) (fC (.int i)) := de_c pe_int fun _ => .int i
theorem de_bl {i j} : DE X (.Constant (.bool i) j pos) (fC (.bool i)) := de_c pe_bl fun _ => .bl i
theorem de_non {j} : DE X (.Constant .none j pos) (fC .none) := de_c pe_non fun _ => .non
theorem de_str {x j} : DE X (.Constant (.str x) j pos) (fC (.str x)) := de_c pe_str fun _ => .str x

/-! ### argument lists, displays -/
def fNil : FA := fun ρ => some ([], ρ)
def fCons (f : FE) (g : FA) : FA := fun ρ => (f ρ).bind fun p => (g p.2).map fun q => (p.1 :: q.1, q.2)
theorem da_nil : DA X [] fNil := by
  refine ⟨_, pa_nil, fun σ H ρ h ρ' Q S e q => ?_⟩
  cases e
  exact q [] H .refl S .refl .nil fun i j c d a h => by simp at h
theorem da_cons {g : FA} (ha : DE X e fa) (hr : DA X es g) (hs : starEach (e :: es) X.env = (false, eval e X.env) :: starEach es X.env := by rfl) : DA X (e :: es) (fCons fa g) := by
  obtain ⟨t, pt, rt⟩ := ha.run
  obtain ⟨u, pu, ru⟩ := hr.run
  refine ⟨_, pa_cons pt pu hs, fun σ H ρ hs ρ' Q S e q => ?_⟩
  simp only [fCons, Option.bind_eq_some_iff, Option.map_eq_some_iff] at e
  obtain ⟨⟨h1, ρ1⟩, e1, ⟨h2, ρ2⟩, e2, e3⟩ := e
  cases e3
  refine rt σ H ρ h1 ρ1 _ S e1 fun x H1 g1 S1 k1 r1 => ?_
  refine ru σ H1 ρ1 h2 ρ2 _ S1 e2 fun xs H2 g2 S2 k2 r2 d2 => ?_
  refine q (x :: xs) H2 (g1.trans g2) S2 (k1.trans k2) (.cons (r1.go g2) (r2.back g1.dom)) ?_
  -- the first stands apart from the later ones
  have away : ∀ (j : Nat) (c d : C) (a : Addr), h1 = .tmp c → h2[j]? = some (.tmp d) → x = .ref a → xs[j]? = some (.ref a) → False := fun j c d a p1 p2 p3 p4 => by
    subst p1; subst p3
    obtain ⟨b, eb, rc, _, _⟩ := r1
    cases eb
    obtain ⟨u, eu, ⟨b, eb, _, n, _⟩⟩ := r2.get p2
    rw [p4] at eu; cases eu
    cases eb
    cases c with
    | lst ys => obtain ⟨vs, z, _⟩ := rc; rw [n] at z; cases z
  intro i j c d a p1 p2 p3 p4
  cases i with
  | zero =>
    cases j with
    | zero => rfl
    | succ j =>
      simp only [List.getElem?_cons_zero, List.getElem?_cons_succ, Option.some.injEq] at p1 p2 p3 p4
      exact (away j c d a p1 p2 p3 p4).elim
  | succ i =>
    cases j with
    | zero =>
      simp only [List.getElem?_cons_zero, List.getElem?_cons_succ, Option.some.injEq] at p1 p2 p3 p4
      exact (away i d c a p2 p1 p4 p3).elim
    | succ j =>
      simp only [List.getElem?_cons_succ] at p1 p2 p3 p4
      rw [d2 i j c d a p1 p2 p3 p4]
open Classical in
/-- a condition -/
noncomputable def guardP (p : Prop) : Option Unit := if p then some () else none
theorem guardP_some {p : Prop} {u : Unit} : guardP p = some u ↔ p := by
  unfold guardP
  by_cases h : p
  · rw [if_pos h]
    exact Iff.intro (fun _ => h) (fun _ => rfl)
  · rw [if_neg h]
    exact Iff.intro (fun z => by cases z) (fun z => absurd z h)
theorem guardP_pos {p : Prop} (h : p) : guardP p = some () := guardP_some.mpr h
/-- a new exact tuple is laid -/
theorem laidT {pins : List (Addr × Obj)} {σ : Sto} {H : Hp} {s : Shared} {h' : Heap} {t' : Nat} {xs : List V} {its : List Value} (I : Inv X pins σ H { s with heap := h', toks := t' }) (r : Vals xs its) (z : xs.length ≤ sizeLine) :
    ∃ ob, ExT ob ∧ H h'.objs.size = none ∧ Inv X pins σ (upd H h'.objs.size (.frz ob (.tup xs))) { s with heap := h'.push { cls := .type "tuple", data := .seq its.toArray }, toks := t' } := by
  refine ⟨{ cls := .type "tuple", data := .seq its.toArray }, ⟨rfl, rfl⟩, I.hok.fresh (Nat.le_refl _), ?_⟩
  exact I.laid (t' := t') (fun b u e => Heap.get?_push_of_some _ e) (Nat.le_refl _) (show ObjOk X.prog X.w _ _ _ (.frz _ (.tup xs)) from ⟨Heap.get?_push_size _ rfl, z, its, r, ⟨_, Heap.get?_push_size _ rfl, rfl, _, rfl⟩⟩)
def tTupX (t : TA) : TE := fun σ H Q => t σ H fun xs H1 => xs.length ≤ sizeLine ∧ ∀ p ob, H1 p = none → ExT ob → Q (.ref p) (upd H1 p (.frz ob (.tup xs)))
theorem pe_tupX {x1} {t : TA} (h : PA X es t) : PE X (.Tuple es x1 pos) (tTupX t) := by
  refine ⟨fun pins s σ H Q I hq => ?_⟩
  refine wpAny_Tuple_spliced (thn (h.run pos pins s σ H _ I hq) fun us s1 ⟨xs, H1, I1, r, z, q⟩ => ⟨by rw [← r.length]; exact z, ?_⟩)
  obtain ⟨ob, hx, hf, I2⟩ := laidT (t' := s1.toks) (h' := s1.heap) (s := s1) I1 r z
  exact ⟨.ref s1.heap.objs.size, _, I2, rfl, q _ ob hf hx⟩
noncomputable def fTup (g : FA) : FE := fun ρ => (g ρ).bind fun p => (datsOf p.1).bind fun ts => (guardP (ts.length ≤ sizeLine)).map fun _ => (.dat (.tuple ts), p.2)
theorem de_tup {g : FA} {x1} (h : DA X es g) : DE X (.Tuple es x1 pos) (fTup g) := by
  obtain ⟨t, pt, rt⟩ := h.run
  refine ⟨_, pe_tupX pt, fun σ H ρ hs ρ' Q S e q => ?_⟩
  simp only [fTup, Option.bind_eq_some_iff, Option.map_eq_some_iff, guardP_some] at e
  obtain ⟨⟨h1, ρ1⟩, e1, ts, e2, _, e4, e3⟩ := e
  cases e3
  refine rt σ H ρ h1 ρ1 _ S e1 fun xs H1 g1 S1 k1 r1 d1 => ?_
  have r := r1.dats e2
  refine ⟨by rw [r.length]; exact e4, fun p ob np hx => ?_⟩
  exact q _ _ (g1.trans (.new np)) (S1.new np) k1 (.tup (.new hx) (r.m (tst_new np)))
noncomputable def fLst (g : FA) : FE := fun ρ => (g ρ).bind fun p => (datsOf p.1).bind fun ts => (guardP (ts.length ≤ sizeLine)).map fun _ => (.tmp (.lst ts), p.2)
theorem HR.tmpL {K : PySem.W.Frag} {H H0 : Hp} {σ : Sto} {ρ : Ev} {p : Addr} {vs : List V} {ts : List T} (S : SR K H σ ρ) (np : H p = none) (n0 : H0 p = none) (r : RpL K H vs ts) : HR K H0 (upd H p (.lst vs)) σ ρ (.tmp (.lst ts)) (.ref p) :=
  ⟨p, rfl, ⟨vs, upd_same, r.m (tst_new np)⟩, n0, S.not_own np⟩
theorem de_lst {g : FA} (h : DA X es g) : DE X (.List es pos) (fLst g) := by
  obtain ⟨t, pt, rt⟩ := h.run
  refine ⟨_, pe_lst pt, fun σ H ρ hs ρ' Q S e q => ?_⟩
  simp only [fLst, Option.bind_eq_some_iff, Option.map_eq_some_iff, guardP_some] at e
  obtain ⟨⟨h1, ρ1⟩, e1, ts, e2, _, e4, e3⟩ := e
  cases e3
  refine rt σ H ρ h1 ρ1 _ S e1 fun xs H1 g1 S1 k1 r1 d1 => ?_
  have r := r1.dats e2
  refine ⟨by rw [r.length]; exact e4, fun p np => ?_⟩
  exact q _ _ (g1.trans (.new np)) (S1.new np) k1 (HR.tmpL S1 np (g1.dom _ np) r)

/-! ### operators -/
abbrev GB := Hd → Hd → Ev → Option Hd
/-- an operator, by values -/
def DOp (X : Cx) (F : Value → Value → Sem Value) (g : GB) : Prop :=
  ∃ r : R2, OpR X F r ∧ ∀ (σ : Sto) (H0 H : Hp) (ρ : Ev) (h1 h2 h3 : Hd) (x y : V) (Q : VK), SR X.K H σ ρ → HR X.K H0 H σ ρ h1 x → HR X.K H0 H σ ρ h2 y → g h1 h2 ρ = some h3 →
    (∀ u H', Go X.K σ ρ H σ ρ H' → SR X.K H' σ ρ → HR X.K H H' σ ρ h3 u → Q u H') → r x y H Q
theorem DOp.or {F : Value → Value → Sem Value} {g g' : GB} (h : DOp X F g) (h' : DOp X F g') : DOp X F (fun a b ρ => (g a b ρ).or (g' a b ρ)) := by
  obtain ⟨r, o, p⟩ := h
  obtain ⟨r', o', p'⟩ := h'
  refine ⟨_, o.or o', fun σ H0 H ρ h1 h2 h3 x y Q S r1 r2 e q => ?_⟩
  simp only [Option.or_eq_some_iff] at e
  rcases e with e | ⟨_, e⟩
  · exact .inl (p σ H0 H ρ h1 h2 h3 x y Q S r1 r2 e q)
  · exact .inr (p' σ H0 H ρ h1 h2 h3 x y Q S r1 r2 e q)
def fBin (g : GB) (fa fb : FE) : FE := fun ρ => (fa ρ).bind fun p => (fb p.2).bind fun q => (g p.1 q.1 q.2).map fun h => (h, q.2)
theorem de_bin {op : Operator} {g : GB} (ho : DOp X (binaryOp op) g) (ha : DE X a fa) (hb : DE X b fb) : DE X (.BinOp a op b pos) (fBin g fa fb) := by
  obtain ⟨t, pt, rt⟩ := ha.run
  obtain ⟨u, pu, ru⟩ := hb.run
  obtain ⟨r, o, ro⟩ := ho
  refine ⟨_, pe_op o pt pu, fun σ H ρ hs ρ' Q S e q => ?_⟩
  simp only [fBin, Option.bind_eq_some_iff, Option.map_eq_some_iff] at e
  obtain ⟨⟨h1, ρ1⟩, e1, ⟨h2, ρ2⟩, e2, h3, e4, e3⟩ := e
  cases e3
  refine rt σ H ρ h1 ρ1 _ S e1 fun x H1 g1 S1 k1 r1 => ?_
  refine ru σ H1 ρ1 h2 ρ2 _ S1 e2 fun y H2 g2 S2 k2 r2 => ?_
  exact ro σ H H2 _ h1 h2 _ x y Q S2 (r1.go g2) (r2.back g1.dom) e4 fun w H3 g3 S3 r3 => q w H3 ((g1.trans g2).trans g3) S3 (k1.trans k2) (r3.back fun a n => g1.dom a (g2.dom a n))
/-- a comparison as a value -/
theorem de_cmp {op : CmpOp} {g : GB} (ho : DOp X (compareOp op) g) (ha : DE X a fa) (hb : DE X b fb) (hm : behindInMarks op b = false := by first | exact nobehind _ (by decide) (by decide) | rfl) : DE X (.Compare a [op] [b] pos) (fBin g fa fb) := by
  obtain ⟨t, pt, rt⟩ := ha.run
  obtain ⟨u, pu, ru⟩ := hb.run
  obtain ⟨r, o, ro⟩ := ho
  refine ⟨_, pe_cmpR o pt pu hm, fun σ H ρ hs ρ' Q S e q => ?_⟩
  simp only [fBin, Option.bind_eq_some_iff, Option.map_eq_some_iff] at e
  obtain ⟨⟨h1, ρ1⟩, e1, ⟨h2, ρ2⟩, e2, h3, e4, e3⟩ := e
  cases e3
  refine rt σ H ρ h1 ρ1 _ S e1 fun x H1 g1 S1 k1 r1 => ?_
  refine ru σ H1 ρ1 h2 ρ2 _ S1 e2 fun y H2 g2 S2 k2 r2 => ?_
  exact ro σ H H2 _ h1 h2 _ x y Q S2 (r1.go g2) (r2.back g1.dom) e4 fun w H3 g3 S3 r3 => q w H3 ((g1.trans g2).trans g3) S3 (k1.trans k2) (r3.back fun a n => g1.dom a (g2.dom a n))
/-- data that is a truth value -/
def boolOf : Hd → Option Bool
  | .dat (.bool b) => some b
  | _ => none
theorem boolOf_some {h : Hd} {b : Bool} (e : boolOf h = some b) : h = .dat (.bool b) := by
  unfold boolOf at e
  split at e
  · cases e; rfl
  · cases e
def fTst (f : FE) : FB := fun ρ => (f ρ).bind fun p => (boolOf p.1).map fun b => (b, p.2)
theorem dt_cmp {op : CmpOp} {g : GB} (ho : DOp X (compareOp op) g) (ha : DE X a fa) (hb : DE X b fb) (hm : behindInMarks op b = false := by first | exact nobehind _ (by decide) (by decide) | rfl) : DT X (.Compare a [op] [b] pos) (fTst (fBin g fa fb)) := by
  obtain ⟨t, pt, rt⟩ := ha.run
  obtain ⟨u, pu, ru⟩ := hb.run
  obtain ⟨r, o, ro⟩ := ho
  refine ⟨_, pt_cmpR o pt pu hm, fun σ H ρ hs ρ' Q S e q => ?_⟩
  simp only [fTst, fBin, Option.bind_eq_some_iff, Option.map_eq_some_iff] at e
  obtain ⟨p, ⟨⟨h1, ρ1⟩, e1, ⟨h2, ρ2⟩, e2, h3, e4, e3⟩, bb, e5, e6⟩ := e
  cases e3
  cases e6
  have e5 := boolOf_some e5
  have e5 : h3 = _ := e5
  subst e5
  refine rt σ H ρ h1 ρ1 _ S e1 fun x H1 g1 S1 k1 r1 => ?_
  refine ru σ H1 ρ1 h2 ρ2 _ S1 e2 fun y H2 g2 S2 k2 r2 => ?_
  refine ro σ H H2 ρ2 h1 h2 _ x y _ S2 (r1.go g2) (r2.back g1.dom) e4 fun w H3 g3 S3 r3 => ?_
  cases r3
  exact ⟨_, rfl, q H3 ((g1.trans g2).trans g3) S3 (k1.trans k2)⟩
/-- an expression whose value is a truth value, as a test -/
theorem dt_val (ha : DE X e fa) (he : ∀ whole, isTrue e X.env whole = (do let v ← whole; standAt e.pos; holding [v] (truthy v)) := by intro _; rfl) : DT X e (fTst fa) := by
  obtain ⟨t, pt, rt⟩ := ha.run
  refine ⟨_, pt_val pt he, fun σ H ρ hs ρ' Q S e q => ?_⟩
  simp only [fTst, Option.bind_eq_some_iff, Option.map_eq_some_iff] at e
  obtain ⟨⟨h1, ρ1⟩, e1, bb, e5, e6⟩ := e
  cases e6
  have e5 : h1 = _ := boolOf_some e5
  subst e5
  refine rt σ H ρ _ ρ1 _ S e1 fun x H1 g1 S1 k1 r1 => ?_
  cases r1
  exact ⟨_, rfl, q H1 g1 S1 k1⟩
theorem DW.t {f : FB} (h : DW X e f) : DT X e f := let ⟨t, p, r⟩ := h.run; ⟨t, p.pt, r⟩
def fAnd (f g : FB) : FB := fun ρ => (f ρ).bind fun p => if p.1 = true then g p.2 else some (false, p.2)
def fOr (f g : FB) : FB := fun ρ => (f ρ).bind fun p => if p.1 = true then some (true, p.2) else g p.2
def fNot (f : FB) : FB := fun ρ => (f ρ).map fun p => (!p.1, p.2)
theorem dw_and1 {f : FB} (h : DT X a f) : DW X (.BoolOp .And [a] pos) f := let ⟨t, p, r⟩ := h.run; ⟨t, pw_and1 p, r⟩
theorem dw_or1 {f : FB} (h : DT X a f) : DW X (.BoolOp .Or [a] pos) f := let ⟨t, p, r⟩ := h.run; ⟨t, pw_or1 p, r⟩
variable {rest : List Expr} {f g : FB}
theorem dw_and (ha : DT X a f) (hb : DW X (.BoolOp .And (b :: rest) pos) g) : DW X (.BoolOp .And (a :: b :: rest) pos) (fAnd f g) := by
  obtain ⟨t, pt, rt⟩ := ha.run
  obtain ⟨u, pu, ru⟩ := hb.run
  refine ⟨_, pw_and pt pu, fun σ H ρ k ρ' Q S e q => ?_⟩
  simp only [fAnd, Option.bind_eq_some_iff] at e
  obtain ⟨⟨h1, ρ1⟩, e1, e2⟩ := e
  refine rt σ H ρ h1 ρ1 _ S e1 fun H1 g1 S1 k1 => ?_
  cases h1 with
  | true => exact ru σ H1 ρ1 k ρ' Q S1 e2 fun H2 g2 S2 k2 => q H2 (g1.trans g2) S2 (k1.trans k2)
  | false => cases e2; exact q H1 g1 S1 k1
theorem dw_or (ha : DT X a f) (hb : DW X (.BoolOp .Or (b :: rest) pos) g) : DW X (.BoolOp .Or (a :: b :: rest) pos) (fOr f g) := by
  obtain ⟨t, pt, rt⟩ := ha.run
  obtain ⟨u, pu, ru⟩ := hb.run
  refine ⟨_, pw_or pt pu, fun σ H ρ k ρ' Q S e q => ?_⟩
  simp only [fOr, Option.bind_eq_some_iff] at e
  obtain ⟨⟨h1, ρ1⟩, e1, e2⟩ := e
  refine rt σ H ρ h1 ρ1 _ S e1 fun H1 g1 S1 k1 => ?_
  cases h1 with
  | false => exact ru σ H1 ρ1 k ρ' Q S1 e2 fun H2 g2 S2 k2 => q H2 (g1.trans g2) S2 (k1.trans k2)
  | true => cases e2; exact q H1 g1 S1 k1
theorem dt_not (ha : DT X a f) : DT X (.UnaryOp .Not a pos) (fNot f) := by
  obtain ⟨t, pt, rt⟩ := ha.run
  refine ⟨_, pt_not pt, fun σ H ρ k ρ' Q S e q => ?_⟩
  simp only [fNot, Option.map_eq_some_iff] at e
  obtain ⟨⟨h1, ρ1⟩, e1, e2⟩ := e
  cases e2
  exact rt σ H ρ h1 ρ1 _ S e1 fun H1 g1 S1 k1 => q H1 g1 S1 k1
/-! .. as values -/
def fAndV (f g : FE) : FE := fun ρ => (f ρ).bind fun p => (boolOf p.1).bind fun b => if b = true then g p.2 else some (.dat (.bool false), p.2)
def fOrV (f g : FE) : FE := fun ρ => (f ρ).bind fun p => (boolOf p.1).bind fun b => if b = true then some (.dat (.bool true), p.2) else g p.2
def fNotV (f : FE) : FE := fun ρ => (f ρ).bind fun p => (boolOf p.1).map fun b => (.dat (.bool !b), p.2)
theorem de_one {op} (h : DE X a fa) : DE X (.BoolOp op [a] pos) fa := let ⟨t, p, r⟩ := h.run; ⟨t, pe_one p, r⟩
theorem de_and (ha : DE X a fa) (hb : DE X (.BoolOp .And (b :: rest) pos) fb) : DE X (.BoolOp .And (a :: b :: rest) pos) (fAndV fa fb) := by
  obtain ⟨t, pt, rt⟩ := ha.run
  obtain ⟨u, pu, ru⟩ := hb.run
  refine ⟨_, pe_and pt pu, fun σ H ρ k ρ' Q S e q => ?_⟩
  simp only [fAndV, Option.bind_eq_some_iff] at e
  obtain ⟨⟨h1, ρ1⟩, e1, bb, e3, e2⟩ := e
  have e3 : h1 = _ := boolOf_some e3
  subst e3
  refine rt σ H ρ _ ρ1 _ S e1 fun x H1 g1 S1 k1 r1 => ?_
  cases r1
  refine ⟨bb, rfl, ?_⟩
  cases bb with
  | true => exact ru σ H1 ρ1 k ρ' Q S1 e2 fun x H2 g2 S2 k2 r2 => q x H2 (g1.trans g2) S2 (k1.trans k2) (r2.back g1.dom)
  | false => cases e2; exact q _ H1 g1 S1 k1 (.bl false)
theorem de_or (ha : DE X a fa) (hb : DE X (.BoolOp .Or (b :: rest) pos) fb) : DE X (.BoolOp .Or (a :: b :: rest) pos) (fOrV fa fb) := by
  obtain ⟨t, pt, rt⟩ := ha.run
  obtain ⟨u, pu, ru⟩ := hb.run
  refine ⟨_, pe_or pt pu, fun σ H ρ k ρ' Q S e q => ?_⟩
  simp only [fOrV, Option.bind_eq_some_iff] at e
  obtain ⟨⟨h1, ρ1⟩, e1, bb, e3, e2⟩ := e
  have e3 : h1 = _ := boolOf_some e3
  subst e3
  refine rt σ H ρ _ ρ1 _ S e1 fun x H1 g1 S1 k1 r1 => ?_
  cases r1
  refine ⟨bb, rfl, ?_⟩
  cases bb with
  | false => exact ru σ H1 ρ1 k ρ' Q S1 e2 fun x H2 g2 S2 k2 r2 => q x H2 (g1.trans g2) S2 (k1.trans k2) (r2.back g1.dom)
  | true => cases e2; exact q _ H1 g1 S1 k1 (.bl true)
theorem de_not (ha : DE X a fa) : DE X (.UnaryOp .Not a pos) (fNotV fa) := by
  obtain ⟨t, pt, rt⟩ := ha.run
  refine ⟨_, pe_not pt, fun σ H ρ k ρ' Q S e q => ?_⟩
  simp only [fNotV, Option.bind_eq_some_iff, Option.map_eq_some_iff] at e
  obtain ⟨⟨h1, ρ1⟩, e1, bb, e3, e2⟩ := e
  cases e2
  have e3 : h1 = _ := boolOf_some e3
  subst e3
  refine rt σ H ρ _ ρ1 _ S e1 fun x H1 g1 S1 k1 r1 => ?_
  cases r1
  exact ⟨bb, rfl, q _ H1 g1 S1 k1 (.bl _)⟩
/-- a if c else b -/
def fIf (f : FB) (g g' : FE) : FE := fun ρ => (f ρ).bind fun p => if p.1 = true then g p.2 else g' p.2
theorem de_if (hc : DT X c f) (ha : DE X a fa) (hb : DE X b fb) : DE X (.IfExp c a b pos) (fIf f fa fb) := by
  obtain ⟨t, pt, rt⟩ := hc.run
  obtain ⟨u, pu, ru⟩ := ha.run
  obtain ⟨v, pv, rv⟩ := hb.run
  refine ⟨_, pe_ifExp pt pu pv, fun σ H ρ k ρ' Q S e q => ?_⟩
  simp only [fIf, Option.bind_eq_some_iff] at e
  obtain ⟨⟨h1, ρ1⟩, e1, e2⟩ := e
  refine rt σ H ρ h1 ρ1 _ S e1 fun H1 g1 S1 k1 => ?_
  cases h1 with
  | true => exact ru σ H1 ρ1 k ρ' Q S1 e2 fun x H2 g2 S2 k2 r2 => q x H2 (g1.trans g2) S2 (k1.trans k2) (r2.back g1.dom)
  | false => exact rv σ H1 ρ1 k ρ' Q S1 e2 fun x H2 g2 S2 k2 r2 => q x H2 (g1.trans g2) S2 (k1.trans k2) (r2.back g1.dom)
end
end PD

namespace PD
open PySem PySem.Spec PyProof.Rows L2

/-! ### tuple * int -/
theorem tuple_mul0 (l : Addr) (items : Array Value) (n : Nat) (dd : Option Addr) (sl : Array (Option Value)) (x : Int) (u : Tok) (c0 : (decide (x < -(2 ^ 63)) || decide (x ≥ 2 ^ 63)) = false) (c1 : (items.isEmpty || x == 1) = false) (c2 : (decide (x ≤ 0) || items.isEmpty) = true) :
    Meets (Builtin.«tuple.__mul__» ⟨[.ref l, .int x u], []⟩) (fun _ R s => s.heap.get? l = some { cls := .type "tuple", dict := dd, data := .seq items n, slots := sl } ∧
      R (.ok (.ret (Value.ref s.heap.objs.size))) { s with heap := s.heap.push { cls := Value.type "tuple", data := Data.seq #[] }, toks := s.toks }) :=
  .of_wp fun prog w A R s h => by
    obtain ⟨hp, g, d, tk, os⟩ := s
    obtain ⟨hl, h⟩ := h
    have f1 := AutoSeq1.idx_int
    wp_walk using wpAny_loadPart' hl
    repeat (first
      | (refine wpAny_ite_false (decide_eq_false (by rw [c0]; exact Bool.false_ne_true)) ?_; wp_walk using wpAny_loadPart' hl)
      | (refine wpAny_ite_false (decide_eq_false (by rw [c1]; exact Bool.false_ne_true)) ?_; wp_walk using wpAny_loadPart' hl)
      | (refine wpAny_ite_true (decide_eq_true (by rw [c2])) ?_; wp_walk using wpAny_loadPart' hl))
    exact ⟨_, rfl, h⟩
theorem tuple_mul1 (l : Addr) (items : Array Value) (n : Nat) (dd : Option Addr) (sl : Array (Option Value)) (x : Int) (u : Tok) (c0 : (decide (x < -(2 ^ 63)) || decide (x ≥ 2 ^ 63)) = false) (c1 : (items.isEmpty || x == 1) = true) :
    Meets (Builtin.«tuple.__mul__» ⟨[.ref l, .int x u], []⟩) (fun _ R s => s.heap.get? l = some { cls := .type "tuple", dict := dd, data := .seq items n, slots := sl } ∧
      R (.ok (.ret (Value.ref l))) s) :=
  .of_wp fun prog w A R s h => by
    obtain ⟨hp, g, d, tk, os⟩ := s
    obtain ⟨hl, h⟩ := h
    have f1 := AutoSeq1.idx_int
    wp_walk using wpAny_loadPart' hl
    repeat (first
      | (refine wpAny_ite_false (decide_eq_false (by rw [c0]; exact Bool.false_ne_true)) ?_; wp_walk using wpAny_loadPart' hl)
      | (refine wpAny_ite_true (decide_eq_true (by rw [c1])) ?_; wp_walk using wpAny_loadPart' hl))
    exact ⟨_, rfl, h⟩
/-- t * k, k any small number -/
def rRepA (K : PySem.W.Frag) : R2 := fun x y H Q => ∃ l k xs, x = .ref l ∧ y = .int k ∧ SqT K H l xs ∧ -1000000 ≤ k ∧ k ≤ 1000000 ∧ xs.length * k.toNat ≤ 1000000 ∧
  (xs = [] ∨ k = 1 → Q (.ref l) H) ∧ ∀ p ob, H p = none → ExT ob → Q (.ref p) (upd H p (.frz ob (.tup (List.replicate k.toNat xs).flatten)))
section
variable {X : Cx}
theorem op_repA : OpR X (binaryOp .Mult) (rRepA X.K) := by
  intro pins s σ H x y v u Q I rx ry h
  obtain ⟨l, k, xs, rfl, rfl, hT, h1, h2, hz, qs, q⟩ := h
  cases rx
  obtain ⟨t, rfl⟩ := ry
  obtain ⟨its, r, ⟨⟨cls, dd, data, sl⟩, ho, hc, n, hd⟩, hs⟩ := I.tuple hT
  simp only at hc hd
  subst hc hd
  have hle : its.length = xs.length := r.length.symm
  have c0 : (decide (k < -(2 ^ 63)) || decide (k ≥ 2 ^ 63)) = false := by
    rw [decide_eq_false (by omega), decide_eq_false (by omega)] <;> rfl
  by_cases h1' : xs = [] ∨ k = 1
  · have c1 : (its.toArray.isEmpty || k == 1) = true := by
      rcases h1' with e | e
      · subst e
        have : its = [] := List.eq_nil_of_length_eq_zero hle
        subst this
        rfl
      · subst e
        simp
    refine wpAny_binaryOp_repeat_ref (T := "tuple") (U := "int") (by decide) ⟨_, ho, rfl⟩ (fun s' => typeIs_int s' k t) noFill_tuple_mul F.fills_int_mul F.slot_int_rmul repeat_tuple F.slot_int_index.lookup
      (call_meets F.slot_int_rmul (typeIs_int s k t) F.entry_int_rmul (F.args_int_rmul_2 _ _) (int_rmul_tuple k t l its.toArray n dd sl)
        ⟨ho, rfl, ⟨_, ho, rfl⟩, call_meets F.slot_tuple_mul ⟨_, ho, rfl⟩ F.entry_tuple_mul (F.args_tuple_mul_2 _ _) (tuple_mul1 l its.toArray n dd sl k t c0 c1) ⟨ho, ?_⟩⟩)
    exact ⟨.ref l, H, I, rfl, qs h1'⟩
  · have hne : xs ≠ [] := fun e => h1' (.inl e)
    have hk1 : k ≠ 1 := fun e => h1' (.inr e)
    have hn : its ≠ [] := fun e => hne (by
      rw [e] at hle
      exact List.eq_nil_of_length_eq_zero hle.symm)
    have hi : its.toArray.isEmpty = false := by
      cases its with
      | nil => exact absurd rfl hn
      | cons a b => rfl
    have c1 : (its.toArray.isEmpty || k == 1) = false := by
      rw [hi, Bool.false_or]
      exact beq_eq_false_iff_ne.mpr hk1
    by_cases hk : k ≤ 0
    · have c2 : (decide (k ≤ 0) || its.toArray.isEmpty) = true := by rw [decide_eq_true hk]; rfl
      refine wpAny_binaryOp_repeat_ref (T := "tuple") (U := "int") (by decide) ⟨_, ho, rfl⟩ (fun s' => typeIs_int s' k t) noFill_tuple_mul F.fills_int_mul F.slot_int_rmul repeat_tuple F.slot_int_index.lookup
        (call_meets F.slot_int_rmul (typeIs_int s k t) F.entry_int_rmul (F.args_int_rmul_2 _ _) (int_rmul_tuple k t l its.toArray n dd sl)
          ⟨ho, rfl, ⟨_, ho, rfl⟩, call_meets F.slot_tuple_mul ⟨_, ho, rfl⟩ F.entry_tuple_mul (F.args_tuple_mul_2 _ _) (tuple_mul0 l its.toArray n dd sl k t c0 c1 c2) ⟨ho, ?_⟩⟩)
      have e0 : k.toNat = 0 := by omega
      rw [e0] at q
      obtain ⟨ob, hx, hf, I2⟩ := laidT (t' := s.toks) (h' := s.heap) (s := s) (xs := []) (its := []) I .nil (Nat.zero_le _)
      exact ⟨.ref s.heap.objs.size, _, I2, rfl, q _ ob hf hx⟩
    · have hsz0 : its.toArray.size = xs.length := by rw [List.size_toArray, hle]
      have hkn : ((k.toNat : Nat) : Int) = k := by omega
      have hm : ((its.toArray.size : Nat) : Int) * k ≤ 1000000 := by
        rw [hsz0, ← hkn]
        have e : ((xs.length * k.toNat : Nat) : Int) = (xs.length : Int) * (k.toNat : Int) := Int.natCast_mul _ _
        omega
      have flen : (List.replicate k.toNat its).flatten.length ≤ sizeLine := by
        rw [PyProof.Rows.lm_len_rep_flat, hle, sizeLine_eq, Nat.mul_comm]
        omega
      have c2 : (decide (k ≤ 0) || its.toArray.isEmpty) = false := by
        rw [hi, Bool.or_false]
        exact decide_eq_false hk
      have c4 : Builtin.Tuple.tupleTooMany (((its.toArray.size : Nat) : Int) * k) = false := by
        unfold Builtin.Tuple.tupleTooMany
        rw [sizeLine_eq]
        exact decide_eq_false (by omega)
      refine wpAny_binaryOp_repeat_ref (T := "tuple") (U := "int") (by decide) ⟨_, ho, rfl⟩ (fun s' => typeIs_int s' k t) noFill_tuple_mul F.fills_int_mul F.slot_int_rmul repeat_tuple F.slot_int_index.lookup
        (call_meets F.slot_int_rmul (typeIs_int s k t) F.entry_int_rmul (F.args_int_rmul_2 _ _) (int_rmul_tuple k t l its.toArray n dd sl)
          ⟨ho, rfl, ⟨_, ho, rfl⟩, call_meets F.slot_tuple_mul ⟨_, ho, rfl⟩ F.entry_tuple_mul (F.args_tuple_mul_2 _ _) (tuple_mulW l its.toArray n dd sl k t c0 c1 c2 (by omega) c4 (by rw [size_rep, List.size_toArray]; exact flen)) ⟨ho, ?_⟩⟩)
      rw [size_rep]
      obtain ⟨ob, hx, hf, I2⟩ := laidT (t' := s.toks) (h' := s.heap) (s := s) (xs := (List.replicate k.toNat xs).flatten) (its := (List.replicate k.toNat its).flatten) I (r.rep k.toNat) (by rw [PyProof.Rows.lm_len_rep_flat, sizeLine_eq, Nat.mul_comm]; omega)
      exact ⟨.ref s.heap.objs.size, _, I2, rfl, q _ ob hf hx⟩

/-- t + u -/
def rCatX (K : PySem.W.Frag) : R2 := fun x y H Q => ∃ a b xs ys, x = .ref a ∧ y = .ref b ∧ SqT K H a xs ∧ SqT K H b ys ∧ xs.length + ys.length ≤ sizeLine ∧
  (xs = [] → Q (.ref b) H) ∧ (xs ≠ [] → ys = [] → Q (.ref a) H) ∧ (∀ p ob, H p = none → ExT ob → Q (.ref p) (upd H p (.frz ob (.tup (xs ++ ys)))))
theorem op_catX : OpR X (binaryOp .Add) (rCatX X.K) := by
  intro pins s σ H x y v u Q I rx ry h
  obtain ⟨a, b, xs, ys, rfl, rfl, ha, hb, hz, q0, q1, q2⟩ := h
  cases rx
  cases ry
  obtain ⟨its, r1, p1, _⟩ := I.tuple ha
  obtain ⟨its2, r2, p2, _⟩ := I.tuple hb
  by_cases hx : xs = []
  · subst hx
    cases r1
    exact cat_tup0 p1 p2 ⟨.ref b, H, I, rfl, q0 rfl⟩
  · refine HT.cat_tup p1 p2 (fun z => hx (r1.nil_iff.mp z)) (fun z => ⟨.ref a, H, I, rfl, q1 hx (r2.nil_iff.mp z)⟩) (fun z => ?_) (by rw [← r1.length, ← r2.length]; exact hz)
    obtain ⟨ob, hx, hf, I2⟩ := laidT (t' := s.toks) (h' := s.heap) (s := s) I (r1.append r2) (by rw [List.length_append]; exact hz)
    exact ⟨.ref s.heap.objs.size, _, I2, rfl, q2 _ ob hf hx⟩
/-! ### equality, order, membership over data -/
def rEqP (K : PySem.W.Frag) : R2 := fun x y H Q => ∃ d e, Dp K H x d ∧ Dp K H y e ∧ d.plain = true ∧ e.plain = true ∧ min d.depth e.depth ≤ 60 ∧ Q (.bl (PyData.eqv d e)) H
def rNeP (K : PySem.W.Frag) : R2 := fun x y H Q => ∃ d e, Dp K H x d ∧ Dp K H y e ∧ d.plain = true ∧ e.plain = true ∧ min d.depth e.depth ≤ 60 ∧ Q (.bl (!PyData.eqv d e)) H
theorem op_eqP (hu : X.A.units + 64 < cLine) : OpR X (compareOp .Eq) (rEqP X.K) := by
  intro pins s σ H x y v u Q I rx ry h
  obtain ⟨d, e, hd, he, sd, se, sm, q⟩ := h
  obtain ⟨as, r1⟩ := Dp.reads I d x v hd rx
  obtain ⟨bs, r2⟩ := Dp.reads I e y u he ry
  exact SeqAt.eq_plain r1 r2 sd se (by omega) ⟨.bl _, H, I, rfl, q⟩
theorem op_neP (hu : X.A.units + 64 < cLine) : OpR X (compareOp .NotEq) (rNeP X.K) := by
  intro pins s σ H x y v u Q I rx ry h
  obtain ⟨d, e, hd, he, sd, se, sm, q⟩ := h
  obtain ⟨as, r1⟩ := Dp.reads I d x v hd rx
  obtain ⟨bs, r2⟩ := Dp.reads I e y u he ry
  exact SeqAt.ne_plain r1 r2 sd se (by omega) ⟨.bl _, H, I, rfl, q⟩

/-- the data that a handle reads as -/
def py (h : Hd) (ρ : Ev) : Option PyData := match h with
  | .dat t => some t
  | .tmp (.lst xs) => some (.list xs)
  | .plc i => match ρ[i]? with
    | some (some (.obj (.lst xs))) => some (.list xs)
    | some (some (.rol xs)) => some (.list xs)
    | _ => none
theorem py_dp {K : PySem.W.Frag} {H0 H : Hp} {σ : Sto} {ρ : Ev} {h : Hd} {u : V} {d : PyData} (S : SR K H σ ρ) (r : HR K H0 H σ ρ h u) (e : py h ρ = some d) : Dp K H u d ∧ d.plain = true := by
  cases h with
  | dat t => cases e; exact ⟨Rp.dp _ _ r, Rp.plain _ _ r⟩
  | tmp c =>
    cases c with
    | lst xs =>
      cases e
      obtain ⟨a, rfl, rc, _, _⟩ := r
      obtain ⟨vs, q, r⟩ := rc.sq
      exact ⟨.lst q (RpL.dp _ _ r), RpL.plain _ _ r⟩
  | plc i =>
    have r : σ[i]? = some (some u) := r
    unfold py at e
    simp only at e
    split at e
    · rename_i xs hx
      cases e
      obtain ⟨a, ea, rc⟩ := S.obj i _ hx
      rw [r] at ea; cases ea
      obtain ⟨vs, q, r⟩ := rc.sq
      exact ⟨.lst q (RpL.dp _ _ r), RpL.plain _ _ r⟩
    · rename_i xs hx
      cases e
      obtain ⟨a, ea, rc⟩ := S.rol i _ hx
      rw [r] at ea; cases ea
      obtain ⟨vs, q, r⟩ := rc.sq
      exact ⟨.lst q (RpL.dp _ _ r), RpL.plain _ _ r⟩
    · cases e
noncomputable def gEq : GB := fun a b ρ => (py a ρ).bind fun d => (py b ρ).bind fun e => (guardP (min d.depth e.depth ≤ 60)).map fun _ => .dat (.bool (PyData.eqv d e))
noncomputable def gNe : GB := fun a b ρ => (py a ρ).bind fun d => (py b ρ).bind fun e => (guardP (min d.depth e.depth ≤ 60)).map fun _ => .dat (.bool (!PyData.eqv d e))
theorem dop_eq (hu : X.A.units + 64 < cLine) : DOp X (compareOp .Eq) gEq := by
  refine ⟨_, op_eqP hu, fun σ H0 H ρ h1 h2 h3 x y Q S r1 r2 e q => ?_⟩
  simp only [gEq, Option.bind_eq_some_iff, Option.map_eq_some_iff, guardP_some] at e
  obtain ⟨d, e1, d', e2, _, hd, rfl⟩ := e
  obtain ⟨p1, n1⟩ := py_dp S r1 e1
  obtain ⟨p2, n2⟩ := py_dp S r2 e2
  exact ⟨d, d', p1, p2, n1, n2, hd, q _ H .refl S (.bl _)⟩
theorem dop_ne (hu : X.A.units + 64 < cLine) : DOp X (compareOp .NotEq) gNe := by
  refine ⟨_, op_neP hu, fun σ H0 H ρ h1 h2 h3 x y Q S r1 r2 e q => ?_⟩
  simp only [gNe, Option.bind_eq_some_iff, Option.map_eq_some_iff, guardP_some] at e
  obtain ⟨d, e1, d', e2, _, hd, rfl⟩ := e
  obtain ⟨p1, n1⟩ := py_dp S r1 e1
  obtain ⟨p2, n2⟩ := py_dp S r2 e2
  exact ⟨d, d', p1, p2, n1, n2, hd, q _ H .refl S (.bl _)⟩
/-! order -/
open PySem.W in
noncomputable def gOrd (f : PyData → PyData → Bool) : GB := fun a b ρ => (py a ρ).bind fun d => (py b ρ).bind fun e => (guardP (alike d e = true ∧ d ≠ .none ∧ min d.depth e.depth ≤ 60)).map fun _ => .dat (.bool (f d e))
open PySem.W in
theorem dop_ord {op : CmpOp} {f : PyData → PyData → Bool} (rule : ∀ (da db : PyData) (s : Shared) (a b : Value) (as bs : List Addr) (Q : Value → Shared → Prop), Reads s.heap a da as → Reads s.heap b db bs → alike da db = true → da ≠ .none →
    X.A.units + min da.depth db.depth < cLine → Q (.bool (f da db)) s → wpAny (model X.prog X.w) X.A (compareOp op a b) Q X.xe s) (hu : X.A.units + 64 < cLine) : DOp X (compareOp op) (gOrd f) := by
  refine ⟨fun x y H Q => ∃ d e, Dp X.K H x d ∧ Dp X.K H y e ∧ alike d e = true ∧ d ≠ .none ∧ min d.depth e.depth ≤ 60 ∧ Q (.bl (f d e)) H, ?_, fun σ H0 H ρ h1 h2 h3 x y Q S r1 r2 e q => ?_⟩
  · intro pins s σ H x y v u Q I rx ry h
    obtain ⟨d, e, hd, he, sd, se, sm, q⟩ := h
    obtain ⟨as, r1⟩ := Dp.reads I d x v hd rx
    obtain ⟨bs, r2⟩ := Dp.reads I e y u he ry
    exact rule d e s v u as bs _ r1 r2 sd se (by omega) ⟨.bl _, H, I, rfl, q⟩
  · simp only [gOrd, Option.bind_eq_some_iff, Option.map_eq_some_iff, guardP_some] at e
    obtain ⟨d, e1, d', e2, _, ⟨h1, h2, h3⟩, rfl⟩ := e
    obtain ⟨p1, n1⟩ := py_dp S r1 e1
    obtain ⟨p2, n2⟩ := py_dp S r2 e2
    exact ⟨d, d', p1, p2, h1, h2, h3, q _ H .refl S (.bl _)⟩
open PySem.W in
theorem dop_lt (hu : X.A.units + 64 < cLine) : DOp X (compareOp .Lt) (gOrd fun d e => dataLt d e) := dop_ord (fun da db s a b as bs Q ra rb h hn hd q => lt_data ra rb h hn hd q) hu
open PySem.W in
theorem dop_gt (hu : X.A.units + 64 < cLine) : DOp X (compareOp .Gt) (gOrd fun d e => dataLt e d) := dop_ord (fun da db s a b as bs Q ra rb h hn hd q => gt_data ra rb h hn hd q) hu
open PySem.W in
theorem dop_le (hu : X.A.units + 64 < cLine) : DOp X (compareOp .LtE) (gOrd fun d e => !dataLt e d) := dop_ord (fun da db s a b as bs Q ra rb h hn hd q => le_data ra rb h hn hd q) hu
open PySem.W in
theorem dop_ge (hu : X.A.units + 64 < cLine) : DOp X (compareOp .GtE) (gOrd fun d e => !dataLt d e) := dop_ord (fun da db s a b as bs Q ra rb h hn hd q => ge_data ra rb h hn hd q) hu
/-! membership in a list or tuple -/
def seqOf : PyData → Option (List PyData)
  | .list xs => some xs
  | .tuple xs => some xs
  | _ => none
noncomputable def gIn : GB := fun a b ρ => (py a ρ).bind fun d => (py b ρ).bind fun e => (seqOf e).bind fun xs => (guardP (min (PyData.depthAll xs) d.depth ≤ 60)).map fun _ => .dat (.bool (xs.any fun y => PyData.eqv y d))
noncomputable def gNotIn : GB := fun a b ρ => (py a ρ).bind fun d => (py b ρ).bind fun e => (seqOf e).bind fun xs => (guardP (min (PyData.depthAll xs) d.depth ≤ 60)).map fun _ => .dat (.bool (!xs.any fun y => PyData.eqv y d))
def rInP (K : PySem.W.Frag) (neg : Bool) : R2 := fun x y H Q => ∃ d e xs, Dp K H x d ∧ Dp K H y e ∧ seqOf e = some xs ∧ d.plain = true ∧ PyData.plainAll xs = true ∧ min (PyData.depthAll xs) d.depth ≤ 60 ∧ Q (.bl (if neg then !xs.any fun y => PyData.eqv y d else xs.any fun y => PyData.eqv y d)) H
theorem op_inP (hu : X.A.units + 64 < cLine) : OpR X (compareOp .In) (rInP X.K false) := by
  intro pins s σ H x y v u Q I rx ry h
  obtain ⟨d, e, xs, hd, he, ex, sd, se, sm, q⟩ := h
  obtain ⟨as, r1⟩ := Dp.reads I d x v hd rx
  obtain ⟨bs, r2⟩ := Dp.reads I e y u he ry
  unfold seqOf at ex
  split at ex
  · cases ex
    exact SeqAt.in_list_data r2 r1 se sd (by omega) ⟨.bl _, H, I, rfl, q⟩
  · cases ex
    exact SeqAt.in_tuple_data r2 r1 se sd (by omega) ⟨.bl _, H, I, rfl, q⟩
  · cases ex
theorem op_notInP (hu : X.A.units + 64 < cLine) : OpR X (compareOp .NotIn) (rInP X.K true) := by
  intro pins s σ H x y v u Q I rx ry h
  obtain ⟨d, e, xs, hd, he, ex, sd, se, sm, q⟩ := h
  obtain ⟨as, r1⟩ := Dp.reads I d x v hd rx
  obtain ⟨bs, r2⟩ := Dp.reads I e y u he ry
  unfold seqOf at ex
  split at ex
  · cases ex
    exact SeqAt.notIn_list_data r2 r1 se sd (by omega) ⟨.bl _, H, I, rfl, q⟩
  · cases ex
    exact SeqAt.notIn_tuple_data r2 r1 se sd (by omega) ⟨.bl _, H, I, rfl, q⟩
  · cases ex
theorem seq_plain {e : PyData} {xs : List PyData} (h : e.plain = true) (ex : seqOf e = some xs) : PyData.plainAll xs = true := by
  unfold seqOf at ex
  split at ex
  · cases ex; exact h
  · cases ex; exact h
  · cases ex
theorem dop_in (hu : X.A.units + 64 < cLine) : DOp X (compareOp .In) gIn := by
  refine ⟨_, op_inP hu, fun σ H0 H ρ h1 h2 h3 x y Q S r1 r2 e q => ?_⟩
  simp only [gIn, Option.bind_eq_some_iff, Option.map_eq_some_iff, guardP_some] at e
  obtain ⟨d, e1, d', e2, xs, ex, _, hd, rfl⟩ := e
  obtain ⟨p1, n1⟩ := py_dp S r1 e1
  obtain ⟨p2, n2⟩ := py_dp S r2 e2
  exact ⟨d, d', xs, p1, p2, ex, n1, seq_plain n2 ex, hd, q _ H .refl S (.bl _)⟩
theorem dop_notIn (hu : X.A.units + 64 < cLine) : DOp X (compareOp .NotIn) gNotIn := by
  refine ⟨_, op_notInP hu, fun σ H0 H ρ h1 h2 h3 x y Q S r1 r2 e q => ?_⟩
  simp only [gNotIn, Option.bind_eq_some_iff, Option.map_eq_some_iff, guardP_some] at e
  obtain ⟨d, e1, d', e2, xs, ex, _, hd, rfl⟩ := e
  obtain ⟨p1, n1⟩ := py_dp S r1 e1
  obtain ⟨p2, n2⟩ := py_dp S r2 e2
  exact ⟨d, d', xs, p1, p2, ex, n1, seq_plain n2 ex, hd, q _ H .refl S (.bl _)⟩
/-! None -/
def isNone : Hd → Bool
  | .dat .none => true
  | _ => false
theorem isNone_V {K : PySem.W.Frag} {H0 H : Hp} {σ : Sto} {ρ : Ev} {h : Hd} {u : V} {d : PyData} (S : SR K H σ ρ) (r : HR K H0 H σ ρ h u) (e : py h ρ = some d) : decide (u = .non) = isNone h := by
  obtain ⟨p, _⟩ := py_dp S r e
  cases h with
  | dat t => cases r <;> rfl
  | tmp c => obtain ⟨a, rfl, _⟩ := r; rfl
  | plc i =>
    cases p with
    | lst _ _ => rfl
    | tup _ _ => rfl
    | non =>
      unfold py at e
      simp only at e
      split at e <;> cases e
    | bl _ => rfl
    | int _ => rfl
    | str _ => rfl
def gIsN : GB := fun a b ρ => (py a ρ).bind fun _ => if isNone b then some (.dat (.bool (isNone a))) else none
def gNotN : GB := fun a b ρ => (py a ρ).bind fun _ => if isNone b then some (.dat (.bool (!isNone a))) else none
theorem isNone_eq {h : Hd} (e : isNone h = true) : h = .dat .none := by
  unfold isNone at e
  split at e
  · rfl
  · cases e
theorem dop_isN : DOp X (compareOp .Is) gIsN := by
  refine ⟨_, op_isN, fun σ H0 H ρ h1 h2 h3 x y Q S r1 r2 e q => ?_⟩
  simp only [gIsN, Option.bind_eq_some_iff] at e
  obtain ⟨d, e1, e2⟩ := e
  split at e2
  · rename_i hb
    cases e2
    have := isNone_eq hb
    subst this
    cases r2
    refine ⟨rfl, q _ H .refl S ?_⟩
    rw [isNone_V S r1 e1]
    exact .bl _
  · cases e2
theorem dop_notN : DOp X (compareOp .IsNot) gNotN := by
  refine ⟨_, op_notN, fun σ H0 H ρ h1 h2 h3 x y Q S r1 r2 e q => ?_⟩
  simp only [gNotN, Option.bind_eq_some_iff] at e
  obtain ⟨d, e1, e2⟩ := e
  split at e2
  · rename_i hb
    cases e2
    have := isNone_eq hb
    subst this
    cases r2
    refine ⟨rfl, q _ H .refl S ?_⟩
    rw [isNone_V S r1 e1]
    exact .bl _
  · cases e2
/-! ### numbers -/
def intOf : Hd → Option Int
  | .dat (.int i) => some i
  | _ => none
theorem intOf_some {h : Hd} {i : Int} (e : intOf h = some i) : h = .dat (.int i) := by
  unfold intOf at e
  split at e
  · cases e; rfl
  · cases e
noncomputable def gI (C : Int → Int → Prop) (f : Int → Int → T) : GB := fun a b _ => (intOf a).bind fun i => (intOf b).bind fun j => (guardP (C i j)).map fun _ => .dat (f i j)
def gI0 (f : Int → Int → T) : GB := fun a b _ => (intOf a).bind fun i => (intOf b).map fun j => .dat (f i j)
theorem dop_I {F : Value → Value → Sem Value} {C : Int → Int → Prop} {g : Int → Int → V} {f : Int → Int → T} (o : OpR X F (rI C g)) (hg : ∀ i j H, Rp X.K H (g i j) (f i j)) : DOp X F (gI C f) := by
  refine ⟨_, o, fun σ H0 H ρ h1 h2 h3 x y Q S r1 r2 e q => ?_⟩
  simp only [gI, Option.bind_eq_some_iff, Option.map_eq_some_iff, guardP_some] at e
  obtain ⟨i, e1, j, e2, _, hc, rfl⟩ := e
  have e1 := intOf_some e1
  have e2 := intOf_some e2
  subst e1 e2
  cases r1
  cases r2
  exact ⟨i, j, rfl, rfl, hc, q _ H .refl S (hg i j H)⟩
theorem dop_I0 {F : Value → Value → Sem Value} {g : Int → Int → V} {f : Int → Int → T} (o : OpR X F (rI0 g)) (hg : ∀ i j H, Rp X.K H (g i j) (f i j)) : DOp X F (gI0 f) := by
  refine ⟨_, o, fun σ H0 H ρ h1 h2 h3 x y Q S r1 r2 e q => ?_⟩
  simp only [gI0, Option.bind_eq_some_iff, Option.map_eq_some_iff] at e
  obtain ⟨i, e1, j, e2, rfl⟩ := e
  have e1 := intOf_some e1
  have e2 := intOf_some e2
  subst e1 e2
  cases r1
  cases r2
  exact ⟨i, j, rfl, rfl, q _ H .refl S (hg i j H)⟩
def MulOk (i j : Int) : Prop := CMul i j ∨ CMulX i j
theorem MulOk.ok {i j : Int} (h : MulOk i j) : IntMulOk i j := h.elim CMul.ok CMulX.ok
def DivOk (_ j : Int) : Prop := 0 < j ∧ j.natAbs.log2 < 9000
def ModOk (_ j : Int) : Prop := 0 < j
theorem op_mulM : OpR X (binaryOp .Mult) (rI MulOk fun i j => .int (i * j)) := opI fun _ _ _ _ _ _ _ hc q => mul_int q hc.ok
abbrev gSub : GB := gI0 fun i j => .int (i - j)
noncomputable abbrev gDiv : GB := gI DivOk fun i j => .int (i / j)
noncomputable abbrev gMod : GB := gI ModOk fun i j => .int (i % j)
noncomputable abbrev gPow : GB := gI CPow fun i j => .int (i ^ j.toNat)
noncomputable abbrev gShl : GB := gI CShl fun i j => .int (i * 2 ^ j.toNat)
noncomputable abbrev gShr : GB := gI (fun _ j => 0 ≤ j) fun i j => .int (i / 2 ^ j.toNat)
abbrev gAnd : GB := gI0 fun i j => .int (Builtin.bitAnd i j)
theorem dop_sub : DOp X (binaryOp .Sub) gSub := dop_I0 op_sub fun _ _ _ => .int _
theorem dop_div : DOp X (binaryOp .FloorDiv) gDiv := dop_I (op_fdivW (X := X)) fun _ _ _ => .int _
theorem dop_mod : DOp X (binaryOp .Mod) gMod := dop_I (op_mod (X := X)) fun _ _ _ => .int _
theorem dop_pow : DOp X (binaryOp .Pow) gPow := dop_I op_pow fun _ _ _ => .int _
theorem dop_shl : DOp X (binaryOp .LShift) gShl := dop_I op_shlW fun _ _ _ => .int _
theorem dop_shr : DOp X (binaryOp .RShift) gShr := dop_I op_shr fun _ _ _ => .int _
theorem dop_and : DOp X (binaryOp .BitAnd) gAnd := dop_I0 op_and fun _ _ _ => .int _
/-- the order of ints, with nothing asked -/
def gCmpI (f : Int → Int → Bool) : GB := gI0 fun i j => .bool (f i j)
noncomputable def gLt : GB := fun a b ρ => (gCmpI (fun i j => decide (i < j)) a b ρ).or (gOrd (fun d e => PySem.W.dataLt d e) a b ρ)
noncomputable def gLe : GB := fun a b ρ => (gCmpI (fun i j => decide (i ≤ j)) a b ρ).or (gOrd (fun d e => !PySem.W.dataLt e d) a b ρ)
noncomputable def gGt : GB := fun a b ρ => (gCmpI (fun i j => decide (j < i)) a b ρ).or (gOrd (fun d e => PySem.W.dataLt e d) a b ρ)
noncomputable def gGe : GB := fun a b ρ => (gCmpI (fun i j => decide (j ≤ i)) a b ρ).or (gOrd (fun d e => !PySem.W.dataLt d e) a b ρ)
theorem dop_ltA (hu : X.A.units + 64 < cLine) : DOp X (compareOp .Lt) gLt := (dop_I0 op_lt fun _ _ _ => .bl _).or (dop_lt hu)
theorem dop_leA (hu : X.A.units + 64 < cLine) : DOp X (compareOp .LtE) gLe := (dop_I0 op_le fun _ _ _ => .bl _).or (dop_le hu)
theorem dop_gtA (hu : X.A.units + 64 < cLine) : DOp X (compareOp .Gt) gGt := (dop_I0 op_gt fun _ _ _ => .bl _).or (dop_gt hu)
theorem dop_geA (hu : X.A.units + 64 < cLine) : DOp X (compareOp .GtE) gGe := (dop_I0 op_ge fun _ _ _ => .bl _).or (dop_ge hu)
/-! ### + and * -/
def tupOf : Hd → Option (List T)
  | .dat (.tuple xs) => some xs
  | _ => none
theorem tupOf_some {h : Hd} {i : List T} (e : tupOf h = some i) : h = .dat (.tuple i) := by
  unfold tupOf at e
  split at e
  · cases e; rfl
  · cases e
def strOf : Hd → Option Str
  | .dat (.str x) => some x
  | _ => none
theorem strOf_some {h : Hd} {i : Str} (e : strOf h = some i) : h = .dat (.str i) := by
  unfold strOf at e
  split at e
  · cases e; rfl
  · cases e
/-- a written list -/
def lstOf (h : Hd) (ρ : Ev) : Option (List T) := match h with
  | .tmp (.lst xs) => some xs
  | .plc i => match ρ[i]? with
    | some (some (.obj (.lst xs))) => some xs
    | _ => none
  | _ => none
theorem lstOf_some {K : PySem.W.Frag} {H0 H : Hp} {σ : Sto} {ρ : Ev} {h : Hd} {u : V} {xs : List T} (S : SR K H σ ρ) (r : HR K H0 H σ ρ h u) (e : lstOf h ρ = some xs) : ∃ a vs, u = .ref a ∧ H a = some (.lst vs) ∧ RpL K H vs xs := by
  cases h with
  | dat t => cases e
  | tmp c =>
    cases c with
    | lst ys =>
      cases e
      obtain ⟨a, e, ⟨vs, h, rv⟩, _⟩ := r
      exact ⟨a, vs, e, h, rv⟩
  | plc i =>
    have r : σ[i]? = some (some u) := r
    unfold lstOf at e
    simp only at e
    split at e
    · rename_i hx
      cases e
      obtain ⟨a, ea, ⟨vs, h, rv⟩⟩ := S.obj i _ hx
      rw [r] at ea; cases ea
      exact ⟨a, vs, rfl, h, rv⟩
    · cases e
noncomputable def gAddT : GB := fun a b _ => (tupOf a).bind fun xs => (tupOf b).bind fun ys => (guardP (xs.length + ys.length ≤ sizeLine)).map fun _ => .dat (.tuple (xs ++ ys))
noncomputable def gAddS : GB := fun a b _ => (strOf a).bind fun xs => (strOf b).bind fun ys => (guardP (xs.length + ys.length ≤ sizeLine)).map fun _ => .dat (.str (xs ++ ys))
noncomputable def gAddL : GB := fun a b ρ => (lstOf a ρ).bind fun xs => (lstOf b ρ).bind fun ys => (guardP (xs.length + ys.length ≤ sizeLine)).map fun _ => .tmp (.lst (xs ++ ys))
theorem dop_addT : DOp X (binaryOp .Add) gAddT := by
  refine ⟨_, op_catX, fun σ H0 H ρ h1 h2 h3 x y Q S r1 r2 e q => ?_⟩
  simp only [gAddT, Option.bind_eq_some_iff, Option.map_eq_some_iff, guardP_some] at e
  obtain ⟨xs, e1, ys, e2, _, hd, rfl⟩ := e
  have e1 := tupOf_some e1
  have e2 := tupOf_some e2
  subst e1 e2
  cases r1 with
  | @tup a vs _ s1 l1 =>
    cases r2 with
    | @tup b ws _ s2 l2 =>
      refine ⟨a, b, vs, ws, rfl, rfl, s1.t, s2.t, by rw [l1.length, l2.length]; exact hd, fun z => ?_, fun _ z => ?_, fun p ob np hx => ?_⟩
      · subst z
        cases l1
        exact q _ H .refl S (.tup s2 l2)
      · subst z
        cases l2
        rw [List.append_nil] at q
        exact q _ H .refl S (.tup s1 l1)
      · exact q _ _ (.new np) (S.new np) (.tup (.new hx) ((l1.append l2).m (tst_new np)))
theorem dop_addS : DOp X (binaryOp .Add) gAddS := by
  refine ⟨_, op_add_str, fun σ H0 H ρ h1 h2 h3 x y Q S r1 r2 e q => ?_⟩
  simp only [gAddS, Option.bind_eq_some_iff, Option.map_eq_some_iff, guardP_some] at e
  obtain ⟨xs, e1, ys, e2, _, hd, rfl⟩ := e
  have e1 := strOf_some e1
  have e2 := strOf_some e2
  subst e1 e2
  cases r1
  cases r2
  exact ⟨xs, ys, rfl, rfl, hd, q _ H .refl S (.str _)⟩
theorem dop_addL : DOp X (binaryOp .Add) gAddL := by
  refine ⟨_, op_cat, fun σ H0 H ρ h1 h2 h3 x y Q S r1 r2 e q => ?_⟩
  simp only [gAddL, Option.bind_eq_some_iff, Option.map_eq_some_iff, guardP_some] at e
  obtain ⟨xs, e1, ys, e2, _, hd, rfl⟩ := e
  obtain ⟨a, vs, rfl, ha, l1⟩ := lstOf_some S r1 e1
  obtain ⟨b, ws, rfl, hb, l2⟩ := lstOf_some S r2 e2
  exact ⟨a, b, vs, ws, rfl, rfl, ha, hb, by rw [l1.length, l2.length]; exact hd, fun p np => q _ _ (.new np) (S.new np) (HR.tmpL S np np (l1.append l2))⟩
noncomputable def gAdd : GB := fun a b ρ => (gI0 (fun i j => .int (i + j)) a b ρ).or ((gAddT a b ρ).or ((gAddL a b ρ).or (gAddS a b ρ)))
theorem dop_add : DOp X (binaryOp .Add) gAdd := (dop_I0 op_add fun _ _ _ => .int _).or (dop_addT.or (dop_addL.or dop_addS))
noncomputable def gMulT : GB := fun a b _ => (tupOf a).bind fun xs => (intOf b).bind fun k => (guardP (-1000000 ≤ k ∧ k ≤ 1000000 ∧ xs.length * k.toNat ≤ 1000000)).map fun _ => .dat (.tuple (List.replicate k.toNat xs).flatten)
theorem dop_mulT : DOp X (binaryOp .Mult) gMulT := by
  refine ⟨_, op_repA, fun σ H0 H ρ h1 h2 h3 x y Q S r1 r2 e q => ?_⟩
  simp only [gMulT, Option.bind_eq_some_iff, Option.map_eq_some_iff, guardP_some] at e
  obtain ⟨xs, e1, k, e2, _, ⟨c1, c2, c3⟩, rfl⟩ := e
  have e1 := tupOf_some e1
  have e2 := intOf_some e2
  subst e1 e2
  cases r2
  cases r1 with
  | @tup a vs _ s1 l1 =>
    refine ⟨a, k, vs, rfl, rfl, s1.t, c1, c2, by rw [l1.length]; exact c3, fun z => ?_, fun p ob np hx => ?_⟩
    · have : (List.replicate k.toNat xs).flatten = xs := by
        rcases z with z | z
        · subst z
          cases l1
          simp
        · subst z
          simp
      rw [this] at q
      exact q _ H .refl S (.tup s1 l1)
    · exact q _ _ (.new np) (S.new np) (.tup (.new hx) ((l1.rep k.toNat).m (tst_new np)))
noncomputable def gMulL : GB := fun a b ρ => (lstOf a ρ).bind fun xs => (intOf b).bind fun k => (guardP (-1000000 ≤ k ∧ k ≤ 1000000 ∧ xs.length * k.toNat ≤ 1000000)).map fun _ => .tmp (.lst (List.replicate k.toNat xs).flatten)
theorem million : 1000000 ≤ sizeLine := by rw [sizeLine_eq]; omega
theorem dop_mulL : DOp X (binaryOp .Mult) gMulL := by
  refine ⟨_, op_rep, fun σ H0 H ρ h1 h2 h3 x y Q S r1 r2 e q => ?_⟩
  simp only [gMulL, Option.bind_eq_some_iff, Option.map_eq_some_iff, guardP_some] at e
  obtain ⟨xs, e1, k, e2, _, ⟨c1, c2, c3⟩, rfl⟩ := e
  obtain ⟨a, vs, rfl, ha, l1⟩ := lstOf_some S r1 e1
  have e2 := intOf_some e2
  subst e2
  cases r2
  exact ⟨a, k, vs, rfl, rfl, ha, by omega, by omega, Nat.le_trans (by rw [l1.length]; exact c3) million, fun p np => q _ _ (.new np) (S.new np) (HR.tmpL S np np (l1.rep k.toNat))⟩
noncomputable def gMul : GB := fun a b ρ => (gI MulOk (fun i j => .int (i * j)) a b ρ).or ((gMulT a b ρ).or (gMulL a b ρ))
theorem dop_mul : DOp X (binaryOp .Mult) gMul := (dop_I op_mulM fun _ _ _ => .int _).or (dop_mulT.or dop_mulL)
/-! ### minus -/
def fNeg (f : FE) : FE := fun ρ => (f ρ).bind fun p => (intOf p.1).map fun i => (.dat (.int (-i)), p.2)
theorem de_neg {a : Expr} {fa : FE} {pos : Pos} (ha : DE X a fa) : DE X (.UnaryOp .USub a pos) (fNeg fa) := by
  obtain ⟨t, pt, rt⟩ := ha.run
  refine ⟨_, pe_un un_neg pt, fun σ H ρ k ρ' Q S e q => ?_⟩
  simp only [fNeg, Option.bind_eq_some_iff, Option.map_eq_some_iff] at e
  obtain ⟨⟨h1, ρ1⟩, e1, i, e3, e2⟩ := e
  cases e2
  have e3 : h1 = _ := intOf_some e3
  subst e3
  refine rt σ H ρ _ ρ1 _ S e1 fun x H1 g1 S1 k1 r1 => ?_
  cases r1
  exact ⟨i, rfl, q _ H1 g1 S1 k1 (.int _)⟩
end
end PD

namespace PD
open PySem PySem.Spec PyProof.Rows L2

/-! ### t[lo::-1] -/
/-- how many items t[lo::-1] has -/
def backN (n : Nat) : Option Int → Nat
  | none => n
  | some v => (if v < 0 then max (v + n) (-1) + 1 else min v ((n : Int) - 1) + 1).toNat
theorem backN_le (n : Nat) (o : Option Int) : backN n o ≤ n := by
  unfold backN
  split
  · exact Nat.le_refl _
  · split <;> omega
theorem back_pick {α : Type} (xs : Array α) : ∀ m : Nat, m ≤ xs.size → ((List.range m).filterMap fun (k : Nat) => xs[((m : Int) - 1 + (k : Int) * -1).toNat]?) = (xs.toList.take m).reverse
  | 0, _ => by simp
  | m + 1, h => by
    rw [List.range_succ_eq_map, List.filterMap_cons]
    have e0 : (((m + 1 : Nat) : Int) - 1 + ((0 : Nat) : Int) * -1).toNat = m := by omega
    rw [e0]
    have hm : m < xs.size := h
    rw [Array.getElem?_eq_getElem hm]
    simp only
    rw [List.filterMap_map]
    have e1 : ((fun (k : Nat) => xs[(((m + 1 : Nat) : Int) - 1 + (k : Int) * -1).toNat]?) ∘ Nat.succ) = fun (k : Nat) => xs[((m : Int) - 1 + (k : Int) * -1).toNat]? := by
      funext k
      have : (((m + 1 : Nat) : Int) - 1 + ((Nat.succ k : Nat) : Int) * -1).toNat = ((m : Int) - 1 + (k : Int) * -1).toNat := by omega
      simp only [Function.comp_apply]
      rw [this]
    rw [e1, back_pick xs m (by omega)]
    have e2 : xs.toList.take (m + 1) = xs.toList.take m ++ [xs[m]] := by
      have hl : m < xs.toList.length := by simpa using hm
      rw [List.take_add_one, List.getElem?_eq_getElem hl]
      simp
    rw [e2, List.reverse_append]
    rfl
theorem adjust_back (lo : Option Int) (n : Nat) : Builtin.Slice.sliceAdjust lo none (-1) (n : Int) = ((backN n lo : Int) - 1, -1) := by
  have h1 : ((-1 : Int) < 0) := by omega
  unfold Builtin.Slice.sliceAdjust backN
  simp only [h1, if_true]
  refine Prod.ext ?_ rfl
  cases lo with
  | none => rfl
  | some v =>
    simp only
    split <;> omega
theorem places_back (m : Nat) : Builtin.Slice.slicePlaces ((m : Int) - 1) (-1) (-1) = m := by
  unfold Builtin.Slice.slicePlaces
  have h1 : ¬ ((-1 : Int) > 0) := by omega
  simp only [h1, if_false, Int.neg_neg, Int.ediv_one]
  split <;> omega
section
variable {prog : Program} {w : World} {A : Around} {E : Value → Shared → Prop} {s : Shared}
theorem sliceApplied_back {sl : Addr} {vl vs : Value} {lo : Option Int} {n : Nat} {Q : Int × Int × Nat → Shared → Prop} (hs : s.heap.IsSliceOf sl vl .none vs) (pl : IsPart vl lo) (ps : IsPart vs (some (-1)))
    (h : Q ((backN n lo : Int) - 1, -1, backN n lo) s) : wpAny (model prog w) A (Builtin.Slice.sliceApplied (.ref sl) (pure (n : Int))) Q E s := by
  obtain ⟨os, hos, hcs, hds⟩ := id hs
  unfold Builtin.Slice.sliceApplied Builtin.Slice.sliceFields
  refine wpAny_bind (wpAny_bind (wpAny_field hos hds (x := vl) rfl (wpAny_bind (wpAny_field hos hds (x := .none) rfl (wpAny_bind (wpAny_field hos hds (x := vs) rfl (wpAny_pure ?_)))))))
  refine wpAny_bind (HT.slicePart_ ps ?_)
  show wpAny _ _ (if ((-1 : Int) == 0) = true then _ else _) _ _ s
  rw [if_neg (by decide)]
  refine wpAny_bind (HT.slicePart_ pl (wpAny_bind (slicePart_none (wpAny_bind (wpAny_pure ?_)))))
  show wpAny _ _ (match Builtin.Slice.sliceAdjust lo none (-1) (n : Int) with | (lo, hi) => pure (lo, (-1 : Int), Builtin.Slice.slicePlaces lo hi (-1))) _ _ s
  rw [adjust_back lo n]
  show wpAny _ _ (pure ((backN n lo : Int) - 1, (-1 : Int), Builtin.Slice.slicePlaces ((backN n lo : Int) - 1) (-1) (-1))) _ _ s
  rw [places_back]
  exact wpAny_pure h
theorem getItem_tuple_back {t sl : Addr} {items : Array Value} {vl vs : Value} {lo : Option Int} {Q : Value → Shared → Prop} (ht : IsTup s.heap t items) (hs : s.heap.IsSliceOf sl vl .none vs) (pl : IsPart vl lo) (ps : IsPart vs (some (-1)))
    (h : Q (.ref s.heap.objs.size) { s with heap := s.heap.push { cls := .type "tuple", data := .seq (items.toList.take (backN items.size lo)).reverse.toArray } })
    (hsz : items.size ≤ sizeLine) : wpAny (model prog w) A (getItem (.ref t) (.ref sl)) Q E s := by
  have htake : sizeOk (.seq (items.toList.take (backN items.size lo)).reverse.toArray) := by
    show (items.toList.take (backN items.size lo)).reverse.toArray.size ≤ sizeLine
    rw [List.size_toArray, List.length_reverse, List.length_take, Array.length_toList]
    omega
  obtain ⟨os, hos, hcs, hds⟩ := id hs
  have hTs : s.TypeIs (.ref sl) "slice" := ⟨os, hos, hcs⟩
  unfold getItem
  try with_reducible refine wpAny_holding ?_
  first | refine wpAny_bind (wpAny_pure ?_) | skip
  refine wpAny_bind (wpAny_sequenceKey ht.typeIs (by decide) ?_)
  refine wpAny_bind (wpAny_callSpecial?_slot (name := Str.ofString "__getitem__") ht.typeIs PyProof.Rows.slot_tuple_getitem
    (wpAny_call_entry PyProof.Rows.slot_tuple_getitem ht.typeIs PyProof.Rows.entry_tuple_getitem ?_ (PyProof.Rows.args_tuple_getitem _ _)))
  show wpAny _ _ (Builtin.Tuple.tupleItemsOf (.ref t) >>= _) _ _ s
  refine wpAny_bind (tupleItemsOf_ ht ?_)
  refine wpAny_bind (wpAny_typeOf hTs ?_)
  rw [if_pos (by decide)]
  refine wpAny_bind (sliceApplied_back hs pl ps ?_)
  show wpAny _ _ (if (((backN items.size lo : Int) - 1) == 0 && (-1 : Int) == 1 && (backN items.size lo) == items.size) = true then _ else _) _ _ s
  have hno : ¬ ((((backN items.size lo : Int) - 1) == 0 && (-1 : Int) == 1 && (backN items.size lo) == items.size) = true) := by
    intro q
    rw [Bool.and_eq_true, Bool.and_eq_true] at q
    exact absurd (eq_of_beq q.1.2) (by decide)
  rw [if_neg hno, back_pick items _ (backN_le _ _)]
  first
    | exact wpAny_bind (m := Builtin.Tuple.tupleExact _) (wpAny_newObj_type (wpAny_pure ⟨_, rfl, wpAny_pure h⟩) htake)
    | exact wpAny_bind (m := Builtin.Tuple.tupleExact _) (wpAny_newObj_type (wpAny_bind (wpAny_pure (wpAny_pure ⟨_, rfl, wpAny_pure h⟩))) htake)
    | exact wpAny_bind (wpAny_bind (m := Builtin.Tuple.tupleExact _) (wpAny_newObj_type (wpAny_pure (wpAny_pure ⟨_, rfl, wpAny_pure h⟩)) htake))
    | exact wpAny_bind (wpAny_bind (m := Builtin.Tuple.tupleExact _) (wpAny_newObj_type (wpAny_pure ⟨_, rfl, wpAny_pure h⟩) htake))
end
section
variable {X : Cx}
def tBackT (K : PySem.W.Frag) (te : TE) (tl : TO) : TE := fun σ H Q => te σ H fun x H1 => tl σ H1 fun lo H2 => ∃ a xs, x = .ref a ∧ SqT K H2 a xs ∧ ∀ p ob, H2 p = none → ExT ob → Q (.ref p) (upd H2 p (.frz ob (.tup (xs.take (backN xs.length lo)).reverse)))
theorem pe_backT {e : Expr} {lo : Option Expr} {te : TE} {tl : TO} {k : Nat} {p1 p2 p3 pos : Pos} (he : PE X e te) (hl : PO X lo tl) : PE X (.Subscript e (.Slice lo none (some (.UnaryOp .USub (.Constant (.int 1) k p1) p2)) p3) pos) (tBackT X.K te tl) := by
  refine ⟨fun pins s σ H Q I h => ?_⟩
  refine Subscript_ (thn (he.run pins s σ H _ I h) fun v s1 ⟨x, H1, I1, r1, q1⟩ => ?_)
  have hst : PO X (some (.UnaryOp .USub (.Constant (.int 1) k p1) p2)) (tPart (tUn (rU fun i => .int (-i)) (tC (.int 1)))) := po_some (pe_un un_neg pe_int)
  refine wpAny_Slice (thn (hl.run pins s1 σ H1 _ I1 q1) fun vl s2 ⟨l, H2, I2, pl, q2⟩ => ?_)
  refine thn (po_none.run pins s2 σ H2 (fun o H3 => o = none ∧ H3 = H2) I2 ⟨rfl, rfl⟩) fun vu s3 ⟨u, H3, I3, pu, eu, e3⟩ => ?_
  subst eu e3
  cases pu
  refine thn (hst.run pins s3 σ H3 (fun o H4 => o = some (-1) ∧ H4 = H3) I3 ⟨1, rfl, -1, rfl, rfl, rfl⟩) fun vs s4 ⟨o, H4, I4, ps, eo, e4⟩ => ?_
  subst eo e4
  have I5 : Inv X pins σ H4 { s4 with heap := s4.heap.push { cls := .type "slice", data := .fields #[vl, .none, vs] } } := I4.kept (t' := s4.toks) fun b ob q => Heap.get?_push_of_some _ q
  obtain ⟨a, xs, ex, hx, q⟩ := q2
  subst ex
  cases r1
  obtain ⟨its, r, ht, hz⟩ := I5.tuple hx
  have hlen := r.length
  show wpAny (model X.prog X.w) X.A (subscriptTail e (.Slice lo none (some (.UnaryOp .USub (.Constant (.int 1) k p1) p2)) p3) (.ref a) (.ref s4.heap.objs.size)) (EP X pins σ Q) X.xe { s4 with heap := s4.heap.push { cls := .type "slice", data := .fields #[vl, .none, vs] } }
  refine tail_any (ops := [.ref a, .ref s4.heap.objs.size]) ht.typeIs (PyProof.Rows.slot_tuple_getitem.lookup) ?_ (by with_unfolding_all rfl)
  refine getItem_tuple_back ht (Heap.IsSliceOf.new _ vl .none vs) pl ps ?_ (by rw [List.size_toArray]; omega)
  have hsz : its.toArray.size = xs.length := by rw [List.size_toArray]; exact hlen.symm
  rw [hsz]
  obtain ⟨ob, hx, hf, I6⟩ := laidT (t' := s4.toks) (s := s4) I5 (r.take (backN xs.length l)).reverse (by rw [List.length_reverse, List.length_take]; omega)
  exact ⟨.ref _, _, I6, rfl, q _ ob hf hx⟩
end
end PD

namespace PD
open PySem PySem.Spec PyProof.Rows L2
section
variable {X : Cx} {e a b c : Expr} {es : List Expr} {fa fb fc : FE} {pos : Pos}

/-! ### sequences that are read -/
/-- a list, written or read only -/
def rdL (h : Hd) (ρ : Ev) : Option (List T) := match h with
  | .dat _ => none
  | .tmp (.lst xs) => some xs
  | .plc i => match ρ[i]? with
    | some (some (.obj (.lst xs))) => some xs
    | some (some (.rol xs)) => some xs
    | _ => none
theorem rdL_some {K : PySem.W.Frag} {H0 H : Hp} {σ : Sto} {ρ : Ev} {h : Hd} {u : V} {xs : List T} (S : SR K H σ ρ) (r : HR K H0 H σ ρ h u) (e : rdL h ρ = some xs) : ∃ a vs, u = .ref a ∧ SqL K H a vs ∧ RpL K H vs xs := by
  cases h with
  | dat t => cases e
  | tmp c =>
    cases c with
    | lst ys =>
      cases e
      obtain ⟨a, rfl, rc, _, _⟩ := r
      obtain ⟨vs, q, r⟩ := rc.sq
      exact ⟨a, vs, rfl, q, r⟩
  | plc i =>
    have r : σ[i]? = some (some u) := r
    unfold rdL at e
    simp only at e
    split at e
    · rename_i xs hx
      cases e
      obtain ⟨a, ea, rc⟩ := S.obj i _ hx
      rw [r] at ea; cases ea
      obtain ⟨vs, q, r⟩ := rc.sq
      exact ⟨a, vs, rfl, q, r⟩
    · rename_i xs hx
      cases e
      obtain ⟨a, ea, rc⟩ := S.rol i _ hx
      rw [r] at ea; cases ea
      obtain ⟨vs, q, r⟩ := rc.sq
      exact ⟨a, vs, rfl, q, r⟩
    · cases e
def rdSeq (h : Hd) (ρ : Ev) : Option (List T) := (tupOf h).or (rdL h ρ)
theorem rdSeq_some {K : PySem.W.Frag} {H0 H : Hp} {σ : Sto} {ρ : Ev} {h : Hd} {u : V} {xs : List T} (S : SR K H σ ρ) (r : HR K H0 H σ ρ h u) (e : rdSeq h ρ = some xs) :
    ∃ a vs, u = .ref a ∧ (SqL K H a vs ∨ SqX K H a vs) ∧ RpL K H vs xs := by
  simp only [rdSeq, Option.or_eq_some_iff] at e
  rcases e with e | ⟨_, e⟩
  · have e := tupOf_some e
    subst e
    cases r with
    | tup s l => exact ⟨_, _, rfl, .inr s, l⟩
  · obtain ⟨a, vs, e, q, l⟩ := rdL_some S r e
    exact ⟨a, vs, e, .inl q, l⟩

/-! ### x[i] -/
def gIx : GB := fun a b ρ => (rdSeq a ρ).bind fun xs => (intOf b).bind fun i => (atI xs i).map fun t => .dat t
theorem atI_rp {K : PySem.W.Frag} {H : Hp} {vs : List V} {xs : List T} {i : Int} {t : T} (r : RpL K H vs xs) (e : atI xs i = some t) : ∃ v, atI vs i = some v ∧ Rp K H v t := by
  unfold atI at e ⊢
  rw [r.length]
  cases q : ixN xs.length i with
  | none => rw [q] at e; cases e
  | some j => rw [q] at e; exact r.get e
theorem de_ix (ha : DE X a fa) (hb : DE X b fb) (hs : PlainIx b) : DE X (.Subscript a b pos) (fBin gIx fa fb) := by
  obtain ⟨t, pt, rt⟩ := ha.run
  obtain ⟨u, pu, ru⟩ := hb.run
  refine ⟨_, pe_ix (ix_list.or ix_tup) pt pu hs, fun σ H ρ hs ρ' Q S e q => ?_⟩
  simp only [fBin, gIx, Option.bind_eq_some_iff, Option.map_eq_some_iff] at e
  obtain ⟨⟨h1, ρ1⟩, e1, ⟨h2, ρ2⟩, e2, h3, ⟨xs, ex, i, ei, t, et, e4⟩, e3⟩ := e
  cases e3
  subst e4
  refine rt σ H ρ h1 ρ1 _ S e1 fun x H1 g1 S1 k1 r1 => ?_
  refine ru σ H1 ρ1 h2 _ _ S1 e2 fun y H2 g2 S2 k2 r2 => ?_
  have ei := intOf_some ei
  have ei : h2 = _ := ei
  subst ei
  cases r2
  obtain ⟨a, vs, rfl, sq, l⟩ := rdSeq_some S2 (r1.go g2) ex
  obtain ⟨v, ev, rv⟩ := atI_rp l et
  rcases sq with sq | sq
  · exact .inl ⟨a, vs, i, v, rfl, rfl, sq, ev, q v H2 (g1.trans g2) S2 (k1.trans k2) rv⟩
  · exact .inr ⟨a, vs, i, v, rfl, rfl, sq.t, ev, q v H2 (g1.trans g2) S2 (k1.trans k2) rv⟩
/-! s[i] of a text -/
def gIxS : GB := fun a b ρ => (strOf a).bind fun z => (intOf b).bind fun i => if z.length ≤ sizeLine then (atI z.cps.toList i).map fun c => .dat (.str ⟨#[c]⟩) else none
theorem de_ixS (ha : DE X a fa) (hb : DE X b fb) (hs : PlainIx b) : DE X (.Subscript a b pos) (fBin gIxS fa fb) := by
  obtain ⟨t, pt, rt⟩ := ha.run
  obtain ⟨u, pu, ru⟩ := hb.run
  refine ⟨_, pe_ix ix_str pt pu hs, fun σ H ρ hs ρ' Q S e q => ?_⟩
  simp only [fBin, gIxS, Option.bind_eq_some_iff, Option.map_eq_some_iff] at e
  obtain ⟨⟨h1, ρ1⟩, e1, ⟨h2, ρ2⟩, e2, h3, ⟨z, ez, i, ei, e5⟩, e3⟩ := e
  split at e5
  · rename_i hz
    simp only [Option.map_eq_some_iff] at e5
    obtain ⟨c, ec, e4⟩ := e5
    cases e3
    subst e4
    refine rt σ H ρ h1 ρ1 _ S e1 fun x H1 g1 S1 k1 r1 => ?_
    refine ru σ H1 ρ1 h2 _ _ S1 e2 fun y H2 g2 S2 k2 r2 => ?_
    have ei : h2 = _ := intOf_some ei
    have ez : h1 = _ := strOf_some ez
    subst ei ez
    cases r2
    cases r1
    exact ⟨z, i, c, rfl, rfl, hz, ec, q _ H2 (g1.trans g2) S2 (k1.trans k2) (.str _)⟩
  · cases e5

/-! ### slices -/
abbrev FO := Ev → Option (Option Int × Ev)
structure DO (X : Cx) (e : Option Expr) (f : FO) : Prop where
  run : ∃ t : TO, PO X e t ∧ ∀ (σ : Sto) (H : Hp) (ρ : Ev) (o : Option Int) (ρ' : Ev) (Q : Option Int → Hp → Prop), SR X.K H σ ρ → f ρ = some (o, ρ') →
    (∀ H', Go X.K σ ρ H σ ρ' H' → SR X.K H' σ ρ' → Kp ρ ρ' → Q o H') → t σ H Q
def fNoPart : FO := fun ρ => some (none, ρ)
def fPart (f : FE) : FO := fun ρ => (f ρ).bind fun p => (intOf p.1).map fun i => (some i, p.2)
theorem do_none : DO X none fNoPart := by
  refine ⟨_, po_none, fun σ H ρ o ρ' Q S e q => ?_⟩
  cases e
  exact q H .refl S .refl
theorem do_some (h : DE X e fa) : DO X (some e) (fPart fa) := by
  obtain ⟨t, pt, rt⟩ := h.run
  refine ⟨_, po_some pt, fun σ H ρ o ρ' Q S e q => ?_⟩
  simp only [fPart, Option.bind_eq_some_iff, Option.map_eq_some_iff] at e
  obtain ⟨⟨h1, ρ1⟩, e1, i, e3, e2⟩ := e
  cases e2
  have e3 : h1 = _ := intOf_some e3
  subst e3
  refine rt σ H ρ _ ρ1 _ S e1 fun x H1 g1 S1 k1 r1 => ?_
  cases r1
  exact ⟨i, rfl, q H1 g1 S1 k1⟩
def cutT (xs : List T) (lo hi : Option Int) : List T := (xs.drop (HT.sIx xs.length 0 lo)).take (HT.sIx xs.length xs.length hi - HT.sIx xs.length 0 lo)
theorem RpL.cut {K : PySem.W.Frag} {H : Hp} {vs : List V} {xs : List T} (r : RpL K H vs xs) (lo hi : Option Int) : RpL K H (cutV vs lo hi) (cutT xs lo hi) := by
  unfold cutV cutT
  rw [r.length]
  exact (r.drop _).take _
/-- t[lo:hi] -/
def rSlX (K : PySem.W.Frag) : V → Option Int → Option Int → Hp → VK → Prop := fun x lo hi H Q => ∃ a xs, x = .ref a ∧ SqT K H a xs ∧
  (HT.sIx xs.length 0 lo = 0 ∧ HT.sIx xs.length xs.length hi = xs.length → Q (.ref a) H) ∧ (∀ p ob, H p = none → ExT ob → Q (.ref p) (upd H p (.frz ob (.tup (cutV xs lo hi)))))
theorem sl_tupX : SlR X (rSlX X.K) := by
  intro pins s σ H x v vl vu lo hi sl Q I rx hs pl pu h
  obtain ⟨a, xs, rfl, hx, q1, q2⟩ := h
  cases rx
  obtain ⟨its, r, ht, hz⟩ := I.tuple hx
  have hlen : its.toArray.size = xs.length := by rw [List.size_toArray]; exact r.length.symm
  refine ⟨"tuple", _, PyProof.Rows.slot_tuple_getitem.lookup, ht.typeIs, ?_⟩
  by_cases hw : HT.sIx xs.length 0 lo = 0 ∧ HT.sIx xs.length xs.length hi = xs.length
  · exact getItem_tuple_whole ht hs pl pu (by rw [hlen]; exact hw) ⟨.ref a, H, I, rfl, q1 hw⟩
  · refine HT.getItem_tuple_cut ht hs pl pu (by rw [hlen]; exact hw) ?_ (by rw [hlen]; exact hz)
    rw [hlen]
    obtain ⟨ob, hx, hf, I2⟩ := laidT (t' := s.toks) (h' := s.heap) (s := s) (xs := cutV xs lo hi) I ((r.drop (HT.sIx xs.length 0 lo)).take (HT.sIx xs.length xs.length hi - HT.sIx xs.length 0 lo)) (Nat.le_trans (cutV_length xs lo hi) hz)
    exact ⟨.ref s.heap.objs.size, _, I2, rfl, q2 _ ob hf hx⟩
/-- a slice of a list is a new list, one of a tuple a tuple -/
def gSl (h : Hd) (lo hi : Option Int) (ρ : Ev) : Option Hd := match tupOf h with
  | some xs => some (.dat (.tuple (cutT xs lo hi)))
  | none => (rdL h ρ).map fun xs => .tmp (.lst (cutT xs lo hi))
def fSl (fa : FE) (fl fh : FO) : FE := fun ρ => (fa ρ).bind fun p => (fl p.2).bind fun q => (fh q.2).bind fun r => (gSl p.1 q.1 r.1 r.2).map fun h => (h, r.2)
theorem whole_cut {vs : List V} {lo hi : Option Int} (h : HT.sIx vs.length 0 lo = 0 ∧ HT.sIx vs.length vs.length hi = vs.length) : cutV vs lo hi = vs := by
  unfold cutV
  rw [h.1, h.2, List.drop_zero, Nat.sub_zero, List.take_length]
theorem de_sl {lo hi : Option Expr} {fl fh : FO} {p2 : Pos} (ha : DE X a fa) (hl : DO X lo fl) (hh : DO X hi fh) : DE X (.Subscript a (.Slice lo hi none p2) pos) (fSl fa fl fh) := by
  obtain ⟨t, pt, rt⟩ := ha.run
  obtain ⟨u, pu, ru⟩ := hl.run
  obtain ⟨v, pv, rv⟩ := hh.run
  refine ⟨_, pe_slice (sl_tupX.or sl_list) pt pu pv, fun σ H ρ hs ρ' Q S e q => ?_⟩
  simp only [fSl, Option.bind_eq_some_iff, Option.map_eq_some_iff] at e
  obtain ⟨⟨h1, ρ1⟩, e1, ⟨o, ρ2⟩, e2, ⟨o', ρ3⟩, e4, h3, e5, e3⟩ := e
  cases e3
  refine rt σ H ρ h1 ρ1 _ S e1 fun x H1 g1 S1 k1 r1 => ?_
  refine ru σ H1 ρ1 o ρ2 _ S1 e2 fun H2 g2 S2 k2 => ?_
  refine rv σ H2 ρ2 o' _ _ S2 e4 fun H3 g3 S3 k3 => ?_
  have r3 := (r1.go g2).go g3
  have gg := (g1.trans g2).trans g3
  have kk := (k1.trans k2).trans k3
  unfold gSl at e5
  split at e5
  · rename_i xs hx
    cases e5
    have hx : h1 = _ := tupOf_some hx
    subst hx
    cases r3 with
    | @tup a vs _ s1 l1 =>
      have lc := l1.cut o o'
      refine .inl ⟨a, vs, rfl, s1.t, fun z => ?_, fun p ob np hx => ?_⟩
      · rw [whole_cut z] at lc
        exact q _ H3 gg S3 kk (.tup s1 lc)
      · exact q _ _ (gg.trans (.new np)) (S3.new np) kk (.tup (.new hx) (lc.m (tst_new np)))
  · rename_i hn
    simp only [Option.map_eq_some_iff] at e5
    obtain ⟨xs, ex, e6⟩ := e5
    subst e6
    obtain ⟨a, vs, rfl, sq, l⟩ := rdL_some S3 r3 ex
    exact .inr ⟨a, vs, rfl, sq, fun p np => q _ _ (gg.trans (.new np)) (S3.new np) kk (HR.tmpL S3 np (gg.dom _ np) (l.cut o o'))⟩
/-- x[lo::-1] -/
def fBackT (fa : FE) (fl : FO) : FE := fun ρ => (fa ρ).bind fun p => (fl p.2).bind fun q => (tupOf p.1).map fun xs => (.dat (.tuple (xs.take (backN xs.length q.1)).reverse), q.2)
theorem de_backT {lo : Option Expr} {fl : FO} {k : Nat} {p1 p2 p3 : Pos} (ha : DE X a fa) (hl : DO X lo fl) : DE X (.Subscript a (.Slice lo none (some (.UnaryOp .USub (.Constant (.int 1) k p1) p2)) p3) pos) (fBackT fa fl) := by
  obtain ⟨t, pt, rt⟩ := ha.run
  obtain ⟨u, pu, ru⟩ := hl.run
  refine ⟨_, pe_backT pt pu, fun σ H ρ hs ρ' Q S e q => ?_⟩
  simp only [fBackT, Option.bind_eq_some_iff, Option.map_eq_some_iff] at e
  obtain ⟨⟨h1, ρ1⟩, e1, ⟨o, ρ2⟩, e2, xs, ex, e3⟩ := e
  cases e3
  have ex : h1 = _ := tupOf_some ex
  subst ex
  refine rt σ H ρ _ ρ1 _ S e1 fun x H1 g1 S1 k1 r1 => ?_
  refine ru σ H1 ρ1 o _ _ S1 e2 fun H2 g2 S2 k2 => ?_
  have r2 := r1.go g2
  cases r2 with
  | @tup a vs _ s1 l1 =>
    refine ⟨a, vs, rfl, s1.t, fun p ob np hx => q _ _ ((g1.trans g2).trans (.new np)) (S2.new np) (k1.trans k2) (.tup (.new hx) ?_)⟩
    rw [l1.length]
    exact ((l1.take _).reverse).m (tst_new np)
def fRevL (fa : FE) : FE := fun ρ => (fa ρ).bind fun p => (rdL p.1 p.2).map fun xs => (.tmp (.lst xs.reverse), p.2)
theorem de_revL {k : Nat} {p1 p2 p3 : Pos} (ha : DE X a fa) : DE X (.Subscript a (.Slice none none (some (.UnaryOp .USub (.Constant (.int 1) k p1) p2)) p3) pos) (fRevL fa) := by
  obtain ⟨t, pt, rt⟩ := ha.run
  refine ⟨_, pe_revL pt, fun σ H ρ hs ρ' Q S e q => ?_⟩
  simp only [fRevL, Option.bind_eq_some_iff, Option.map_eq_some_iff] at e
  obtain ⟨⟨h1, ρ1⟩, e1, xs, ex, e3⟩ := e
  cases e3
  refine rt σ H ρ _ _ _ S e1 fun x H1 g1 S1 k1 r1 => ?_
  obtain ⟨a, vs, rfl, sq, l⟩ := rdL_some S1 r1 ex
  exact ⟨a, vs, rfl, sq, fun p np => q _ _ (g1.trans (.new np)) (S1.new np) k1 (HR.tmpL S1 np (g1.dom _ np) l.reverse)⟩

/-! ### built-in functions -/
abbrev GA := List Hd → Ev → Option Hd
def DCl (X : Cx) (F : Value) (g : GA) : Prop :=
  ∃ r : List V → Hp → VK → Prop, CallR X F r ∧ ∀ (σ : Sto) (H0 H : Hp) (ρ : Ev) (hs : List Hd) (h3 : Hd) (us : List V) (Q : VK), SR X.K H σ ρ → HRs X.K H0 H σ ρ hs us → g hs ρ = some h3 →
    (∀ u H', Go X.K σ ρ H σ ρ H' → SR X.K H' σ ρ → HR X.K H H' σ ρ h3 u → Q u H') → r us H Q
theorem DCl.or {F : Value} {g g' : GA} (h : DCl X F g) (h' : DCl X F g') : DCl X F (fun a ρ => (g a ρ).or (g' a ρ)) := by
  obtain ⟨r, o, p⟩ := h
  obtain ⟨r', o', p'⟩ := h'
  refine ⟨_, o.or o', fun σ H0 H ρ h1 h3 x Q S r1 e q => ?_⟩
  simp only [Option.or_eq_some_iff] at e
  rcases e with e | ⟨_, e⟩
  · exact .inl (p σ H0 H ρ h1 h3 x Q S r1 e q)
  · exact .inr (p' σ H0 H ρ h1 h3 x Q S r1 e q)
def fCB (g : GA) (fa : FA) : FE := fun ρ => (fa ρ).bind fun p => (g p.1 p.2).map fun h => (h, p.2)
theorem callB_core {fs : FA} {g : GA} {r : List V → Hp → VK → Prop} {t : TA} (ro : ∀ (σ : Sto) (H0 H : Hp) (ρ : Ev) (hs : List Hd) (h3 : Hd) (us : List V) (Q : VK), SR X.K H σ ρ → HRs X.K H0 H σ ρ hs us → g hs ρ = some h3 →
    (∀ u H', Go X.K σ ρ H σ ρ H' → SR X.K H' σ ρ → HR X.K H H' σ ρ h3 u → Q u H') → r us H Q)
    (rt : ∀ (σ : Sto) (H : Hp) (ρ : Ev) (hs : List Hd) (ρ' : Ev) (Q : List V → Hp → Prop), SR X.K H σ ρ → fs ρ = some (hs, ρ') →
      (∀ us H', Go X.K σ ρ H σ ρ' H' → SR X.K H' σ ρ' → Kp ρ ρ' → HRs X.K H H' σ ρ' hs us → TD hs us → Q us H') → t σ H Q)
    (σ : Sto) (H : Hp) (ρ : Ev) (h : Hd) (ρ' : Ev) (Q : VK) (S : SR X.K H σ ρ) (e : fCB g fs ρ = some (h, ρ'))
    (q : ∀ u H', Go X.K σ ρ H σ ρ' H' → SR X.K H' σ ρ' → Kp ρ ρ' → HR X.K H H' σ ρ' h u → Q u H') : tCB r t σ H Q := by
  simp only [fCB, Option.bind_eq_some_iff, Option.map_eq_some_iff] at e
  obtain ⟨⟨hs, ρ1⟩, e1, h3, e2, e3⟩ := e
  cases e3
  refine rt σ H ρ hs _ _ S e1 fun us H1 g1 S1 k1 r1 d1 => ?_
  exact ro σ H H1 _ hs _ us Q S1 r1 e2 fun u H2 g2 S2 r2 => q u H2 (g1.trans g2) S2 k1 (r2.back g1.dom)
variable {x : Str} {p : Pos} {bid Ty : String} {g : GA} {fs : FA}
theorem de_callB (hc : DCl X (.builtin bid) g) (hg : Gl X x) (hm : X.mg x = none) (hv : bootBuiltins x = some (.builtin bid)) (ha : DA X (e :: es) fs) (hn : x ≠ "__name__" := by decide) (hdb : (x == ("__debug__" : Str)) = false := by decide)
    (he : starEach (e :: es) X.env = (false, eval e X.env) :: starEach es X.env := by rfl) (hpl : (backTo pos (starEach es X.env)).any (·.1) = false := by rfl) : DE X (.Call (.Name x p) (e :: es) [] pos) (fCB g fs) := by
  obtain ⟨t, pt, rt⟩ := ha.run
  obtain ⟨r, o, ro⟩ := hc
  exact ⟨_, pe_callB o hg hm hv pt hn hdb he hpl, fun σ H ρ h ρ' Q S e q => callB_core ro rt σ H ρ h ρ' Q S e q⟩
theorem de_callTy (hc : DCl X (.type Ty) g) (hg : Gl X x) (hm : X.mg x = none) (hv : bootBuiltins x = some (.type Ty)) (ha : DA X (e :: es) fs) (hn : x ≠ "__name__" := by decide) (hdb : (x == ("__debug__" : Str)) = false := by decide)
    (he : starEach (e :: es) X.env = (false, eval e X.env) :: starEach es X.env := by rfl) (hpl : (backTo pos (starEach es X.env)).any (·.1) = false := by rfl) : DE X (.Call (.Name x p) (e :: es) [] pos) (fCB g fs) := by
  obtain ⟨t, pt, rt⟩ := ha.run
  obtain ⟨r, o, ro⟩ := hc
  exact ⟨_, pe_callTy o hg hm hv pt hn hdb he hpl, fun σ H ρ h ρ' Q S e q => callB_core ro rt σ H ρ h ρ' Q S e q⟩
theorem HRs.one {K : PySem.W.Frag} {H0 H : Hp} {σ : Sto} {ρ : Ev} {h : Hd} {us : List V} (r : HRs K H0 H σ ρ [h] us) : ∃ u, us = [u] ∧ HR K H0 H σ ρ h u := by
  cases r with
  | cons r t => cases t; exact ⟨_, rfl, r⟩
theorem HRs.two {K : PySem.W.Frag} {H0 H : Hp} {σ : Sto} {ρ : Ev} {h h' : Hd} {us : List V} (r : HRs K H0 H σ ρ [h, h'] us) : ∃ u v, us = [u, v] ∧ HR K H0 H σ ρ h u ∧ HR K H0 H σ ρ h' v := by
  cases r with
  | cons r t =>
    obtain ⟨v, rfl, r'⟩ := t.one
    exact ⟨_, v, rfl, r, r'⟩
/-! len, int, abs, max, min -/
def gLen : GA := fun hs ρ => match hs with
  | [h] => (rdSeq h ρ).map fun xs => .dat (.int xs.length)
  | _ => none
theorem dc_len : DCl X (.builtin "len") gLen := by
  refine ⟨_, call_len_seq, fun σ H0 H ρ hs h3 us Q S r1 e q => ?_⟩
  unfold gLen at e
  split at e
  · obtain ⟨u, rfl, r⟩ := r1.one
    simp only [Option.map_eq_some_iff] at e
    obtain ⟨xs, e1, rfl⟩ := e
    obtain ⟨a, vs, rfl, sq, l⟩ := rdSeq_some S r e1
    refine ⟨a, vs, rfl, sq.imp_right SqX.t, q _ H .refl S ?_⟩
    rw [l.length]
    exact .int _
  · cases e
def gInt : GA := fun hs _ => match hs with
  | [.dat (.int i)] => some (.dat (.int i))
  | [.dat (.bool b)] => some (.dat (.int (if b then 1 else 0)))
  | _ => none
theorem dc_int : DCl X (.type "int") gInt := by
  refine ⟨_, call_int1, fun σ H0 H ρ hs h3 us Q S r1 e q => ?_⟩
  unfold gInt at e
  split at e
  · cases e
    obtain ⟨u, rfl, r⟩ := r1.one
    cases r
    exact .inl ⟨_, rfl, q _ H .refl S (.int _)⟩
  · cases e
    obtain ⟨u, rfl, r⟩ := r1.one
    cases r
    exact .inr ⟨_, rfl, q _ H .refl S (.int _)⟩
  · cases e
def gAbs : GA := fun hs _ => match hs with
  | [.dat (.int i)] => some (.dat (.int (if i < 0 then -i else i)))
  | _ => none
theorem dc_abs : DCl X (.builtin "abs") gAbs := by
  refine ⟨_, call_abs, fun σ H0 H ρ hs h3 us Q S r1 e q => ?_⟩
  unfold gAbs at e
  split at e
  · cases e
    obtain ⟨u, rfl, r⟩ := r1.one
    cases r
    exact ⟨_, rfl, q _ H .refl S (.int _)⟩
  · cases e
def gMax2 : GA := fun hs _ => match hs with
  | [.dat (.int i), .dat (.int j)] => some (.dat (.int (max i j)))
  | _ => none
theorem dc_max2 (hc : X.calm = true) : DCl X (.builtin "max") gMax2 := by
  refine ⟨_, call_max2 hc, fun σ H0 H ρ hs h3 us Q S r1 e q => ?_⟩
  unfold gMax2 at e
  split at e
  · rename_i i j
    cases e
    obtain ⟨u, v, rfl, r, r'⟩ := r1.two
    cases r
    cases r'
    refine ⟨_, _, rfl, q _ H .refl S ?_⟩
    have : (if j > i then j else i) = max i j := by split <;> omega
    rw [this]
    exact .int _
  · cases e
def gMin2 : GA := fun hs _ => match hs with
  | [.dat (.int i), .dat (.int j)] => some (.dat (.int (min i j)))
  | _ => none
theorem dc_min2 (hc : X.calm = true) : DCl X (.builtin "min") gMin2 := by
  refine ⟨_, call_min2 hc, fun σ H0 H ρ hs h3 us Q S r1 e q => ?_⟩
  unfold gMin2 at e
  split at e
  · rename_i i j
    cases e
    obtain ⟨u, v, rfl, r, r'⟩ := r1.two
    cases r
    cases r'
    refine ⟨_, _, rfl, q _ H .refl S ?_⟩
    have : (if j < i then j else i) = min i j := by split <;> omega
    rw [this]
    exact .int _
  · cases e
/-! max, min of a sequence -/
theorem Vals.getB : ∀ {xs : List V} {us : List Value} {i : Nat} {u : Value}, Vals xs us → us[i]? = some u → ∃ x, xs[i]? = some x ∧ RelV x u
  | _, _, _, _, .nil, h => by simp at h
  | _, _, 0, _, .cons r _, h => by
    simp at h; subst h; exact ⟨_, rfl, r⟩
  | _, _, i + 1, _, .cons _ t, h => by
    obtain ⟨x, e, r⟩ := Vals.getB (i := i) t (by simpa using h)
    exact ⟨x, by simpa using e, r⟩
open PySem.W in
def rExt (K : PySem.W.Frag) (f : PyData → List PyData → PyData) : List V → Hp → VK → Prop := fun vs H Q => ∃ a ws x xs, vs = [.ref a] ∧ (SqL K H a ws ∨ SqX K H a ws) ∧ RpL K H ws (x :: xs) ∧ AlikeAll (x :: xs) ∧ PyData.depthAll (x :: xs) ≤ 60 ∧
  ∀ v, Rp K H v (f x xs) → Q v H
open PySem.W in
theorem ext_core {f : PyData → List PyData → PyData} {id : String} (hc : X.calm = true) (hu : X.A.units + 64 < cLine)
    (rl : ∀ {s : Shared} {l : Addr} {vs : Array Value} {x : PyData} {xs : List PyData} {as : List Addr} {Q : Value → Shared → Prop}, X.A.handled = none → s.heap.IsList l vs → ReadsAll s.heap vs.toList (x :: xs) as → AlikeAll (x :: xs) → X.A.units + 1 + PyData.depthAll (x :: xs) < cLine →
      (∀ (i : Nat) v h' tk bs, vs[i]? = some v → Reads h' v (f x xs) bs → (∀ b o, s.heap.get? b = some o → h'.get? b = some o) → Q v { s with heap := h', toks := tk }) → wpAny (model X.prog X.w) X.A (call (.builtin id) [.ref l]) Q X.xe s)
    (rt : ∀ {s : Shared} {l : Addr} {vs : Array Value} {x : PyData} {xs : List PyData} {as : List Addr} {Q : Value → Shared → Prop}, X.A.handled = none → s.heap.IsTuple l vs → ReadsAll s.heap vs.toList (x :: xs) as → AlikeAll (x :: xs) → X.A.units + 1 + PyData.depthAll (x :: xs) < cLine →
      (∀ (i : Nat) v h' tk bs, vs[i]? = some v → Reads h' v (f x xs) bs → (∀ b o, s.heap.get? b = some o → h'.get? b = some o) → Q v { s with heap := h', toks := tk }) → wpAny (model X.prog X.w) X.A (call (.builtin id) [.ref l]) Q X.xe s) :
    CallR X (.builtin id) (rExt X.K f) := by
  intro pins s σ H vs us Q I r h
  obtain ⟨a, ws, x, xs, rfl, sq, l, al, dp, q⟩ := h
  rw [Vals.ref1 r]
  -- the end: the item handed back is the data
  have fin : ∀ (its : List Value), Vals ws its → ∀ (i : Nat) (v : Value) (h' : Heap) (tk : Nat) (bs : List Addr), its.toArray[i]? = some v → Reads h' v (f x xs) bs → (∀ b o, s.heap.get? b = some o → h'.get? b = some o) → EP X pins σ Q v { s with heap := h', toks := tk } := by
    intro its rv i v h' tk bs hi hr hk
    obtain ⟨y, ey, ry⟩ := Vals.getB rv (by simpa using hi)
    obtain ⟨d, ed, rd⟩ := l.getV ey
    obtain ⟨cs, r1⟩ := Dp.reads I d y v (Rp.dp _ _ rd) ry
    have r2 : Reads h' v d cs := reads_keeps hk r1
    have e : d = f x xs := SeqAt.plain_unique d _ v _ _ (Rp.plain _ _ rd) r2 hr
    subst e
    exact ⟨y, H, I.kept (t' := tk) hk, ry, q y rd⟩
  rcases sq with sq | sq
  · obtain ⟨its, rv, pl, hz⟩ := I.list sq
    obtain ⟨as, ra⟩ := Dp.readsAll I (x :: xs) ws its (RpL.dp _ _ l) rv
    exact rl (I.ok.hd hc) pl.isList (show ReadsAll s.heap its.toArray.toList (x :: xs) as from ra) al (by omega) fun i v h' tk bs hi hr hk => fin its rv i v h' tk bs hi hr hk
  · obtain ⟨its, rv, pl, hz⟩ := I.tuple sq.t
    obtain ⟨as, ra⟩ := Dp.readsAll I (x :: xs) ws its (RpL.dp _ _ l) rv
    exact rt (I.ok.hd hc) (show s.heap.IsTuple a its.toArray from pl) (show ReadsAll s.heap its.toArray.toList (x :: xs) as from ra) al (by omega) fun i v h' tk bs hi hr hk => fin its rv i v h' tk bs hi hr hk
open PySem.W in
noncomputable def gExt (f : PyData → List PyData → PyData) : GA := fun hs ρ => match hs with
  | [h] => match rdSeq h ρ with
    | some (x :: xs) => (guardP (AlikeAll (x :: xs) ∧ PyData.depthAll (x :: xs) ≤ 60)).map fun _ => .dat (f x xs)
    | _ => none
  | _ => none
theorem dc_ext {f : PyData → List PyData → PyData} {id : String} (o : CallR X (.builtin id) (rExt X.K f)) : DCl X (.builtin id) (gExt f) := by
  refine ⟨_, o, fun σ H0 H ρ hs h3 us Q S r1 e q => ?_⟩
  unfold gExt at e
  split at e
  · obtain ⟨u, rfl, r⟩ := r1.one
    split at e
    · rename_i x xs hx
      simp only [Option.map_eq_some_iff, guardP_some] at e
      obtain ⟨_, ⟨al, dp⟩, rfl⟩ := e
      obtain ⟨a, vs, rfl, sq, l⟩ := rdSeq_some S r hx
      exact ⟨a, vs, x, xs, rfl, sq, l, al, dp, fun v rv => q v H .refl S rv⟩
    · cases e
  · cases e
open PySem.W in
noncomputable abbrev gMax1 : GA := gExt maxD
open PySem.W in
noncomputable abbrev gMin1 : GA := gExt minD
open PySem.W in
theorem dc_max1 (hc : X.calm = true) (hu : X.A.units + 64 < cLine) : DCl X (.builtin "max") gMax1 := dc_ext (ext_core hc hu (fun a b c d e f => max_list_data a b c d e f) (fun a b c d e f => max_tuple_data a b c d e f))
open PySem.W in
theorem dc_min1 (hc : X.calm = true) (hu : X.A.units + 64 < cLine) : DCl X (.builtin "min") gMin1 := dc_ext (ext_core hc hu (fun a b c d e f => min_list_data a b c d e f) (fun a b c d e f => min_tuple_data a b c d e f))
noncomputable def gMax : GA := fun hs ρ => (gMax2 hs ρ).or (gMax1 hs ρ)
noncomputable def gMin : GA := fun hs ρ => (gMin2 hs ρ).or (gMin1 hs ρ)
theorem dc_max (hc : X.calm = true) (hu : X.A.units + 64 < cLine) : DCl X (.builtin "max") gMax := (dc_max2 hc).or (dc_max1 hc hu)
theorem dc_min (hc : X.calm = true) (hu : X.A.units + 64 < cLine) : DCl X (.builtin "min") gMin := (dc_min2 hc).or (dc_min1 hc hu)
/-! sum -/
def intsOf : List T → Option (List Int)
  | [] => some []
  | .int i :: ts => (intsOf ts).map (i :: ·)
  | _ :: _ => none
theorem intsOf_some : ∀ {ts : List T} {ns : List Int}, intsOf ts = some ns → ts = ns.map .int
  | [], _, e => by cases e; rfl
  | .int i :: ts, _, e => by
    simp only [intsOf, Option.map_eq_some_iff] at e
    obtain ⟨ns, e, rfl⟩ := e
    rw [intsOf_some e]; rfl
  | .none :: _, _, e => by cases e
  | .bool _ :: _, _, e => by cases e
  | .str _ :: _, _, e => by cases e
  | .list _ :: _, _, e => by cases e
  | .tuple _ :: _, _, e => by cases e
  | .dict _ :: _, _, e => by cases e
theorem intsOf_map : ∀ (ns : List Int), intsOf (ns.map .int) = some ns
  | [] => rfl
  | n :: ns => by
    show (intsOf (ns.map .int)).map (n :: ·) = _
    rw [intsOf_map ns]; rfl
def boolsOf : List T → Option (List Bool)
  | [] => some []
  | .bool i :: ts => (boolsOf ts).map (i :: ·)
  | _ :: _ => none
theorem boolsOf_some : ∀ {ts : List T} {ns : List Bool}, boolsOf ts = some ns → ts = ns.map .bool
  | [], _, e => by cases e; rfl
  | .bool i :: ts, _, e => by
    simp only [boolsOf, Option.map_eq_some_iff] at e
    obtain ⟨ns, e, rfl⟩ := e
    rw [boolsOf_some e]; rfl
  | .none :: _, _, e => by cases e
  | .int _ :: _, _, e => by cases e
  | .str _ :: _, _, e => by cases e
  | .list _ :: _, _, e => by cases e
  | .tuple _ :: _, _, e => by cases e
  | .dict _ :: _, _, e => by cases e
theorem boolsOf_map : ∀ (ns : List Bool), boolsOf (ns.map .bool) = some ns
  | [] => rfl
  | n :: ns => by
    show (boolsOf (ns.map .bool)).map (n :: ·) = _
    rw [boolsOf_map ns]; rfl
theorem sum_rawT {prog : Program} {w : World} {A : Around} {E : Value → Shared → Prop} {s : Shared} {l : Addr} {its : List Value} {ns : List Int} {Q : Value → Shared → Prop} (hh : A.handled = none) (hl : s.heap.IsTuple l its.toArray) (hi : IntsAre its ns)
    (h : ∀ h' tk t', (∀ b o, s.heap.get? b = some o → h'.get? b = some o) → Q (.int ns.sum t') { s with heap := h', toks := tk }) : wpAny (model prog w) A (call (.builtin "sum") [.ref l]) Q E s := by
  obtain ⟨xs, e⟩ := hi.allInts.items
  have hn : numsOf (intItems xs).toList = ns := by rw [← e]; exact hi.numsOf
  rw [nums_intItems] at hn
  rw [e] at hl
  refine PySem.W.ktm_sumG hh hl fun h' tk t' hk => ?_
  have := h h' tk t' hk
  rw [preSum_eq, List.take_of_length_le (by simp), hn]; exact this
def rSumX (K : PySem.W.Frag) : List V → Hp → VK → Prop := fun vs H Q => ∃ (a : Addr) (ns : List Int), vs = [V.ref a] ∧ (SqL K H a (ns.map V.int) ∨ SqX K H a (ns.map V.int)) ∧ Q (.int ns.sum) H
theorem cr_sumX (hc : X.calm = true) : CallR X (.builtin "sum") (rSumX X.K) := by
  intro pins s σ H vs us Q I r h
  obtain ⟨a, ns, rfl, sq, q⟩ := h
  rcases sq with sq | sq
  · exact cr_sum hc pins s σ H _ us Q I r ⟨a, ns, rfl, sq, q⟩
  · obtain ⟨its, rv, hl, _⟩ := I.tuple sq.t
    rw [Vals.ref1 r]
    exact sum_rawT (I.ok.hd hc) (show s.heap.IsTuple a its.toArray from hl) rv.ints fun h' tk t' hk => ⟨.int _, H, I.kept hk, ⟨_, rfl⟩, q⟩
def gSum : GA := fun hs ρ => match hs with
  | [h] => (rdSeq h ρ).bind fun xs => (intsOf xs).map fun ns => .dat (.int ns.sum)
  | _ => none
theorem dc_sum (hc : X.calm = true) : DCl X (.builtin "sum") gSum := by
  refine ⟨_, cr_sumX hc, fun σ H0 H ρ hs h3 us Q S r1 e q => ?_⟩
  unfold gSum at e
  split at e
  · obtain ⟨u, rfl, r⟩ := r1.one
    simp only [Option.bind_eq_some_iff, Option.map_eq_some_iff] at e
    obtain ⟨xs, e1, ns, e2, rfl⟩ := e
    obtain ⟨a, vs, rfl, sq, l⟩ := rdSeq_some S r e1
    have e2 := intsOf_some e2
    subst e2
    rw [l.ints] at sq
    exact ⟨a, ns, rfl, sq, q _ H .refl S (.int _)⟩
  · cases e
/-! any, all of a list of truth values -/
def gAny : GA := fun hs ρ => match hs with
  | [h] => (rdL h ρ).bind fun xs => (boolsOf xs).map fun ns => .dat (.bool (ns.any id))
  | _ => none
def gAll : GA := fun hs ρ => match hs with
  | [h] => (rdL h ρ).bind fun xs => (boolsOf xs).map fun ns => .dat (.bool (ns.all id))
  | _ => none
theorem dc_any (hc : X.calm = true) : DCl X (.builtin "any") gAny := by
  refine ⟨_, cr_any hc, fun σ H0 H ρ hs h3 us Q S r1 e q => ?_⟩
  unfold gAny at e
  split at e
  · obtain ⟨u, rfl, r⟩ := r1.one
    simp only [Option.bind_eq_some_iff, Option.map_eq_some_iff] at e
    obtain ⟨xs, e1, ns, e2, rfl⟩ := e
    obtain ⟨a, vs, rfl, sq, l⟩ := rdL_some S r e1
    have e2 := boolsOf_some e2
    subst e2
    rw [l.bools] at sq
    exact ⟨a, ns, rfl, sq, q _ H .refl S (.bl _)⟩
  · cases e
theorem dc_all (hc : X.calm = true) : DCl X (.builtin "all") gAll := by
  refine ⟨_, cr_all hc, fun σ H0 H ρ hs h3 us Q S r1 e q => ?_⟩
  unfold gAll at e
  split at e
  · obtain ⟨u, rfl, r⟩ := r1.one
    simp only [Option.bind_eq_some_iff, Option.map_eq_some_iff] at e
    obtain ⟨xs, e1, ns, e2, rfl⟩ := e
    obtain ⟨a, vs, rfl, sq, l⟩ := rdL_some S r e1
    have e2 := boolsOf_some e2
    subst e2
    rw [l.bools] at sq
    exact ⟨a, ns, rfl, sq, q _ H .refl S (.bl _)⟩
  · cases e
/-! tuple, list -/
theorem call_tuple_X : CallR X (.type "tuple") (fun xs H Q => ∃ p ys, xs = [.ref p] ∧ ((SqL X.K H p ys ∧ ∀ l ob, H l = none → ExT ob → Q (.ref l) (upd H l (.frz ob (.tup ys)))) ∨ (SqX X.K H p ys ∧ Q (.ref p) H))) := by
  intro pins s σ H xs us Q I r h
  obtain ⟨p, ys, rfl, h⟩ := h
  obtain ⟨u, rfl, rx⟩ := vals1 r
  cases rx
  rcases h with ⟨hq, q⟩ | ⟨hq, q⟩
  · obtain ⟨its, r', pl, hz⟩ := I.list hq
    have hlen := r'.length
    refine call_tuple_list pl.isList (fun h' kp => ?_) (by simp only [List.size_toArray] <;> omega)
    have I1 : Inv X pins σ H { s with heap := h', toks := s.toks } := I.kept (t' := s.toks) kp
    obtain ⟨ob, hx, hf, I2⟩ := laidT (t' := s.toks) (h' := h') (s := s) I1 r' hz
    exact ⟨.ref h'.objs.size, _, I2, rfl, q _ ob hf hx⟩
  · obtain ⟨its, r', pl, hz⟩ := I.tuple hq.t
    exact call_tuple_same pl ⟨.ref p, H, I, rfl, q⟩
def gTuple : GA := fun hs ρ => match hs with
  | [h] => (rdSeq h ρ).map fun xs => .dat (.tuple xs)
  | _ => none
theorem dc_tuple : DCl X (.type "tuple") gTuple := by
  refine ⟨_, call_tuple_X, fun σ H0 H ρ hs h3 us Q S r1 e q => ?_⟩
  unfold gTuple at e
  split at e
  · obtain ⟨u, rfl, r⟩ := r1.one
    simp only [Option.map_eq_some_iff] at e
    obtain ⟨xs, e1, rfl⟩ := e
    obtain ⟨a, vs, rfl, sq, l⟩ := rdSeq_some S r e1
    rcases sq with sq | sq
    · exact ⟨a, vs, rfl, .inl ⟨sq, fun p ob np hx => q _ _ (.new np) (S.new np) (.tup (.new hx) (l.m (tst_new np)))⟩⟩
    · exact ⟨a, vs, rfl, .inr ⟨sq, q _ H .refl S (.tup sq l)⟩⟩
  · cases e
def gList : GA := fun hs ρ => match hs with
  | [h] => (rdSeq h ρ).map fun xs => .tmp (.lst xs)
  | _ => none
theorem dc_list : DCl X (.type "list") gList := by
  refine ⟨_, call_list_of, fun σ H0 H ρ hs h3 us Q S r1 e q => ?_⟩
  unfold gList at e
  split at e
  · obtain ⟨u, rfl, r⟩ := r1.one
    simp only [Option.map_eq_some_iff] at e
    obtain ⟨xs, e1, rfl⟩ := e
    obtain ⟨a, vs, rfl, sq, l⟩ := rdSeq_some S r e1
    exact ⟨a, vs, rfl, sq.imp_right SqX.t, fun p np => q _ _ (.new np) (S.new np) (HR.tmpL S np np l)⟩
  · cases e
/-! sorted of ints -/
def sortI (ns : List Int) : List Int := ns.mergeSort (fun a b => decide (a ≤ b))
theorem sortI_unique {ns ms : List Int} (h : ms.Perm ns) (s : ms.Pairwise (· ≤ ·)) : ms = sortI ns := by
  have h1 : (sortI ns).Perm ns := List.mergeSort_perm ns _
  have h2 : (sortI ns).Pairwise (· ≤ ·) := by
    have := List.pairwise_mergeSort (le := fun a b : Int => decide (a ≤ b)) (fun a b c h1 h2 => by simp at *; omega) (fun a b => by simp; omega) ns
    exact this.imp fun h => by simpa using h
  exact List.Perm.eq_of_pairwise (fun a b _ _ h1 h2 => Int.le_antisymm h1 h2) s h2 (h.trans h1.symm)
end
end PD

namespace PD
open PySem PySem.Spec PyProof.Rows L2
section
variable {X : Cx} {e a b c : Expr} {es : List Expr} {fa fb fc : FE} {pos : Pos}

/-! ### sorted of ints -/
def gSortedI : GA := fun hs ρ => match hs with
  | [h] => (rdL h ρ).bind fun xs => (intsOf xs).map fun ns => .tmp (.lst ((sortI ns).map .int))
  | _ => none
theorem dc_sortedI : DCl X (.builtin "sorted") gSortedI := by
  refine ⟨_, cr_sortedI, fun σ H0 H ρ hs h3 us Q S r1 e q => ?_⟩
  unfold gSortedI at e
  split at e
  · obtain ⟨u, rfl, r⟩ := r1.one
    simp only [Option.bind_eq_some_iff, Option.map_eq_some_iff] at e
    obtain ⟨xs, e1, ns, e2, rfl⟩ := e
    obtain ⟨a, vs, rfl, sq, l⟩ := rdL_some S r e1
    have e2 := intsOf_some e2
    subst e2
    rw [l.ints] at sq
    refine ⟨a, ns, rfl, sq, fun ms p hp hs np => ?_⟩
    rw [sortI_unique hp hs]
    exact q _ _ (.new np) (S.new np) (HR.tmpL S np np (.ofInts _))
  · cases e

/-! ### list(range(..)), tuple(range(..)) -/
/-- a range as an argument: its bounds -/
abbrev FR := Ev → Option (Int × Int × Ev)
structure DR (X : Cx) (e : Expr) (f : FR) : Prop where
  run : ∃ t : L2.St → Hp → (Int → Int → Hp → Prop) → Prop, PRg X e t ∧ ∀ (σ : Sto) (H : Hp) (ρ : Ev) (i j : Int) (ρ' : Ev) (Q : Int → Int → Hp → Prop), SR X.K H σ ρ → f ρ = some (i, j, ρ') →
    (∀ H', Go X.K σ ρ H σ ρ' H' → SR X.K H' σ ρ' → Kp ρ ρ' → Q i j H') → t σ H Q
def fRg1 (f : FE) : FR := fun ρ => (f ρ).bind fun p => (intOf p.1).map fun n => (0, n, p.2)
def fRg2 (f g : FE) : FR := fun ρ => (f ρ).bind fun p => (intOf p.1).bind fun i => (g p.2).bind fun q => (intOf q.1).map fun j => (i, j, q.2)
theorem dr_1 {p : Pos} (hg : Gl X "range") (hm : X.mg "range" = none) (ha : DE X a fa) (na : starEach [a] X.env = (false, eval a X.env) :: starEach [] X.env := by rfl) : DR X (.Call (.Name "range" p) [a] [] pos) (fRg1 fa) := by
  obtain ⟨t, pt, rt⟩ := ha.run
  refine ⟨_, prg_1 hg hm pt na, fun σ H ρ i j ρ' Q S e q => ?_⟩
  simp only [fRg1, Option.bind_eq_some_iff, Option.map_eq_some_iff] at e
  obtain ⟨⟨h1, ρ1⟩, e1, n, e3, e2⟩ := e
  cases e2
  have e3 : h1 = _ := intOf_some e3
  subst e3
  refine rt σ H ρ _ ρ1 _ S e1 fun x H1 g1 S1 k1 r1 => ?_
  cases r1
  exact ⟨_, rfl, q H1 g1 S1 k1⟩
theorem dr_2 {p : Pos} (hg : Gl X "range") (hm : X.mg "range" = none) (ha : DE X a fa) (hb : DE X b fb) (na : starEach [a, b] X.env = (false, eval a X.env) :: starEach [b] X.env := by rfl)
    (nb : starEach [b] X.env = (false, eval b X.env) :: starEach [] X.env := by rfl) (hp : (backTo pos (starEach [b] X.env)).any (·.1) = false := by rfl) : DR X (.Call (.Name "range" p) [a, b] [] pos) (fRg2 fa fb) := by
  obtain ⟨t, pt, rt⟩ := ha.run
  obtain ⟨u, pu, ru⟩ := hb.run
  refine ⟨_, prg_2 hg hm pt pu na nb hp, fun σ H ρ i j ρ' Q S e q => ?_⟩
  simp only [fRg2, Option.bind_eq_some_iff, Option.map_eq_some_iff] at e
  obtain ⟨⟨h1, ρ1⟩, e1, n, e3, ⟨h2, ρ2⟩, e4, m, e5, e2⟩ := e
  cases e2
  have e3 : h1 = _ := intOf_some e3
  have e5 : h2 = _ := intOf_some e5
  subst e3 e5
  refine rt σ H ρ _ ρ1 _ S e1 fun x H1 g1 S1 k1 r1 => ?_
  refine ru σ H1 ρ1 _ ρ2 _ S1 e4 fun y H2 g2 S2 k2 r2 => ?_
  cases r1
  cases r2
  exact ⟨_, _, rfl, rfl, q H2 (g1.trans g2) S2 (k1.trans k2)⟩
def rgT (a b : Int) : List T := (List.range (b - a).toNat).map fun i => PyData.int (a + (i : Nat))
theorem rg_rp {K : PySem.W.Frag} {H : Hp} (a b : Int) : RpL K H (rgV a b) (rgT a b) := by
  unfold rgV rgT
  generalize List.range (b - a).toNat = l
  induction l with
  | nil => exact .nil
  | cons x l ih => exact .cons (.int _) ih
noncomputable def fListRg (f : FR) : FE := fun ρ => (f ρ).bind fun p => (guardP (RgOk p.1 p.2.1)).map fun _ => (.tmp (.lst (rgT p.1 p.2.1)), p.2.2)
noncomputable def fTupRg (f : FR) : FE := fun ρ => (f ρ).bind fun p => (guardP (RgOk p.1 p.2.1)).map fun _ => (.dat (.tuple (rgT p.1 p.2.1)), p.2.2)
theorem de_listRg {f : FR} {p : Pos} (hc : X.calm = true) (hg : Gl X "list") (hm : X.mg "list" = none) (he : DR X e f) (na : starEach [e] X.env = (false, eval e X.env) :: starEach [] X.env := by rfl) : DE X (.Call (.Name "list" p) [e] [] pos) (fListRg f) := by
  obtain ⟨t, pt, rt⟩ := he.run
  refine ⟨_, pe_listRg hc hg hm pt na, fun σ H ρ hs ρ' Q S e q => ?_⟩
  simp only [fListRg, Option.bind_eq_some_iff, Option.map_eq_some_iff, guardP_some] at e
  obtain ⟨⟨i, j, ρ1⟩, e1, _, ok, e2⟩ := e
  cases e2
  refine rt σ H ρ i j _ _ S e1 fun H1 g1 S1 k1 => ?_
  exact ⟨ok, fun p np => q _ _ (g1.trans (.new np)) (S1.new np) k1 (HR.tmpL S1 np (g1.dom _ np) (rg_rp i j))⟩
def tTupRgX (te : L2.St → Hp → (Int → Int → Hp → Prop) → Prop) : TE := fun σ H Q => te σ H fun a b H1 => RgOk a b ∧ ∀ q ob, H1 q = none → ExT ob → Q (.ref q) (upd H1 q (.frz ob (.tup (rgV a b))))
theorem pe_tupRgX {te : L2.St → Hp → (Int → Int → Hp → Prop) → Prop} {p : Pos} (hc : X.calm = true) (hg : Gl X "tuple") (hm : X.mg "tuple" = none) (he : PRg X e te) (na : starEach [e] X.env = (false, eval e X.env) :: starEach [] X.env := by rfl) : PE X (.Call (.Name "tuple" p) [e] [] pos) (tTupRgX te) := by
  refine ⟨fun pins s σ H Q I h => ?_⟩
  refine Call_ (ld_blt I hg hm boot_tuple (PyProof.Rows.callWith_type1 (args_cons (thn (he pins s σ H _ I h) fun x s1 ⟨r, a, b, t, u, v, H1, ex, hr, I1, ok, q⟩ => args_nil ?_) na) na))
  subst ex
  obtain ⟨b1, b2, b3, b4, b5⟩ := ok
  refine call_tuple_range (n := (b - a).toNat) (I1.ok.hd hc) hr (small_one b1 b2 b3 b4) (rangeSize_nat a b) b5 fun h' tk acc hk hi => ?_
  have I2 : Inv X pins σ H1 { s1 with heap := h', toks := tk } := I1.kept hk
  obtain ⟨ob, hx, hf, I3⟩ := laidT (t' := tk) (h' := h') (s := s1) I2 (vals_rg hi) (by rw [rgV_length, sizeLine_eq]; omega)
  rw [Array.toArray_toList] at I3
  exact ⟨.ref h'.objs.size, _, I3, rfl, q _ ob hf hx⟩
theorem de_tupRg {f : FR} {p : Pos} (hc : X.calm = true) (hg : Gl X "tuple") (hm : X.mg "tuple" = none) (he : DR X e f) (na : starEach [e] X.env = (false, eval e X.env) :: starEach [] X.env := by rfl) : DE X (.Call (.Name "tuple" p) [e] [] pos) (fTupRg f) := by
  obtain ⟨t, pt, rt⟩ := he.run
  refine ⟨_, pe_tupRgX hc hg hm pt na, fun σ H ρ hs ρ' Q S e q => ?_⟩
  simp only [fTupRg, Option.bind_eq_some_iff, Option.map_eq_some_iff, guardP_some] at e
  obtain ⟨⟨i, j, ρ1⟩, e1, _, ok, e2⟩ := e
  cases e2
  refine rt σ H ρ i j _ _ S e1 fun H1 g1 S1 k1 => ?_
  exact ⟨ok, fun p ob np hx => q _ _ (g1.trans (.new np)) (S1.new np) k1 (.tup (.new hx) ((rg_rp i j).m (tst_new np)))⟩

/-! ### isinstance(x, T) -/
def isiR (X : Cx) (ty : String) (f : PyData → Bool) : Prop := ∀ {s : Shared} {v : Value} {d : PyData} {as : List Addr} {Q : Value → Shared → Prop}, Reads s.heap v d as → (∀ tk, s.toks ≤ tk → Q (.bool (f d)) { s with toks := tk }) → wpAny (model X.prog X.w) X.A (call (.builtin "isinstance") [v, .type ty]) Q X.xe s
def fIsi (f : PyData → Bool) (fa : FE) : FE := fun ρ => (fa ρ).bind fun p => (py p.1 p.2).map fun d => (.dat (.bool (f d)), p.2)
theorem de_isi {ty : String} {f : PyData → Bool} {p p2 : Pos} {y : Str} (hf : isiR X ty f) (hg : Gl X "isinstance") (hm : X.mg "isinstance" = none) (hg2 : Gl X y) (hm2 : X.mg y = none) (hv : bootBuiltins y = some (.type ty)) (ha : DE X a fa)
    (hn : y ≠ "__name__" := by decide) (hd : (y == ("__debug__" : Str)) = false := by decide)
    (he : starEach [a, .Name y p2] X.env = (false, eval a X.env) :: starEach [.Name y p2] X.env := by rfl) (he2 : starEach [.Name y p2] X.env = (false, eval (.Name y p2) X.env) :: starEach [] X.env := by rfl) (hpl : (backTo pos (starEach [.Name y p2] X.env)).any (·.1) = false := by rfl) :
    DE X (.Call (.Name "isinstance" p) [a, .Name y p2] [] pos) (fIsi f fa) := by
  obtain ⟨t, pt, rt⟩ := ha.run
  have pb : PE X (.Name y p2) (tC (.ty ty)) := pe_bltn hg2 hm2 hv rfl hn hd
  have cr : CallR X (.builtin "isinstance") (fun xs H Q => ∃ x d, xs = [x, .ty ty] ∧ Dp X.K H x d ∧ Q (.bl (f d)) H) := by
    intro pins s σ H vs us Q I r h
    obtain ⟨x, d, rfl, hd, q⟩ := h
    obtain ⟨u, w, rfl, r1, r2⟩ := vals2 r
    cases r2
    obtain ⟨as, rd⟩ := Dp.reads I d x u hd r1
    exact hf rd fun tk _ => ⟨.bl _, H, I.tok _, rfl, q⟩
  refine ⟨_, pe_callB cr hg hm (by decide +kernel) (pa_cons pt (pa_cons pb pa_nil he2) he) (by decide) (by decide) he hpl, fun σ H ρ hs ρ' Q S e q => ?_⟩
  simp only [fIsi, Option.bind_eq_some_iff, Option.map_eq_some_iff] at e
  obtain ⟨⟨h1, ρ1⟩, e1, d, e3, e2⟩ := e
  cases e2
  refine rt σ H ρ _ _ _ S e1 fun x H1 g1 S1 k1 r1 => ?_
  exact ⟨x, d, rfl, (py_dp S1 r1 e3).1, q _ H1 g1 S1 k1 (.bl _)⟩
theorem isi_bool : isiR X "bool" PyData.isBool := fun r h => PySem.W.isinstance_bool_data r h
theorem isi_int : isiR X "int" PyData.isInt := fun r h => PySem.W.isinstance_int_data r h
theorem isi_str : isiR X "str" PyData.isStr := fun r h => PySem.W.isinstance_str_data r h
theorem isi_tuple : isiR X "tuple" PyData.isTuple := fun r h => PySem.W.isinstance_tuple_data r h
theorem isi_list : isiR X "list" PyData.isList := fun r h => PySem.W.isinstance_list_data r h

/-! ### methods of a list -/
/-- a method by the list's content: the answer, the content behind it -/
abbrev GM := List T → List T → Option (T × List T)
def DMt (X : Cx) (r : V → List V → Hp → VK → Prop) (g : GM) : Prop :=
  ∀ (H : Hp) (a : Addr) (xs : List T) (us : List V) (vs : List V) (ts : List T) (t : T) (xs' : List T) (Q : VK), H a = some (.lst us) → RpL X.K H us xs → RpL X.K H vs ts → g xs ts = some (t, xs') →
    (∀ u us', RpL X.K H us' xs' → Rp X.K H u t → Q u (upd H a (.lst us'))) → r (.ref a) vs H Q
/-- behind a method of the object that a handle tells -/
def putL (h : Hd) (xs : List T) (ρ : Ev) : Ev := match h with
  | .plc i => ρ.set i (some (.obj (.lst xs)))
  | _ => ρ
def fMt (g : GM) (fa : FE) (fs : FA) : FE := fun ρ => (fa ρ).bind fun p => (lstOf p.1 p.2).bind fun _ => (fs p.2).bind fun q => (datsOf q.1).bind fun ts => (lstOf p.1 q.2).bind fun xs => (g xs ts).map fun r => (.dat r.1, putL p.1 r.2 q.2)
theorem tyV_of {K : PySem.W.Frag} {H : Hp} {a : Addr} {vs : List V} (h : H a = some (.lst vs)) : tyV K "list" (.ref a) H := .inl ⟨rfl, vs, .inl (.inl h)⟩
/-- an object that is not owned is written -/
theorem SR.aside {K : PySem.W.Frag} {H : Hp} {σ : Sto} {ρ : Ev} (S : SR K H σ ρ) {a : Addr} {vs : List V} {o : HO} (h : H a = some (.lst vs)) (n : ¬ Own σ ρ a) : SR K (upd H a o) σ ρ where
  len := S.len
  dat := fun i x h1 => let ⟨v, e1, r⟩ := S.dat i x h1; ⟨v, e1, r.m (tst_lst h)⟩
  rol := fun i x h1 => by
    obtain ⟨b, e1, r⟩ := S.rol i x h1
    refine ⟨b, e1, r.m (tst_lst h) fun o vs q => ?_⟩
    have : b ≠ a := by rintro rfl; rw [h] at q; cases q
    rw [upd_ne this]; exact q
  obj := fun i c h1 => by
    obtain ⟨b, e1, r⟩ := S.obj i c h1
    have : b ≠ a := by rintro rfl; exact n ⟨i, c, h1, e1⟩
    exact ⟨b, e1, r.m (tst_lst h) fun o q => by rw [upd_ne this]; exact q⟩
  sep := S.sep
theorem mt_core {fs : FA} {g : GM} {r : V → List V → Hp → VK → Prop} {t : TE} {u : TA} (hr : DMt X r g)
    (rt : ∀ (σ : Sto) (H : Hp) (ρ : Ev) (h : Hd) (ρ' : Ev) (Q : VK), SR X.K H σ ρ → fa ρ = some (h, ρ') → (∀ u H', Go X.K σ ρ H σ ρ' H' → SR X.K H' σ ρ' → Kp ρ ρ' → HR X.K H H' σ ρ' h u → Q u H') → t σ H Q)
    (ru : ∀ (σ : Sto) (H : Hp) (ρ : Ev) (hs : List Hd) (ρ' : Ev) (Q : List V → Hp → Prop), SR X.K H σ ρ → fs ρ = some (hs, ρ') →
      (∀ us H', Go X.K σ ρ H σ ρ' H' → SR X.K H' σ ρ' → Kp ρ ρ' → HRs X.K H H' σ ρ' hs us → TD hs us → Q us H') → u σ H Q)
    (σ : Sto) (H : Hp) (ρ : Ev) (h : Hd) (ρ' : Ev) (Q : VK) (S : SR X.K H σ ρ) (e : fMt g fa fs ρ = some (h, ρ'))
    (q : ∀ u H', Go X.K σ ρ H σ ρ' H' → SR X.K H' σ ρ' → Kp ρ ρ' → HR X.K H H' σ ρ' h u → Q u H') :
    t σ H fun x H1 => tyV X.K "list" x H1 ∧ u σ H1 fun xs H2 => r x xs H2 Q := by
  simp only [fMt, Option.bind_eq_some_iff, Option.map_eq_some_iff] at e
  obtain ⟨⟨h1, ρ1⟩, e1, _, e0, ⟨hs, ρ2⟩, e2, ts, e3, xs, e4, ⟨tt, xs'⟩, e5, e6⟩ := e
  cases e6
  refine rt σ H ρ h1 ρ1 _ S e1 fun x H1 g1 S1 k1 r1 => ?_
  have isL : tyV X.K "list" x H1 := by
    obtain ⟨a, vs, rfl, ha, _⟩ := lstOf_some S1 r1 e0
    exact tyV_of ha
  refine ⟨isL, ?_⟩
  refine ru σ H1 ρ1 hs ρ2 _ S1 e2 fun us H2 g2 S2 k2 r2 d2 => ?_
  have r1' := r1.go g2
  obtain ⟨a, vs, rfl, ha, l⟩ := lstOf_some S2 r1' e4
  refine hr H2 a xs vs us ts tt xs' Q ha l (r2.dats e3) e5 fun w us' l' rw' => ?_
  have gg := g1.trans g2
  cases h1 with
  | dat t => cases e4
  | tmp c =>
    obtain ⟨b, eb, rc, n0, no⟩ := r1'
    cases eb
    refine q w _ ⟨fun b o hb nb => ?_, gg.own, gg.tst.trans (tst_lst ha), fun b hb => gg.dom b (upd_none hb)⟩ (S2.aside ha no) (k1.trans k2) (rw'.m (tst_lst ha))
    have : b ≠ a := by rintro rfl; rw [n0] at hb; cases hb
    rw [upd_ne this]
    exact gg.keep b o hb nb
  | plc i =>
    have ri : σ[i]? = some (some (V.ref a)) := r1'
    unfold lstOf at e4
    simp only at e4
    split at e4
    · rename_i hx
      cases e4
      have new : RpC X.K (upd H2 a (.lst us')) a (.lst xs') := ⟨us', upd_same, l'.m (tst_lst ha)⟩
      exact q w _ (gg.trans (Go.put S2 hx ri)) (S2.put hx ri new) ((k1.trans k2).trans Kp.put) (rw'.m (tst_lst ha))
    · cases e4
theorem de_mt {g : GM} {fs : FA} {id : String} {name : Str} {apos cpos : Pos} {r : V → List V → Hp → VK → Prop} (hr : DMt X r g) (slot : Slot "list" name id) (hty : typeOf (.builtin id) = pure (.type "method_descriptor")) (hm : MtR X id r) (ha : DE X a fa) (hs : DA X (e :: es) fs)
    (hbase : attributeBase a name X.env (eval a X.env) = eval a X.env := by rfl)
    (hfew : ((backTo cpos (starEach (e :: es) X.env)).all (fun x => !x.1) && (backToKw cpos (keywordEach [] X.env)).all (fun x => x.1.isSome)
      && decide ((e :: es).length + ([] : List Keyword).length + (if ([] : List Keyword).isEmpty then 0 else 1) < 30)) = true := by rfl)
    (hline : (apos.endLine == cpos.line) = true := by rfl) (hst : starEach (e :: es) X.env = (false, eval e X.env) :: starEach es X.env := by rfl) (hplain : (backTo cpos (starEach es X.env)).any (·.1) = false := by rfl) :
    DE X (.Call (.Attribute a name apos) (e :: es) [] cpos) (fMt g fa fs) := by
  obtain ⟨t, pt, rt⟩ := ha.run
  obtain ⟨u, pu, ru⟩ := hs.run
  exact ⟨_, pe_bm PySem.F.plainAttrs_list slot hty hm pt pu hbase hfew hline hst hplain, fun σ H ρ h ρ' Q S e q => mt_core hr rt ru σ H ρ h ρ' Q S e q⟩
theorem de_mt0 {g : GM} {id : String} {name : Str} {apos cpos : Pos} {r : V → List V → Hp → VK → Prop} (hr : DMt X r g) (slot : Slot "list" name id) (hty : typeOf (.builtin id) = pure (.type "method_descriptor")) (hm : MtR X id r) (ha : DE X a fa)
    (hbase : attributeBase a name X.env (eval a X.env) = eval a X.env := by rfl) (hline : (apos.endLine == cpos.line) = true := by rfl) : DE X (.Call (.Attribute a name apos) [] [] cpos) (fMt g fa fNil) := by
  obtain ⟨t, pt, rt⟩ := ha.run
  refine ⟨_, pe_bm0 PySem.F.plainAttrs_list slot hty hm pt hbase hline, fun σ H ρ h ρ' Q S e q => ?_⟩
  have := mt_core (u := fun _ H Q => Q [] H) (fs := fNil) hr rt (fun σ H ρ hs ρ' Q S e q => by
    cases e
    exact q [] H .refl S .refl .nil fun i j c d a h => by simp at h) σ H ρ h ρ' Q S e q
  exact this
open Classical in
noncomputable def gAppend : GM := fun xs ts => match ts with
  | [t] => if xs.length < sizeLine then some (.none, xs ++ [t]) else none
  | _ => none
theorem dm_append : DMt X rAppend gAppend := by
  intro H a xs us vs ts t xs' Q ha l lt e q
  unfold gAppend at e
  split at e
  · split at e
    · rename_i hz
      cases e
      cases lt with
      | cons r rr =>
        cases rr
        exact ⟨a, us, _, rfl, rfl, ha, by rw [l.length]; exact hz, q .non _ (l.append (.one r)) .non⟩
    · cases e
  · cases e
def gPop : GM := fun xs ts => match ts with
  | [] => (xs[xs.length - 1]?).map fun y => (y, xs.dropLast)
  | _ => none
theorem dm_pop : DMt X rPop gPop := by
  intro H a xs us vs ts t xs' Q ha l lt e q
  unfold gPop at e
  split at e
  · simp only [Option.map_eq_some_iff] at e
    obtain ⟨y, ey, e⟩ := e
    cases e
    cases lt
    obtain ⟨v, ev, rv⟩ := l.get ey
    exact ⟨a, us, v, rfl, rfl, ha, by rw [l.length]; exact ev, q v _ l.dropLast rv⟩
  · cases e
noncomputable def gPopAt : GM := fun xs ts => match ts with
  | [.int i] => (guardP (-(2 ^ 63) ≤ i ∧ i < 2 ^ 63)).bind fun _ => (seqIndex? i xs.length).bind fun k => (xs[k]?).map fun y => (y, xs.eraseIdx k)
  | _ => none
theorem dm_popAt : DMt X rPopAt gPopAt := by
  intro H a xs us vs ts t xs' Q ha l lt e q
  unfold gPopAt at e
  split at e
  · simp only [Option.bind_eq_some_iff, Option.map_eq_some_iff, guardP_some] at e
    obtain ⟨_, ⟨b1, b2⟩, k, ek, y, ey, e⟩ := e
    cases e
    cases lt with
    | cons r rr =>
      cases rr
      cases r
      obtain ⟨v, ev, rv⟩ := l.get ey
      exact ⟨a, us, _, k, v, rfl, rfl, ha, b1, b2, by rw [l.length]; exact ek, ev, q v _ (l.eraseIdx k) rv⟩
  · cases e
def gReverse : GM := fun xs ts => match ts with
  | [] => some (.none, xs.reverse)
  | _ => none
theorem dm_reverse : DMt X rReverse gReverse := by
  intro H a xs us vs ts t xs' Q ha l lt e q
  unfold gReverse at e
  split at e
  · cases e
    cases lt
    exact ⟨a, us, rfl, rfl, ha, q .non _ l.reverse .non⟩
  · cases e

/-! ### methods that read: index, count -/
theorem pe_bmQ {Ty : V → Hp → Prop} {o : Expr} {T : String} {id : String} {name : Str} {to : TE} {t : TA} {apos cpos : Pos} {r : V → List V → Hp → VK → Prop} (pa : PlainAttrs T) (slot : Slot T name id) (hty : typeOf (.builtin id) = pure (.type "method_descriptor"))
    (hT : ∀ (pins : List (Addr × Obj)) (s : Shared) (σ : L2.St) (H : Hp) (x : V) (v : Value), Inv X pins σ H s → RelV x v → Ty x H → s.TypeIs v T ∧ ∀ a, v = .ref a → ∃ ob, s.heap.get? a = some ob ∧ ob.dict = none)
    (hm : MtR X id r) (ho : PE X o to) (ha : PA X (e :: es) t)
    (hbase : attributeBase o name X.env (eval o X.env) = eval o X.env := by rfl)
    (hfew : ((backTo cpos (starEach (e :: es) X.env)).all (fun x => !x.1) && (backToKw cpos (keywordEach [] X.env)).all (fun x => x.1.isSome)
      && decide ((e :: es).length + ([] : List Keyword).length + (if ([] : List Keyword).isEmpty then 0 else 1) < 30)) = true := by rfl)
    (hline : (apos.endLine == cpos.line) = true := by rfl) (hs : starEach (e :: es) X.env = (false, eval e X.env) :: starEach es X.env := by rfl) (hplain : (backTo cpos (starEach es X.env)).any (·.1) = false := by rfl) :
    PE X (.Call (.Attribute o name apos) (e :: es) [] cpos) (fun σ H Q => to σ H fun x H1 => Ty x H1 ∧ t σ H1 fun xs H2 => r x xs H2 Q) := by
  refine ⟨fun pins s σ H Q I h => ?_⟩
  refine wpAny_Call_method_late hbase hfew hline rfl (thn (ho.run pins s σ H _ I h) fun v s1 ⟨x, H1, I1, r1, ty, q1⟩ => ?_)
  obtain ⟨h1, h2⟩ := hT pins s1 σ H1 x v I1 r1 ty
  refine ⟨T, id, pa, slot, hty, h1, h2, ?_⟩
  have hA := ha.run cpos pins s1 σ H1 _ I1 q1
  rw [hs] at hA ⊢
  refine Calls.callWith_builtin (by show (false || (backTo cpos (starEach es X.env)).any (·.1)) = false; rw [hplain] <;> rfl) (Calls.evalArgs_plain ?_)
  exact thn hA fun us s2 ⟨vs, H2, I2, r2, q2⟩ => hm pins s2 σ H2 x vs v us Q I2 r1 r2 q2
def TyX (K : PySem.W.Frag) (x : V) (H : Hp) : Prop := ∃ p xs, x = .ref p ∧ SqX K H p xs
theorem tyX_is (pins : List (Addr × Obj)) (s : Shared) (σ : L2.St) (H : Hp) (x : V) (v : Value) (I : Inv X pins σ H s) (r : RelV x v) (ty : TyX X.K x H) : s.TypeIs v "tuple" ∧ ∀ a, v = .ref a → ∃ ob, s.heap.get? a = some ob ∧ ob.dict = none := by
  obtain ⟨p, xs, rfl, h⟩ := ty
  cases r
  rcases h with ⟨ob, h, x⟩ | ⟨o, its, n, hk, x, _⟩
  · obtain ⟨e, _⟩ := I.hok p _ h
    exact ⟨⟨ob, e, x.1⟩, fun a z => by cases z; exact ⟨ob, e, x.2⟩⟩
  · have e := I.kIn p o hk
    exact ⟨⟨o, e, x.1⟩, fun a z => by cases z; exact ⟨o, e, x.2⟩⟩
def rPlace (K : PySem.W.Frag) (lst : Bool) (f : List PyData → PyData → Option Int) : V → List V → Hp → VK → Prop := fun x xs H Q => ∃ (a : Addr) (ws : List V) (y : V) (d : PyData) (ds : List PyData) (j : Int), x = V.ref a ∧ xs = [y] ∧
  (if lst then SqL K H a ws else SqX K H a ws) ∧ RpL K H ws ds ∧ Rp K H y d ∧ min (PyData.depthAll ds) d.depth ≤ 60 ∧ f ds d = some j ∧ Q (.int j) H
def fPlace (ds : List PyData) (d : PyData) : Option Int := Option.map (fun (j : Nat) => (j : Int)) (SeqAt.dataPlace ds d)
def fCount (ds : List PyData) (d : PyData) : Option Int := some ((ds.countP fun y => PyData.eqv y d : Nat) : Int)
theorem mt_indexL (hu : X.A.units + 64 < cLine) : MtR X "list.index" (rPlace X.K true fPlace) := by
  intro pins s σ H x xs v us Q I rx rxs h
  obtain ⟨a, ws, y, d, ds, j, rfl, rfl, sq, l, rd, dp, hj, q⟩ := h
  simp only [if_true] at sq
  cases rx
  obtain ⟨uy, rfl, ry⟩ := vals1 rxs
  simp only [fPlace, Option.map_eq_some_iff] at hj
  obtain ⟨k, hk, rfl⟩ := hj
  obtain ⟨its, rv, ⟨⟨cls, dd, data, sls⟩, n, ho, hc, hdn, hdt⟩, hlen⟩ := I.list sq
  simp only at hc hdt
  subst hc hdt
  obtain ⟨as, ra⟩ := Dp.readsAll I ds ws its (RpL.dp _ _ l) rv
  obtain ⟨bs, rb⟩ := Dp.reads I d y uy (Rp.dp _ _ rd) ry
  have ra : ReadsAll s.heap its.toArray.toList ds as := ra
  obtain ⟨h1, h2, h3⟩ := SeqAt.hit_at ra (RpL.plain _ _ l) hk
  have hvl := rv.length
  have hsl := sizeLine_eq
  have hkl : k < its.length := by simpa using h1
  exact call_meets PySem.F.slot_list_index ⟨_, ho, rfl⟩ PySem.F.entry_list_index (PySem.F.args_list_index_2 _ _)
    (SeqAt.list_indexAt a its.toArray n dd sls uy (fun u => PyData.eqv (SeqAt.readOf s.heap u) d) k h1 (by omega) h2 h3) ⟨ho, SeqAt.items_plain ra rb (RpL.plain _ _ l) (Rp.plain _ _ rd) (by omega), ⟨.int (k : Nat), H, I.tok _, ⟨_, rfl⟩, q⟩⟩
theorem mt_indexT (hu : X.A.units + 64 < cLine) : MtR X "tuple.index" (rPlace X.K false fPlace) := by
  intro pins s σ H x xs v us Q I rx rxs h
  obtain ⟨a, ws, y, d, ds, j, rfl, rfl, sq, l, rd, dp, hj, q⟩ := h
  simp only [Bool.false_eq_true, if_false] at sq
  cases rx
  obtain ⟨uy, rfl, ry⟩ := vals1 rxs
  simp only [fPlace, Option.map_eq_some_iff] at hj
  obtain ⟨k, hk, rfl⟩ := hj
  obtain ⟨its, rv, ⟨⟨cls, dd, data, sls⟩, ho, hc, n, hdt⟩, hlen⟩ := I.tuple sq.t
  simp only at hc hdt
  subst hc hdt
  obtain ⟨as, ra⟩ := Dp.readsAll I ds ws its (RpL.dp _ _ l) rv
  obtain ⟨bs, rb⟩ := Dp.reads I d y uy (Rp.dp _ _ rd) ry
  have ra : ReadsAll s.heap its.toArray.toList ds as := ra
  obtain ⟨h1, h2, h3⟩ := SeqAt.hit_at ra (RpL.plain _ _ l) hk
  exact call_meets PySem.F.slot_tuple_index ⟨_, ho, rfl⟩ PySem.F.entry_tuple_index (PySem.F.args_tuple_index_2 _ _)
    (TI.tuple_indexAt a its.toArray n dd sls uy (fun u => PyData.eqv (SeqAt.readOf s.heap u) d) k h1 h2 h3) ⟨ho, SeqAt.items_plain ra rb (RpL.plain _ _ l) (Rp.plain _ _ rd) (by omega), ⟨.int (k : Nat), H, I.tok _, ⟨_, rfl⟩, q⟩⟩
theorem mt_countL (hu : X.A.units + 64 < cLine) : MtR X "list.count" (rPlace X.K true fCount) := by
  intro pins s σ H x xs v us Q I rx rxs h
  obtain ⟨a, ws, y, d, ds, j, rfl, rfl, sq, l, rd, dp, hj, q⟩ := h
  simp only [if_true] at sq
  cases rx
  obtain ⟨uy, rfl, ry⟩ := vals1 rxs
  cases hj
  obtain ⟨its, rv, pl, hlen⟩ := I.list sq
  obtain ⟨as, ra⟩ := Dp.readsAll I ds ws its (RpL.dp _ _ l) rv
  obtain ⟨bs, rb⟩ := Dp.reads I d y uy (Rp.dp _ _ rd) ry
  exact SeqAt.count_list_data pl.isList (show ReadsAll s.heap its.toArray.toList ds as from ra) rb (RpL.plain _ _ l) (Rp.plain _ _ rd) (by omega) ⟨.int _, H, I.tok _, ⟨_, rfl⟩, q⟩
/-- x.index(y), x.count(y) of a list -/
noncomputable def fPl (lst : Bool) (f : List PyData → PyData → Option Int) (fa fb : FE) : FE := fun ρ => (fa ρ).bind fun p => ((if lst then rdL p.1 p.2 else tupOf p.1)).bind fun _ => (fb p.2).bind fun q => ((if lst then rdL p.1 q.2 else tupOf p.1)).bind fun ds =>
  match q.1 with
  | .dat d => (guardP (min (PyData.depthAll ds) d.depth ≤ 60)).bind fun _ => (f ds d).map fun j => (.dat (.int j), q.2)
  | _ => none
theorem de_plL {f : List PyData → PyData → Option Int} {id : String} {name : Str} {apos cpos : Pos} (slot : Slot "list" name id) (hty : typeOf (.builtin id) = pure (.type "method_descriptor")) (hm : MtR X id (rPlace X.K true f)) (ha : DE X a fa) (hb : DE X b fb)
    (hbase : attributeBase a name X.env (eval a X.env) = eval a X.env := by rfl)
    (hfew : ((backTo cpos (starEach [b] X.env)).all (fun x => !x.1) && (backToKw cpos (keywordEach [] X.env)).all (fun x => x.1.isSome)
      && decide ([b].length + ([] : List Keyword).length + (if ([] : List Keyword).isEmpty then 0 else 1) < 30)) = true := by rfl)
    (hline : (apos.endLine == cpos.line) = true := by rfl) (hst : starEach [b] X.env = (false, eval b X.env) :: starEach [] X.env := by rfl) (hplain : (backTo cpos (starEach [] X.env)).any (·.1) = false := by rfl) :
    DE X (.Call (.Attribute a name apos) [b] [] cpos) (fPl true f fa fb) := by
  obtain ⟨t, pt, rt⟩ := ha.run
  obtain ⟨u, pu, ru⟩ := hb.run
  refine ⟨_, pe_bm PySem.F.plainAttrs_list slot hty hm pt (pa_cons pu pa_nil hst) hbase hfew hline hst hplain, fun σ H ρ hs ρ' Q S e q => ?_⟩
  simp only [fPl, if_true, Option.bind_eq_some_iff] at e
  obtain ⟨⟨h1, ρ1⟩, e1, _, e0, ⟨h2, ρ2⟩, e2, ds, e3, e4⟩ := e
  refine rt σ H ρ h1 ρ1 _ S e1 fun x H1 g1 S1 k1 r1 => ?_
  obtain ⟨a, vs, rfl, sq0, _⟩ := rdL_some S1 r1 e0
  refine ⟨.inl ⟨rfl, vs, sq0⟩, ?_⟩
  refine ru σ H1 ρ1 h2 ρ2 _ S1 e2 fun y H2 g2 S2 k2 r2 => ?_
  cases h2 with
  | dat d =>
    simp only [Option.bind_eq_some_iff, Option.map_eq_some_iff, guardP_some] at e4
    obtain ⟨_, dp, j, hj, e5⟩ := e4
    cases e5
    obtain ⟨b, ws, eb, sq, l⟩ := rdL_some S2 (r1.go g2) e3
    cases eb
    exact ⟨a, ws, y, d, ds, j, rfl, rfl, by simpa using sq, l, r2, dp, hj, q _ H2 (g1.trans g2) S2 (k1.trans k2) (.int _)⟩
  | tmp c => cases e4
  | plc i => cases e4
theorem de_plT {f : List PyData → PyData → Option Int} {id : String} {name : Str} {apos cpos : Pos} (slot : Slot "tuple" name id) (hty : typeOf (.builtin id) = pure (.type "method_descriptor")) (hm : MtR X id (rPlace X.K false f)) (ha : DE X a fa) (hb : DE X b fb)
    (hbase : attributeBase a name X.env (eval a X.env) = eval a X.env := by rfl)
    (hfew : ((backTo cpos (starEach [b] X.env)).all (fun x => !x.1) && (backToKw cpos (keywordEach [] X.env)).all (fun x => x.1.isSome)
      && decide ([b].length + ([] : List Keyword).length + (if ([] : List Keyword).isEmpty then 0 else 1) < 30)) = true := by rfl)
    (hline : (apos.endLine == cpos.line) = true := by rfl) (hst : starEach [b] X.env = (false, eval b X.env) :: starEach [] X.env := by rfl) (hplain : (backTo cpos (starEach [] X.env)).any (·.1) = false := by rfl) :
    DE X (.Call (.Attribute a name apos) [b] [] cpos) (fPl false f fa fb) := by
  obtain ⟨t, pt, rt⟩ := ha.run
  obtain ⟨u, pu, ru⟩ := hb.run
  refine ⟨_, pe_bmQ PySem.F.plainAttrs_tuple slot hty tyX_is hm pt (pa_cons pu pa_nil hst) hbase hfew hline hst hplain, fun σ H ρ hs ρ' Q S e q => ?_⟩
  simp only [fPl, Bool.false_eq_true, if_false, Option.bind_eq_some_iff] at e
  obtain ⟨⟨h1, ρ1⟩, e1, _, e0, ⟨h2, ρ2⟩, e2, ds, e3, e4⟩ := e
  have e3 : h1 = _ := tupOf_some e3
  subst e3
  refine rt σ H ρ _ ρ1 _ S e1 fun x H1 g1 S1 k1 r1 => ?_
  cases r1 with
  | @tup a vs _ s1 l1 =>
  refine ⟨⟨a, vs, rfl, s1⟩, ?_⟩
  refine ru σ H1 ρ1 h2 ρ2 _ S1 e2 fun y H2 g2 S2 k2 r2 => ?_
  cases h2 with
  | dat d =>
    simp only [Option.bind_eq_some_iff, Option.map_eq_some_iff, guardP_some] at e4
    obtain ⟨_, dp, j, hj, e5⟩ := e4
    cases e5
    exact ⟨a, vs, y, d, ds, j, rfl, rfl, by simpa using g2.tst _ _ s1, l1.m g2.tst, r2, dp, hj, q _ H2 (g1.trans g2) S2 (k1.trans k2) (.int _)⟩
  | tmp c => cases e4
  | plc i => cases e4
end
end PD

namespace PD
open PySem PySem.Spec PyProof.Rows L2

/-! ### what a def is worth -/
/-- from the arguments: what comes back, and what the owned arguments hold behind it -/
abbrev Den := List Sl → Option (Sl × List C)
def objs : List V → List Sl → List Addr
  | .ref a :: vs, .obj _ :: as => a :: objs vs as
  | _ :: vs, _ :: as => objs vs as
  | _, _ => []
inductive RpCs (K : PySem.W.Frag) (H : Hp) : List Addr → List C → Prop
  | nil : RpCs K H [] []
  | cons {a : Addr} {as : List Addr} {c : C} {cs : List C} : RpC K H a c → RpCs K H as cs → RpCs K H (a :: as) (c :: cs)
def RR (K : PySem.W.Frag) (H H' : Hp) : Sl → V → Prop
  | .dat t, u => Rp K H' u t
  | .obj c, u => ∃ a, u = .ref a ∧ H a = none ∧ RpC K H' a c
  | .rol _, _ => False
structure Post (K : PySem.W.Frag) (H : Hp) (vs : List V) (as : List Sl) (H' : Hp) (r : Sl) (cs : List C) (u : V) : Prop where
  keep : ∀ a o, H a = some o → a ∉ objs vs as → H' a = some o
  tst : TSt K H H'
  dom : ∀ a, H' a = none → H a = none
  cs : RpCs K H' (objs vs as) cs
  res : RR K H H' r u
def spD (K : PySem.W.Frag) (n : Nat) (m : Den) : Sp := fun vs H Q _ => ∃ as r cs, m as = some (r, cs) ∧ as.length = n ∧ SR K H (vs.map some) (as.map some) ∧ ∀ u H', Post K H vs as H' r cs u → Q u H'
theorem spD_len {K : PySem.W.Frag} {n : Nat} {m : Den} {vs : List V} {H : Hp} {Q : VK} {E : XK} (h : spD K n m vs H Q E) : vs.length = n := by
  obtain ⟨as, r, cs, _, hn, S, _⟩ := h
  have := S.len
  rw [List.length_map, List.length_map] at this
  omega

/-! ### a call -/
/-- the arguments' slots -/
def argsOf : List Hd → Ev → Option (List Sl)
  | [], _ => some []
  | .dat t :: hs, ρ => (argsOf hs ρ).map (Sl.dat t :: ·)
  | .tmp c :: hs, ρ => (argsOf hs ρ).map (Sl.obj c :: ·)
  | .plc i :: hs, ρ => match ρ[i]? with
    | some (some (.dat _)) => none
    | some (some s) => (argsOf hs ρ).map (s :: ·)
    | _ => none
/-- the places that are handed on as objects -/
def plcs : List Hd → List Sl → List Nat
  | .plc i :: hs, .obj _ :: as => i :: plcs hs as
  | _ :: hs, _ :: as => plcs hs as
  | _, _ => []
/-- what the places hold behind the call -/
def upds : List Hd → List Sl → List C → List (Nat × C)
  | .plc i :: hs, .obj _ :: as, c :: cs => (i, c) :: upds hs as cs
  | _ :: hs, .obj _ :: as, _ :: cs => upds hs as cs
  | _ :: hs, _ :: as, cs => upds hs as cs
  | _, _, _ => []
def putMany (ρ : Ev) : List (Nat × C) → Ev
  | [] => ρ
  | (i, c) :: L => putMany (ρ.set i (some (.obj c))) L
def resHd : Sl → Option Hd
  | .dat t => some (.dat t)
  | .obj c => some (.tmp c)
  | .rol _ => none
noncomputable def fCall (m : Den) (fs : FA) : FE := fun ρ => (fs ρ).bind fun p => (argsOf p.1 p.2).bind fun as => (guardP (plcs p.1 as).Nodup).bind fun _ => (m as).bind fun r => (resHd r.1).map fun h => (h, putMany p.2 (upds p.1 as r.2))

theorem putMany_len : ∀ (L : List (Nat × C)) (ρ : Ev), (putMany ρ L).length = ρ.length
  | [], _ => rfl
  | (i, c) :: L, ρ => by rw [putMany, putMany_len L, List.length_set]
theorem putMany_out : ∀ (L : List (Nat × C)) (ρ : Ev) (j : Nat), j ∉ L.map (·.1) → (putMany ρ L)[j]? = ρ[j]?
  | [], _, _, _ => rfl
  | (i, c) :: L, ρ, j, h => by
    simp only [List.map_cons, List.mem_cons, not_or] at h
    rw [putMany, putMany_out L _ j h.2, List.getElem?_set_ne (Ne.symm h.1)]
theorem putMany_in : ∀ (L : List (Nat × C)) (ρ : Ev) (j : Nat) (c : C), (L.map (·.1)).Nodup → (j, c) ∈ L → j < ρ.length → (putMany ρ L)[j]? = some (some (.obj c))
  | (i, d) :: L, ρ, j, c, nd, h, lt => by
    rw [List.map_cons, List.nodup_cons] at nd
    rw [putMany]
    rcases List.mem_cons.mp h with e | h
    · cases e
      rw [putMany_out L _ _ nd.1, List.getElem?_set_self lt]
    · exact putMany_in L _ j c nd.2 h (by rw [List.length_set]; exact lt)
theorem upds_keys : ∀ (hs : List Hd) (as : List Sl) (cs : List C) (i : Nat), i ∈ (upds hs as cs).map (·.1) → i ∈ plcs hs as
  | .plc i :: hs, .obj _ :: as, c :: cs, j, h => by
    simp only [upds, List.map_cons, List.mem_cons] at h
    simp only [plcs, List.mem_cons]
    rcases h with h | h
    · exact .inl h
    · exact .inr (upds_keys hs as cs j h)
  | .plc i :: hs, .obj _ :: as, [], j, h => by
    simp only [plcs, List.mem_cons]
    simp only [upds] at h
    exact .inr (upds_keys hs as [] j h)
  | .dat _ :: hs, .obj _ :: as, c :: cs, j, h => by
    simp only [upds] at h
    simp only [plcs]
    exact upds_keys hs as cs j h
  | .tmp _ :: hs, .obj _ :: as, c :: cs, j, h => by
    simp only [upds] at h
    simp only [plcs]
    exact upds_keys hs as cs j h
  | .dat _ :: hs, .obj _ :: as, [], j, h => by
    simp only [upds] at h
    simp only [plcs]
    exact upds_keys hs as [] j h
  | .tmp _ :: hs, .obj _ :: as, [], j, h => by
    simp only [upds] at h
    simp only [plcs]
    exact upds_keys hs as [] j h
  | .dat _ :: hs, .dat _ :: as, cs, j, h => by
    simp only [upds] at h
    simp only [plcs]
    exact upds_keys hs as cs j h
  | .tmp _ :: hs, .dat _ :: as, cs, j, h => by
    simp only [upds] at h
    simp only [plcs]
    exact upds_keys hs as cs j h
  | .plc _ :: hs, .dat _ :: as, cs, j, h => by
    simp only [upds] at h
    simp only [plcs]
    exact upds_keys hs as cs j h
  | .dat _ :: hs, .rol _ :: as, cs, j, h => by
    simp only [upds] at h
    simp only [plcs]
    exact upds_keys hs as cs j h
  | .tmp _ :: hs, .rol _ :: as, cs, j, h => by
    simp only [upds] at h
    simp only [plcs]
    exact upds_keys hs as cs j h
  | .plc _ :: hs, .rol _ :: as, cs, j, h => by
    simp only [upds] at h
    simp only [plcs]
    exact upds_keys hs as cs j h
  | [], _, _, _, h => by simp [upds] at h
  | _ :: _, [], _, _, h => by simp [upds] at h

section
variable {K : PySem.W.Frag} {H0 H H2 : Hp} {σ : Sto} {ρ : Ev}
/-- where an argument's slot comes from -/
def From (K : PySem.W.Frag) (H0 H : Hp) (σ : Sto) (ρ : Ev) (h : Hd) (u : V) : Sl → Prop
  | .dat t => h = .dat t ∧ Rp K H u t
  | .rol xs => ∃ j, h = .plc j ∧ ρ[j]? = some (some (.rol xs)) ∧ σ[j]? = some (some u)
  | .obj c => (h = .tmp c ∧ HR K H0 H σ ρ (.tmp c) u) ∨ ∃ j, h = .plc j ∧ ρ[j]? = some (some (.obj c)) ∧ σ[j]? = some (some u) ∧ ∃ a, u = .ref a
inductive Froms (K : PySem.W.Frag) (H0 H : Hp) (σ : Sto) (ρ : Ev) : List Hd → List V → List Sl → Prop
  | nil : Froms K H0 H σ ρ [] [] []
  | cons {h : Hd} {u : V} {s : Sl} {hs : List Hd} {us : List V} {as : List Sl} : From K H0 H σ ρ h u s → Froms K H0 H σ ρ hs us as → Froms K H0 H σ ρ (h :: hs) (u :: us) (s :: as)
theorem froms_of (S : SR K H σ ρ) {hs : List Hd} {us : List V} (r : HRs K H0 H σ ρ hs us) : ∀ {as : List Sl}, argsOf hs ρ = some as → Froms K H0 H σ ρ hs us as := by
  induction r with
  | nil => intro as e; cases e; exact .nil
  | @cons h u hs us h1 _ ih =>
    intro as e
    cases h with
    | dat t =>
      simp only [argsOf, Option.map_eq_some_iff] at e
      obtain ⟨as', e, rfl⟩ := e
      exact .cons ⟨rfl, h1⟩ (ih e)
    | tmp c =>
      simp only [argsOf, Option.map_eq_some_iff] at e
      obtain ⟨as', e, rfl⟩ := e
      exact .cons (.inl ⟨rfl, h1⟩) (ih e)
    | plc i =>
      have h1 : σ[i]? = some (some u) := h1
      unfold argsOf at e
      split at e
      · cases e
      · rename_i s hn hs'
        simp only [Option.map_eq_some_iff] at e
        obtain ⟨as', e, rfl⟩ := e
        refine .cons ?_ (ih e)
        cases s with
        | dat t => exact (hn t rfl).elim
        | rol xs => exact ⟨i, rfl, hs', h1⟩
        | obj c =>
          obtain ⟨a, ea, _⟩ := S.obj i c hs'
          rw [h1] at ea; cases ea
          exact .inr ⟨i, rfl, hs', h1, a, rfl⟩
      · cases e
theorem Froms.len {hs : List Hd} {us : List V} {as : List Sl} (r : Froms K H0 H σ ρ hs us as) : hs.length = us.length ∧ as.length = us.length := by
  induction r with
  | nil => exact ⟨rfl, rfl⟩
  | cons _ _ ih => exact ⟨by simp [ih.1], by simp [ih.2]⟩
theorem Froms.get {hs : List Hd} {us : List V} {as : List Sl} (r : Froms K H0 H σ ρ hs us as) : ∀ {i : Nat} {s : Sl}, as[i]? = some s → ∃ u h, us[i]? = some u ∧ hs[i]? = some h ∧ From K H0 H σ ρ h u s := by
  induction r with
  | nil => intro i s e; simp at e
  | cons h _ ih =>
    intro i s e
    cases i with
    | zero => simp at e; subst e; exact ⟨_, _, rfl, rfl, h⟩
    | succ i => simpa using ih (by simpa using e)
theorem plcs_get {hs : List Hd} {us : List V} {as : List Sl} (r : Froms K H0 H σ ρ hs us as) : ∀ {i j k : Nat} {c d : C}, (plcs hs as).Nodup → hs[i]? = some (.plc k) → hs[j]? = some (.plc k) → as[i]? = some (.obj c) → as[j]? = some (.obj d) → i = j := by
  have mem : ∀ {hs : List Hd} {as : List Sl} {j k : Nat} {d : C}, hs[j]? = some (.plc k) → as[j]? = some (.obj d) → k ∈ plcs hs as := by
    intro hs
    induction hs with
    | nil => intro as j k d e _; simp at e
    | cons h hs ih =>
      intro as j k d e1 e2
      cases as with
      | nil => simp at e2
      | cons s as =>
        cases j with
        | zero =>
          simp at e1 e2
          subst e1 e2
          simp [plcs]
        | succ j =>
          have := ih (as := as) (j := j) (k := k) (d := d) (by simpa using e1) (by simpa using e2)
          cases h with
          | plc i =>
            cases s with
            | obj c => simp only [plcs, List.mem_cons]; exact .inr this
            | dat _ => simpa only [plcs] using this
            | rol _ => simpa only [plcs] using this
          | dat _ => cases s <;> simpa only [plcs] using this
          | tmp _ => cases s <;> simpa only [plcs] using this
  induction r with
  | nil => intro i j k c d _ e; simp at e
  | @cons h u s hs us as h1 _ ih =>
    intro i j k c d nd e1 e2 e3 e4
    cases i with
    | zero =>
      cases j with
      | zero => rfl
      | succ j =>
        simp only [List.getElem?_cons_zero, List.getElem?_cons_succ, Option.some.injEq] at e1 e2 e3 e4
        subst e1 e3
        simp only [plcs, List.nodup_cons] at nd
        exact absurd (mem e2 e4) nd.1
    | succ i =>
      cases j with
      | zero =>
        simp only [List.getElem?_cons_zero, List.getElem?_cons_succ, Option.some.injEq] at e1 e2 e3 e4
        subst e2 e4
        simp only [plcs, List.nodup_cons] at nd
        exact absurd (mem e1 e3) nd.1
      | succ j =>
        simp only [List.getElem?_cons_succ] at e1 e2 e3 e4
        have nd' : (plcs hs as).Nodup := by
          cases h with
          | plc i =>
            cases s with
            | obj c => simp only [plcs, List.nodup_cons] at nd; exact nd.2
            | dat _ => simpa only [plcs] using nd
            | rol _ => simpa only [plcs] using nd
          | dat _ => cases s <;> simpa only [plcs] using nd
          | tmp _ => cases s <;> simpa only [plcs] using nd
        rw [ih nd' e1 e2 e3 e4]
/-- what a callee gets -/
theorem args_SR {hs : List Hd} {us : List V} {as : List Sl} (S : SR K H σ ρ) (r : Froms K H0 H σ ρ hs us as) (d : TD hs us) (nd : (plcs hs as).Nodup) : SR K H (us.map some) (as.map some) := by
  have at_ : ∀ {i : Nat} {s : Sl}, (as.map some)[i]? = some (some s) → as[i]? = some s := fun {i s} e => by
    rw [List.getElem?_map] at e
    cases q : as[i]? with
    | none => rw [q] at e; cases e
    | some z => rw [q] at e; cases e; rfl
  have to_ : ∀ {i : Nat} {u : V}, us[i]? = some u → (us.map some)[i]? = some (some u) := fun {i u} e => by rw [List.getElem?_map, e]; rfl
  have of_ : ∀ {i : Nat} {u : V}, (us.map some)[i]? = some (some u) → us[i]? = some u := fun {i u} e => by
    rw [List.getElem?_map] at e
    cases q : us[i]? with
    | none => rw [q] at e; cases e
    | some z => rw [q] at e; cases e; rfl
  refine ⟨by simp [r.len.2], fun i t e => ?_, fun i xs e => ?_, fun i c e => ?_, fun i j c c' a e1 e2 e3 e4 => ?_⟩
  · obtain ⟨u, h, e1, e2, f⟩ := r.get (at_ e)
    exact ⟨u, to_ e1, f.2⟩
  · obtain ⟨u, h, e1, e2, j, e3, e4, e5⟩ := r.get (at_ e)
    obtain ⟨a, e6, ro⟩ := S.rol j xs e4
    rw [e5] at e6; cases e6
    exact ⟨a, to_ e1, ro⟩
  · obtain ⟨u, h, e1, e2, f⟩ := r.get (at_ e)
    rcases f with ⟨_, a, rfl, rc, _⟩ | ⟨j, _, e4, e5, _⟩
    · exact ⟨a, to_ e1, rc⟩
    · obtain ⟨a, e6, rc⟩ := S.obj j c e4
      rw [e5] at e6; cases e6
      exact ⟨a, to_ e1, rc⟩
  · obtain ⟨u, h, p1, p2, f⟩ := r.get (at_ e1)
    obtain ⟨u', h', p1', p2', f'⟩ := r.get (at_ e2)
    have e3 := of_ e3
    have e4 := of_ e4
    rw [p1] at e3; cases e3
    rw [p1'] at e4; cases e4
    rcases f with ⟨rfl, b, eb, rc, n0, no⟩ | ⟨k, rfl, q1, q2, _⟩
    · cases eb
      rcases f' with ⟨rfl, b, eb, rc', n0', no'⟩ | ⟨k', rfl, q1', q2', _⟩
      · exact d i j c c' a p2 p2' p1 p1'
      · exact absurd ⟨k', c', q1', q2'⟩ no
    · rcases f' with ⟨rfl, b, eb, rc', n0', no'⟩ | ⟨k', rfl, q1', q2', _⟩
      · cases eb
        exact absurd ⟨k, c, q1, q2⟩ no'
      · have := S.sep k k' c c' a q1 q1' q2 q2'
        subst this
        exact plcs_get r nd p2 p2' (at_ e1) (at_ e2)
/-- what the call leaves, place by place -/
theorem upds_ok {hs : List Hd} {us : List V} {as : List Sl} (r : Froms K H0 H σ ρ hs us as) : ∀ {cs : List C}, RpCs K H2 (objs us as) cs → (∀ s ∈ as, ∀ c, s = .obj c → True) →
    (∀ i c, (i, c) ∈ upds hs as cs → (∃ a, σ[i]? = some (some (.ref a)) ∧ RpC K H2 a c) ∧ ∃ c0, ρ[i]? = some (some (.obj c0))) ∧
    (∀ a ∈ objs us as, (∃ i c, (i, c) ∈ upds hs as cs ∧ σ[i]? = some (some (.ref a))) ∨ (H0 a = none ∧ ¬ Own σ ρ a)) ∧ (upds hs as cs).map (·.1) = plcs hs as := by
  induction r with
  | nil => intro cs _ _; exact ⟨fun i c h => by simp [upds] at h, fun a h => by simp [objs] at h, by simp [upds, plcs]⟩
  | @cons h u s hs us as h1 _ ih =>
    intro cs rc _
    cases s with
    | dat t =>
      obtain ⟨rfl, h1⟩ := h1
      have eo : objs (u :: us) (.dat t :: as) = objs us as := by cases u <;> rfl
      rw [eo] at rc ⊢
      have eu : upds (.dat t :: hs) (.dat t :: as) cs = upds hs as cs := by simp only [upds]
      have ep : plcs (.dat t :: hs) (.dat t :: as) = plcs hs as := by simp only [plcs]
      rw [eu, ep]
      exact ih rc fun _ _ _ _ => trivial
    | rol xs =>
      obtain ⟨j, rfl, h1, h2⟩ := h1
      have eo : objs (u :: us) (.rol xs :: as) = objs us as := by cases u <;> rfl
      rw [eo] at rc ⊢
      have eu : upds (.plc j :: hs) (.rol xs :: as) cs = upds hs as cs := by simp only [upds]
      have ep : plcs (.plc j :: hs) (.rol xs :: as) = plcs hs as := by simp only [plcs]
      rw [eu, ep]
      exact ih rc fun _ _ _ _ => trivial
    | obj c =>
      rcases h1 with ⟨rfl, a, rfl, rc0, n0, no⟩ | ⟨j, rfl, h1, h2, a, rfl⟩
      · have eo : objs (.ref a :: us) (.obj c :: as) = a :: objs us as := rfl
        rw [eo] at rc ⊢
        cases rc with
        | @cons _ _ c' cs' ra rs =>
        have eu : upds (.tmp c :: hs) (.obj c :: as) (c' :: cs') = upds hs as cs' := by simp only [upds]
        have ep : plcs (.tmp c :: hs) (.obj c :: as) = plcs hs as := by simp only [plcs]
        rw [eu, ep]
        obtain ⟨i1, i2, i3⟩ := ih rs fun _ _ _ _ => trivial
        refine ⟨i1, fun b hb => ?_, i3⟩
        rcases List.mem_cons.mp hb with e | hb
        · subst e; exact .inr ⟨n0, no⟩
        · exact i2 b hb
      · have eo : objs (.ref a :: us) (.obj c :: as) = a :: objs us as := rfl
        rw [eo] at rc ⊢
        cases rc with
        | @cons _ _ c' cs' ra rs =>
        have eu : upds (.plc j :: hs) (.obj c :: as) (c' :: cs') = (j, c') :: upds hs as cs' := by simp only [upds]
        have ep : plcs (.plc j :: hs) (.obj c :: as) = j :: plcs hs as := by simp only [plcs]
        rw [eu, ep]
        obtain ⟨i1, i2, i3⟩ := ih rs fun _ _ _ _ => trivial
        refine ⟨fun i d hd => ?_, fun b hb => ?_, by simp [i3]⟩
        · rcases List.mem_cons.mp hd with e | hd
          · cases e; exact ⟨⟨a, h2, ra⟩, c, h1⟩
          · exact i1 i d hd
        · rcases List.mem_cons.mp hb with e | hb
          · subst e; exact .inl ⟨j, c', List.mem_cons_self, h2⟩
          · rcases i2 b hb with ⟨i, d, q1, q2⟩ | q
            · exact .inl ⟨i, d, List.mem_cons_of_mem _ q1, q2⟩
            · exact .inr q
/-- the state behind a call -/
theorem after_call {hs : List Hd} {us : List V} {as : List Sl} {Hs : Hp} {r : Sl} {cs : List C} {u : V} {ρs : Ev} (S : SR K H σ ρ) (g : Go K σ ρs Hs σ ρ H) (f : Froms K Hs H σ ρ hs us as) (nd : (plcs hs as).Nodup) (P : Post K H us as H2 r cs u)
    (lst : ∀ a ∈ objs us as, ∃ vs, H a = some (.lst vs)) : SR K H2 σ (putMany ρ (upds hs as cs)) ∧ Go K σ ρs Hs σ (putMany ρ (upds hs as cs)) H2 ∧ Kp ρ (putMany ρ (upds hs as cs)) := by
  obtain ⟨b1, b2, b3⟩ := upds_ok f P.cs fun _ _ _ _ => trivial
  have nd' : ((upds hs as cs).map (·.1)).Nodup := by rw [b3]; exact nd
  have key : ∀ j, j ∈ (upds hs as cs).map (·.1) → ∃ c, (j, c) ∈ upds hs as cs := fun j h => by
    obtain ⟨p, hp, rfl⟩ := List.mem_map.mp h
    exact ⟨p.2, hp⟩
  have lt : ∀ {j : Nat} {s : Sl}, ρ[j]? = some (some s) → j < ρ.length := fun h => (List.getElem?_eq_some_iff.mp h).1
  -- a slot behind the call
  have slot : ∀ (j : Nat) (s : Sl), (putMany ρ (upds hs as cs))[j]? = some (some s) → (∃ c, s = .obj c ∧ (j, c) ∈ upds hs as cs) ∨ (j ∉ (upds hs as cs).map (·.1) ∧ ρ[j]? = some (some s)) := fun j s h => by
    by_cases hj : j ∈ (upds hs as cs).map (·.1)
    · obtain ⟨c, hc⟩ := key j hj
      obtain ⟨_, c0, h0⟩ := b1 j c hc
      rw [putMany_in _ ρ j c nd' hc (lt h0)] at h
      cases h
      exact .inl ⟨c, rfl, hc⟩
    · rw [putMany_out _ ρ j hj] at h
      exact .inr ⟨hj, h⟩
  have was : ∀ (j : Nat) (c : C), (putMany ρ (upds hs as cs))[j]? = some (some (.obj c)) → ∃ c0, ρ[j]? = some (some (.obj c0)) := fun j c h => by
    rcases slot j _ h with ⟨c', e, hc⟩ | ⟨_, h⟩
    · exact (b1 j c' hc).2
    · exact ⟨c, h⟩
  have kp : Kp ρ (putMany ρ (upds hs as cs)) := fun j c h => by
    by_cases hj : j ∈ (upds hs as cs).map (·.1)
    · obtain ⟨c', hc⟩ := key j hj
      exact ⟨c', putMany_in _ ρ j c' nd' hc (lt h)⟩
    · exact ⟨c, by rw [putMany_out _ ρ j hj]; exact h⟩
  -- what is not handed on stands
  have stands : ∀ (j : Nat) (c : C) (a : Addr), ρ[j]? = some (some (.obj c)) → σ[j]? = some (some (.ref a)) → j ∉ (upds hs as cs).map (·.1) → a ∉ objs us as := fun j c a h1 h2 h3 h4 => by
    rcases b2 a h4 with ⟨i, d, q1, q2⟩ | ⟨_, q⟩
    · obtain ⟨_, c0, h0⟩ := b1 i d q1
      have := S.sep i j c0 c a h0 h1 q2 h2
      subst this
      exact h3 (List.mem_map.mpr ⟨_, q1, rfl⟩)
    · exact q ⟨j, c, h1, h2⟩
  refine ⟨⟨by rw [putMany_len]; exact S.len, fun j t h => ?_, fun j xs h => ?_, fun j c h => ?_, fun i j c d a h1 h2 h3 h4 => ?_⟩, ⟨fun a o h n => ?_, fun a h => ?_, g.tst.trans P.tst, fun a h => g.dom a (P.dom a h)⟩, kp⟩
  · rcases slot j _ h with ⟨c, e, _⟩ | ⟨_, h⟩
    · cases e
    · obtain ⟨v, e, r⟩ := S.dat j t h
      exact ⟨v, e, r.m P.tst⟩
  · rcases slot j _ h with ⟨c, e, _⟩ | ⟨_, h⟩
    · cases e
    · obtain ⟨a, e, r⟩ := S.rol j xs h
      refine ⟨a, e, r.m P.tst fun o vs q => P.keep a _ q fun hm => ?_⟩
      obtain ⟨ws, z⟩ := lst a hm
      rw [q] at z; cases z
  · rcases slot j _ h with ⟨c', e, hc⟩ | ⟨hj, h⟩
    · cases e
      exact (b1 j _ hc).1
    · obtain ⟨a, e, r⟩ := S.obj j c h
      exact ⟨a, e, r.m P.tst fun o q => P.keep a o q (stands j c a h e hj)⟩
  · obtain ⟨c', q1⟩ := was i c h1
    obtain ⟨d', q2⟩ := was j d h2
    exact S.sep i j c' d' a q1 q2 h3 h4
  · refine P.keep a o (g.keep a o h n) fun hm => ?_
    rcases b2 a hm with ⟨i, d, q1, q2⟩ | ⟨q, _⟩
    · obtain ⟨_, c0, h0⟩ := b1 i d q1
      rcases g.own a ⟨i, c0, h0, q2⟩ with z | z
      · exact n z
      · rw [h] at z; cases z
    · rw [h] at q; cases q
  · obtain ⟨j, c, h1, h2⟩ := h
    obtain ⟨c0, h0⟩ := was j c h1
    exact g.own a ⟨j, c0, h0, h2⟩
end
theorem objs_lst {K : PySem.W.Frag} {H : Hp} : ∀ {us : List V} {as : List Sl}, SR K H (us.map some) (as.map some) → ∀ a ∈ objs us as, ∃ vs, H a = some (.lst vs)
  | us, as, S, a, h => by
    have go : ∀ (us : List V) (as : List Sl), a ∈ objs us as → ∃ (i : Nat) (c : C), us[i]? = some (.ref a) ∧ as[i]? = some (.obj c) := by
      intro us
      induction us with
      | nil => intro as h; cases as <;> simp [objs] at h
      | cons u us ih =>
        intro as h
        cases as with
        | nil => simp [objs] at h
        | cons s as =>
          have rec_ : a ∈ objs us as → ∃ (i : Nat) (c : C), (u :: us)[i]? = some (.ref a) ∧ (s :: as)[i]? = some (.obj c) := fun h => by
            obtain ⟨i, c, e1, e2⟩ := ih as h
            exact ⟨i + 1, c, by simpa using e1, by simpa using e2⟩
          cases u with
          | ref b =>
            cases s with
            | obj c =>
              simp only [objs, List.mem_cons] at h
              rcases h with e | h
              · subst e; exact ⟨0, c, rfl, rfl⟩
              · exact rec_ h
            | dat _ => exact rec_ (by simpa [objs] using h)
            | rol _ => exact rec_ (by simpa [objs] using h)
          | _ => cases s <;> exact rec_ (by simpa [objs] using h)
    obtain ⟨i, c, e1, e2⟩ := go us as h
    exact S.own_some ⟨i, c, by rw [List.getElem?_map, e2]; rfl, by rw [List.getElem?_map, e1]; rfl⟩
section
variable {X : Cx} {k : Nat} {f : Addr} {fd : FuncData} {ps : List Str} {x : Str} {p pos : Pos} {e : Expr} {es : List Expr} {m : Den} {n : Nat}
theorem call_core {fs : FA} {u : TA} (ru : ∀ (σ : Sto) (H : Hp) (ρ : Ev) (hs : List Hd) (ρ' : Ev) (Q : List V → Hp → Prop), SR X.K H σ ρ → fs ρ = some (hs, ρ') →
      (∀ us H', Go X.K σ ρ H σ ρ' H' → SR X.K H' σ ρ' → Kp ρ ρ' → HRs X.K H H' σ ρ' hs us → TD hs us → Q us H') → u σ H Q)
    (hn : n = ps.length) (hl : ∀ ρ hs ρ', fs ρ = some (hs, ρ') → hs.length = n)
    (σ : Sto) (H : Hp) (ρ : Ev) (h : Hd) (ρ' : Ev) (Q : VK) (S : SR X.K H σ ρ) (e : fCall m fs ρ = some (h, ρ'))
    (q : ∀ u H', Go X.K σ ρ H σ ρ' H' → SR X.K H' σ ρ' → Kp ρ ρ' → HR X.K H H' σ ρ' h u → Q u H') : tCall (spD X.K n m) [] E0 u σ H Q := by
  simp only [fCall, Option.bind_eq_some_iff, Option.map_eq_some_iff, guardP_some] at e
  obtain ⟨⟨hs, ρ1⟩, e1, as, e2, _, nd, ⟨r, cs⟩, e3, hd, e4, e5⟩ := e
  cases e5
  refine ru σ H ρ hs ρ1 _ S e1 fun us H1 g1 S1 k1 r1 d1 => ?_
  have f1 := froms_of S1 r1 e2
  have SA := args_SR S1 f1 d1 nd
  rw [List.append_nil]
  refine ⟨as, r, cs, e3, ?_, SA, fun v H2 P => ?_⟩
  · have := hl _ _ _ e1
    have := f1.len
    omega
  · obtain ⟨a1, a2, a3⟩ := after_call S1 g1 f1 nd P (objs_lst SA)
    refine q v H2 a2 a1 (k1.trans a3) ?_
    have res := P.res
    cases r with
    | dat t => cases e4; exact res
    | rol xs => cases e4
    | obj c =>
      cases e4
      obtain ⟨a, rfl, na, rc⟩ := res
      refine ⟨a, rfl, rc, g1.dom a na, fun z => ?_⟩
      obtain ⟨j, c', z1, z2⟩ := z
      obtain ⟨c0, z0⟩ : ∃ c0, ρ1[j]? = some (some (.obj c0)) := by
        by_cases hj : j ∈ (upds hs as cs).map (·.1)
        · obtain ⟨p, hp, rfl⟩ := List.mem_map.mp hj
          exact ((upds_ok f1 P.cs fun _ _ _ _ => trivial).1 p.1 p.2 hp).2
        · rw [putMany_out _ _ _ hj] at z1
          exact ⟨c', z1⟩
      exact S1.not_own na ⟨j, c0, z0, z2⟩
theorem de_call {fs : FA} (F : FnOk X.prog X.w X.K X.mg X.base CX0 k f fd ps (spD X.K n m)) (hn : n = ps.length) (hl : ∀ ρ hs ρ', fs ρ = some (hs, ρ') → hs.length = n) (hr : Room k X.A) (hg : Gl X x) (hm : X.mg x = some (.ref f)) (hk : PySem.W.keepIn X.K (.ref f) = true) (hb : Binds X.K fd ps [])
    (ha : DA X (e :: es) fs) (hdb : (x == ("__debug__" : Str)) = false := by decide) (he : starEach (e :: es) X.env = (false, eval e X.env) :: starEach es X.env := by rfl) (hpl : (backTo pos (starEach es X.env)).any (·.1) = false := by rfl) :
    DE X (.Call (.Name x p) (e :: es) [] pos) (fCall m fs) := by
  obtain ⟨u, pu, ru⟩ := ha.run
  exact ⟨_, pe_call F hr hg hm hk hb .nil pass0 pu hdb he hpl, fun σ H ρ h ρ' Q S e q => call_core ru hn hl σ H ρ h ρ' Q S e q⟩
theorem de_call0 (F : FnOk X.prog X.w X.K X.mg X.base CX0 k f fd ps (spD X.K n m)) (hn : n = ps.length) (h0 : n = 0) (hr : Room k X.A) (hg : Gl X x) (hm : X.mg x = some (.ref f)) (hk : PySem.W.keepIn X.K (.ref f) = true) (hb : Binds X.K fd ps [])
    (hdb : (x == ("__debug__" : Str)) = false := by decide) : DE X (.Call (.Name x p) [] [] pos) (fCall m fNil) := by
  refine ⟨_, pe_call0 F hr hg hm hk hb .nil pass0 hdb, fun σ H ρ h ρ' Q S e q => ?_⟩
  refine call_core (fs := fNil) (u := tNil) (fun σ H ρ hs ρ' Q S e q => ?_) hn (fun ρ hs ρ' e => by cases e; exact h0.symm) σ H ρ h ρ' Q S e q
  cases e
  exact q [] H .refl S .refl .nil fun i j c d a h => by simp at h
theorem fCons_len {f : FE} {g : FA} {n : Nat} (h : ∀ ρ hs ρ', g ρ = some (hs, ρ') → hs.length = n) : ∀ ρ hs ρ', fCons f g ρ = some (hs, ρ') → hs.length = n + 1 := fun ρ hs ρ' e => by
  simp only [fCons, Option.bind_eq_some_iff, Option.map_eq_some_iff] at e
  obtain ⟨⟨h1, ρ1⟩, e1, ⟨h2, ρ2⟩, e2, e3⟩ := e
  cases e3
  rw [List.length_cons, h _ _ _ e2]
theorem fNil_len : ∀ ρ hs ρ', fNil ρ = some (hs, ρ') → hs.length = 0 := fun ρ hs ρ' e => by cases e; rfl
end
end PD

namespace PD
open PySem PySem.Spec PyProof.Rows L2

/-! ### statements -/
inductive Fl where
  | nx (ρ : Ev) | bk (ρ : Ev) | ct (ρ : Ev) | rt (r : Sl) (ρ : Ev)
abbrev FS := Ev → Option Fl
/-- slots whose objects must stay where they are -/
def Pin (pn : List (Nat × Addr)) (σ : Sto) (ρ : Ev) : Prop := ∀ p ∈ pn, σ[p.1]? = some (some (.ref p.2)) ∧ ∃ c, ρ[p.1]? = some (some (.obj c))
theorem Pin.kp {pn : List (Nat × Addr)} {σ : Sto} {ρ ρ' : Ev} (h : Pin pn σ ρ) (k : Kp ρ ρ') : Pin pn σ ρ' := fun p hp => ⟨(h p hp).1, let ⟨c, e⟩ := (h p hp).2; k p.1 c e⟩
def RRs (K : PySem.W.Frag) (pn : List (Nat × Addr)) (σ : Sto) (ρ : Ev) (H H' : Hp) : Sl → V → Prop
  | .dat t, u => Rp K H' u t
  | .obj c, u => ∃ a, u = .ref a ∧ RpC K H' a c ∧ (Own σ ρ a ∨ H a = none) ∧ ∀ p ∈ pn, p.2 ≠ a
  | .rol _, _ => False
def PostS (K : PySem.W.Frag) (pn : List (Nat × Addr)) (σ : Sto) (ρ : Ev) (H : Hp) (D : Ends) : Fl → Prop
  | .nx ρ' => ∀ σ' H', Go K σ ρ H σ' ρ' H' → SR K H' σ' ρ' → Pin pn σ' ρ' → D.nx σ' H'
  | .bk ρ' => ∀ σ' H', Go K σ ρ H σ' ρ' H' → SR K H' σ' ρ' → Pin pn σ' ρ' → D.bk σ' H'
  | .ct ρ' => ∀ σ' H', Go K σ ρ H σ' ρ' H' → SR K H' σ' ρ' → Pin pn σ' ρ' → D.ct σ' H'
  | .rt r ρ' => ∀ u σ' H', Go K σ ρ H σ' ρ' H' → SR K H' σ' ρ' → Pin pn σ' ρ' → RRs K pn σ ρ H H' r u → D.rt u H'
theorem RRs.from {K : PySem.W.Frag} {pn : List (Nat × Addr)} {σ σ1 : Sto} {ρ ρ1 : Ev} {H H1 H2 : Hp} {r : Sl} {u : V} (h : RRs K pn σ1 ρ1 H1 H2 r u) (g : Go K σ ρ H σ1 ρ1 H1) : RRs K pn σ ρ H H2 r u := by
  cases r with
  | dat t => exact h
  | rol xs => exact h
  | obj c =>
    obtain ⟨a, e, rc, o, n⟩ := h
    refine ⟨a, e, rc, ?_, n⟩
    rcases o with o | o
    · exact g.own a o
    · exact .inr (g.dom a o)
theorem PostS.from {K : PySem.W.Frag} {pn : List (Nat × Addr)} {σ σ1 : Sto} {ρ ρ1 : Ev} {H H1 : Hp} {D : Ends} {o : Fl} (h : PostS K pn σ ρ H D o) (g : Go K σ ρ H σ1 ρ1 H1) : PostS K pn σ1 ρ1 H1 D o := by
  cases o with
  | nx ρ' => exact fun σ' H' g' => h σ' H' (g.trans g')
  | bk ρ' => exact fun σ' H' g' => h σ' H' (g.trans g')
  | ct ρ' => exact fun σ' H' g' => h σ' H' (g.trans g')
  | rt r ρ' => exact fun u σ' H' g' S p r => h u σ' H' (g.trans g') S p (r.from g)
structure DS (X : Cx) (pl : List Nat) (st : Stmt) (g : FS) : Prop where
  run : ∃ t : TS, PS X st t ∧ ∀ (pn : List (Nat × Addr)) (σ : Sto) (H : Hp) (ρ : Ev) (o : Fl) (D : Ends), (∀ p ∈ pn, p.1 ∈ pl) → SR X.K H σ ρ → Pin pn σ ρ → g ρ = some o → PostS X.K pn σ ρ H D o → t D σ H
structure DSs (X : Cx) (pl : List Nat) (st : List Stmt) (g : FS) : Prop where
  run : ∃ t : TS, PSs X st t ∧ ∀ (pn : List (Nat × Addr)) (σ : Sto) (H : Hp) (ρ : Ev) (o : Fl) (D : Ends), (∀ p ∈ pn, p.1 ∈ pl) → SR X.K H σ ρ → Pin pn σ ρ → g ρ = some o → PostS X.K pn σ ρ H D o → t D σ H

section
variable {X : Cx} {pl : List Nat} {e a b c : Expr} {es : List Expr} {fa fb fc : FE} {pos : Pos} {st : Stmt} {sts : List Stmt} {f g : FS}
def fSeq (f g : FS) : FS := fun ρ => (f ρ).bind fun o => match o with
  | .nx ρ' => g ρ'
  | .bk ρ' => some (.bk ρ')
  | .ct ρ' => some (.ct ρ')
  | .rt r ρ' => some (.rt r ρ')
def fNext : FS := fun ρ => some (.nx ρ)
theorem dss_nil : DSs X pl [] fNext := by
  refine ⟨_, pss_nil, fun pn σ H ρ o D hp S P e q => ?_⟩
  cases e
  exact q σ H .refl S P
theorem dss_one (h : DS X pl st f) : DSs X pl [st] f := let ⟨t, p, r⟩ := h.run; ⟨t, pss_one p, r⟩
theorem dss_cons (h1 : DS X pl st f) (h2 : DSs X pl sts g) : DSs X pl (st :: sts) (fSeq f g) := by
  obtain ⟨t, pt, rt⟩ := h1.run
  obtain ⟨u, pu, ru⟩ := h2.run
  refine ⟨_, pss_cons pt pu, fun pn σ H ρ o D hp S P e q => ?_⟩
  simp only [fSeq, Option.bind_eq_some_iff] at e
  obtain ⟨o1, e1, e2⟩ := e
  refine rt pn σ H ρ o1 _ hp S P e1 ?_
  cases o1 with
  | nx ρ1 => exact fun σ1 H1 g1 S1 P1 => ru pn σ1 H1 ρ1 o D hp S1 P1 e2 (q.from g1)
  | bk ρ1 => cases e2; exact q
  | ct ρ1 => cases e2; exact q
  | rt r ρ1 => cases e2; exact q
theorem ds_pass : DS X pl (.Pass pos) fNext := by
  refine ⟨_, ps_pass, fun pn σ H ρ o D hp S P e q => ?_⟩
  cases e
  exact q σ H .refl S P
def fBreak : FS := fun ρ => some (.bk ρ)
def fCont : FS := fun ρ => some (.ct ρ)
theorem ds_break : DS X pl (.Break pos) fBreak := by
  refine ⟨_, ps_break, fun pn σ H ρ o D hp S P e q => ?_⟩
  cases e
  exact q σ H .refl S P
theorem ds_continue : DS X pl (.Continue pos) fCont := by
  refine ⟨_, ps_continue, fun pn σ H ρ o D hp S P e q => ?_⟩
  cases e
  exact q σ H .refl S P
def fExpr (f : FE) : FS := fun ρ => (f ρ).map fun p => .nx p.2
theorem ds_expr (ha : DE X e fa) (hs : swapsWith e none pos.line X.env = pure false := by rfl) : DS X pl (.Expr e pos) (fExpr fa) := by
  obtain ⟨t, pt, rt⟩ := ha.run
  refine ⟨_, ps_expr pt hs, fun pn σ H ρ o D hp S P e q => ?_⟩
  simp only [fExpr, Option.map_eq_some_iff] at e
  obtain ⟨⟨h1, ρ1⟩, e1, e2⟩ := e
  cases e2
  exact rt σ H ρ h1 ρ1 _ S e1 fun u H1 g1 S1 k1 _ => q σ H1 g1 S1 (P.kp k1)
def retOf (pl : List Nat) (h : Hd) (ρ : Ev) : Option Sl := match h with
  | .dat t => some (.dat t)
  | .tmp c => some (.obj c)
  | .plc i => if i ∈ pl then none else match ρ[i]? with
    | some (some (.obj c)) => some (.obj c)
    | _ => none
def fRet (pl : List Nat) (f : FE) : FS := fun ρ => (f ρ).bind fun p => (retOf pl p.1 p.2).map fun r => .rt r p.2
theorem ds_ret (ha : DE X e fa) : DS X pl (.Return (some e) pos) (fRet pl fa) := by
  obtain ⟨t, pt, rt⟩ := ha.run
  refine ⟨_, ps_ret pt, fun pn σ H ρ o D hp S P e q => ?_⟩
  simp only [fRet, Option.bind_eq_some_iff, Option.map_eq_some_iff] at e
  obtain ⟨⟨h1, ρ1⟩, e1, r, er, e2⟩ := e
  subst e2
  refine rt σ H ρ h1 ρ1 _ S e1 fun u H1 g1 S1 k1 r1 => ?_
  refine q u σ H1 g1 S1 (P.kp k1) ?_
  cases h1 with
  | dat t => cases er; exact r1
  | tmp c =>
    cases er
    obtain ⟨a, rfl, rc, n0, no⟩ := r1
    refine ⟨a, rfl, rc, .inr n0, fun p hpn z => ?_⟩
    obtain ⟨h1, c', h2⟩ := (P.kp k1) p hpn
    rw [z] at h1
    exact no ⟨p.1, c', h2, h1⟩
  | plc i =>
    have r1 : σ[i]? = some (some u) := r1
    unfold retOf at er
    simp only at er
    split at er
    · cases er
    · rename_i hi
      split at er
      · rename_i c hx
        cases er
        obtain ⟨a, ea, rc⟩ := S1.obj i c hx
        rw [r1] at ea; cases ea
        refine ⟨a, rfl, rc, g1.own a ⟨i, c, hx, r1⟩, fun p hpn z => ?_⟩
        obtain ⟨h1, c', h2⟩ := (P.kp k1) p hpn
        rw [z] at h1
        exact hi (S1.sep p.1 i c' c a h2 hx h1 r1 ▸ hp p hpn)
      · cases er
def fRetN : FS := fun ρ => some (.rt (.dat .none) ρ)
theorem ds_retN : DS X pl (.Return none pos) fRetN := by
  refine ⟨_, ps_retN, fun pn σ H ρ o D hp S P e q => ?_⟩
  cases e
  exact q .non σ H .refl S P .non
def fIfS (c : FB) (f g : FS) : FS := fun ρ => (c ρ).bind fun p => if p.1 = true then f p.2 else g p.2
theorem ds_if {fb : FB} {s1 s2 : List Stmt} (hc : DT X c fb) (h1 : DSs X pl s1 f) (h2 : DSs X pl s2 g) : DS X pl (.If c s1 s2 pos) (fIfS fb f g) := by
  obtain ⟨t, pt, rt⟩ := hc.run
  obtain ⟨u, pu, ru⟩ := h1.run
  obtain ⟨v, pv, rv⟩ := h2.run
  refine ⟨_, ps_if pt pu pv, fun pn σ H ρ o D hp S P e q => ?_⟩
  simp only [fIfS, Option.bind_eq_some_iff] at e
  obtain ⟨⟨b, ρ1⟩, e1, e2⟩ := e
  refine rt σ H ρ b ρ1 _ S e1 fun H1 g1 S1 k1 => ?_
  cases b with
  | true => exact ru pn σ H1 ρ1 o D hp S1 (P.kp k1) e2 (q.from g1)
  | false => exact rv pn σ H1 ρ1 o D hp S1 (P.kp k1) e2 (q.from g1)

/-! ### stores -/
def isObj (ρ : Ev) (i : Nat) : Bool := match ρ[i]? with
  | some (some (.obj _)) => true
  | _ => false
/-- chk: the slot may be pinned -/
def stH (chk : Bool) (i : Nat) (h : Hd) (ρ : Ev) : Option Ev := if chk && isObj ρ i then none else match h with
  | .dat t => some (ρ.set i (some (.dat t)))
  | .tmp c => some (ρ.set i (some (.obj c)))
  | .plc _ => none
theorem not_pinned {pn : List (Nat × Addr)} {σ : Sto} {ρ : Ev} {chk : Bool} {i : Nat} (P : Pin pn σ ρ) (hp : ∀ p ∈ pn, p.1 ∈ pl) (hc : chk = false → i ∉ pl) (h : ¬ (chk && isObj ρ i) = true) : ∀ p ∈ pn, p.1 ≠ i := fun p hpn z => by
  obtain ⟨_, c, e⟩ := P p hpn
  cases chk with
  | false => exact hc rfl (z ▸ hp p hpn)
  | true =>
    apply h
    rw [z] at e
    simp only [isObj, e, Bool.true_and]
/-- a slot is stored -/
theorem store_SR {K : PySem.W.Frag} {pn : List (Nat × Addr)} {σ σs : Sto} {ρ ρs : Ev} {H Hs : Hp} {h : Hd} {u : V} {s : Sl} {i : Nat} (S : SR K H σ ρ) (g : Go K σs ρs Hs σ ρ H) (P : Pin pn σ ρ) (hi : i < ρ.length) (np : ∀ p ∈ pn, p.1 ≠ i)
    (hs : (∃ t, s = .dat t ∧ Rp K H u t) ∨ ∃ c a, s = .obj c ∧ u = .ref a ∧ RpC K H a c ∧ Hs a = none ∧ ¬ Own σ ρ a) :
    SR K H (σ.set i (some u)) (ρ.set i (some s)) ∧ Go K σs ρs Hs (σ.set i (some u)) (ρ.set i (some s)) H ∧ Pin pn (σ.set i (some u)) (ρ.set i (some s)) := by
  have hi' : i < σ.length := by rw [← S.len]; exact hi
  have at_ : ∀ {j : Nat} {x : Sl}, (ρ.set i (some s))[j]? = some (some x) → (j = i ∧ x = s) ∨ (j ≠ i ∧ ρ[j]? = some (some x)) := fun {j x} e => by
    by_cases hj : j = i
    · subst hj
      rw [List.getElem?_set_self hi] at e
      cases e
      exact .inl ⟨rfl, rfl⟩
    · rw [List.getElem?_set_ne (Ne.symm hj)] at e
      exact .inr ⟨hj, e⟩
  have self : (σ.set i (some u))[i]? = some (some u) := List.getElem?_set_self hi'
  have other : ∀ {j : Nat}, j ≠ i → (σ.set i (some u))[j]? = σ[j]? := fun h => List.getElem?_set_ne (Ne.symm h)
  refine ⟨⟨by rw [List.length_set, List.length_set]; exact S.len, fun j t e => ?_, fun j xs e => ?_, fun j c e => ?_, fun j k c d a e1 e2 e3 e4 => ?_⟩, ⟨g.keep, fun a o => ?_, g.tst, g.dom⟩, fun p hp => ?_⟩
  · rcases at_ e with ⟨hj, ex⟩ | ⟨hj, ex⟩
    · rcases hs with ⟨t', es, r⟩ | ⟨c, a, es, _⟩
      · rw [es] at ex; cases ex
        rw [hj]; exact ⟨u, self, r⟩
      · rw [es] at ex; cases ex
    · rw [other hj]; exact S.dat j t ex
  · rcases at_ e with ⟨hj, ex⟩ | ⟨hj, ex⟩
    · rcases hs with ⟨t', es, r⟩ | ⟨c, a, es, _⟩ <;> rw [es] at ex <;> cases ex
    · rw [other hj]; exact S.rol j xs ex
  · rcases at_ e with ⟨hj, ex⟩ | ⟨hj, ex⟩
    · rcases hs with ⟨t', es, r⟩ | ⟨c', a, es, eu, rc, _⟩
      · rw [es] at ex; cases ex
      · rw [es] at ex; cases ex
        rw [hj, self, eu]; exact ⟨a, rfl, rc⟩
    · rw [other hj]; exact S.obj j c ex
  · have new : ∀ {k : Nat} {d : C}, k ≠ i → ρ[k]? = some (some (.obj d)) → σ[k]? = some (some (.ref a)) → (∃ c, Sl.obj c = s) → u = .ref a → False := fun {k d} hk h1 h2 ⟨c, hc⟩ hu => by
      rcases hs with ⟨t', e, _⟩ | ⟨c', a', _, e2, _, _, no⟩
      · rw [e] at hc; cases hc
      · rw [hu] at e2; cases e2
        exact no ⟨k, d, h1, h2⟩
    rcases at_ e1 with ⟨hj, x1⟩ | ⟨hj, x1⟩
    · rcases at_ e2 with ⟨hk, x2⟩ | ⟨hk, x2⟩
      · rw [hj, hk]
      · rw [hj, self] at e3
        rw [other hk] at e4
        exact (new hk x2 e4 ⟨c, x1⟩ (by cases e3; rfl)).elim
    · rcases at_ e2 with ⟨hk, x2⟩ | ⟨hk, x2⟩
      · rw [hk, self] at e4
        rw [other hj] at e3
        exact (new hj x1 e3 ⟨d, x2⟩ (by cases e4; rfl)).elim
      · rw [other hj] at e3
        rw [other hk] at e4
        exact S.sep j k c d a x1 x2 e3 e4
  · obtain ⟨j, c, e, e'⟩ := o
    rcases at_ e with ⟨hj, ex⟩ | ⟨hj, ex⟩
    · rw [hj, self] at e'
      rcases hs with ⟨t', es, r⟩ | ⟨c', a', es, e2, rc, n0, _⟩
      · rw [es] at ex; cases ex
      · rw [e2] at e'; cases e'; exact .inr n0
    · rw [other hj] at e'
      exact g.own a ⟨j, c, ex, e'⟩
  · obtain ⟨h1, c, h2⟩ := P p hp
    have := np p hp
    exact ⟨by rw [other this]; exact h1, c, by rw [List.getElem?_set_ne (Ne.symm this)]; exact h2⟩
theorem stH_SR {K : PySem.W.Frag} {pn : List (Nat × Addr)} {σ σs : Sto} {ρ ρs ρ' : Ev} {H Hs : Hp} {h : Hd} {u : V} {chk : Bool} {i : Nat} (S : SR K H σ ρ) (g : Go K σs ρs Hs σ ρ H) (P : Pin pn σ ρ) (hp : ∀ p ∈ pn, p.1 ∈ pl) (hc : chk = false → i ∉ pl) (hi : i < ρ.length)
    (r : HR K Hs H σ ρ h u) (e : stH chk i h ρ = some ρ') : SR K H (σ.set i (some u)) ρ' ∧ Go K σs ρs Hs (σ.set i (some u)) ρ' H ∧ Pin pn (σ.set i (some u)) ρ' := by
  unfold stH at e
  split at e
  · cases e
  · rename_i hn
    have np := not_pinned P hp hc hn
    cases h with
    | dat t => cases e; exact store_SR (h := .dat t) S g P hi np (.inl ⟨t, rfl, r⟩)
    | tmp c =>
      cases e
      obtain ⟨a, rfl, rc, n0, no⟩ := r
      exact store_SR (h := .tmp c) S g P hi np (.inr ⟨c, a, rfl, rfl, rc, n0, no⟩)
    | plc j => cases e
def fSet (chk : Bool) (i : Nat) (f : FE) : FS := fun ρ => (f ρ).bind fun p => if i < p.2.length then (stH chk i p.1 p.2).map Fl.nx else none
/-- x = e -/
theorem ds_set {chk : Bool} {i : Nat} {x : Str} {pos' : Pos} (hN : X.N.Nodup) (hi : X.N[i]? = some x) (hx : Loc X.env.scope x) (ha : DE X e fa) (hc : chk = false → i ∉ pl := by decide) (hs : swapsWith e (some (.Name x pos')) pos.line X.env = pure false := by rfl) (hf : X.fn x = true ∨ X.env.scope.names.lookup x = some .local := by first | exact .inl rfl | exact .inr rfl | assumption) :
    DS X pl (.Assign [.Name x pos'] e pos) (fSet chk i fa) := by
  obtain ⟨t, pt, rt⟩ := ha.run
  refine ⟨_, ps_set hN hi hx pt hs hf, fun pn σ H ρ o D hp S P e q => ?_⟩
  simp only [fSet, Option.bind_eq_some_iff] at e
  obtain ⟨⟨h1, ρ1⟩, e1, e2⟩ := e
  split at e2
  · rename_i hl
    simp only [Option.map_eq_some_iff] at e2
    obtain ⟨ρ2, e3, e4⟩ := e2
    subst e4
    refine rt σ H ρ h1 ρ1 _ S e1 fun u H1 g1 S1 k1 r1 => ?_
    obtain ⟨a1, a2, a3⟩ := stH_SR S1 g1 (P.kp k1) hp hc hl r1 e3
    exact q _ H1 a2 a1 a3
  · cases e2
/-- a, b = x, y with two plain local names -/
def fPar (c1 c2 : Bool) (i j : Nat) (f : FA) : FS := fun ρ => (f ρ).bind fun p => match p.1 with
  | [h1, h2] => if i < p.2.length ∧ j < p.2.length then (stH c1 i h1 p.2).bind fun ρ1 => (stH c2 j h2 ρ1).map Fl.nx else none
  | _ => none
theorem HR.stored {K : PySem.W.Frag} {Hs H : Hp} {σ : Sto} {ρ : Ev} {h h1 : Hd} {u v : V} {i : Nat} {s : Sl} (r : HR K Hs H σ ρ h u) (np : ∀ j, h ≠ .plc j)
    (d : ∀ c, h = .tmp c → s = .dat .none ∨ ∀ a, u = .ref a → v ≠ .ref a ∨ ∃ t, s = .dat t) : HR K Hs H (σ.set i (some v)) (ρ.set i (some s)) h u := by
  cases h with
  | dat t => exact r
  | plc j => exact absurd rfl (np j)
  | tmp c =>
    obtain ⟨a, rfl, rc, n0, no⟩ := r
    refine ⟨a, rfl, rc, n0, fun ⟨j, c', e1, e2⟩ => ?_⟩
    by_cases hj : j = i
    · subst hj
      by_cases hl : j < ρ.length
      · rw [List.getElem?_set_self hl] at e1
        cases e1
        by_cases hl2 : j < σ.length
        · rw [List.getElem?_set_self hl2] at e2
          cases e2
          rcases d c rfl with z | z
          · cases z
          · rcases z a rfl with z | ⟨t, z⟩
            · exact z rfl
            · cases z
        · rw [List.getElem?_eq_none (by rw [List.length_set]; omega)] at e2
          cases e2
      · rw [List.getElem?_eq_none (by rw [List.length_set]; omega)] at e1
        cases e1
    · rw [List.getElem?_set_ne (Ne.symm hj)] at e1 e2
      exact no ⟨j, c', e1, e2⟩
theorem stH_eq {chk : Bool} {i : Nat} {h : Hd} {ρ ρ' : Ev} (e : stH chk i h ρ = some ρ') : (∃ t, h = .dat t ∧ ρ' = ρ.set i (some (.dat t))) ∨ ∃ c, h = .tmp c ∧ ρ' = ρ.set i (some (.obj c)) := by
  unfold stH at e
  split at e
  · cases e
  · cases h with
    | dat t => cases e; exact .inl ⟨t, rfl, rfl⟩
    | tmp c => cases e; exact .inr ⟨c, rfl, rfl⟩
    | plc j => cases e
theorem ds_par {c1 c2 : Bool} {i j : Nat} {x y : Str} {fs : FA} {px py pt : Pos} {kt k2 pt2} (hc : X.calm = true) (hN : X.N.Nodup) (hi : X.N[i]? = some x) (hj : X.N[j]? = some y) (hij : i ≠ j)
    (hx : X.env.scope.names.lookup x = some .local) (hy : X.env.scope.names.lookup y = some .local) (ha : DA X [a, b] fs)
    (hw : swappedStores [.Tuple [.Name x px, .Name y py] kt pt] (.Tuple [a, b] k2 pt2) X.env = pure (some [x, y])) (h1 : c1 = false → i ∉ pl := by decide) (h2 : c2 = false → j ∉ pl := by decide)
    (hs : swapsWithSole [.Tuple [.Name x px, .Name y py] kt pt] (.Tuple [a, b] k2 pt2) pos.line X.env = pure false := by rfl) :
    DS X pl (.Assign [.Tuple [.Name x px, .Name y py] kt pt] (.Tuple [a, b] k2 pt2) pos) (fPar c1 c2 i j fs) := by
  obtain ⟨t, pt, rt⟩ := ha.run
  refine ⟨_, ps_par hc hN hi hj hij hx hy pt hw hs, fun pn σ H ρ o D hp S P e q => ?_⟩
  simp only [fPar, Option.bind_eq_some_iff] at e
  obtain ⟨⟨hs, ρ1⟩, e1, e2⟩ := e
  refine rt σ H ρ hs ρ1 _ S e1 fun us H1 g1 S1 k1 r1 d1 => ?_
  cases r1 with
  | nil => cases e2
  | @cons ha u _ _ ra rt =>
    cases rt with
    | nil => cases e2
    | @cons hb v _ _ rb rt =>
      cases rt with
      | cons _ _ => cases e2
      | nil =>
        simp only at e2
        split at e2
        · rename_i hl
          simp only [Option.bind_eq_some_iff, Option.map_eq_some_iff] at e2
          obtain ⟨ρ2, e3, ρ3, e4, e5⟩ := e2
          subst e5
          refine ⟨u, v, rfl, ?_⟩
          obtain ⟨a1, a2, a3⟩ := stH_SR S1 g1 (P.kp k1) hp h1 hl.1 ra e3
          have nb : ∀ j, hb ≠ .plc j := fun j z => by
            rcases stH_eq e4 with ⟨t, z2, _⟩ | ⟨c, z2, _⟩ <;> rw [z] at z2 <;> cases z2
          have rb2 : HR X.K H H1 (σ.set i (some u)) ρ2 hb v := by
            rcases stH_eq e3 with ⟨t, ea, rfl⟩ | ⟨c, ea, rfl⟩
            · exact rb.stored (h1 := ha) nb fun c _ => .inr fun a _ => .inr ⟨t, rfl⟩
            · refine rb.stored (h1 := ha) nb fun c' hb' => .inr fun a hv => .inl fun hu => ?_
              have := d1 0 1 c c' a (by rw [ea]; rfl) (by rw [hb']; rfl) (by rw [hu]; rfl) (by rw [hv]; rfl)
              cases this
          have hl2 : j < ρ2.length := by
            rcases stH_eq e3 with ⟨t, _, rfl⟩ | ⟨c, _, rfl⟩ <;> rw [List.length_set] <;> exact hl.2
          obtain ⟨b1, b2, b3⟩ := stH_SR a1 a2 a3 hp h2 hl2 rb2 e4
          exact q _ H1 b2 b1 b3
        · cases e2
end
end PD

namespace PD
open PySem PySem.Spec PyProof.Rows L2
section
variable {X : Cx} {pl : List Nat} {e a b c : Expr} {es : List Expr} {fa fb fc : FE} {pos : Pos} {st : Stmt} {sts : List Stmt} {f g : FS}
/-- a, b, c = x, y, z -/
def fPar3 (c1 c2 c3 : Bool) (i j l : Nat) (f : FA) : FS := fun ρ => (f ρ).bind fun p => match p.1 with
  | [h1, h2, h3] => if i < p.2.length ∧ j < p.2.length ∧ l < p.2.length then (stH c1 i h1 p.2).bind fun ρ1 => (stH c2 j h2 ρ1).bind fun ρ2 => (stH c3 l h3 ρ2).map Fl.nx else none
  | _ => none
theorem ds_par3 {c1 c2 c3 : Bool} {i j l : Nat} {x y z : Str} {fs : FA} {px py pz pt : Pos} {kt k2 pt2} (hc : X.calm = true) (hN : X.N.Nodup) (hi : X.N[i]? = some x) (hj : X.N[j]? = some y) (hl : X.N[l]? = some z) (hij : i ≠ j) (hil : i ≠ l) (hjl : j ≠ l)
    (hx : X.env.scope.names.lookup x = some .local) (hy : X.env.scope.names.lookup y = some .local) (hz : X.env.scope.names.lookup z = some .local) (ha : DA X [a, b, c] fs)
    (hw : swappedStores [.Tuple [.Name x px, .Name y py, .Name z pz] kt pt] (.Tuple [a, b, c] k2 pt2) X.env = pure (some [x, y, z])) (h1 : c1 = false → i ∉ pl := by decide) (h2 : c2 = false → j ∉ pl := by decide) (h3 : c3 = false → l ∉ pl := by decide)
    (hs : swapsWithSole [.Tuple [.Name x px, .Name y py, .Name z pz] kt pt] (.Tuple [a, b, c] k2 pt2) pos.line X.env = pure false := by rfl) :
    DS X pl (.Assign [.Tuple [.Name x px, .Name y py, .Name z pz] kt pt] (.Tuple [a, b, c] k2 pt2) pos) (fPar3 c1 c2 c3 i j l fs) := by
  obtain ⟨t, pt, rt⟩ := ha.run
  refine ⟨_, ps_par3 hc hN hi hj hl hij hil hjl hx hy hz pt hw hs, fun pn σ H ρ o D hp S P e q => ?_⟩
  simp only [fPar3, Option.bind_eq_some_iff] at e
  obtain ⟨⟨hs, ρ1⟩, e1, e2⟩ := e
  refine rt σ H ρ hs ρ1 _ S e1 fun us H1 g1 S1 k1 r1 d1 => ?_
  cases r1 with
  | nil => cases e2
  | @cons ha u _ _ ra rt =>
    cases rt with
    | nil => cases e2
    | @cons hb v _ _ rb rt =>
      cases rt with
      | nil => cases e2
      | @cons hd w _ _ rc rt =>
      cases rt with
      | cons _ _ => cases e2
      | nil =>
        simp only at e2
        split at e2
        · rename_i hl
          simp only [Option.bind_eq_some_iff, Option.map_eq_some_iff] at e2
          obtain ⟨ρ2, e3, ρ3, e4, ρ4, e6, e5⟩ := e2
          subst e5
          refine ⟨u, v, w, rfl, ?_⟩
          have noP : ∀ {chk : Bool} {i : Nat} {h : Hd} {ρ ρ' : Ev}, stH chk i h ρ = some ρ' → ∀ j, h ≠ .plc j := fun e j z => by
            rcases stH_eq e with ⟨t, z2, _⟩ | ⟨c, z2, _⟩ <;> rw [z] at z2 <;> cases z2
          have len : ∀ {chk : Bool} {i : Nat} {h : Hd} {ρ ρ' : Ev}, stH chk i h ρ = some ρ' → ρ'.length = ρ.length := fun e => by
            rcases stH_eq e with ⟨t, _, rfl⟩ | ⟨c, _, rfl⟩ <;> rw [List.length_set]
          have away : ∀ {hx hy : Hd} {ux uy : V} {chk : Bool} {i m n : Nat} {ρ ρ' : Ev} {σ' : Sto}, stH chk i hx ρ = some ρ' → (∀ j, hy ≠ .plc j) → ([ha, hb, hd] : List Hd)[m]? = some hx → ([ha, hb, hd] : List Hd)[n]? = some hy → ([u, v, w] : List V)[m]? = some ux → ([u, v, w] : List V)[n]? = some uy → m ≠ n →
              HR X.K H H1 σ' ρ hy uy → HR X.K H H1 (σ'.set i (some ux)) ρ' hy uy := by
            intro hx hy ux uy chk i m n ρ ρ' σ' e np m1 m2 m3 m4 mn r
            rcases stH_eq e with ⟨t, ea, rfl⟩ | ⟨c, ea, rfl⟩
            · exact r.stored (h1 := hx) np fun c _ => .inr fun a _ => .inr ⟨t, rfl⟩
            · refine r.stored (h1 := hx) np fun c' hb' => .inr fun a hv => .inl fun hu => ?_
              exact mn (d1 m n c c' a (by rw [m1, ea]) (by rw [m2, hb']) (by rw [m3, hu]) (by rw [m4, hv]))
          obtain ⟨a1, a2, a3⟩ := stH_SR S1 g1 (P.kp k1) hp h1 hl.1 ra e3
          have rb2 := away (m := 0) (n := 1) e3 (noP e4) rfl rfl rfl rfl (by decide) rb
          have rc2 := away (m := 0) (n := 2) e3 (noP e6) rfl rfl rfl rfl (by decide) rc
          obtain ⟨b1, b2, b3⟩ := stH_SR a1 a2 a3 hp h2 (by rw [len e3]; exact hl.2.1) rb2 e4
          have rc3 := away (m := 1) (n := 2) e4 (noP e6) rfl rfl rfl rfl (by decide) rc2
          obtain ⟨c1, c2, c3⟩ := stH_SR b1 b2 b3 hp h3 (by rw [len e4, len e3]; exact hl.2.2) rc3 e6
          exact q _ H1 c2 c1 c3
        · cases e2

/-! ### targets of data -/
abbrev GT := T → Ev → Option Ev
/-- is: the slots that are stored -/
structure DG (X : Cx) (pl : List Nat) (is : List Nat) (tg : Expr) (g : GT) : Prop where
  out : ∀ d ρ ρ', g d ρ = some ρ' → ∀ (j : Nat), j ∉ is → ρ'[j]? = ρ[j]?
  run : ∃ t : TG, PG X tg t ∧ ∀ (pn : List (Nat × Addr)) (σ : Sto) (H : Hp) (ρ : Ev) (v : V) (d : T) (ρ' : Ev) (Q : L2.St → Hp → Prop), (∀ p ∈ pn, p.1 ∈ pl) → SR X.K H σ ρ → Pin pn σ ρ → Rp X.K H v d → g d ρ = some ρ' →
    (∀ σ', Go X.K σ ρ H σ' ρ' H → SR X.K H σ' ρ' → Pin pn σ' ρ' → σ'.length = σ.length → (∀ (j : Nat), j ∉ is → σ'[j]? = σ[j]?) → Q σ' H) → t v σ H Q
def tgN (chk : Bool) (i : Nat) : GT := fun d ρ => if i < ρ.length then stH chk i (.dat d) ρ else none
theorem dg_name {chk : Bool} {i : Nat} {x : Str} (hN : X.N.Nodup) (hi : X.N[i]? = some x) (hx : Loc X.env.scope x) (hc : chk = false → i ∉ pl := by decide) (hf : X.fn x = true ∨ X.env.scope.names.lookup x = some .local := by first | exact .inl rfl | exact .inr rfl | assumption) : DG X pl [i] (.Name x pos) (tgN chk i) := by
  refine ⟨fun d ρ ρ' e j hj => ?_, _, pg_name hN hi hx hf, fun pn σ H ρ v d ρ' Q hp S P r e q => ?_⟩
  · have hj : j ≠ i := fun z => hj (by rw [z]; exact List.mem_cons_self)
    unfold tgN at e
    split at e
    · rcases stH_eq e with ⟨t, _, rfl⟩ | ⟨c, _, rfl⟩ <;> exact List.getElem?_set_ne (Ne.symm hj)
    · cases e
  unfold tgN at e
  split at e
  · rename_i hl
    obtain ⟨a1, a2, a3⟩ := stH_SR (h := .dat d) S .refl P hp hc hl r e
    exact q _ a2 a1 a3 (by rw [List.length_set]) fun j hj => List.getElem?_set_ne (fun z => hj (by rw [z]; exact List.mem_cons_self))
  · cases e
structure DGs (X : Cx) (pl : List Nat) (is : List Nat) (tgs : List Expr) (n : Nat) (g : List T → Ev → Option Ev) : Prop where
  len : tgs.length = n
  out : ∀ d ρ ρ', g d ρ = some ρ' → ∀ (j : Nat), j ∉ is → ρ'[j]? = ρ[j]?
  run : ∃ t : TGs, PGs X tgs t ∧ ∀ (pn : List (Nat × Addr)) (σ : Sto) (H : Hp) (ρ : Ev) (vs : List V) (ds : List T) (ρ' : Ev) (Q : L2.St → Hp → Prop), (∀ p ∈ pn, p.1 ∈ pl) → SR X.K H σ ρ → Pin pn σ ρ → RpL X.K H vs ds → g ds ρ = some ρ' →
    (∀ σ', Go X.K σ ρ H σ' ρ' H → SR X.K H σ' ρ' → Pin pn σ' ρ' → σ'.length = σ.length → (∀ (j : Nat), j ∉ is → σ'[j]? = σ[j]?) → Q σ' H) → t vs σ H Q
def tgNil : List T → Ev → Option Ev := fun ds ρ => match ds with
  | [] => some ρ
  | _ => none
def tgCons (g : GT) (gs : List T → Ev → Option Ev) : List T → Ev → Option Ev := fun ds ρ => match ds with
  | d :: ds => (g d ρ).bind fun ρ1 => gs ds ρ1
  | [] => none
theorem dgs_nil : DGs X pl [] [] 0 tgNil := by
  refine ⟨rfl, (fun d ρ ρ' e j _ => by
    unfold tgNil at e
    split at e
    · cases e; rfl
    · cases e), _, pgs_nil, fun pn σ H ρ vs ds ρ' Q hp S P r e q => ?_⟩
  cases r with
  | nil => cases e; exact ⟨rfl, q σ .refl S P rfl fun _ _ => rfl⟩
  | cons _ _ => cases e
theorem dgs_cons {g : GT} {gs : List T → Ev → Option Ev} {n : Nat} {is js : List Nat} (h1 : DG X pl is e g) (h2 : DGs X pl js es n gs) (hs : (assignEach (e :: es) X.env).map (·.2) = assign e X.env :: (assignEach es X.env).map (·.2) := by rfl) : DGs X pl (is ++ js) (e :: es) (n + 1) (tgCons g gs) := by
  obtain ⟨t, pt, rt⟩ := h1.run
  obtain ⟨u, pu, ru⟩ := h2.run
  refine ⟨by rw [List.length_cons, h2.len], (fun d ρ ρ' e j hj => by
    unfold tgCons at e
    split at e
    · simp only [Option.bind_eq_some_iff] at e
      obtain ⟨ρ1, e1, e2⟩ := e
      rw [List.mem_append, not_or] at hj
      rw [h2.out _ _ _ e2 j hj.2, h1.out _ _ _ e1 j hj.1]
    · cases e), _, pgs_cons pt pu hs, fun pn σ H ρ vs ds ρ' Q hp S P r e q => ?_⟩
  cases r with
  | nil => cases e
  | @cons v vs d ds r rr =>
    simp only [tgCons, Option.bind_eq_some_iff] at e
    obtain ⟨ρ1, e1, e2⟩ := e
    refine ⟨v, vs, rfl, ?_⟩
    refine rt pn σ H ρ v d ρ1 _ hp S P r e1 fun σ1 g1 S1 P1 l1 o1 => ?_
    exact ru pn σ1 H ρ1 vs ds ρ' Q hp S1 P1 rr e2 fun σ2 g2 S2 P2 l2 o2 => q σ2 (g1.trans g2) S2 P2 (l2.trans l1) fun j hj => by
      rw [List.mem_append, not_or] at hj
      rw [o2 j hj.2, o1 j hj.1]
def tgTup (gs : List T → Ev → Option Ev) : GT := fun d ρ => match d with
  | .tuple ds => gs ds ρ
  | _ => none
/-- the target's length asks a tuple of that length -/
def LenOk (gs : List T → Ev → Option Ev) (n : Nat) : Prop := ∀ ds ρ ρ', gs ds ρ = some ρ' → ds.length = n
theorem lenNil : LenOk tgNil 0 := fun ds ρ ρ' e => by
  unfold tgNil at e
  split at e
  · rfl
  · cases e
theorem lenCons {g : GT} {gs : List T → Ev → Option Ev} {n : Nat} (h : LenOk gs n) : LenOk (tgCons g gs) (n + 1) := fun ds ρ ρ' e => by
  unfold tgCons at e
  split at e
  · simp only [Option.bind_eq_some_iff] at e
    obtain ⟨ρ1, _, e2⟩ := e
    rw [List.length_cons, h _ _ _ e2]
  · cases e
theorem dg_tup {gs : List T → Ev → Option Ev} {n k : Nat} {is : List Nat} (hc : X.calm = true) (h : DGs X pl is es n gs) (hl : LenOk gs n) (hn : (assignEach es X.env).length = n := by rfl) (hst : (assignEach es X.env).findIdx? (·.1) = none := by rfl) : DG X pl is (.Tuple es k pos) (tgTup gs) := by
  obtain ⟨t, pt, rt⟩ := h.run
  refine ⟨(fun d ρ ρ' e j hj => by
    unfold tgTup at e
    split at e
    · exact h.out _ _ _ e j hj
    · cases e), _, pg_tup hc pt hn hst, fun pn σ H ρ v d ρ' Q hp S P r e q => ?_⟩
  unfold tgTup at e
  split at e
  · cases r with
    | @tup a xs _ s l =>
      exact ⟨a, xs, rfl, s.t, by rw [l.length]; exact hl _ _ _ e, rt pn σ H ρ xs _ ρ' Q hp S P l e q⟩
  · cases e
/-! a, b = a tuple (as a statement) -/
def fAsg (g : GT) (f : FE) : FS := fun ρ => (f ρ).bind fun p => match p.1 with
  | .dat d => (g d p.2).map Fl.nx
  | _ => none
theorem ds_asg {tg : Expr} {g : GT} {is : List Nat} (ha : DE X e fa) (hg : DG X pl is tg g) (hs : swapsWithSole [tg] e pos.line X.env = pure false := by rfl) (hw : swappedStores [tg] e X.env = pure none := by rfl)
    (h1 : (assignEach [tg] X.env).map (·.2) = [assign tg X.env] := by rfl) : DS X pl (.Assign [tg] e pos) (fAsg g fa) := by
  obtain ⟨t, pt, rt⟩ := ha.run
  obtain ⟨u, pu, ru⟩ := hg.run
  refine ⟨_, ps_asg pt pu hs hw h1, fun pn σ H ρ o D hp S P e q => ?_⟩
  simp only [fAsg, Option.bind_eq_some_iff] at e
  obtain ⟨⟨h1, ρ1⟩, e1, e2⟩ := e
  refine rt σ H ρ h1 ρ1 _ S e1 fun x H1 g1 S1 k1 r1 => ?_
  cases h1 with
  | dat d =>
    simp only [Option.map_eq_some_iff] at e2
    obtain ⟨ρ2, e3, e4⟩ := e2
    subst e4
    exact ru pn σ H1 ρ1 x d ρ2 _ hp S1 (P.kp k1) r1 e3 fun σ2 g2 S2 P2 _ _ => q σ2 H1 (g1.trans g2) S2 P2
  | tmp c => cases e2
  | plc i => cases e2
/-! x[i] = e -/
def fSetIx (fe fo fi : FE) : FS := fun ρ => (fe ρ).bind fun p => (fo p.2).bind fun q => (fi q.2).bind fun r => match p.1 with
  | .dat t => (lstOf q.1 r.2).bind fun xs => (intOf r.1).bind fun k => (ixN xs.length k).map fun j => .nx (putL q.1 (xs.set j t) r.2)
  | _ => none
theorem ds_setIx {fe fo fi : FE} {o i : Expr} {tpos : Pos} (he : DE X e fe) (ho : DE X o fo) (hi : DE X i fi)
    (hs : swapsWithSole [.Subscript o i tpos] e pos.line X.env = pure false := by rfl) (hw : swappedStores [.Subscript o i tpos] e X.env = pure none := by rfl)
    (h1 : (assignEach [.Subscript o i tpos] X.env).map (·.2) = [assign (.Subscript o i tpos) X.env] := by rfl)
    (hsub : ∀ v, assign (.Subscript o i tpos) X.env v = (do
      let ov ← holding [v] (eval o X.env)
      let iv ← holding [v, ov] (eval i X.env)
      standAt tpos
      holding [v, ov, iv] (setItem ov iv v)
      release [v, ov, iv] []) := by intro _; rfl) : DS X pl (.Assign [.Subscript o i tpos] e pos) (fSetIx fe fo fi) := by
  obtain ⟨t, pt, rt⟩ := he.run
  obtain ⟨u, pu, ru⟩ := ho.run
  obtain ⟨v, pv, rv⟩ := hi.run
  refine ⟨_, ps_asg pt (pg_sub pu pv set_list hsub) hs hw h1, fun pn σ H ρ o D hp S P e q => ?_⟩
  simp only [fSetIx, Option.bind_eq_some_iff] at e
  obtain ⟨⟨h1, ρ1⟩, e1, ⟨h2, ρ2⟩, e2, ⟨h3, ρ3⟩, e3, e4⟩ := e
  refine rt σ H ρ h1 ρ1 _ S e1 fun x H1 g1 S1 k1 r1 => ?_
  refine ru σ H1 ρ1 h2 ρ2 _ S1 e2 fun y H2 g2 S2 k2 r2 => ?_
  refine rv σ H2 ρ2 h3 ρ3 _ S2 e3 fun z H3 g3 S3 k3 r3 => ?_
  cases h1 with
  | tmp c => cases e4
  | plc i => cases e4
  | dat t =>
    simp only [Option.bind_eq_some_iff, Option.map_eq_some_iff] at e4
    obtain ⟨xs, ex, k, ek, j, ej, e5⟩ := e4
    subst e5
    have ek : h3 = _ := intOf_some ek
    subst ek
    cases r3
    have r2' := r2.go g3
    obtain ⟨a, vs, rfl, ha, l⟩ := lstOf_some S3 r2' ex
    refine ⟨a, vs, k, j, rfl, rfl, ha, by rw [l.length]; exact ej, ?_⟩
    have gg := (g1.trans g2).trans g3
    have kk := (k1.trans k2).trans k3
    have rt' : Rp X.K H3 x t := Rp.m (g2.trans g3).tst r1
    have new : RpC X.K (upd H3 a (.lst (vs.set j x))) a (.lst (xs.set j t)) := ⟨_, upd_same, (l.set j rt').m (tst_lst ha)⟩
    cases h2 with
    | dat t => cases ex
    | tmp c =>
      obtain ⟨b, eb, rc, n0, no⟩ := r2'
      cases eb
      refine q σ _ ⟨fun b o hb nb => ?_, gg.own, gg.tst.trans (tst_lst ha), fun b hb => gg.dom b (upd_none hb)⟩ (S3.aside ha no) (P.kp kk)
      have : b ≠ a := by rintro rfl; rw [g1.dom _ n0] at hb; cases hb
      rw [upd_ne this]
      exact gg.keep b o hb nb
    | plc i =>
      have ri : σ[i]? = some (some (V.ref a)) := r2'
      unfold lstOf at ex
      simp only at ex
      split at ex
      · rename_i hx
        cases ex
        exact q σ _ (gg.trans (Go.put S3 hx ri)) (S3.put hx ri new) ((P.kp kk).kp Kp.put)
      · cases ex
/-! x op= e -/
def DIp (X : Cx) (op : Operator) (g : GB) : Prop :=
  ∃ r : TIp, PIp X op r ∧ ∀ (σ : Sto) (H0 H : Hp) (ρ : Ev) (h1 h2 h3 : Hd) (x y : V) (Q : VK), SR X.K H σ ρ → HR X.K H0 H σ ρ h1 x → HR X.K H0 H σ ρ h2 y → g h1 h2 ρ = some h3 →
    (∀ u H', Go X.K σ ρ H σ ρ H' → SR X.K H' σ ρ → HR X.K H H' σ ρ h3 u → Q u H') → r x y H Q
theorem dip_of {op : Operator} {g : GB} (h : DOp X (inplaceOp op) g) : DIp X op g := let ⟨r, o, p⟩ := h; ⟨r, fun pins s σ H x y v u Q I rx ry q => o pins s σ H x y v u Q I rx ry q, p⟩
def fAug (chk : Bool) (i : Nat) (g : GB) (f : FE) : FS := fun ρ => match ρ[i]? with
  | some (some (.dat d)) => (f ρ).bind fun p => (g (.dat d) p.1 p.2).bind fun h => if i < p.2.length then (stH chk i h p.2).map Fl.nx else none
  | _ => none
theorem ds_aug {chk : Bool} {i : Nat} {x : Str} {op : Operator} {g : GB} {pos' : Pos} (hN : X.N.Nodup) (hi : X.N[i]? = some x) (hx : Loc X.env.scope x) (ha : DE X e fa) (ho : DIp X op g) (hc : chk = false → i ∉ pl := by decide) (hf : X.fn x = true ∨ X.env.scope.names.lookup x = some .local := by first | exact .inl rfl | exact .inr rfl | assumption) :
    DS X pl (.AugAssign (.Name x pos') op e pos) (fAug chk i g fa) := by
  obtain ⟨t, pt, rt⟩ := ha.run
  obtain ⟨r, o, ro⟩ := ho
  refine ⟨_, ps_aug hN hi hx pt o hf, fun pn σ H ρ o D hp S P e q => ?_⟩
  unfold fAug at e
  split at e
  · rename_i d hd
    simp only [Option.bind_eq_some_iff] at e
    obtain ⟨⟨h1, ρ1⟩, e1, h3, e2, e3⟩ := e
    split at e3
    · rename_i hl
      simp only [Option.map_eq_some_iff] at e3
      obtain ⟨ρ2, e4, e5⟩ := e3
      subst e5
      obtain ⟨v, ev, rv⟩ := S.dat i d hd
      refine ⟨v, ev, ?_⟩
      refine rt σ H ρ h1 ρ1 _ S e1 fun y H1 g1 S1 k1 r1 => ?_
      refine ro σ H H1 ρ1 (.dat d) h1 h3 v y _ S1 (rv.m g1.tst) r1 e2 fun u H2 g2 S2 r2 => ?_
      obtain ⟨a1, a2, a3⟩ := stH_SR S2 (g1.trans g2) (P.kp k1) hp hc hl (r2.back g1.dom) e4
      exact q _ H2 a2 a1 a3
    · cases e3
  · cases e
theorem dip_addI : DIp X .Add (gI0 fun i j => .int (i + j)) := dip_of (dop_I0 iop_add fun _ _ _ => .int _)
theorem dip_subI : DIp X .Sub gSub := dip_of (dop_I0 iop_sub fun _ _ _ => .int _)
theorem iop_mulM : OpR X (inplaceOp .Mult) (rI MulOk fun i j => .int (i * j)) := opI fun _ _ _ _ _ _ _ hc q => imul_int q hc.ok
theorem dip_mulI : DIp X .Mult (gI MulOk fun i j => .int (i * j)) := dip_of (dop_I iop_mulM fun _ _ _ => .int _)

/-! ### while -/
def fWhN (c : FB) (b : FS) : Nat → Ev → Option Fl
  | 0, _ => none
  | n + 1, ρ => (c ρ).bind fun p => if p.1 = true then (b p.2).bind fun o => match o with
      | .nx ρ' => fWhN c b n ρ'
      | .ct ρ' => fWhN c b n ρ'
      | .bk ρ' => some (.nx ρ')
      | .rt r ρ' => some (.rt r ρ')
    else some (.nx p.2)
open Classical in
noncomputable def fWh (c : FB) (b : FS) : FS := fun ρ => if h : ∃ o n, fWhN c b n ρ = some o then some h.choose else none
theorem fWhN_more {c : FB} {b : FS} : ∀ (n : Nat) (ρ : Ev) (o : Fl), fWhN c b n ρ = some o → fWhN c b (n + 1) ρ = some o
  | 0, _, _, h => by cases h
  | n + 1, ρ, o, h => by
    rw [fWhN] at h ⊢
    simp only [Option.bind_eq_some_iff] at h ⊢
    obtain ⟨p, h1, h2⟩ := h
    refine ⟨p, h1, ?_⟩
    split
    · rename_i hp
      rw [if_pos hp] at h2
      simp only [Option.bind_eq_some_iff] at h2 ⊢
      obtain ⟨o1, h3, h4⟩ := h2
      refine ⟨o1, h3, ?_⟩
      cases o1 with
      | nx ρ' => exact fWhN_more n ρ' o h4
      | ct ρ' => exact fWhN_more n ρ' o h4
      | bk ρ' => exact h4
      | rt r ρ' => exact h4
    · rename_i hp
      rw [if_neg hp] at h2
      exact h2
theorem fWhN_le {c : FB} {b : FS} {ρ : Ev} {o : Fl} {n m : Nat} (h : fWhN c b n ρ = some o) (hm : n ≤ m) : fWhN c b m ρ = some o := by
  induction hm with
  | refl => exact h
  | step _ ih => exact fWhN_more _ _ _ ih
theorem fWh_of {c : FB} {b : FS} {ρ : Ev} {o : Fl} {n : Nat} (h : fWhN c b n ρ = some o) : fWh c b ρ = some o := by
  have hx : ∃ o n, fWhN c b n ρ = some o := ⟨o, n, h⟩
  unfold fWh
  rw [dif_pos hx]
  obtain ⟨m, hm⟩ := hx.choose_spec
  have e1 := fWhN_le hm (Nat.le_max_left m n)
  have e2 := fWhN_le h (Nat.le_max_right m n)
  rw [e1] at e2
  exact e2
theorem of_fWh {c : FB} {b : FS} {ρ : Ev} {o : Fl} (h : fWh c b ρ = some o) : ∃ n, fWhN c b n ρ = some o := by
  unfold fWh at h
  split at h
  · rename_i hx
    cases h
    exact hx.choose_spec
  · cases h
/-- one turn -/
theorem fWh_eq {c : FB} {b : FS} {ρ : Ev} : fWh c b ρ = (c ρ).bind fun p => if p.1 = true then (b p.2).bind fun o => match o with
      | .nx ρ' => fWh c b ρ'
      | .ct ρ' => fWh c b ρ'
      | .bk ρ' => some (.nx ρ')
      | .rt r ρ' => some (.rt r ρ')
    else some (.nx p.2) := by
  apply Option.ext
  intro o
  constructor
  · intro h
    obtain ⟨n, hn⟩ := of_fWh h
    cases n with
    | zero => cases hn
    | succ n =>
      rw [fWhN] at hn
      simp only [Option.bind_eq_some_iff] at hn ⊢
      obtain ⟨p, h1, h2⟩ := hn
      refine ⟨p, h1, ?_⟩
      split
      · rename_i hp
        rw [if_pos hp] at h2
        simp only [Option.bind_eq_some_iff] at h2 ⊢
        obtain ⟨o1, h3, h4⟩ := h2
        refine ⟨o1, h3, ?_⟩
        cases o1 with
        | nx ρ' => exact fWh_of h4
        | ct ρ' => exact fWh_of h4
        | bk ρ' => exact h4
        | rt r ρ' => exact h4
      · rename_i hp
        rw [if_neg hp] at h2
        exact h2
  · intro h
    simp only [Option.bind_eq_some_iff] at h
    obtain ⟨p, h1, h2⟩ := h
    split at h2
    · rename_i hp
      simp only [Option.bind_eq_some_iff] at h2
      obtain ⟨o1, h3, h4⟩ := h2
      cases o1 with
      | nx ρ' =>
        obtain ⟨n, hn⟩ := of_fWh h4
        refine fWh_of (n := n + 1) ?_
        rw [fWhN, h1, Option.bind_some, if_pos hp, h3, Option.bind_some]
        exact hn
      | ct ρ' =>
        obtain ⟨n, hn⟩ := of_fWh h4
        refine fWh_of (n := n + 1) ?_
        rw [fWhN, h1, Option.bind_some, if_pos hp, h3, Option.bind_some]
        exact hn
      | bk ρ' =>
        refine fWh_of (n := 1) ?_
        rw [fWhN, h1, Option.bind_some, if_pos hp, h3, Option.bind_some]
        exact h4
      | rt r ρ' =>
        refine fWh_of (n := 1) ?_
        rw [fWhN, h1, Option.bind_some, if_pos hp, h3, Option.bind_some]
        exact h4
    · rename_i hp
      refine fWh_of (n := 1) ?_
      rw [fWhN, h1, Option.bind_some, if_neg hp]
      exact h2
theorem ds_while {fb : FB} {body : List Stmt} (hpo : PassesOwn (model X.prog X.w) X.A X.env X.xe) (hc : DT X c fb) (hb : DSs X pl body f) : DS X pl (.While c body [] pos) (fWh fb f) := by
  obtain ⟨t, pt, rt⟩ := hc.run
  obtain ⟨u, pu, ru⟩ := hb.run
  refine ⟨_, ps_while hpo pt pu, fun pn σ H ρ o D hp S P e q => ?_⟩
  obtain ⟨n, hn⟩ := of_fWh e
  refine ⟨fun m σ' H' => ∃ ρ', Go X.K σ ρ H σ' ρ' H' ∧ SR X.K H' σ' ρ' ∧ Pin pn σ' ρ' ∧ fWhN fb f m ρ' = some o, ⟨n, ρ, .refl, S, P, hn⟩, ?_⟩
  rintro m σ1 H1 ⟨ρ1, g1, S1, P1, h1⟩
  cases m with
  | zero => cases h1
  | succ m =>
    rw [fWhN] at h1
    simp only [Option.bind_eq_some_iff] at h1
    obtain ⟨⟨bb, ρ2⟩, e1, e2⟩ := h1
    refine rt σ1 H1 ρ1 bb ρ2 _ S1 e1 fun H2 g2 S2 k2 => ?_
    cases bb with
    | true =>
      simp only [if_true, Option.bind_eq_some_iff] at e2 ⊢
      obtain ⟨o1, e3, e4⟩ := e2
      refine ⟨fun σ' H' => ∃ ρ', Go X.K σ ρ H σ' ρ' H' ∧ SR X.K H' σ' ρ' ∧ Pin pn σ' ρ' ∧ fWhN fb f m ρ' = some o, fun σ' H' h => ⟨m, Nat.lt_succ_self m, h⟩, ?_⟩
      have gg := g1.trans g2
      refine ru pn σ1 H2 ρ2 o1 _ hp S2 (P1.kp k2) e3 ?_
      cases o1 with
      | nx ρ3 => exact fun σ3 H3 g3 S3 P3 => ⟨ρ3, gg.trans g3, S3, P3, e4⟩
      | ct ρ3 => exact fun σ3 H3 g3 S3 P3 => ⟨ρ3, gg.trans g3, S3, P3, e4⟩
      | bk ρ3 =>
        cases e4
        exact fun σ3 H3 g3 S3 P3 => q σ3 H3 (gg.trans g3) S3 P3
      | rt r ρ3 =>
        cases e4
        exact fun u σ3 H3 g3 S3 P3 r3 => q u σ3 H3 (gg.trans g3) S3 P3 (r3.from gg)
    | false =>
      cases e2
      exact q σ1 H2 (g1.trans g2) S2 (P1.kp k2)
end
end PD

namespace PD
open PySem PySem.Spec PyProof.Rows L2
/-! ### what a loop walks -/
/-- the iterator walks these items, as long as (Ok) what it walks reads as them -/
inductive ItOk (K : PySem.W.Frag) (ts : List T) : It → (Hp → Prop) → Prop
  | lst (a : Addr) : ItOk K ts (Itl K a) (fun H => ∃ vs, SqL K H a vs ∧ RpL K H vs ts)
  | tup (a : Addr) : ItOk K ts (Itt K a) (fun H => ∃ vs, SqT K H a vs ∧ RpL K H vs ts)
  | rng (lo : Int) (n : Nat) : (ts = (List.range n).map fun i => PyData.int (lo + (i : Nat))) → ItOk K ts (Itr lo n) (fun _ => True)
  | rngC (lo c : Int) (n : Nat) : (ts = (List.range n).map fun i => PyData.int (lo + (i : Nat) * c)) → ItOk K ts (Itc lo c n) (fun _ => True)
section
variable {K : PySem.W.Frag} {ts : List T} {J : It} {Ok : Hp → Prop} {H : Hp}
theorem ItOk.go (h : ItOk K ts J Ok) (o : Ok H) {i : Nat} {x : T} (e : ts[i]? = some x) : J.go i H := by
  cases h with
  | lst a => obtain ⟨vs, s, l⟩ := o; obtain ⟨v, ev, _⟩ := l.get e; exact ⟨vs, v, s, ev⟩
  | tup a => obtain ⟨vs, s, l⟩ := o; obtain ⟨v, ev, _⟩ := l.get e; exact ⟨vs, v, s, ev⟩
  | rng lo n et =>
    subst et
    have := (List.getElem?_eq_some_iff.mp e).1
    rw [List.length_map, List.length_range] at this
    exact this
  | rngC lo c n et =>
    subst et
    have := (List.getElem?_eq_some_iff.mp e).1
    rw [List.length_map, List.length_range] at this
    exact this
theorem ItOk.stop (h : ItOk K ts J Ok) (o : Ok H) {i : Nat} (e : ts.length ≤ i) : J.stop i H := by
  cases h with
  | lst a => obtain ⟨vs, s, l⟩ := o; exact ⟨vs, s, by rw [l.length]; exact e⟩
  | tup a => obtain ⟨vs, s, l⟩ := o; exact ⟨vs, s, by rw [l.length]; exact e⟩
  | rng lo n et =>
    subst et
    rw [List.length_map, List.length_range] at e
    exact e
  | rngC lo c n et =>
    subst et
    rw [List.length_map, List.length_range] at e
    exact e
theorem ItOk.yld (h : ItOk K ts J Ok) (o : Ok H) {i : Nat} {x : T} (e : ts[i]? = some x) {v : V} {H' : Hp} (y : J.yld i H v H') : H' = H ∧ Rp K H v x := by
  cases h with
  | lst a =>
    obtain ⟨vs, s, l⟩ := o
    obtain ⟨v', ev, r⟩ := l.get e
    obtain ⟨e1, e2⟩ := y
    have := e2 vs s
    rw [ev] at this; cases this
    exact ⟨e1, r⟩
  | tup a =>
    obtain ⟨vs, s, l⟩ := o
    obtain ⟨v', ev, r⟩ := l.get e
    obtain ⟨e1, e2⟩ := y
    have := e2 vs s
    rw [ev] at this; cases this
    exact ⟨e1, r⟩
  | rng lo n et =>
    obtain ⟨e1, e2⟩ := y
    refine ⟨e1, ?_⟩
    subst et e2
    have hi := (List.getElem?_eq_some_iff.mp e).1
    rw [List.length_map, List.length_range] at hi
    rw [List.getElem?_map, List.getElem?_range hi] at e
    cases e
    exact .int _
  | rngC lo c n et =>
    obtain ⟨e1, e2⟩ := y
    refine ⟨e1, ?_⟩
    subst et e2
    have hi := (List.getElem?_eq_some_iff.mp e).1
    rw [List.length_map, List.length_range] at hi
    rw [List.getElem?_map, List.getElem?_range hi] at e
    cases e
    exact .int _
end
/-- what is walked: the items; the place of the list that must stay as it is -/
abbrev FI := Ev → Option (List T × Option Nat × Ev)
/-- what keeps the walked thing as it is -/
def ItSt (σ : Sto) (ρ : Ev) (ts : List T) : Option Nat → Prop
  | none => True
  | some i => ρ[i]? = some (some (.obj (.lst ts)))
structure DI (X : Cx) (tg it : Expr) (f : FI) : Prop where
  run : ∃ wi : TI, PI X tg it wi ∧ ∀ (σ : Sto) (H : Hp) (ρ : Ev) (ts : List T) (lp : Option Nat) (ρ' : Ev) (R : It → Hp → Prop), SR X.K H σ ρ → f ρ = some (ts, lp, ρ') →
    (∀ J H' Ok, Go X.K σ ρ H σ ρ' H' → SR X.K H' σ ρ' → Kp ρ ρ' → ItOk X.K ts J Ok → (∀ i, lp = some i → ρ'[i]? = some (some (.obj (.lst ts)))) →
      -- it stays as it is: at any later heap that keeps what is not owned, where the place's object stands as it was
      (∀ H'', (∀ a o, H' a = some o → ¬ Own σ ρ' a → H'' a = some o) → TSt X.K H' H'' → (∀ i, lp = some i → ∀ a, σ[i]? = some (some (.ref a)) → RpC X.K H'' a (.lst ts)) → Ok H'') → R J H') → wi σ H R
section
variable {X : Cx} {tg e a b : Expr} {fa fb : FE} {pos : Pos}
def itOf (h : Hd) (ρ : Ev) : Option (List T × Option Nat) := match h with
  | .dat (.tuple ts) => some (ts, none)
  | .dat _ => none
  | .tmp (.lst ts) => some (ts, none)
  | .plc i => match ρ[i]? with
    | some (some (.obj (.lst ts))) => some (ts, some i)
    | some (some (.rol ts)) => some (ts, none)
    | _ => none
def fItE (f : FE) : FI := fun ρ => (f ρ).bind fun p => (itOf p.1 p.2).map fun q => (q.1, q.2, p.2)
theorem di_e (ha : DE X e fa) : DI X tg e (fItE fa) := by
  obtain ⟨t, pt, rt⟩ := ha.run
  refine ⟨fun σ H R => iList X.K t σ H R ∨ iTup X.K t σ H R, ⟨fun pins s σ H R I h => h.elim ((pi_list pt).run pins s σ H R I) ((pi_tup pt).run pins s σ H R I)⟩, fun σ H ρ ts lp ρ' R S e q => ?_⟩
  simp only [fItE, Option.bind_eq_some_iff, Option.map_eq_some_iff] at e
  obtain ⟨⟨h1, ρ1⟩, e1, ⟨ts1, lp1⟩, e2, e3⟩ := e
  cases e3
  cases h1 with
  | dat d =>
    unfold itOf at e2
    simp only at e2
    split at e2
    · rename_i us hd
      cases hd
      cases e2
      refine .inr (rt σ H ρ _ _ _ S e1 fun x H1 g1 S1 k1 r1 => ?_)
      cases r1 with
      | @tup a vs _ s l =>
        refine ⟨a, rfl, ⟨vs, s.t⟩, q _ H1 _ g1 S1 k1 (.tup a) (fun i z => nomatch z) fun H'' _ tst _ => ⟨vs, (tst _ _ s).t, l.m tst⟩⟩
    · cases e2
    · rename_i hd; cases hd
    · rename_i hd; cases hd
  | tmp c =>
    cases c with
    | lst us =>
      cases e2
      refine .inl (rt σ H ρ _ _ _ S e1 fun x H1 g1 S1 k1 r1 => ?_)
      obtain ⟨a, rfl, ⟨vs, ea, l⟩, n0, no⟩ := r1
      exact ⟨a, rfl, ⟨vs, .inl (.inl ea)⟩, q _ H1 _ g1 S1 k1 (.lst a) (fun i z => nomatch z) fun H'' keep tst _ => ⟨vs, .inl (.inl (keep a _ ea no)), l.m tst⟩⟩
  | plc i =>
    unfold itOf at e2
    simp only at e2
    split at e2
    · rename_i us hx
      cases e2
      refine .inl (rt σ H ρ _ _ _ S e1 fun x H1 g1 S1 k1 r1 => ?_)
      have r1 : σ[i]? = some (some x) := r1
      obtain ⟨a, ea, rc⟩ := S1.obj i _ hx
      rw [r1] at ea; cases ea
      obtain ⟨vs, q1, l⟩ := rc.sq
      refine ⟨a, rfl, ⟨vs, q1⟩, q _ H1 _ g1 S1 k1 (.lst a) (fun j z => by cases z; exact hx) fun H'' _ tst pl => ?_⟩
      obtain ⟨ws, q2, l2⟩ := (pl i rfl a r1).sq
      exact ⟨ws, q2, l2⟩
    · rename_i us hx
      cases e2
      refine .inl (rt σ H ρ _ _ _ S e1 fun x H1 g1 S1 k1 r1 => ?_)
      have r1 : σ[i]? = some (some x) := r1
      obtain ⟨a, ea, ro⟩ := S1.rol i _ hx
      rw [r1] at ea; cases ea
      obtain ⟨vs, q1, l⟩ := ro.sq
      refine ⟨a, rfl, ⟨vs, q1⟩, q _ H1 _ g1 S1 k1 (.lst a) (fun j z => nomatch z) fun H'' keep tst _ => ?_⟩
      have ro2 : RoL X.K H'' a ts1 := by
        obtain ⟨vs, h, r⟩ := ro
        refine ⟨vs, ?_, r.m tst⟩
        rcases h with ⟨o, h⟩ | h
        · refine .inl ⟨o, keep a _ h fun ho => ?_⟩
          obtain ⟨ws, z⟩ := S1.own_some ho
          rw [h] at z; cases z
        · exact .inr h
      obtain ⟨ws, q2, l2⟩ := ro2.sq
      exact ⟨ws, q2, l2⟩
    · cases e2
noncomputable def fItR1 (f : FE) : FI := fun ρ => (f ρ).bind fun p => (intOf p.1).bind fun n => (guardP (-(2 ^ 62) ≤ n ∧ n < 2 ^ 62)).map fun _ => ((List.range n.toNat).map fun i => PyData.int (0 + (i : Nat)), none, p.2)
noncomputable def fItR2 (f g : FE) : FI := fun ρ => (f ρ).bind fun p => (intOf p.1).bind fun i => (g p.2).bind fun q => (intOf q.1).bind fun j => (guardP (-(2 ^ 62) ≤ i ∧ i < 2 ^ 62 ∧ -(2 ^ 62) ≤ j ∧ j < 2 ^ 62)).map fun _ => ((List.range (j - i).toNat).map fun k => PyData.int (i + (k : Nat)), none, q.2)
theorem di_r1 {p : Pos} (hg : Gl X "range") (hm : X.mg "range" = none) (ha : DE X a fa) (hs : starEach [a] X.env = (false, eval a X.env) :: starEach [] X.env := by rfl) : DI X tg (.Call (.Name "range" p) [a] [] pos) (fItR1 fa) := by
  obtain ⟨t, pt, rt⟩ := ha.run
  refine ⟨_, pi_range1 hg hm (pa_cons pt pa_nil hs) hs, fun σ H ρ ts lp ρ' R S e q => ?_⟩
  simp only [fItR1, Option.bind_eq_some_iff, Option.map_eq_some_iff, guardP_some] at e
  obtain ⟨⟨h1, ρ1⟩, e1, n, e2, _, ⟨b1, b2⟩, e3⟩ := e
  cases e3
  have e2 : h1 = _ := intOf_some e2
  subst e2
  refine rt σ H ρ _ _ _ S e1 fun x H1 g1 S1 k1 r1 => ?_
  cases r1
  exact ⟨n, rfl, b1, b2, q _ H1 _ g1 S1 k1 (.rng 0 n.toNat rfl) (fun i z => nomatch z) fun _ _ _ _ => trivial⟩
theorem di_r2 {p : Pos} (hg : Gl X "range") (hm : X.mg "range" = none) (ha : DE X a fa) (hb : DE X b fb) (hs : starEach [a, b] X.env = (false, eval a X.env) :: starEach [b] X.env := by rfl) (hs2 : starEach [b] X.env = (false, eval b X.env) :: starEach [] X.env := by rfl) :
    DI X tg (.Call (.Name "range" p) [a, b] [] pos) (fItR2 fa fb) := by
  obtain ⟨t, pt, rt⟩ := ha.run
  obtain ⟨u, pu, ru⟩ := hb.run
  refine ⟨_, pi_range2 hg hm (pa_cons pt (pa_cons pu pa_nil hs2) hs) (by rw [hs, hs2]; rfl) hs2, fun σ H ρ ts lp ρ' R S e q => ?_⟩
  simp only [fItR2, Option.bind_eq_some_iff, Option.map_eq_some_iff, guardP_some] at e
  obtain ⟨⟨h1, ρ1⟩, e1, i, e2, ⟨h2, ρ2⟩, e4, j, e5, _, ⟨b1, b2, b3, b4⟩, e3⟩ := e
  cases e3
  have e2 : h1 = _ := intOf_some e2
  have e5 : h2 = _ := intOf_some e5
  subst e2 e5
  refine rt σ H ρ _ _ _ S e1 fun x H1 g1 S1 k1 r1 => ?_
  refine ru σ H1 ρ1 _ _ _ S1 e4 fun y H2 g2 S2 k2 r2 => ?_
  cases r1
  cases r2
  exact ⟨i, j, rfl, ⟨b1, b2, b3, b4⟩, q _ H2 _ (g1.trans g2) S2 (k1.trans k2) (.rng i (j - i).toNat rfl) (fun i z => nomatch z) fun _ _ _ _ => trivial⟩
end

noncomputable def fItR3 (f g h : FE) : FI := fun ρ => (f ρ).bind fun p => (intOf p.1).bind fun i => (g p.2).bind fun q => (intOf q.1).bind fun j => (h q.2).bind fun r => (intOf r.1).bind fun c => (guardP (RgC i j c (Builtin.Range.rangeSize i j c).toNat)).map fun _ => ((List.range (Builtin.Range.rangeSize i j c).toNat).map fun k => PyData.int (i + (k : Nat) * c), none, r.2)
section
variable {X : Cx} {tg a b c : Expr} {fa fb fc : FE} {pos : Pos}
theorem di_r3 {p : Pos} (hg : Gl X "range") (hm : X.mg "range" = none) (ha : DE X a fa) (hb : DE X b fb) (hc : DE X c fc) (hs : starEach [a, b, c] X.env = (false, eval a X.env) :: starEach [b, c] X.env := by rfl)
    (hs2 : starEach [b, c] X.env = (false, eval b X.env) :: starEach [c] X.env := by rfl) (hs3 : starEach [c] X.env = (false, eval c X.env) :: starEach [] X.env := by rfl) :
    DI X tg (.Call (.Name "range" p) [a, b, c] [] pos) (fItR3 fa fb fc) := by
  obtain ⟨t, pt, rt⟩ := ha.run
  obtain ⟨u, pu, ru⟩ := hb.run
  obtain ⟨v, pv, rv⟩ := hc.run
  refine ⟨_, pi_range3 hg hm (pa_cons pt (pa_cons pu (pa_cons pv pa_nil hs3) hs2) hs) hs (by rw [hs2, hs3]; rfl), fun σ H ρ ts lp ρ' R S e q => ?_⟩
  simp only [fItR3, Option.bind_eq_some_iff, Option.map_eq_some_iff, guardP_some] at e
  obtain ⟨⟨h1, ρ1⟩, e1, i, e2, ⟨h2, ρ2⟩, e4, j, e5, ⟨h3, ρ3⟩, e6, c, e7, _, hC, e3⟩ := e
  cases e3
  have e2 : h1 = _ := intOf_some e2
  have e5 : h2 = _ := intOf_some e5
  have e7 : h3 = _ := intOf_some e7
  subst e2 e5 e7
  refine rt σ H ρ _ _ _ S e1 fun x H1 g1 S1 k1 r1 => ?_
  refine ru σ H1 ρ1 _ _ _ S1 e4 fun y H2 g2 S2 k2 r2 => ?_
  refine rv σ H2 ρ2 _ _ _ S2 e6 fun z H3 g3 S3 k3 r3 => ?_
  cases r1
  cases r2
  cases r3
  exact ⟨i, j, c, _, rfl, hC, q _ H3 _ ((g1.trans g2).trans g3) S3 ((k1.trans k2).trans k3) (.rngC i c _ rfl) (fun i z => nomatch z) fun _ _ _ _ => trivial⟩
end
theorem RRs.sub {K : PySem.W.Frag} {pn pn2 : List (Nat × Addr)} {σ : Sto} {ρ : Ev} {H H' : Hp} {r : Sl} {u : V} (r3 : RRs K pn2 σ ρ H H' r u) (sub : ∀ p ∈ pn, p ∈ pn2) : RRs K pn σ ρ H H' r u := by
  cases r with
  | dat t => exact r3
  | rol xs => exact r3
  | obj c => obtain ⟨a, e, rc, o, n⟩ := r3; exact ⟨a, e, rc, o, fun p hp => n p (sub p hp)⟩
/-! ### for -/
/-- the place of the walked list holds it still -/
def ckOf (ts : List T) : Option Nat → Ev → Prop
  | none, _ => True
  | some i, ρ => ρ[i]? = some (some (.obj (.lst ts)))
noncomputable def fForL (ck : Ev → Prop) (g : GT) (b : FS) : List T → Ev → Option Fl
  | [], ρ => (guardP (ck ρ)).map fun _ => .nx ρ
  | x :: xs, ρ => (guardP (ck ρ)).bind fun _ => (g x ρ).bind fun ρ1 => (b ρ1).bind fun o => match o with
    | .nx ρ2 => fForL ck g b xs ρ2
    | .ct ρ2 => fForL ck g b xs ρ2
    | .bk ρ2 => some (.nx ρ2)
    | .rt r ρ2 => some (.rt r ρ2)
noncomputable def fFor (it : FI) (g : GT) (b : FS) : FS := fun ρ => (it ρ).bind fun p => fForL (ckOf p.1 p.2.1) g b p.1 p.2.2
section
variable {X : Cx} {pl pl2 is : List Nat} {tg iter : Expr} {it : FI} {g : GT} {f : FS} {body : List Stmt} {pos : Pos}
theorem ds_for (hpo : PassesOwn (model X.prog X.w) X.A X.env X.xe) (hc : X.calm = true) (hi : DI X tg iter it) (hg : DG X pl2 is tg g) (hb : DSs X pl2 body f) (hpl : ∀ i ∈ pl, i ∈ pl2) (hlive : ∀ ρ ts i ρ', it ρ = some (ts, some i, ρ') → i ∈ pl2)
    (hs : ∀ x, foldedSetIterable iter X.env x = pure x := by intro _; rfl) : DS X pl (.For tg iter body [] pos) (fFor it g f) := by
  obtain ⟨wi, pi, ri⟩ := hi.run
  obtain ⟨t, pt, rt⟩ := hg.run
  obtain ⟨u, pu, ru⟩ := hb.run
  refine ⟨_, ps_for hpo hc pi pt pu hs, fun pn σ H ρ o D hp S P e q => ?_⟩
  simp only [fFor, Option.bind_eq_some_iff] at e
  obtain ⟨⟨ts, lp, ρ0⟩, e0, e⟩ := e
  refine ri σ H ρ ts lp ρ0 _ S e0 fun J H0 Ok g0 S0 k0 ok hlp stay => ?_
  have P0 := P.kp k0
  -- the pins of the loop
  obtain ⟨pn2, hp2, P2, sub, pinned⟩ : ∃ pn2 : List (Nat × Addr), (∀ p ∈ pn2, p.1 ∈ pl2) ∧ Pin pn2 σ ρ0 ∧ (∀ p ∈ pn, p ∈ pn2) ∧ (∀ i, lp = some i → ∃ a, σ[i]? = some (some (.ref a)) ∧ (i, a) ∈ pn2) := by
    cases lp with
    | none => exact ⟨pn, fun p h => hpl _ (hp p h), P0, fun _ h => h, fun i z => nomatch z⟩
    | some i =>
      obtain ⟨a, ea, _⟩ := S0.obj i _ (hlp i rfl)
      refine ⟨(i, a) :: pn, fun p h => ?_, fun p h => ?_, fun p h => List.mem_cons_of_mem _ h, fun j z => by cases z; exact ⟨a, ea, List.mem_cons_self⟩⟩
      · rcases List.mem_cons.mp h with e | h
        · subst e; exact hlive _ _ _ _ e0
        · exact hpl _ (hp p h)
      · rcases List.mem_cons.mp h with e | h
        · subst e; exact ⟨ea, _, hlp i rfl⟩
        · exact P0 p h
  have back : ∀ {σ' : Sto} {ρ' : Ev}, Pin pn2 σ' ρ' → Pin pn σ' ρ' := fun h p hp => h p (sub p hp)
  refine ⟨fun i m σ' H' => ∃ ρ', Go X.K σ ρ0 H0 σ' ρ' H' ∧ SR X.K H' σ' ρ' ∧ Pin pn2 σ' ρ' ∧ fForL (ckOf ts lp) g f (ts.drop i) ρ' = some o ∧ m = ts.length - i, ⟨ts.length, ρ0, .refl, S0, P2, by simpa using e, by simp⟩, ?_⟩
  rintro i m σ1 H1 ⟨ρ1, g1, S1, P1, h1, hm⟩
  have okH : ckOf ts lp ρ1 → Ok H1 := fun ck => by
    refine stay H1 (fun a o h n => g1.keep a o h n) g1.tst fun j hj a ha => ?_
    subst hj
    obtain ⟨b, hb, hm⟩ := pinned j rfl
    rw [ha] at hb; cases hb
    obtain ⟨hσ, _⟩ := P1 _ hm
    have ck : ρ1[j]? = some (some (.obj (.lst ts))) := ck
    obtain ⟨b, eb, rc⟩ := S1.obj j _ ck
    have hσ : σ1[j]? = some (some (.ref a)) := hσ
    rw [hσ] at eb; cases eb
    exact rc
  by_cases hi : i < ts.length
  · have ei : ts[i]? = some ts[i] := List.getElem?_eq_getElem hi
    rw [List.drop_eq_getElem_cons hi, fForL] at h1
    simp only [Option.bind_eq_some_iff, guardP_some] at h1
    obtain ⟨_, ck, ρ2, e2, o1, e3, e4⟩ := h1
    refine .inr ⟨ok.go (okH ck) ei, fun σ' H' => ∃ ρ', Go X.K σ ρ0 H0 σ' ρ' H' ∧ SR X.K H' σ' ρ' ∧ Pin pn2 σ' ρ' ∧ fForL (ckOf ts lp) g f (ts.drop (i + 1)) ρ' = some o, fun σ' H' ⟨ρ', a1, a2, a3, a4⟩ => ⟨ts.length - (i + 1), by omega, ρ', a1, a2, a3, a4, rfl⟩, fun x H' y => ?_⟩
    obtain ⟨rfl, rx⟩ := ok.yld (okH ck) ei y
    refine rt pn2 σ1 _ ρ1 x ts[i] ρ2 _ hp2 S1 P1 rx e2 fun σ2 g2 S2 P2' l2 _ => ?_
    have gg := g1.trans g2
    refine ru pn2 σ2 _ ρ2 o1 _ hp2 S2 P2' e3 ?_
    cases o1 with
    | nx ρ3 => exact fun σ3 H3 g3 S3 P3 => ⟨ρ3, gg.trans g3, S3, P3, e4⟩
    | ct ρ3 => exact fun σ3 H3 g3 S3 P3 => ⟨ρ3, gg.trans g3, S3, P3, e4⟩
    | bk ρ3 =>
      cases e4
      exact fun σ3 H3 g3 S3 P3 => q σ3 H3 (g0.trans (gg.trans g3)) S3 (back P3)
    | rt r ρ3 =>
      cases e4
      refine fun u σ3 H3 g3 S3 P3 r3 => q u σ3 H3 (g0.trans (gg.trans g3)) S3 (back P3) ?_
      exact ((r3.sub sub).from gg).from g0
  · have ed : ts.drop i = [] := List.drop_eq_nil_of_le (by omega)
    rw [ed, fForL] at h1
    simp only [Option.map_eq_some_iff, guardP_some] at h1
    obtain ⟨_, ck, e2⟩ := h1
    subst e2
    exact .inl ⟨ok.stop (okH ck) (by omega), q σ1 H1 (g0.trans g1) S1 (back P1)⟩
end
end PD

namespace PD
open PySem PySem.Spec PyProof.Rows L2

/-! ### one reading for all the states in which a comprehension's block may run -/
section
variable {X : Cx} {scope : Scope} {e tg iter : Expr}
abbrev Blk (X : Cx) (scope : Scope) (s : Shared) (H : Hp) (C : Addr) (cl : List (Str × Addr)) (fp : List Addr) : Cx := X.blk s H scope (compEnvC scope cl C X.env) fp
theorem de_unif {f : FE} (h : ∀ s H C cl fp, DE (Blk X scope s H C cl fp) e f) : ∃ t : TE, (∀ s H C cl fp, PE (Blk X scope s H C cl fp) e t) ∧ ∀ (σ : Sto) (H : Hp) (ρ : Ev) (h : Hd) (ρ' : Ev) (Q : VK), SR X.K H σ ρ → f ρ = some (h, ρ') →
    (∀ u H', Go X.K σ ρ H σ ρ' H' → SR X.K H' σ ρ' → Kp ρ ρ' → HR X.K H H' σ ρ' h u → Q u H') → t σ H Q := by
  refine ⟨fun σ H Q => ∀ s' H' C cl fp, (h s' H' C cl fp).run.choose σ H Q, fun s' H' C cl fp => ⟨fun pins s σ H Q I ht => (h s' H' C cl fp).run.choose_spec.1.run pins s σ H Q I (ht s' H' C cl fp)⟩, fun σ H ρ hd ρ' Q S e q s' H' C cl fp => ?_⟩
  exact (h s' H' C cl fp).run.choose_spec.2 σ H ρ hd ρ' Q S e q
/-- a clause's tests -/
structure DTs (X : Cx) (ifs : List Expr) (f : FB) : Prop where
  run : ∃ t : TT, PTs X ifs t ∧ ∀ (σ : Sto) (H : Hp) (ρ : Ev) (b : Bool) (ρ' : Ev) (Q : Bool → Hp → Prop), SR X.K H σ ρ → f ρ = some (b, ρ') →
    (∀ H', Go X.K σ ρ H σ ρ' H' → SR X.K H' σ ρ' → Kp ρ ρ' → Q b H') → t σ H Q
def fYes : FB := fun ρ => some (true, ρ)
theorem dts_nil : DTs X [] fYes := by
  refine ⟨_, pts_nil, fun σ H ρ b ρ' Q S e q => ?_⟩
  cases e
  exact q H .refl S .refl
theorem dts_one {c : Expr} {f : FB} (h : DT X c f) : DTs X [c] f := let ⟨t, p, r⟩ := h.run; ⟨t, pts_one p, r⟩
theorem dts_unif {ifs : List Expr} {f : FB} (h : ∀ s H C cl fp, DTs (Blk X scope s H C cl fp) ifs f) : ∃ t : TT, (∀ s H C cl fp, PTs (Blk X scope s H C cl fp) ifs t) ∧ ∀ (σ : Sto) (H : Hp) (ρ : Ev) (b : Bool) (ρ' : Ev) (Q : Bool → Hp → Prop), SR X.K H σ ρ → f ρ = some (b, ρ') →
    (∀ H', Go X.K σ ρ H σ ρ' H' → SR X.K H' σ ρ' → Kp ρ ρ' → Q b H') → t σ H Q := by
  refine ⟨fun σ H Q => ∀ s' H' C cl fp, (h s' H' C cl fp).run.choose σ H Q, fun s' H' C cl fp => ⟨fun pins s σ H Q I ht => (h s' H' C cl fp).run.choose_spec.1.run pins s σ H Q I (ht s' H' C cl fp)⟩, fun σ H ρ hd ρ' Q S e q s' H' C cl fp => ?_⟩
  exact (h s' H' C cl fp).run.choose_spec.2 σ H ρ hd ρ' Q S e q
theorem dg_unif {is : List Nat} {g : GT} (h : ∀ s H C cl fp, DG (Blk X scope s H C cl fp) [] is tg g) : ∃ t : TG, (∀ s H C cl fp, PG (Blk X scope s H C cl fp) tg t) ∧ ∀ (σ : Sto) (H : Hp) (ρ : Ev) (v : V) (d : T) (ρ' : Ev) (Q : L2.St → Hp → Prop), SR X.K H σ ρ → Rp X.K H v d → g d ρ = some ρ' →
    (∀ σ', Go X.K σ ρ H σ' ρ' H → SR X.K H σ' ρ' → σ'.length = σ.length → (∀ (j : Nat), j ∉ is → σ'[j]? = σ[j]?) → Q σ' H) → t v σ H Q := by
  refine ⟨fun v σ H Q => ∀ s' H' C cl fp, (h s' H' C cl fp).run.choose v σ H Q, fun s' H' C cl fp => ⟨fun pins s σ H v u Q I r ht => (h s' H' C cl fp).run.choose_spec.1.run pins s σ H v u Q I r (ht s' H' C cl fp)⟩, fun σ H ρ v d ρ' Q S r e q s' H' C cl fp => ?_⟩
  exact (h s' H' C cl fp).run.choose_spec.2 [] σ H ρ v d ρ' Q (fun p hp => by cases hp) S (fun p hp => by cases hp) r e fun σ' g S' _ l o => q σ' g S' l o
end

/-! ### slots forgotten, slots taken up again -/
def wipeE (ρ : Ev) : List Nat → Ev
  | [] => ρ
  | v :: vs => (wipeE ρ vs).set v none
theorem wipeE_len (ρ : Ev) : ∀ vs : List Nat, (wipeE ρ vs).length = ρ.length
  | [] => rfl
  | v :: vs => by rw [wipeE, List.length_set, wipeE_len ρ vs]
theorem wipeE_out {ρ : Ev} {j : Nat} : ∀ {vs : List Nat}, j ∉ vs → (wipeE ρ vs)[j]? = ρ[j]?
  | [], _ => rfl
  | v :: vs, h => by
    simp only [List.mem_cons, not_or] at h
    rw [wipeE, List.getElem?_set_ne (Ne.symm h.1), wipeE_out h.2]
theorem wipeE_in {ρ : Ev} {j : Nat} : ∀ {vs : List Nat}, j ∈ vs → ∀ s, (wipeE ρ vs)[j]? ≠ some (some s)
  | v :: vs, h, s, e => by
    rw [wipeE] at e
    by_cases hj : v = j
    · subst hj
      by_cases hl : v < (wipeE ρ vs).length
      · rw [List.getElem?_set_self hl] at e; cases e
      · rw [List.getElem?_eq_none (by rw [List.length_set]; omega)] at e; cases e
    · rw [List.getElem?_set_ne hj] at e
      rcases List.mem_cons.mp h with z | z
      · exact hj z.symm
      · exact wipeE_in z s e
theorem wipe_out {σ : Sto} {j : Nat} : ∀ {vs : List Nat}, j ∉ vs → (wipe σ vs)[j]? = σ[j]?
  | [], _ => rfl
  | v :: vs, h => by
    simp only [List.mem_cons, not_or] at h
    rw [wipe, List.getElem?_set_ne (Ne.symm h.1), wipe_out h.2]
theorem wipe_same {σ σ' : Sto} {vs is : List Nat} (hl : σ'.length = σ.length) (o : ∀ (j : Nat), j ∉ is → σ'[j]? = σ[j]?) (hs : ∀ j ∈ is, j ∈ vs) : wipe σ' vs = wipe σ vs := by
  apply List.ext_getElem?
  intro j
  by_cases h : j ∈ vs
  · have z : ∀ (τ : Sto) (vs : List Nat), j ∈ vs → (wipe τ vs)[j]? = if j < τ.length then some none else none := by
      intro τ vs
      induction vs with
      | nil => intro h; cases h
      | cons v vs ih =>
        intro h
        rw [wipe]
        by_cases hj : v = j
        · subst hj
          by_cases hl : v < τ.length
          · rw [List.getElem?_set_self (by rw [wipe_length]; exact hl), if_pos hl]
          · rw [List.getElem?_eq_none (by rw [List.length_set, wipe_length]; omega), if_neg hl]
        · rw [List.getElem?_set_ne hj]
          exact ih ((List.mem_cons.mp h).resolve_left (Ne.symm hj))
    rw [z σ' vs h, z σ vs h, hl]
  · rw [wipe_out h, wipe_out h, o j fun z => h (hs j z)]
def backE (ρ1 ρ' : Ev) : List Nat → Ev
  | [] => ρ'
  | v :: vs => (backE ρ1 ρ' vs).set v ((ρ1[v]?).getD none)
theorem backE_len (ρ1 ρ' : Ev) : ∀ vs : List Nat, (backE ρ1 ρ' vs).length = ρ'.length
  | [] => rfl
  | v :: vs => by rw [backE, List.length_set, backE_len ρ1 ρ' vs]
theorem backE_out {ρ1 ρ' : Ev} {j : Nat} : ∀ {vs : List Nat}, j ∉ vs → (backE ρ1 ρ' vs)[j]? = ρ'[j]?
  | [], _ => rfl
  | v :: vs, h => by
    simp only [List.mem_cons, not_or] at h
    rw [backE, List.getElem?_set_ne (Ne.symm h.1), backE_out h.2]
theorem backE_in {ρ1 ρ' : Ev} {j : Nat} {s : Sl} : ∀ {vs : List Nat}, j ∈ vs → (backE ρ1 ρ' vs)[j]? = some (some s) → ρ1[j]? = some (some s)
  | v :: vs, h, e => by
    rw [backE] at e
    by_cases hj : v = j
    · subst hj
      by_cases hl : v < (backE ρ1 ρ' vs).length
      · rw [List.getElem?_set_self hl] at e
        cases q : ρ1[v]? with
        | none => rw [q] at e; cases e
        | some o => rw [q] at e; exact e
      · rw [List.getElem?_eq_none (by rw [List.length_set]; omega)] at e; cases e
    · rw [List.getElem?_set_ne hj] at e
      exact backE_in ((List.mem_cons.mp h).resolve_left (Ne.symm hj)) e
theorem backE_of {ρ1 ρ' : Ev} {j : Nat} {s : Sl} (hl : ρ1.length = ρ'.length) : ∀ {vs : List Nat}, j ∈ vs → ρ1[j]? = some (some s) → (backE ρ1 ρ' vs)[j]? = some (some s)
  | v :: vs, h, e => by
    rw [backE]
    by_cases hj : v = j
    · subst hj
      have := (List.getElem?_eq_some_iff.mp e).1
      rw [List.getElem?_set_self (by rw [backE_len]; omega), e]
      rfl
    · rw [List.getElem?_set_ne hj]
      exact backE_of hl ((List.mem_cons.mp h).resolve_left (Ne.symm hj)) e
section
variable {K : PySem.W.Frag} {H H1 : Hp} {σ : Sto} {ρ ρ' : Ev} {vs : List Nat}
theorem wipe_get {j : Nat} {s : Sl} (h : (wipeE ρ vs)[j]? = some (some s)) : j ∉ vs ∧ ρ[j]? = some (some s) := by
  have hj : j ∉ vs := fun z => wipeE_in z s h
  exact ⟨hj, by rw [wipeE_out hj] at h; exact h⟩
theorem SR.wipe (S : SR K H σ ρ) : SR K H (wipe σ vs) (wipeE ρ vs) := by
  refine ⟨by rw [wipeE_len, wipe_length]; exact S.len, fun j t h => ?_, fun j xs h => ?_, fun j c h => ?_, fun i j c d a h1 h2 h3 h4 => ?_⟩
  · obtain ⟨hj, h⟩ := wipe_get h
    rw [wipe_out hj]; exact S.dat j t h
  · obtain ⟨hj, h⟩ := wipe_get h
    rw [wipe_out hj]; exact S.rol j xs h
  · obtain ⟨hj, h⟩ := wipe_get h
    rw [wipe_out hj]; exact S.obj j c h
  · obtain ⟨hi, h1⟩ := wipe_get h1
    obtain ⟨hj, h2⟩ := wipe_get h2
    rw [wipe_out hi] at h3
    rw [wipe_out hj] at h4
    exact S.sep i j c d a h1 h2 h3 h4
theorem Own.wipe {a : Addr} (h : Own (L2.wipe σ vs) (wipeE ρ vs) a) : Own σ ρ a := by
  obtain ⟨j, c, h1, h2⟩ := h
  obtain ⟨hj, h1⟩ := wipe_get h1
  rw [wipe_out hj] at h2
  exact ⟨j, c, h1, h2⟩
theorem Go.wipe : Go K σ ρ H (L2.wipe σ vs) (wipeE ρ vs) H := ⟨fun _ _ h _ => h, fun _ h => .inl h.wipe, .refl K H, fun _ h => h⟩
/-- behind a block: the outer slots again -/
theorem back_SR {Hs : Hp} {ρs : Ev} (S : SR K H σ ρ) (S1 : SR K H1 (L2.wipe σ vs) ρ') (g0 : Go K σ ρs Hs σ ρ H) (g : Go K (L2.wipe σ vs) (wipeE ρ vs) H (L2.wipe σ vs) ρ' H1) (k : Kp (wipeE ρ vs) ρ') : SR K H1 σ (backE ρ ρ' vs) ∧ Go K σ ρs Hs σ (backE ρ ρ' vs) H1 ∧ Kp ρ (backE ρ ρ' vs) ∧
    ∀ a, H a = none → ¬ Own (L2.wipe σ vs) ρ' a → ¬ Own σ (backE ρ ρ' vs) a := by
  have len : ρ.length = ρ'.length := by
    have h1 := S.len
    have h2 := S1.len
    rw [wipe_length] at h2
    omega
  -- a slot of the outside keeps its object
  have out : ∀ (j : Nat) (c : C) (a : Addr), j ∈ vs → ρ[j]? = some (some (.obj c)) → σ[j]? = some (some (.ref a)) → ∀ o, H a = some o → H1 a = some o := fun j c a hj h1 h2 o h => by
    refine g.keep a o h fun ⟨k, d, e1, e2⟩ => ?_
    obtain ⟨hk, e1⟩ := wipe_get e1
    rw [wipe_out hk] at e2
    have := S.sep j k c d a h1 e1 h2 e2
    subst this
    exact hk hj
  have inn : ∀ (j : Nat) (s : Sl), j ∉ vs → (backE ρ ρ' vs)[j]? = some (some s) → ρ'[j]? = some (some s) ∧ (L2.wipe σ vs)[j]? = σ[j]? := fun j s hj h => by
    rw [backE_out hj] at h
    exact ⟨h, wipe_out hj⟩
  have own : ∀ a, Own σ (backE ρ ρ' vs) a → Own σ ρ a ∨ (Own (L2.wipe σ vs) ρ' a) := fun a ⟨j, c, h1, h2⟩ => by
    by_cases hj : j ∈ vs
    · exact .inl ⟨j, c, backE_in hj h1, h2⟩
    · obtain ⟨q1, q2⟩ := inn j _ hj h1
      exact .inr ⟨j, c, q1, by rw [q2]; exact h2⟩
  refine ⟨⟨by rw [backE_len, ← len]; exact S.len, fun j t h => ?_, fun j xs h => ?_, fun j c h => ?_, fun i j c d a h1 h2 h3 h4 => ?_⟩, ⟨fun a o h n => ?_, fun a h => ?_, g0.tst.trans g.tst, fun a h => g0.dom a (g.dom a h)⟩, fun j c h => ?_, fun a hn no ho => ?_⟩
  · by_cases hj : j ∈ vs
    · obtain ⟨v, e, r⟩ := S.dat j t (backE_in hj h)
      exact ⟨v, e, r.m g.tst⟩
    · obtain ⟨q1, q2⟩ := inn j _ hj h
      rw [← q2]; exact S1.dat j t q1
  · by_cases hj : j ∈ vs
    · obtain ⟨a, e, r⟩ := S.rol j xs (backE_in hj h)
      refine ⟨a, e, r.m g.tst fun o ws q => g.keep a _ q fun ho => ?_⟩
      obtain ⟨us, z⟩ := (S.wipe (vs := vs)).own_some ho
      rw [q] at z; cases z
    · obtain ⟨q1, q2⟩ := inn j _ hj h
      rw [← q2]; exact S1.rol j xs q1
  · by_cases hj : j ∈ vs
    · have h := backE_in hj h
      obtain ⟨a, e, r⟩ := S.obj j c h
      exact ⟨a, e, r.m g.tst fun o q => out j c a hj h e o q⟩
    · obtain ⟨q1, q2⟩ := inn j _ hj h
      rw [← q2]; exact S1.obj j c q1
  · have mix : ∀ (i j : Nat) (c d : C), i ∈ vs → j ∉ vs → (backE ρ ρ' vs)[i]? = some (some (.obj c)) → (backE ρ ρ' vs)[j]? = some (some (.obj d)) → σ[i]? = some (some (.ref a)) → σ[j]? = some (some (.ref a)) → False := fun i j c d hi hj h1 h2 h3 h4 => by
      have h1 := backE_in hi h1
      obtain ⟨q1, q2⟩ := inn j _ hj h2
      rcases g.own a ⟨j, d, q1, by rw [q2]; exact h4⟩ with ⟨k, c', z1, z2⟩ | z
      · obtain ⟨hk, z1⟩ := wipe_get z1
        rw [wipe_out hk] at z2
        have := S.sep i k c c' a h1 z1 h3 z2
        subst this
        exact hk hi
      · obtain ⟨us, z'⟩ := S.own_some ⟨i, c, h1, h3⟩
        rw [z] at z'; cases z'
    by_cases hi : i ∈ vs
    · by_cases hj : j ∈ vs
      · exact S.sep i j c d a (backE_in hi h1) (backE_in hj h2) h3 h4
      · exact (mix i j c d hi hj h1 h2 h3 h4).elim
    · by_cases hj : j ∈ vs
      · exact (mix j i d c hj hi h2 h1 h4 h3).elim
      · obtain ⟨q1, q2⟩ := inn i _ hi h1
        obtain ⟨q3, q4⟩ := inn j _ hj h2
        exact S1.sep i j c d a q1 q3 (by rw [q2]; exact h3) (by rw [q4]; exact h4)
  · refine g.keep a o (g0.keep a o h n) fun z => ?_
    rcases g0.own a z.wipe with z | z
    · exact n z
    · rw [h] at z; cases z
  · rcases own a h with z | z
    · exact g0.own a z
    · rcases g.own a z with z | z
      · exact g0.own a z.wipe
      · exact .inr (g0.dom a z)
  · by_cases hj : j ∈ vs
    · exact ⟨c, backE_of len hj h⟩
    · obtain ⟨c', q⟩ := k j c (by rw [wipeE_out hj]; exact h)
      exact ⟨c', by rw [backE_out hj]; exact q⟩
  · rcases own a ho with z | z
    · exact S.not_own hn z
    · exact no z
end

/-! ### comprehensions -/
noncomputable def fLcL (ck : Ev → Prop) (g : GT) (tt : FB) (te : FE) (vs : List Nat) : List T → Ev → Option (List T × Ev)
  | [], ρ => (guardP (ck ρ)).map fun _ => ([], ρ)
  | x :: xs, ρ => (guardP (ck ρ)).bind fun _ => (g x ρ).bind fun ρ1 => (tt ρ1).bind fun p => if p.1 = true then (te p.2).bind fun q => match q.1 with
      | .dat t => (fLcL ck g tt te vs xs (wipeE q.2 vs)).map fun r => (t :: r.1, r.2)
      | _ => none
    else fLcL ck g tt te vs xs (wipeE p.2 vs)
noncomputable def fLc (it : FI) (g : GT) (tt : FB) (te : FE) (vs : List Nat) : FE := fun ρ => (it ρ).bind fun p => (guardP (p.1.length ≤ sizeLine)).bind fun _ => (fLcL (ckOf p.1 p.2.1) g tt te vs p.1 (wipeE p.2.2 vs)).map fun r => (.tmp (.lst r.1), backE p.2.2 r.2 vs)
/-- a target stores its slots alone -/
def GOut (g : GT) (is : List Nat) : Prop := ∀ d ρ ρ', g d ρ = some ρ' → ∀ (j : Nat), j ∉ is → ρ'[j]? = ρ[j]?
def GOuts (g : List T → Ev → Option Ev) (is : List Nat) : Prop := ∀ d ρ ρ', g d ρ = some ρ' → ∀ (j : Nat), j ∉ is → ρ'[j]? = ρ[j]?
theorem go_name {chk : Bool} {i : Nat} : GOut (tgN chk i) [i] := fun d ρ ρ' e j hj => by
  have hj : j ≠ i := fun z => hj (by rw [z]; exact List.mem_cons_self)
  unfold tgN at e
  split at e
  · rcases stH_eq e with ⟨t, _, rfl⟩ | ⟨c, _, rfl⟩ <;> exact List.getElem?_set_ne (Ne.symm hj)
  · cases e
theorem go_nil : GOuts tgNil [] := fun d ρ ρ' e j _ => by
  unfold tgNil at e
  split at e
  · cases e; rfl
  · cases e
theorem go_cons {g : GT} {gs : List T → Ev → Option Ev} {is js : List Nat} (h1 : GOut g is) (h2 : GOuts gs js) : GOuts (tgCons g gs) (is ++ js) := fun d ρ ρ' e j hj => by
  unfold tgCons at e
  split at e
  · simp only [Option.bind_eq_some_iff] at e
    obtain ⟨ρ1, e1, e2⟩ := e
    rw [List.mem_append, not_or] at hj
    rw [h2 _ _ _ e2 j hj.2, h1 _ _ _ e1 j hj.1]
  · cases e
theorem go_tup {gs : List T → Ev → Option Ev} {is : List Nat} (h : GOuts gs is) : GOut (tgTup gs) is := fun d ρ ρ' e j hj => by
  unfold tgTup at e
  split at e
  · exact h _ _ _ e j hj
  · cases e
section
variable {X : Cx} {elt tg iter : Expr} {ifs : List Expr} {scope : Scope} {own : List (Str × Nat)} {pos : Pos} {it : FI} {g : GT} {tt : FB} {te : FE} {is : List Nat}
theorem lc_core' {wi : TI} {tG : TG} {tT : TT} {tE : TE} {vs : List Nat} (hsub : ∀ j ∈ is, j ∈ vs)
    (ri : ∀ (σ : Sto) (H : Hp) (ρ : Ev) (ts : List T) (lp : Option Nat) (ρ' : Ev) (R : It → Hp → Prop), SR X.K H σ ρ → it ρ = some (ts, lp, ρ') →
      (∀ J H' Ok, Go X.K σ ρ H σ ρ' H' → SR X.K H' σ ρ' → Kp ρ ρ' → ItOk X.K ts J Ok → (∀ i, lp = some i → ρ'[i]? = some (some (.obj (.lst ts)))) →
        (∀ H'', (∀ a o, H' a = some o → ¬ Own σ ρ' a → H'' a = some o) → TSt X.K H' H'' → (∀ i, lp = some i → ∀ a, σ[i]? = some (some (.ref a)) → RpC X.K H'' a (.lst ts)) → Ok H'') → R J H') → wi σ H R)
    (go_ : ∀ d ρ ρ', g d ρ = some ρ' → ∀ (j : Nat), j ∉ is → ρ'[j]? = ρ[j]?)
    (rg : ∀ (σ : Sto) (H : Hp) (ρ : Ev) (v : V) (d : T) (ρ' : Ev) (Q : L2.St → Hp → Prop), SR X.K H σ ρ → Rp X.K H v d → g d ρ = some ρ' →
      (∀ σ', Go X.K σ ρ H σ' ρ' H → SR X.K H σ' ρ' → σ'.length = σ.length → (∀ (j : Nat), j ∉ is → σ'[j]? = σ[j]?) → Q σ' H) → tG v σ H Q)
    (rt : ∀ (σ : Sto) (H : Hp) (ρ : Ev) (b : Bool) (ρ' : Ev) (Q : Bool → Hp → Prop), SR X.K H σ ρ → tt ρ = some (b, ρ') → (∀ H', Go X.K σ ρ H σ ρ' H' → SR X.K H' σ ρ' → Kp ρ ρ' → Q b H') → tT σ H Q)
    (re : ∀ (σ : Sto) (H : Hp) (ρ : Ev) (h : Hd) (ρ' : Ev) (Q : VK), SR X.K H σ ρ → te ρ = some (h, ρ') → (∀ u H', Go X.K σ ρ H σ ρ' H' → SR X.K H' σ ρ' → Kp ρ ρ' → HR X.K H H' σ ρ' h u → Q u H') → tE σ H Q)
    (σ : Sto) (H : Hp) (ρ : Ev) (h : Hd) (ρ' : Ev) (Q : VK) (S : SR X.K H σ ρ) (e : fLc it g tt te vs ρ = some (h, ρ'))
    (q : ∀ u H', Go X.K σ ρ H σ ρ' H' → SR X.K H' σ ρ' → Kp ρ ρ' → HR X.K H H' σ ρ' h u → Q u H') : tLc wi tG tT tE vs σ H Q := by
  simp only [fLc, Option.bind_eq_some_iff, Option.map_eq_some_iff, guardP_some] at e
  obtain ⟨⟨ts, lp, ρ1⟩, e0, _, hz, ⟨out, ρo⟩, e1, e2⟩ := e
  cases e2
  refine ri σ H ρ ts lp ρ1 _ S e0 fun J H1 Ok g1 S1 k1 ok hlp stay => fun D nD => ?_
  have Sw : SR X.K H1 (wipe σ vs) (wipeE ρ1 vs) := S1.wipe
  have noD0 : ¬ Own (wipe σ vs) (wipeE ρ1 vs) D := Sw.not_own nD
  refine ⟨fun i m H' => ∃ (ρ' : Ev) (us : List V) (acc : List T) (rest : List T), Go X.K (wipe σ vs) (wipeE ρ1 vs) H1 (wipe σ vs) ρ' H' ∧ SR X.K H' (wipe σ vs) ρ' ∧ Kp (wipeE ρ1 vs) ρ' ∧ H' D = some (.lst us) ∧ RpL X.K H' us acc ∧ acc.length ≤ i ∧ ¬ Own (wipe σ vs) ρ' D ∧
    fLcL (ckOf ts lp) g tt te vs (ts.drop i) ρ' = some (rest, ρo) ∧ acc ++ rest = out ∧ m = ts.length - i,
    ⟨ts.length, wipeE ρ1 vs, [], [], out, .new nD, Sw.new nD, .refl, upd_same, .nil, Nat.zero_le _, noD0, by simpa using e1, rfl, by simp⟩, ?_⟩
  rintro i m H2 ⟨ρ2, us, acc, rest, gw, S2, kw, hD, l, hacc, noD, e3, e4, hm⟩
  have okH : ckOf ts lp ρ2 → Ok H2 := fun ck => by
    refine stay H2 (fun a o ha n => gw.keep a o ha fun z => n z.wipe) gw.tst fun j hj a ha => ?_
    subst hj
    have ck : ρ2[j]? = some (some (.obj (.lst ts))) := ck
    obtain ⟨b, eb, rc⟩ := S2.obj j _ ck
    have hjv : j ∉ vs := fun z => by
      have := wipe_some (σ := σ) (vs := vs) eb
      exact this.2 z
    rw [wipe_out hjv, ha] at eb
    cases eb
    exact rc
  by_cases hi : i < ts.length
  · have ei : ts[i]? = some ts[i] := List.getElem?_eq_getElem hi
    rw [List.drop_eq_getElem_cons hi, fLcL] at e3
    simp only [Option.bind_eq_some_iff, guardP_some] at e3
    obtain ⟨_, ck, ρ3, e5, ⟨b, ρ4⟩, e6, e7⟩ := e3
    refine .inr ⟨ok.go (okH ck) ei, fun H' => ∃ (ρ' : Ev) (us : List V) (acc : List T) (rest : List T), Go X.K (wipe σ vs) (wipeE ρ1 vs) H1 (wipe σ vs) ρ' H' ∧ SR X.K H' (wipe σ vs) ρ' ∧ Kp (wipeE ρ1 vs) ρ' ∧ H' D = some (.lst us) ∧ RpL X.K H' us acc ∧ acc.length ≤ i + 1 ∧ ¬ Own (wipe σ vs) ρ' D ∧
      fLcL (ckOf ts lp) g tt te vs (ts.drop (i + 1)) ρ' = some (rest, ρo) ∧ acc ++ rest = out,
      fun H' ⟨ρ', us, acc, rest, a1, a2, a3, a4, a5, a6, a7, a8, a9⟩ => ⟨ts.length - (i + 1), by omega, ρ', us, acc, rest, a1, a2, a3, a4, a5, a6, a7, a8, a9, rfl⟩, fun x H' y => ?_⟩
    obtain ⟨eH, rx⟩ := ok.yld (okH ck) ei y
    rw [eH]
    refine rg (wipe σ vs) H2 ρ2 x ts[i] ρ3 _ S2 rx e5 fun σ3 g3 S3 l3 o3 => ?_
    have same : wipe σ3 vs = wipe σ vs := by
      have := wipe_same (vs := vs) l3 o3 hsub
      rw [this]
      exact wipe_same (is := vs) (by rw [wipe_length]) (fun j hj => wipe_out hj) (fun _ h => h)
    refine ⟨same, ?_⟩
    refine rt σ3 H2 ρ3 b ρ4 _ S3 e6 fun H3 g4 S4 k4 => ?_
    have keepD : ∀ {σ' : Sto} {ρ' : Ev} {H' : Hp}, Go X.K (wipe σ vs) ρ2 H2 σ' ρ' H' → H' D = some (.lst us) ∧ ¬ Own σ' ρ' D := fun g => by
      refine ⟨g.keep D _ hD noD, fun z => ?_⟩
      rcases g.own D z with z | z
      · exact noD z
      · rw [hD] at z; cases z
    have kk3 : ∀ {ρ'' : Ev}, Kp ρ3 ρ'' → Kp (wipeE ρ1 vs) (wipeE ρ'' vs) := fun {ρ''} k j c hj => by
      obtain ⟨hv, hj'⟩ := wipe_get hj
      obtain ⟨c1, h1⟩ := kw j c hj
      have h2 : ρ3[j]? = some (some (.obj c1)) := by rw [go_ _ _ _ e5 j fun z => hv (hsub j z)]; exact h1
      obtain ⟨c2, h3⟩ := k j c1 h2
      exact ⟨c2, by rw [wipeE_out hv]; exact h3⟩
    cases b with
    | false =>
      simp only [Bool.false_eq_true, if_false] at e7 ⊢
      have gg := (g3.trans g4)
      obtain ⟨d1, d2⟩ := keepD gg
      have gw' : Go X.K (wipe σ vs) (wipeE ρ1 vs) H1 (wipe σ vs) (wipeE ρ4 vs) H3 := by
        have := (gw.trans gg).trans (Go.wipe (vs := vs))
        rw [same] at this
        exact this
      refine ⟨wipeE ρ4 vs, us, acc, rest, gw', ?_, kk3 k4, d1, l.m gg.tst, by omega, ?_, e7, e4⟩
      · have := S4.wipe (vs := vs)
        rw [same] at this
        exact this
      · intro z
        rw [← same] at z
        exact d2 z.wipe
    | true =>
      simp only [if_true, Option.bind_eq_some_iff] at e7 ⊢
      obtain ⟨⟨h5, ρ5⟩, e8, e9⟩ := e7
      refine re σ3 H3 ρ4 h5 ρ5 _ S4 e8 fun u H4 g5 S5 k5 r5 => ?_
      cases h5 with
      | tmp c => cases e9
      | plc j => cases e9
      | dat t =>
        simp only [Option.map_eq_some_iff] at e9
        obtain ⟨⟨rest', ρr⟩, e10, e11⟩ := e9
        cases e11
        have gg := (g3.trans g4).trans g5
        obtain ⟨d1, d2⟩ := keepD gg
        have noW : ¬ Own (wipe σ vs) (wipeE ρ5 vs) D := fun z => by
          rw [← same] at z
          exact d2 z.wipe
        have gw' : Go X.K (wipe σ vs) (wipeE ρ1 vs) H1 (wipe σ vs) (wipeE ρ5 vs) H4 := by
          have := (gw.trans gg).trans (Go.wipe (vs := vs))
          rw [same] at this
          exact this
        have Sw5 : SR X.K H4 (wipe σ vs) (wipeE ρ5 vs) := by
          have := S5.wipe (vs := vs)
          rw [same] at this
          exact this
        refine ⟨us, d1, ?_, wipeE ρ5 vs, us ++ [u], acc ++ [t], rest', ⟨fun a o ha n => ?_, gw'.own, gw'.tst.trans (tst_lst d1), fun a ha => gw'.dom a (upd_none ha)⟩, Sw5.aside d1 noW, kk3 (k4.trans k5), upd_same, ?_, by rw [List.length_append]; simp; omega, noW, e10, by rw [List.append_assoc]; exact e4⟩
        · have hz' : ts.length ≤ sizeLine := hz
          rw [l.length]
          omega
        · have : a ≠ D := by rintro rfl; rw [nD] at ha; cases ha
          rw [upd_ne this]
          exact gw'.keep a o ha n
        · exact ((l.m gg.tst).append (.one r5)).m (tst_lst d1)
  · have ed : ts.drop i = [] := List.drop_eq_nil_of_le (by omega)
    rw [ed, fLcL] at e3
    simp only [Option.map_eq_some_iff, guardP_some] at e3
    obtain ⟨_, ck, e5⟩ := e3
    cases e5
    rw [List.append_nil] at e4
    subst e4
    refine .inl ⟨ok.stop (okH ck) (by omega), ?_⟩
    obtain ⟨b1, b2, b3, b4⟩ := back_SR S1 S2 g1 gw kw
    exact q (.ref D) H2 b2 b1 (k1.trans b3) ⟨D, rfl, ⟨us, hD, l⟩, g1.dom D nD, b4 D nD noD⟩
theorem de_lc (hc : X.calm = true) (hN : X.N.Nodup) (hi : DI X tg iter it) (ok : BlkOk X.N X.env.scope scope own) (hsub : ∀ j ∈ is, j ∈ own.map (·.2)) (hout : GOut g is)
    (hg : ∀ (s : Shared) (H : Hp) (C : Addr) (cl : List (Str × Addr)) (fp : List Addr), DG (X.blk s H scope (compEnvC scope cl C X.env) fp) [] is tg g)
    (ht : ∀ (s : Shared) (H : Hp) (C : Addr) (cl : List (Str × Addr)) (fp : List Addr), DTs (X.blk s H scope (compEnvC scope cl C X.env) fp) ifs tt)
    (he : ∀ (s : Shared) (H : Hp) (C : Addr) (cl : List (Str × Addr)) (fp : List Addr), DE (X.blk s H scope (compEnvC scope cl C X.env) fp) elt te) (hs : ∀ x, foldedSetIterable iter X.env x = pure x := by intro _; rfl) :
    DE X (.ListComp elt [⟨tg, iter, ifs, 0⟩] scope pos) (fLc it g tt te (own.map (·.2))) := by
  obtain ⟨wi, pi, ri⟩ := hi.run
  obtain ⟨tG, pG, rG⟩ := dg_unif hg
  obtain ⟨tT, pT, rT⟩ := dts_unif ht
  obtain ⟨tE, pE, rE⟩ := de_unif he
  exact ⟨_, pe_lc hc hN pi ok pG pT pE hs, fun σ H ρ h ρ' Q S e q => lc_core' hsub ri hout rG rT rE σ H ρ h ρ' Q S e q⟩
/-- x = [..], on one line, x a plain local -/
theorem ds_setLc {pl : List Nat} {chk : Bool} {i : Nat} {y : Str} {py spos : Pos} (hc : X.calm = true) (hN : X.N.Nodup) (hy : X.N[i]? = some y) (hyl : X.env.scope.names.lookup y = some .local)
    (hsw : swapsWith (.ListComp elt [⟨tg, iter, ifs, 0⟩] scope pos) (some (.Name y py)) spos.line X.env = pure true) (hi : DI X tg iter it) (ok : BlkOk X.N X.env.scope scope own) (hsub : ∀ j ∈ is, j ∈ own.map (·.2)) (hout : GOut g is)
    (hg : ∀ (s : Shared) (H : Hp) (C : Addr) (cl : List (Str × Addr)) (fp : List Addr), DG (X.blk s H scope (compEnvC scope cl C X.env) fp) [] is tg g)
    (ht : ∀ (s : Shared) (H : Hp) (C : Addr) (cl : List (Str × Addr)) (fp : List Addr), DTs (X.blk s H scope (compEnvC scope cl C X.env) fp) ifs tt)
    (he : ∀ (s : Shared) (H : Hp) (C : Addr) (cl : List (Str × Addr)) (fp : List Addr), DE (X.blk s H scope (compEnvC scope cl C X.env) fp) elt te) (hck : chk = false → i ∉ pl := by decide) (hs : ∀ x, foldedSetIterable iter X.env x = pure x := by intro _; rfl) :
    DS X pl (.Assign [.Name y py] (.ListComp elt [⟨tg, iter, ifs, 0⟩] scope pos) spos) (fSet chk i (fLc it g tt te (own.map (·.2)))) := by
  obtain ⟨wi, pi, ri⟩ := hi.run
  obtain ⟨tG, pG, rG⟩ := dg_unif hg
  obtain ⟨tT, pT, rT⟩ := dts_unif ht
  obtain ⟨tE, pE, rE⟩ := de_unif he
  refine ⟨_, ps_setLc hc hN hy hyl hsw pi ok pG pT pE hs, fun pn σ H ρ o D hp S P e q => ?_⟩
  simp only [fSet, Option.bind_eq_some_iff] at e
  obtain ⟨⟨h1, ρ1⟩, e1, e2⟩ := e
  split at e2
  · rename_i hl
    simp only [Option.map_eq_some_iff] at e2
    obtain ⟨ρ2, e3, e4⟩ := e2
    subst e4
    refine lc_core' hsub ri hout rG rT rE σ H ρ h1 ρ1 _ S e1 fun u H1 g1 S1 k1 r1 => ?_
    obtain ⟨a1, a2, a3⟩ := stH_SR S1 g1 (P.kp k1) hp hck hl r1 e3
    exact q _ H1 a2 a1 a3
  · cases e2
end
end PD

namespace PD
open PySem PySem.Spec PyProof.Rows L2

/-! ### a def by its body -/
/-- what the owned arguments hold at the end -/
def outs : List Sl → Ev → Option (List C)
  | [], _ => some []
  | .obj _ :: as, some (.obj c) :: ρ => (outs as ρ).map (c :: ·)
  | .obj _ :: _, _ => none
  | .dat _ :: as, _ :: ρ => outs as ρ
  | .rol _ :: as, _ :: ρ => outs as ρ
  | _ :: _, [] => none
/-- nn slots, n of them parameters -/
def runD (nn n : Nat) (g : FS) : Den := fun as => if as.length = n then (g (as.map some ++ List.replicate (nn - n) none)).bind fun o => match o with
    | .rt r ρ' => (outs as ρ').map fun cs => (r, cs)
    | .nx ρ' => (outs as ρ').map fun cs => (.dat .none, cs)
    | _ => none
  else none
def pinsOf : Nat → List V → List Sl → List (Nat × Addr)
  | i, .ref a :: vs, .obj _ :: as => (i, a) :: pinsOf (i + 1) vs as
  | i, _ :: vs, _ :: as => pinsOf (i + 1) vs as
  | _, _, _ => []
theorem pinsOf_mem : ∀ (vs : List V) (as : List Sl) (k : Nat) (p : Nat × Addr), p ∈ pinsOf k vs as ↔ ∃ (j : Nat) (c : C), p.1 = k + j ∧ as[j]? = some (.obj c) ∧ vs[j]? = some (.ref p.2) := by
  intro vs
  induction vs with
  | nil =>
    intro as k p
    simp only [List.getElem?_nil]
    constructor
    · intro h; cases as <;> simp [pinsOf] at h
    · rintro ⟨j, c, _, _, h⟩; cases h
  | cons v vs ih =>
    intro as k p
    cases as with
    | nil =>
      constructor
      · intro h; simp [pinsOf] at h
      · rintro ⟨j, c, _, h, _⟩; simp at h
    | cons s as =>
      have step : (∃ (j : Nat) (c : C), p.1 = k + j ∧ (s :: as)[j]? = some (.obj c) ∧ (v :: vs)[j]? = some (.ref p.2)) ↔ (p.1 = k ∧ (∃ c, s = .obj c) ∧ v = .ref p.2) ∨ p ∈ pinsOf (k + 1) vs as := by
        rw [ih as (k + 1) p]
        constructor
        · rintro ⟨j, c, h1, h2, h3⟩
          cases j with
          | zero =>
            simp at h2 h3
            exact .inl ⟨by omega, ⟨c, h2⟩, h3⟩
          | succ j => exact .inr ⟨j, c, by omega, by simpa using h2, by simpa using h3⟩
        · rintro (⟨h1, ⟨c, h2⟩, h3⟩ | ⟨j, c, h1, h2, h3⟩)
          · exact ⟨0, c, by omega, by simp [h2], by simp [h3]⟩
          · exact ⟨j + 1, c, by omega, by simpa using h2, by simpa using h3⟩
      rw [step]
      cases v with
      | ref a =>
        cases s with
        | obj c =>
          simp only [pinsOf, List.mem_cons]
          constructor
          · rintro (h | h)
            · subst h; exact .inl ⟨rfl, ⟨c, rfl⟩, rfl⟩
            · exact .inr h
          · rintro (⟨h1, _, h3⟩ | h)
            · cases h3
              exact .inl (by cases p; simp at h1; simp [h1])
            · exact .inr h
        | dat t =>
          simp only [pinsOf]
          exact ⟨.inr, fun h => h.elim (fun ⟨_, ⟨c, z⟩, _⟩ => nomatch z) fun h => h⟩
        | rol t =>
          simp only [pinsOf]
          exact ⟨.inr, fun h => h.elim (fun ⟨_, ⟨c, z⟩, _⟩ => nomatch z) fun h => h⟩
      | _ =>
        cases s <;> (simp only [pinsOf]; exact ⟨.inr, fun h => h.elim (fun ⟨_, _, z⟩ => nomatch z) fun h => h⟩)
theorem objs_mem : ∀ (vs : List V) (as : List Sl) (a : Addr), (∃ (j : Nat) (c : C), as[j]? = some (.obj c) ∧ vs[j]? = some (.ref a)) → a ∈ objs vs as := by
  intro vs
  induction vs with
  | nil => rintro as a ⟨j, c, _, h⟩; simp at h
  | cons v vs ih =>
    rintro as a ⟨j, c, h1, h2⟩
    cases as with
    | nil => simp at h1
    | cons s as =>
      have rec_ : (∃ (j : Nat) (c : C), as[j]? = some (.obj c) ∧ vs[j]? = some (.ref a)) → a ∈ objs (v :: vs) (s :: as) := fun h => by
        have := ih as a h
        cases v with
        | ref b => cases s <;> simp [objs, this]
        | _ => cases s <;> simpa [objs] using this
      cases j with
      | zero =>
        simp at h1 h2
        subst h1 h2
        simp [objs]
      | succ j => exact rec_ ⟨j, c, by simpa using h1, by simpa using h2⟩
section
variable {K : PySem.W.Frag} {H H' : Hp}
theorem start_SR {N : List Str} {vs : List V} {as : List Sl} (S : SR K H (vs.map some) (as.map some)) (n : Nat) (hn : as.length = n) : SR K H (start N vs) (as.map some ++ List.replicate (N.length - n) none) := by
  have hl : vs.length = as.length := by
    have := S.len
    rw [List.length_map, List.length_map] at this
    exact this.symm
  have inn : ∀ {i : Nat} {s : Sl}, (as.map some ++ List.replicate (N.length - n) none)[i]? = some (some s) → i < as.length ∧ (as.map some)[i]? = some (some s) := fun {i s} e => by
    by_cases hi : i < as.length
    · rw [List.getElem?_append_left (by rw [List.length_map]; exact hi)] at e
      exact ⟨hi, e⟩
    · rw [List.getElem?_append_right (by rw [List.length_map]; omega), List.getElem?_replicate] at e
      split at e <;> cases e
  have st : ∀ {i : Nat}, i < as.length → (start N vs)[i]? = (vs.map some)[i]? := fun {i} hi => by
    unfold L2.start
    rw [List.getElem?_append_left (by rw [List.length_map]; omega)]
  refine ⟨by simp [L2.start, hl, hn], fun i t e => ?_, fun i t e => ?_, fun i t e => ?_, fun i j c d a e1 e2 e3 e4 => ?_⟩
  · obtain ⟨hi, e⟩ := inn e
    rw [st hi]; exact S.dat i t e
  · obtain ⟨hi, e⟩ := inn e
    rw [st hi]; exact S.rol i t e
  · obtain ⟨hi, e⟩ := inn e
    rw [st hi]; exact S.obj i t e
  · obtain ⟨hi, e1⟩ := inn e1
    obtain ⟨hj, e2⟩ := inn e2
    rw [st hi] at e3
    rw [st hj] at e4
    exact S.sep i j c d a e1 e2 e3 e4
theorem own_start {N : List Str} {vs : List V} {as : List Sl} {n : Nat} (S : SR K H (vs.map some) (as.map some)) {a : Addr} (h : Own (start N vs) (as.map some ++ List.replicate (N.length - n) none) a) : ∃ (j : Nat) (c : C), as[j]? = some (.obj c) ∧ vs[j]? = some (.ref a) := by
  have hl : vs.length = as.length := by
    have := S.len
    rw [List.length_map, List.length_map] at this
    exact this.symm
  obtain ⟨j, c, h1, h2⟩ := h
  by_cases hi : j < as.length
  · rw [List.getElem?_append_left (by rw [List.length_map]; exact hi), List.getElem?_map] at h1
    unfold L2.start at h2
    rw [List.getElem?_append_left (by rw [List.length_map]; omega), List.getElem?_map] at h2
    refine ⟨j, c, ?_, ?_⟩
    · cases q : as[j]? with
      | none => rw [q] at h1; cases h1
      | some s => rw [q] at h1; cases h1; rfl
    · cases q : vs[j]? with
      | none => rw [q] at h2; cases h2
      | some s => rw [q] at h2; cases h2; rfl
  · rw [List.getElem?_append_right (by rw [List.length_map]; omega), List.getElem?_replicate] at h1
    split at h1 <;> cases h1
theorem outs_cs {σ' : Sto} : ∀ (vs : List V) (as : List Sl) (k : Nat) (ρ full : Ev) (cs : List C), SR K H' σ' full → (∀ (j : Nat), ρ[j]? = full[k + j]?) → Pin (pinsOf k vs as) σ' full → vs.length = as.length → outs as ρ = some cs → (∀ (j : Nat) (c : C), as[j]? = some (.obj c) → ∃ a, vs[j]? = some (.ref a)) → RpCs K H' (objs vs as) cs
  | [], [], _, _, _, cs, _, _, _, _, e, _ => by cases e; exact .nil
  | v :: vs, s :: as, k, ρ, full, cs, S, hf, P, hl, e, isr => by
    have hf' : ∀ (o : Option Sl) (ρ' : Ev), ρ = o :: ρ' → ∀ (j : Nat), ρ'[j]? = full[k + 1 + j]? := fun o ρ' er j => by
      have := hf (j + 1)
      rw [er, List.getElem?_cons_succ] at this
      rw [this]
      congr 1
      omega
    have isr' : ∀ (j : Nat) (c : C), as[j]? = some (.obj c) → ∃ a, vs[j]? = some (.ref a) := fun j c h => by
      obtain ⟨a, h⟩ := isr (j + 1) c (by simpa using h)
      exact ⟨a, by simpa using h⟩
    have hl' : vs.length = as.length := by simpa using hl
    cases s with
    | obj c =>
      obtain ⟨a, ha⟩ := isr 0 c rfl
      simp at ha
      subst ha
      cases ρ with
      | nil => simp [outs] at e
      | cons o ρ' =>
        cases o with
        | none => simp [outs] at e
        | some s' =>
          cases s' with
          | dat _ => simp [outs] at e
          | rol _ => simp [outs] at e
          | obj c' =>
            simp only [outs, Option.map_eq_some_iff] at e
            obtain ⟨cs', e, rfl⟩ := e
            have h0 : full[k]? = some (some (.obj c')) := by
              have := hf 0
              simpa using this.symm
            obtain ⟨hσ, _⟩ := P (k, a) (by simp [pinsOf])
            obtain ⟨b, eb, rc⟩ := S.obj k c' h0
            have hσ : σ'[k]? = some (some (.ref a)) := hσ
            rw [hσ] at eb; cases eb
            refine .cons rc (outs_cs vs as (k + 1) ρ' full cs' S (hf' _ _ rfl) (fun p hp => P p ?_) hl' e isr')
            simp only [pinsOf, List.mem_cons]
            exact .inr hp
    | dat t =>
      cases ρ with
      | nil => simp [outs] at e
      | cons o ρ' =>
        have e : outs as ρ' = some cs := by cases o <;> simpa [outs] using e
        have eo : objs (v :: vs) (.dat t :: as) = objs vs as := by cases v <;> rfl
        have ep : pinsOf k (v :: vs) (.dat t :: as) = pinsOf (k + 1) vs as := by cases v <;> rfl
        rw [ep] at P
        rw [eo]
        exact outs_cs vs as (k + 1) ρ' full cs S (hf' _ _ rfl) P hl' e isr'
    | rol t =>
      cases ρ with
      | nil => simp [outs] at e
      | cons o ρ' =>
        have e : outs as ρ' = some cs := by cases o <;> simpa [outs] using e
        have eo : objs (v :: vs) (.rol t :: as) = objs vs as := by cases v <;> rfl
        have ep : pinsOf k (v :: vs) (.rol t :: as) = pinsOf (k + 1) vs as := by cases v <;> rfl
        rw [ep] at P
        rw [eo]
        exact outs_cs vs as (k + 1) ρ' full cs S (hf' _ _ rfl) P hl' e isr'
  | [], _ :: _, _, _, _, _, _, _, _, h, _, _ => by cases h
  | _ :: _, [], _, _, _, _, _, _, _, h, _, _ => by cases h
end
section
variable {P : Program} {w : World} {K : PySem.W.Frag} {mg : Str → Option Value} {base : Heap}
theorem body_ok {X : Cx} (hK : X.K = K) {N : List Str} {n : Nat} {sts : List Stmt} {g : FS} {vs : List V} {H : Hp} {Q : VK} (hb : DSs X (List.range n) sts g) (h : ∃ as r cs, runD N.length n g as = some (r, cs) ∧ as.length = n ∧ SR K H (vs.map some) (as.map some) ∧ ∀ u H', Post K H vs as H' r cs u → Q u H') :
    ∃ t, PSs X sts t ∧ t { nx := fun _ H' => Q .non H', rt := Q } (start N vs) H := by
  subst hK
  obtain ⟨as, r, cs, e, hn, S, q⟩ := h
  obtain ⟨t, pt, rt⟩ := hb.run
  refine ⟨t, pt, ?_⟩
  have hl : vs.length = as.length := by
    have := S.len
    rw [List.length_map, List.length_map] at this
    exact this.symm
  unfold runD at e
  rw [if_pos hn] at e
  simp only [Option.bind_eq_some_iff] at e
  obtain ⟨o, e1, e2⟩ := e
  have S0 := start_SR (N := N) S n hn
  -- the parameters' objects stay in their places
  have isr : ∀ (j : Nat) (c : C), as[j]? = some (.obj c) → ∃ a, vs[j]? = some (.ref a) := fun j c h => by
    obtain ⟨a, ea, _⟩ := S.obj j c (by rw [List.getElem?_map, h]; rfl)
    rw [List.getElem?_map] at ea
    cases q : vs[j]? with
    | none => rw [q] at ea; cases ea
    | some z => rw [q] at ea; cases ea; exact ⟨a, rfl⟩
  have P0 : Pin (pinsOf 0 vs as) (start N vs) (as.map some ++ List.replicate (N.length - n) none) := fun p hp => by
    obtain ⟨j, c, h1, h2, h3⟩ := (pinsOf_mem vs as 0 p).mp hp
    have hj : j < as.length := (List.getElem?_eq_some_iff.mp h2).1
    rw [Nat.zero_add] at h1
    rw [h1]
    refine ⟨?_, c, ?_⟩
    · unfold L2.start
      rw [List.getElem?_append_left (by rw [List.length_map]; omega), List.getElem?_map, h3]
      rfl
    · rw [List.getElem?_append_left (by rw [List.length_map]; omega), List.getElem?_map, h2]
      rfl
  have hp : ∀ p ∈ pinsOf 0 vs as, p.1 ∈ List.range n := fun p hp => by
    obtain ⟨j, c, h1, h2, h3⟩ := (pinsOf_mem vs as 0 p).mp hp
    have hj : j < as.length := (List.getElem?_eq_some_iff.mp h2).1
    rw [List.mem_range]
    omega
  have fin : ∀ (ρ' : Ev) (σ' : Sto) (H' : Hp) (r' : Sl) (cs' : List C) (u : V), Go X.K (start N vs) (as.map some ++ List.replicate (N.length - n) none) H σ' ρ' H' → SR X.K H' σ' ρ' → Pin (pinsOf 0 vs as) σ' ρ' → outs as ρ' = some cs' →
      RRs X.K (pinsOf 0 vs as) (start N vs) (as.map some ++ List.replicate (N.length - n) none) H H' r' u → Post X.K H vs as H' r' cs' u := fun ρ' σ' H' r' cs' u g S' P' eo rr => by
    refine ⟨fun a o ha hna => g.keep a o ha fun ho => hna (objs_mem vs as a (own_start S ho)), g.tst, g.dom, outs_cs vs as 0 ρ' ρ' cs' S' (fun j => by rw [Nat.zero_add]) P' hl eo isr, ?_⟩
    cases r' with
    | dat t => exact rr
    | rol xs => exact rr
    | obj c =>
      obtain ⟨a, e, rc, o, ne⟩ := rr
      refine ⟨a, e, ?_, rc⟩
      rcases o with o | o
      · obtain ⟨j, c', h1, h2⟩ := own_start S o
        exact absurd rfl (ne (j, a) ((pinsOf_mem vs as 0 (j, a)).mpr ⟨j, c', by simp, h1, h2⟩))
      · exact o
  refine rt (pinsOf 0 vs as) (start N vs) H _ o _ hp S0 P0 e1 ?_
  cases o with
  | nx ρ' =>
    simp only [Option.map_eq_some_iff] at e2
    obtain ⟨cs', eo, e3⟩ := e2
    cases e3
    exact fun σ' H' g S' P' => q .non H' (fin ρ' σ' H' _ _ _ g S' P' eo .non)
  | rt r' ρ' =>
    simp only [Option.map_eq_some_iff] at e2
    obtain ⟨cs', eo, e3⟩ := e2
    cases e3
    exact fun u σ' H' g S' P' rr => q u H' (fin ρ' σ' H' _ _ _ g S' P' eo rr)
  | bk ρ' => cases e2
  | ct ρ' => cases e2
/-- THE RULE for a def -/
theorem fn_den {x qual : Str} {st : Stmt} {f : Addr} {fd : FuncData} {N ps : List Str} {k n : Nat} {g : FS} (F : Fun K x qual st f fd) (S : FnScope N ps (defScope st)) (hn : n = ps.length)
    (hbody : ∀ (cdv : Value) (A : Around) (outer : List PySem.Env) (s : Shared) (H : Hp) (E : XK), Room k (A.deeper (envOfC qual (defScope st) s.heap.objs.size f cdv)) →
      DSs (cxOf CX0 P w K mg base N qual (defScope st) f cdv A outer s H E).nox (List.range n) (defBody st) g) : FnOk P w K mg base CX0 (k + 1) f fd ps (spD K n (runD N.length n g)) := by
  refine F.ok S (fun vs H Q E h => ?_) (fun cdv A outer s H vs Q E hr h => ?_)
  · rw [← hn]; exact spD_len h
  · exact body_ok rfl (hbody cdv A outer s H E hr) h
/-- a stronger denotation's promise keeps a weaker one's -/
theorem FnOk.den {f : Addr} {fd : FuncData} {ps : List Str} {k n : Nat} {m m' : Den} (F : FnOk P w K mg base CX0 k f fd ps (spD K n m)) (h : ∀ as r, m' as = some r → m as = some r) : FnOk P w K mg base CX0 k f fd ps (spD K n m') :=
  F.imp fun vs H Q E ⟨as, r, cs, e, z⟩ => ⟨as, r, cs, h _ _ e, z⟩
end
/-- the law's promise, from its denotation -/
theorem law_sp {K : PySem.W.Frag} {H : Hp} {a : Addr} {ns : List Int} {m : Den} {E : XK} {cs : List C} (hO : Only H) (hS : SqL K H a (ns.map V.int)) (h : m [.rol (ns.map .int)] = some (.dat (.bool true), cs)) : spD K 1 m [.ref a] H (fun v _ => v = .bl true) E := by
  have ro : RoL K H a (ns.map .int) := by
    refine ⟨ns.map V.int, ?_, .ofInts ns⟩
    rcases hS with (h | ⟨o, h⟩) | h
    · rcases hO a with z | ⟨o, xs, z⟩ <;> rw [h] at z <;> cases z
    · exact .inl ⟨o, h⟩
    · exact .inr h
  refine ⟨_, _, _, h, rfl, ⟨rfl, fun i t e => ?_, fun i xs e => ?_, fun i c e => ?_, fun i j c d a e => ?_⟩, fun u H' P => ?_⟩
  · cases i <;> simp at e
  · cases i with
    | zero =>
      simp at e
      subst e
      exact ⟨a, rfl, ro⟩
    | succ i => simp at e
  · cases i <;> simp at e
  · cases i <;> simp at e
  · have := P.res
    cases this
    rfl
end PD

namespace PD
open PySem PySem.Spec PyProof.Rows L2
section
variable {X : Cx} {e a b c : Expr} {es : List Expr} {fa fb fc : FE} {pos : Pos}
/-- a op b op' c -/
def fChain (g g' : GB) (fa fb fc : FE) : FE := fun ρ => (fa ρ).bind fun p => (fb p.2).bind fun q => (g p.1 q.1 q.2).bind fun h => (boolOf h).bind fun k => if k = true then (fc q.2).bind fun r => (g' q.1 r.1 r.2).map fun h' => (h', r.2) else some (.dat (.bool false), q.2)
theorem chain_core {op op' : CmpOp} {g g' : GB} (ho : DOp X (compareOp op) g) (ho' : DOp X (compareOp op') g') (ha : DE X a fa) (hb : DE X b fb) (hc : DE X c fc) (hm : lastMarks [op, op'] [b, c] = false := by with_unfolding_all rfl) :
    ∃ t : TE, PE X (.Compare a [op, op'] [b, c] pos) t ∧ PT X (.Compare a [op, op'] [b, c] pos) (tTest t) ∧ ∀ (σ : Sto) (H : Hp) (ρ : Ev) (h : Hd) (ρ' : Ev) (Q : VK), SR X.K H σ ρ → fChain g g' fa fb fc ρ = some (h, ρ') →
      (∀ u H', Go X.K σ ρ H σ ρ' H' → SR X.K H' σ ρ' → Kp ρ ρ' → HR X.K H H' σ ρ' h u → Q u H') → t σ H Q := by
  obtain ⟨t, pt, rt⟩ := ha.run
  obtain ⟨u, pu, ru⟩ := hb.run
  obtain ⟨v, pv, rv⟩ := hc.run
  obtain ⟨r, o, ro⟩ := ho
  obtain ⟨r', o', ro'⟩ := ho'
  refine ⟨_, pe_chain o o' pt pu pv hm, pt_chain o o' pt pu pv hm, fun σ H ρ h ρ' Q S e q => ?_⟩
  simp only [fChain, Option.bind_eq_some_iff] at e
  obtain ⟨⟨h1, ρ1⟩, e1, ⟨h2, ρ2⟩, e2, h3, e3, k, e4, e5⟩ := e
  have e4 := boolOf_some e4
  subst e4
  refine rt σ H ρ h1 ρ1 _ S e1 fun x H1 g1 S1 k1 r1 => ?_
  refine ru σ H1 ρ1 h2 ρ2 _ S1 e2 fun y H2 g2 S2 k2 r2 => ?_
  refine ro σ H H2 ρ2 h1 h2 _ x y _ S2 (r1.go g2) (r2.back g1.dom) e3 fun w H3 g3 S3 r3 => ?_
  cases r3
  refine ⟨k, rfl, ?_⟩
  have gg := (g1.trans g2).trans g3
  cases k with
  | true =>
    simp only [if_true, Option.bind_eq_some_iff, Option.map_eq_some_iff] at e5 ⊢
    obtain ⟨⟨h4, ρ4⟩, e6, h5, e7, e8⟩ := e5
    cases e8
    refine rv σ H3 ρ2 h4 _ _ S3 e6 fun z H4 g4 S4 k4 r4 => ?_
    exact ro' σ H H4 _ h2 h4 _ y z Q S4 (((r2.back g1.dom).go g3).go g4) (r4.back gg.dom) e7 fun w H5 g5 S5 r5 => q w H5 ((gg.trans g4).trans g5) S5 ((k1.trans k2).trans k4) (r5.back (gg.trans g4).dom)
  | false =>
    cases e5
    exact q _ H3 gg S3 (k1.trans k2) (.bl false)
theorem de_chain {op op' : CmpOp} {g g' : GB} (ho : DOp X (compareOp op) g) (ho' : DOp X (compareOp op') g') (ha : DE X a fa) (hb : DE X b fb) (hc : DE X c fc) (hm : lastMarks [op, op'] [b, c] = false := by with_unfolding_all rfl) : DE X (.Compare a [op, op'] [b, c] pos) (fChain g g' fa fb fc) :=
  let ⟨t, p, _, r⟩ := chain_core ho ho' ha hb hc hm; ⟨t, p, r⟩
theorem dt_chain {op op' : CmpOp} {g g' : GB} (ho : DOp X (compareOp op) g) (ho' : DOp X (compareOp op') g') (ha : DE X a fa) (hb : DE X b fb) (hc : DE X c fc) (hm : lastMarks [op, op'] [b, c] = false := by with_unfolding_all rfl) : DT X (.Compare a [op, op'] [b, c] pos) (fTst (fChain g g' fa fb fc)) := by
  obtain ⟨t, _, p, r⟩ := chain_core (pos := pos) ho ho' ha hb hc hm
  refine ⟨_, p, fun σ H ρ b ρ' Q S e q => ?_⟩
  simp only [fTst, Option.bind_eq_some_iff, Option.map_eq_some_iff] at e
  obtain ⟨⟨h1, ρ1⟩, e1, bb, e2, e3⟩ := e
  cases e3
  have e2 : h1 = _ := boolOf_some e2
  subst e2
  refine r σ H ρ _ _ _ S e1 fun u H' g S' k r => ?_
  cases r
  exact ⟨_, rfl, q H' g S' k⟩
/-! ### a def by its name -/
structure Df (P : Program) (w : World) (K : PySem.W.Frag) (mg : Str → Option Value) (base : Heap) (x : Str) (k n : Nat) (m : Den) : Prop where
  ex : ∃ (f : Addr) (fd : FuncData) (ps : List Str), FnOk P w K mg base CX0 k f fd ps (spD K n m) ∧ n = ps.length ∧ mg x = some (.ref f) ∧ PySem.W.keepIn K (.ref f) = true ∧ Binds K fd ps []
variable {x : Str} {p : Pos} {k n : Nat} {m : Den} {fs : FA}
theorem de_callD (D : Df X.prog X.w X.K X.mg X.base x k n m) (hr : Room k X.A) (hg : Gl X x) (hl : ∀ ρ hs ρ', fs ρ = some (hs, ρ') → hs.length = n)
    (ha : DA X (e :: es) fs) (hdb : (x == ("__debug__" : Str)) = false := by decide) (he : starEach (e :: es) X.env = (false, eval e X.env) :: starEach es X.env := by rfl) (hpl : (backTo pos (starEach es X.env)).any (·.1) = false := by rfl) :
    DE X (.Call (.Name x p) (e :: es) [] pos) (fCall m fs) := by
  obtain ⟨f, fd, ps, F, hn, hm, hk, hb⟩ := D.ex
  exact de_call F hn hl hr hg hm hk hb ha hdb he hpl
theorem de_callD0 (D : Df X.prog X.w X.K X.mg X.base x k n m) (h0 : n = 0) (hr : Room k X.A) (hg : Gl X x) (hdb : (x == ("__debug__" : Str)) = false := by decide) :
    DE X (.Call (.Name x p) [] [] pos) (fCall m fNil) := by
  obtain ⟨f, fd, ps, F, hn, hm, hk, hb⟩ := D.ex
  exact de_call0 F hn h0 hr hg hm hk hb hdb
end
/-- a def of the text, as the head tells it -/
structure At (K : PySem.W.Frag) (mg : Str → Option Value) (x : Str) (st : Stmt) (ps : List Str) : Prop where
  ex : ∃ (f : Addr) (fd : FuncData), Fun K x x st f fd ∧ mg x = some (.ref f) ∧ ∀ us : List Value, us.length = ps.length → bindArgs fd ⟨us, []⟩ = pure (ps.zip us)
section
variable {P : Program} {w : World} {K : PySem.W.Frag} {mg : Str → Option Value} {base : Heap}
theorem df_mk {x : Str} {st : Stmt} {N ps : List Str} {k n : Nat} {g : FS} (A : At K mg x st ps) (S : FnScope N ps (defScope st)) (hn : n = ps.length)
    (hbody : ∀ (f : Addr) (cdv : Value) (A : Around) (outer : List PySem.Env) (s : Shared) (H : Hp) (E : XK), Room k (A.deeper (envOfC x (defScope st) s.heap.objs.size f cdv)) →
      DSs (cxOf CX0 P w K mg base N x (defScope st) f cdv A outer s H E).nox (List.range n) (defBody st) g) : Df P w K mg base x (k + 1) n (runD N.length n g) := by
  obtain ⟨f, fd, F, hm, hb⟩ := A.ex
  exact ⟨f, fd, ps, fn_den F S hn fun cdv A outer s H E hr => hbody f cdv A outer s H E hr, hn, hm, F.kp, .all hb⟩
/-- the recursion's start: nothing is asked -/
theorem df_none {x : Str} {st : Stmt} {ps : List Str} {n : Nat} (A : At K mg x st ps) (hn : n = ps.length) : Df P w K mg base x 0 n (fun _ => none) := by
  obtain ⟨f, fd, F, hm, hb⟩ := A.ex
  have no : ∀ vs H Q E, ¬ spD K n (fun _ => none) vs H Q E := fun vs H Q E ⟨as, r, cs, e, _⟩ => by cases e
  exact ⟨f, fd, ps, ⟨fun vs H Q E h => absurd h (no vs H Q E), fun A outer s H args us vs Q E _ _ _ _ h => absurd h (no vs H Q E)⟩, hn, hm, F.kp, .all hb⟩
theorem Df.up {x : Str} {k k' n : Nat} {m : Den} (D : Df P w K mg base x k n m) (h : k ≤ k') : Df P w K mg base x k' n m := by
  obtain ⟨f, fd, ps, F, hn, hm, hk, hb⟩ := D.ex
  exact ⟨f, fd, ps, F.mono h, hn, hm, hk, hb⟩
end
/-- the built-in names are free -/
structure Bs (mg : Str → Option Value) : Prop where
  len : mg "len" = none
  range : mg "range" = none
  tuple : mg "tuple" = none
  list : mg "list" = none
  int : mg "int" = none
  bool : mg "bool" = none
  str : mg "str" = none
  isinstance : mg "isinstance" = none
  max : mg "max" = none
  min : mg "min" = none
  sum : mg "sum" = none
  any : mg "any" = none
  all : mg "all" = none
  sorted : mg "sorted" = none
  set : mg "set" = none
  abs : mg "abs" = none
  dict : mg "dict" = none
/-! ### no place is handed on by these -/
def NoPlc (f : FE) : Prop := ∀ ρ h ρ', f ρ = some (h, ρ') → ∀ i, h ≠ .plc i
theorem live_no {f : FE} (h : NoPlc f) {pl : List Nat} : ∀ ρ ts i ρ', fItE f ρ = some (ts, some i, ρ') → i ∈ pl := fun ρ ts i ρ' e => by
  simp only [fItE, Option.bind_eq_some_iff, Option.map_eq_some_iff] at e
  obtain ⟨⟨h1, ρ1⟩, e1, ⟨ts1, lp1⟩, e2, e3⟩ := e
  cases e3
  cases h1 with
  | dat d => unfold itOf at e2; split at e2 <;> first | (cases e2; done) | (rename_i hd; cases hd; done) | (rename_i hd; cases hd; cases e2)
  | tmp c => cases c; cases e2
  | plc j => exact absurd rfl (h _ _ _ e1 j)
theorem live_var {j : Nat} {pl : List Nat} (hj : j ∈ pl) : ∀ ρ ts i ρ', fItE (fVar j) ρ = some (ts, some i, ρ') → i ∈ pl := fun ρ ts i ρ' e => by
  simp only [fItE, Option.bind_eq_some_iff, Option.map_eq_some_iff] at e
  obtain ⟨⟨h1, ρ1⟩, e1, ⟨ts1, lp1⟩, e2, e3⟩ := e
  cases e3
  unfold fVar at e1
  split at e1
  · cases e1
    unfold itOf at e2
    split at e2 <;> first | (cases e2; done) | (rename_i hd; cases hd; done) | (rename_i hd; cases hd; cases e2)
  · cases e1
    simp only [itOf] at e2
    split at e2
    · cases e2; exact hj
    · cases e2
    · cases e2
  · cases e1
theorem live_r1 {f : FE} {pl : List Nat} : ∀ ρ ts i ρ', fItR1 f ρ = some (ts, some i, ρ') → i ∈ pl := fun ρ ts i ρ' e => by
  simp only [fItR1, Option.bind_eq_some_iff, Option.map_eq_some_iff] at e
  obtain ⟨_, _, _, _, _, _, e⟩ := e
  cases e
theorem live_r2 {f g : FE} {pl : List Nat} : ∀ ρ ts i ρ', fItR2 f g ρ = some (ts, some i, ρ') → i ∈ pl := fun ρ ts i ρ' e => by
  simp only [fItR2, Option.bind_eq_some_iff, Option.map_eq_some_iff] at e
  obtain ⟨_, _, _, _, _, _, _, _, _, _, e⟩ := e
  cases e
theorem np_tup {g : FA} : NoPlc (fTup g) := fun ρ h ρ' e i z => by
  simp only [fTup, Option.bind_eq_some_iff, Option.map_eq_some_iff] at e
  obtain ⟨_, _, _, _, _, _, e⟩ := e
  cases e; cases z
theorem np_lst {g : FA} : NoPlc (fLst g) := fun ρ h ρ' e i z => by
  simp only [fLst, Option.bind_eq_some_iff, Option.map_eq_some_iff] at e
  obtain ⟨_, _, _, _, _, _, e⟩ := e
  cases e; cases z
theorem np_call {m : Den} {g : FA} : NoPlc (fCall m g) := fun ρ h ρ' e i z => by
  simp only [fCall, Option.bind_eq_some_iff, Option.map_eq_some_iff] at e
  obtain ⟨_, _, _, _, _, _, ⟨r, cs⟩, _, hd, e1, e⟩ := e
  cases e
  subst z
  cases r <;> cases e1
theorem np_lc {it : FI} {g : GT} {tt : FB} {te : FE} {vs : List Nat} : NoPlc (fLc it g tt te vs) := fun ρ h ρ' e i z => by
  simp only [fLc, Option.bind_eq_some_iff, Option.map_eq_some_iff] at e
  obtain ⟨_, _, _, _, _, _, e⟩ := e
  cases e; cases z
end PD

namespace PD
open PySem PySem.Spec PyProof.Rows L2
theorem bt_len : bootBuiltins "len" = some (.builtin "len") := PySem.boot_len
theorem bt_int : bootBuiltins "int" = some (.type "int") := by decide +kernel
theorem bt_abs : bootBuiltins "abs" = some (.builtin "abs") := by decide +kernel
theorem bt_tuple : bootBuiltins "tuple" = some (.type "tuple") := by decide +kernel
theorem bt_list : bootBuiltins "list" = some (.type "list") := by decide +kernel
theorem bt_sum : bootBuiltins "sum" = some (.builtin "sum") := by decide +kernel
theorem bt_any : bootBuiltins "any" = some (.builtin "any") := by decide +kernel
theorem bt_all : bootBuiltins "all" = some (.builtin "all") := by decide +kernel
theorem bt_max : bootBuiltins "max" = some (.builtin "max") := by decide +kernel
theorem bt_min : bootBuiltins "min" = some (.builtin "min") := by decide +kernel
theorem bt_sorted : bootBuiltins "sorted" = some (.builtin "sorted") := by decide +kernel
theorem bt_bool : bootBuiltins "bool" = some (.type "bool") := by decide +kernel
theorem bt_str : bootBuiltins "str" = some (.type "str") := by decide +kernel
theorem bt_set : bootBuiltins "set" = some (.type "set") := by decide +kernel
theorem bt_dict : bootBuiltins "dict" = some (.type "dict") := by decide +kernel
/-! ### the head's facts -/
abbrev KOf {K : PySem.W.Frag} {h : Heap} (_ : K.In h) : PySem.W.Frag := K
theorem at_mk {K : PySem.W.Frag} {h : Heap} {mg : Str → Option Value} (X : K.In h) (G : h.Ns mainGlobals mg) {x : Str} {st : Stmt} {ps : List Str} {f : Addr} {oc : Value} {od an : Option Addr} {osl : Array (Option Value)} {kV doc pm cdv ct : Value}
    (a : PySem.W.nsIn K mainGlobals x = some (some (.ref f)))
    (l : K.lookup f = some ⟨oc, od, .func (PySem.W.fnOf x x (defArgs st) (defBody st) (defScope st) .none kV doc pm an cdv ct), osl⟩)
    (c : PySem.W.codeIn K cdv x = true) (k : PySem.W.keepIn K (.ref f) = true)
    (hb : ∀ (kV doc pm : Value) (an : Option Addr) (cdv ct : Value) (us : List Value), us.length = ps.length → bindArgs (PySem.W.fnOf x x (defArgs st) (defBody st) (defScope st) .none kV doc pm an cdv ct) ⟨us, []⟩ = pure (ps.zip us)) : At K mg x st ps :=
  ⟨f, _, fun_mk l c k, PySem.W.mg_of X G a, hb kV doc pm an cdv ct⟩
theorem bs_mk {K : PySem.W.Frag} {h : Heap} {mg : Str → Option Value} (X : K.In h) (G : h.Ns mainGlobals mg)
    (a1 : PySem.W.nsIn K mainGlobals "len" = some none) (a2 : PySem.W.nsIn K mainGlobals "range" = some none) (a3 : PySem.W.nsIn K mainGlobals "tuple" = some none) (a4 : PySem.W.nsIn K mainGlobals "list" = some none)
    (a5 : PySem.W.nsIn K mainGlobals "int" = some none) (a6 : PySem.W.nsIn K mainGlobals "bool" = some none) (a7 : PySem.W.nsIn K mainGlobals "str" = some none) (a8 : PySem.W.nsIn K mainGlobals "isinstance" = some none)
    (a9 : PySem.W.nsIn K mainGlobals "max" = some none) (a10 : PySem.W.nsIn K mainGlobals "min" = some none) (a11 : PySem.W.nsIn K mainGlobals "sum" = some none) (a12 : PySem.W.nsIn K mainGlobals "any" = some none)
    (a13 : PySem.W.nsIn K mainGlobals "all" = some none) (a14 : PySem.W.nsIn K mainGlobals "sorted" = some none) (a15 : PySem.W.nsIn K mainGlobals "set" = some none) (a16 : PySem.W.nsIn K mainGlobals "abs" = some none)
    (a17 : PySem.W.nsIn K mainGlobals "dict" = some none) : Bs mg :=
  have o := fun {n : Str} (e : PySem.W.nsIn K mainGlobals n = some none) => PySem.W.mg_none_of X G e
  ⟨o a1, o a2, o a3, o a4, o a5, o a6, o a7, o a8, o a9, o a10, o a11, o a12, o a13, o a14, o a15, o a16, o a17⟩
theorem walk_pd {l : PySem.W.OpenLaw} {q : Program} {loose : List Str} {XP : (Str → Option Value) → Heap → Prop} {YP : World → Heap → Prop} {d : DefRec} {K : Params → PySem.W.Frag} {k : Nat} {m : Den}
    (hn : l.most = some 63) (hdf : d.params.defaults = []) (hr : Room k callerA)
    (hY : ∀ (w : World) (h : Heap), YP w h → (K w.params).In h)
    (F : ∀ (w : World) (mg : Str → Option Value) (fa : Addr) (h : Heap), (K w.params).In h → h.Ns mainGlobals mg → mg d.name = some (.ref fa) →
      ∃ fd : FuncData, (∀ (s : Shared) (u : Value), BindsTo s fd ⟨[u], []⟩ [("script", u)]) ∧ ∀ (P : Program) (w' : World) (base : Heap), FnOk P w' (K w.params) mg base CX0 k fa fd ["script"] (spD (K w.params) 1 m))
    (hm : ∀ ns : List Int, ns.length ≤ 63 → (∀ z ∈ ns, Builtin.Int.intBits z ≤ 1048576) → ∃ cs, m [.rol (ns.map .int)] = some (.dat (.bool true), cs)) :
    PySem.W.WalkO q loose XP YP l.row.toRowW d [] (fun f vs => PySem.call f vs) :=
  walk_ofB (n := 63) (k := k) (x := "script") (CX := fun _ => CX0) (sp := fun w => spD (K w.params) 1 m) hn (by decide) hdf hr hY
    (fun w mg fa h a b c => let ⟨fd, h1, h2⟩ := F w mg fa h a b c; ⟨fd, h1, fun base _ _ => h2 l.prog w base⟩)
    (fun w H a ns hl hb hO hS => let ⟨cs, e⟩ := hm ns hl hb; law_sp hO hS e) fun _ _ _ _ _ z => z
/-! ### no place is handed on -/
theorem np_c {t : T} : NoPlc (fC t) := fun ρ h ρ' e i z => by
  simp only [fC] at e
  cases e; cases z
theorem np_sl {f : FE} {g g' : FO} : NoPlc (fSl f g g') := fun ρ h ρ' e i z => by
  subst z
  simp only [fSl, Option.bind_eq_some_iff, Option.map_eq_some_iff] at e
  obtain ⟨⟨h1, ρ1⟩, _, ⟨o1, ρ2⟩, _, ⟨o2, ρ3⟩, _, h3, e1, e⟩ := e
  cases e
  unfold gSl at e1
  split at e1
  · cases e1
  · simp only [Option.map_eq_some_iff] at e1
    obtain ⟨_, _, e1⟩ := e1
    cases e1
theorem np_backT {f : FE} {g : FO} : NoPlc (fBackT f g) := fun ρ h ρ' e i z => by
  simp only [fBackT, Option.bind_eq_some_iff, Option.map_eq_some_iff] at e
  obtain ⟨_, _, _, _, _, _, e⟩ := e
  cases e; cases z
theorem np_revL {f : FE} : NoPlc (fRevL f) := fun ρ h ρ' e i z => by
  simp only [fRevL, Option.bind_eq_some_iff, Option.map_eq_some_iff] at e
  obtain ⟨_, _, _, _, e⟩ := e
  cases e; cases z
theorem np_listRg {f : FR} : NoPlc (fListRg f) := fun ρ h ρ' e i z => by
  simp only [fListRg, Option.bind_eq_some_iff, Option.map_eq_some_iff] at e
  obtain ⟨_, _, _, _, e⟩ := e
  cases e; cases z
theorem np_tupRg {f : FR} : NoPlc (fTupRg f) := fun ρ h ρ' e i z => by
  simp only [fTupRg, Option.bind_eq_some_iff, Option.map_eq_some_iff] at e
  obtain ⟨_, _, _, _, e⟩ := e
  cases e; cases z
/-- an operator gives no place -/
def NB (g : GB) : Prop := ∀ a b ρ h, g a b ρ = some h → ∀ i, h ≠ .plc i
def NC (g : GA) : Prop := ∀ a ρ h, g a ρ = some h → ∀ i, h ≠ .plc i
theorem np_bin {g : GB} {f f' : FE} (n : NB g) : NoPlc (fBin g f f') := fun ρ h ρ' e => by
  simp only [fBin, Option.bind_eq_some_iff, Option.map_eq_some_iff] at e
  obtain ⟨⟨h1, ρ1⟩, e1, ⟨h2, ρ2⟩, e2, h3, e3, e4⟩ := e
  cases e4
  exact n _ _ _ _ e3
theorem np_cb {g : GA} {f : FA} (n : NC g) : NoPlc (fCB g f) := fun ρ h ρ' e => by
  simp only [fCB, Option.bind_eq_some_iff, Option.map_eq_some_iff] at e
  obtain ⟨⟨h1, ρ1⟩, e1, h3, e3, e4⟩ := e
  cases e4
  exact n _ _ _ e3
theorem nb_I {C : Int → Int → Prop} {f : Int → Int → T} : NB (gI C f) := fun a b ρ h e i z => by
  simp only [gI, Option.bind_eq_some_iff, Option.map_eq_some_iff] at e
  obtain ⟨_, _, _, _, _, _, e⟩ := e
  subst e; cases z
theorem nb_I0 {f : Int → Int → T} : NB (gI0 f) := fun a b ρ h e i z => by
  simp only [gI0, Option.bind_eq_some_iff, Option.map_eq_some_iff] at e
  obtain ⟨_, _, _, _, e⟩ := e
  subst e; cases z
theorem nb_or {g g' : GB} (n : NB g) (n' : NB g') : NB (fun a b ρ => (g a b ρ).or (g' a b ρ)) := fun a b ρ h e => by
  cases q : g a b ρ with
  | some x => simp only [q, Option.some_or] at e; cases e; exact n _ _ _ _ q
  | none => simp only [q, Option.none_or] at e; exact n' _ _ _ _ e
theorem nb_addT : NB gAddT := fun a b ρ h e i z => by
  simp only [gAddT, Option.bind_eq_some_iff, Option.map_eq_some_iff] at e
  obtain ⟨_, _, _, _, _, _, e⟩ := e
  subst e; cases z
theorem nb_addL : NB gAddL := fun a b ρ h e i z => by
  simp only [gAddL, Option.bind_eq_some_iff, Option.map_eq_some_iff] at e
  obtain ⟨_, _, _, _, _, _, e⟩ := e
  subst e; cases z
theorem nb_addS : NB gAddS := fun a b ρ h e i z => by
  simp only [gAddS, Option.bind_eq_some_iff, Option.map_eq_some_iff] at e
  obtain ⟨_, _, _, _, _, _, e⟩ := e
  subst e; cases z
theorem nb_mulT : NB gMulT := fun a b ρ h e i z => by
  simp only [gMulT, Option.bind_eq_some_iff, Option.map_eq_some_iff] at e
  obtain ⟨_, _, _, _, _, _, e⟩ := e
  subst e; cases z
theorem nb_mulL : NB gMulL := fun a b ρ h e i z => by
  simp only [gMulL, Option.bind_eq_some_iff, Option.map_eq_some_iff] at e
  obtain ⟨_, _, _, _, _, _, e⟩ := e
  subst e; cases z
theorem nb_add : NB gAdd := nb_or nb_I0 (nb_or nb_addT (nb_or nb_addL nb_addS))
theorem nb_mult : NB gMul := nb_or nb_I (nb_or nb_mulT nb_mulL)
theorem nb_ix : NB gIx := fun a b ρ h e i z => by
  simp only [gIx, Option.bind_eq_some_iff, Option.map_eq_some_iff] at e
  obtain ⟨_, _, _, _, _, _, e⟩ := e
  subst e; cases z
theorem nc_sorted : NC gSortedI := fun a ρ h e i z => by
  unfold gSortedI at e
  split at e
  · simp only [Option.bind_eq_some_iff, Option.map_eq_some_iff] at e
    obtain ⟨_, _, _, _, e⟩ := e
    subst e; cases z
  · cases e
theorem nc_tuple : NC gTuple := fun a ρ h e i z => by
  unfold gTuple at e
  split at e
  · simp only [Option.map_eq_some_iff] at e
    obtain ⟨_, _, e⟩ := e
    subst e; cases z
  · cases e
theorem live_r3 {f g k : FE} {pl : List Nat} : ∀ ρ ts i ρ', fItR3 f g k ρ = some (ts, some i, ρ') → i ∈ pl := fun ρ ts i ρ' e => by
  simp only [fItR3, Option.bind_eq_some_iff, Option.map_eq_some_iff] at e
  obtain ⟨_, _, _, _, _, _, _, _, _, _, _, _, _, _, e⟩ := e
  cases e
end PD

namespace PD
open PySem PySem.Spec PyProof.Rows L2
section
variable {X : Cx} {fa fb fc : FE} {ρ : Ev}
@[simp] theorem ev_var (i : Nat) (ρ : Ev) : fVar i ρ = (match ρ[i]? with
  | some (some (.dat t)) => some (.dat t, ρ)
  | some (some _) => some (.plc i, ρ)
  | _ => none) := rfl
@[simp] theorem ev_c (t : T) (ρ : Ev) : fC t ρ = some (.dat t, ρ) := rfl
@[simp] theorem ev_nil (ρ : Ev) : fNil ρ = some ([], ρ) := rfl
@[simp] theorem ev_cons (f : FE) (g : FA) (ρ : Ev) : fCons f g ρ = (f ρ).bind fun p => (g p.2).map fun q => (p.1 :: q.1, q.2) := rfl
@[simp] theorem guardP_true : guardP True = some () := guardP_pos trivial
@[simp] theorem guardP_false : guardP False = none := by unfold guardP; simp
@[simp] theorem ev_datsOf_nil : datsOf [] = some [] := rfl
@[simp] theorem ev_datsOf_cons (t : T) (hs : List Hd) : datsOf (.dat t :: hs) = (datsOf hs).map (t :: ·) := by rfl
theorem small_le {n : Nat} (h : n ≤ 1000000) : n ≤ sizeLine := by rw [sizeLine_eq]; omega
theorem guard_small {n : Nat} (h : n ≤ 1000000) : guardP (n ≤ sizeLine) = some () := guardP_pos (small_le h)
@[simp] theorem ev_tup (g : FA) (ρ : Ev) : fTup g ρ = (g ρ).bind fun p => (datsOf p.1).bind fun ts => (guardP (ts.length ≤ sizeLine)).map fun _ => (.dat (.tuple ts), p.2) := rfl
@[simp] theorem ev_lst (g : FA) (ρ : Ev) : fLst g ρ = (g ρ).bind fun p => (datsOf p.1).bind fun ts => (guardP (ts.length ≤ sizeLine)).map fun _ => (.tmp (.lst ts), p.2) := rfl
@[simp] theorem ev_bin (g : GB) (fa fb : FE) (ρ : Ev) : fBin g fa fb ρ = (fa ρ).bind fun p => (fb p.2).bind fun q => (g p.1 q.1 q.2).map fun h => (h, q.2) := rfl
@[simp] theorem ev_boolOf (b : Bool) : boolOf (.dat (.bool b)) = some b := rfl
@[simp] theorem ev_tst (f : FE) (ρ : Ev) : fTst f ρ = (f ρ).bind fun p => (boolOf p.1).map fun b => (b, p.2) := rfl
@[simp] theorem ev_and (f g : FB) (ρ : Ev) : fAnd f g ρ = (f ρ).bind fun p => if p.1 = true then g p.2 else some (false, p.2) := rfl
@[simp] theorem ev_or (f g : FB) (ρ : Ev) : fOr f g ρ = (f ρ).bind fun p => if p.1 = true then some (true, p.2) else g p.2 := rfl
@[simp] theorem ev_not (f : FB) (ρ : Ev) : fNot f ρ = (f ρ).map fun p => (!p.1, p.2) := rfl
@[simp] theorem ev_andV (f g : FE) (ρ : Ev) : fAndV f g ρ = (f ρ).bind fun p => (boolOf p.1).bind fun b => if b = true then g p.2 else some (.dat (.bool false), p.2) := rfl
@[simp] theorem ev_orV (f g : FE) (ρ : Ev) : fOrV f g ρ = (f ρ).bind fun p => (boolOf p.1).bind fun b => if b = true then some (.dat (.bool true), p.2) else g p.2 := rfl
@[simp] theorem ev_notV (f : FE) (ρ : Ev) : fNotV f ρ = (f ρ).bind fun p => (boolOf p.1).map fun b => (.dat (.bool !b), p.2) := rfl
@[simp] theorem ev_if (f : FB) (g g' : FE) (ρ : Ev) : fIf f g g' ρ = (f ρ).bind fun p => if p.1 = true then g p.2 else g' p.2 := rfl
@[simp] theorem ev_chain (g g' : GB) (fa fb fc : FE) (ρ : Ev) : fChain g g' fa fb fc ρ = (fa ρ).bind fun p => (fb p.2).bind fun q => (g p.1 q.1 q.2).bind fun h => (boolOf h).bind fun k => if k = true then (fc q.2).bind fun r => (g' q.1 r.1 r.2).map fun h' => (h', r.2) else some (.dat (.bool false), q.2) := rfl
/-! readings -/
@[simp] theorem ev_py_dat (t : T) (ρ : Ev) : py (.dat t) ρ = some t := rfl
@[simp] theorem ev_py_tmp (xs : List T) (ρ : Ev) : py (.tmp (.lst xs)) ρ = some (.list xs) := rfl
@[simp] theorem ev_py_plc (i : Nat) (ρ : Ev) : py (.plc i) ρ = (match ρ[i]? with
    | some (some (.obj (.lst xs))) => some (.list xs)
    | some (some (.rol xs)) => some (.list xs)
    | _ => none) := rfl
@[simp] theorem ev_intOf (i : Int) : intOf (.dat (.int i)) = some i := rfl
@[simp] theorem ev_intOf_t (xs : List T) : intOf (.dat (.tuple xs)) = none := rfl
@[simp] theorem ev_intOf_l (c : C) : intOf (.tmp c) = none := rfl
@[simp] theorem ev_intOf_p (c : Nat) : intOf (.plc c) = none := rfl
@[simp] theorem ev_intOf_s (c : Str) : intOf (.dat (.str c)) = none := rfl
@[simp] theorem ev_intOf_n : intOf (.dat .none) = none := rfl
@[simp] theorem ev_intOf_b (b : Bool) : intOf (.dat (.bool b)) = none := rfl
@[simp] theorem ev_tupOf (xs : List T) : tupOf (.dat (.tuple xs)) = some xs := rfl
@[simp] theorem ev_tupOf_i (i : Int) : tupOf (.dat (.int i)) = none := rfl
@[simp] theorem ev_tupOf_s (i : Str) : tupOf (.dat (.str i)) = none := rfl
@[simp] theorem ev_tupOf_l (c : C) : tupOf (.tmp c) = none := rfl
@[simp] theorem ev_tupOf_p (c : Nat) : tupOf (.plc c) = none := rfl
@[simp] theorem ev_strOf (x : Str) : strOf (.dat (.str x)) = some x := rfl
@[simp] theorem ev_lstOf_d (t : T) (ρ : Ev) : lstOf (.dat t) ρ = none := rfl
@[simp] theorem ev_lstOf_t (xs : List T) (ρ : Ev) : lstOf (.tmp (.lst xs)) ρ = some xs := rfl
@[simp] theorem ev_lstOf_p (i : Nat) (ρ : Ev) : lstOf (.plc i) ρ = (match ρ[i]? with
    | some (some (.obj (.lst xs))) => some xs
    | _ => none) := rfl
@[simp] theorem ev_rdL_d (t : T) (ρ : Ev) : rdL (.dat t) ρ = none := rfl
@[simp] theorem ev_rdL_t (xs : List T) (ρ : Ev) : rdL (.tmp (.lst xs)) ρ = some xs := rfl
@[simp] theorem ev_rdL_p (i : Nat) (ρ : Ev) : rdL (.plc i) ρ = (match ρ[i]? with
    | some (some (.obj (.lst xs))) => some xs
    | some (some (.rol xs)) => some xs
    | _ => none) := rfl
@[simp] theorem ev_rdSeq (h : Hd) (ρ : Ev) : rdSeq h ρ = (tupOf h).or (rdL h ρ) := rfl
/-! operators -/
@[simp] theorem ev_gI {C : Int → Int → Prop} {f : Int → Int → T} (a b : Hd) (ρ : Ev) : gI C f a b ρ = (intOf a).bind fun i => (intOf b).bind fun j => (guardP (C i j)).map fun _ => .dat (f i j) := rfl
@[simp] theorem ev_gI0 {f : Int → Int → T} (a b : Hd) (ρ : Ev) : gI0 f a b ρ = (intOf a).bind fun i => (intOf b).map fun j => .dat (f i j) := rfl
@[simp] theorem ev_gCmpI {f : Int → Int → Bool} (a b : Hd) (ρ : Ev) : gCmpI f a b ρ = (intOf a).bind fun i => (intOf b).map fun j => .dat (.bool (f i j)) := rfl
@[simp] theorem ev_add (a b : Hd) (ρ : Ev) : gAdd a b ρ = (gI0 (fun i j => .int (i + j)) a b ρ).or ((gAddT a b ρ).or ((gAddL a b ρ).or (gAddS a b ρ))) := rfl
@[simp] theorem ev_addT (a b : Hd) (ρ : Ev) : gAddT a b ρ = (tupOf a).bind fun xs => (tupOf b).bind fun ys => (guardP (xs.length + ys.length ≤ sizeLine)).map fun _ => .dat (.tuple (xs ++ ys)) := rfl
@[simp] theorem ev_addL (a b : Hd) (ρ : Ev) : gAddL a b ρ = (lstOf a ρ).bind fun xs => (lstOf b ρ).bind fun ys => (guardP (xs.length + ys.length ≤ sizeLine)).map fun _ => .tmp (.lst (xs ++ ys)) := rfl
@[simp] theorem ev_mul (a b : Hd) (ρ : Ev) : gMul a b ρ = (gI MulOk (fun i j => .int (i * j)) a b ρ).or ((gMulT a b ρ).or (gMulL a b ρ)) := rfl
@[simp] theorem ev_mulT (a b : Hd) (ρ : Ev) : gMulT a b ρ = (tupOf a).bind fun xs => (intOf b).bind fun k => (guardP (-1000000 ≤ k ∧ k ≤ 1000000 ∧ xs.length * k.toNat ≤ 1000000)).map fun _ => .dat (.tuple (List.replicate k.toNat xs).flatten) := rfl
@[simp] theorem ev_mulL (a b : Hd) (ρ : Ev) : gMulL a b ρ = (lstOf a ρ).bind fun xs => (intOf b).bind fun k => (guardP (-1000000 ≤ k ∧ k ≤ 1000000 ∧ xs.length * k.toNat ≤ 1000000)).map fun _ => .tmp (.lst (List.replicate k.toNat xs).flatten) := rfl
@[simp] theorem ev_neg (f : FE) (ρ : Ev) : fNeg f ρ = (f ρ).bind fun p => (intOf p.1).map fun i => (.dat (.int (-i)), p.2) := rfl
@[simp] theorem ev_eq (a b : Hd) (ρ : Ev) : gEq a b ρ = (py a ρ).bind fun d => (py b ρ).bind fun e => (guardP (min d.depth e.depth ≤ 60)).map fun _ => .dat (.bool (PyData.eqv d e)) := rfl
@[simp] theorem ev_ne (a b : Hd) (ρ : Ev) : gNe a b ρ = (py a ρ).bind fun d => (py b ρ).bind fun e => (guardP (min d.depth e.depth ≤ 60)).map fun _ => .dat (.bool (!PyData.eqv d e)) := rfl
@[simp] theorem ev_in (a b : Hd) (ρ : Ev) : gIn a b ρ = (py a ρ).bind fun d => (py b ρ).bind fun e => (seqOf e).bind fun xs => (guardP (min (PyData.depthAll xs) d.depth ≤ 60)).map fun _ => .dat (.bool (xs.any fun y => PyData.eqv y d)) := rfl
@[simp] theorem ev_notIn (a b : Hd) (ρ : Ev) : gNotIn a b ρ = (py a ρ).bind fun d => (py b ρ).bind fun e => (seqOf e).bind fun xs => (guardP (min (PyData.depthAll xs) d.depth ≤ 60)).map fun _ => .dat (.bool (!xs.any fun y => PyData.eqv y d)) := rfl
@[simp] theorem ev_seqL (xs : List T) : seqOf (.list xs) = some xs := rfl
@[simp] theorem ev_seqT (xs : List T) : seqOf (.tuple xs) = some xs := rfl
@[simp] theorem ev_isN (a b : Hd) (ρ : Ev) : gIsN a b ρ = (py a ρ).bind fun _ => if isNone b then some (.dat (.bool (isNone a))) else none := rfl
@[simp] theorem ev_notN (a b : Hd) (ρ : Ev) : gNotN a b ρ = (py a ρ).bind fun _ => if isNone b then some (.dat (.bool (!isNone a))) else none := rfl
@[simp] theorem ev_isNone_n : isNone (.dat .none) = true := rfl
@[simp] theorem ev_isNone_i (i : Int) : isNone (.dat (.int i)) = false := rfl
@[simp] theorem ev_isNone_b (i : Bool) : isNone (.dat (.bool i)) = false := rfl
@[simp] theorem ev_isNone_s (i : Str) : isNone (.dat (.str i)) = false := rfl
@[simp] theorem ev_isNone_t (i : List T) : isNone (.dat (.tuple i)) = false := rfl
@[simp] theorem ev_lt (a b : Hd) (ρ : Ev) : gLt a b ρ = (gCmpI (fun i j => decide (i < j)) a b ρ).or (gOrd (fun d e => PySem.W.dataLt d e) a b ρ) := rfl
@[simp] theorem ev_le (a b : Hd) (ρ : Ev) : gLe a b ρ = (gCmpI (fun i j => decide (i ≤ j)) a b ρ).or (gOrd (fun d e => !PySem.W.dataLt e d) a b ρ) := rfl
@[simp] theorem ev_gt (a b : Hd) (ρ : Ev) : gGt a b ρ = (gCmpI (fun i j => decide (j < i)) a b ρ).or (gOrd (fun d e => PySem.W.dataLt e d) a b ρ) := rfl
@[simp] theorem ev_ge (a b : Hd) (ρ : Ev) : gGe a b ρ = (gCmpI (fun i j => decide (j ≤ i)) a b ρ).or (gOrd (fun d e => !PySem.W.dataLt d e) a b ρ) := rfl
@[simp] theorem ev_ix (a b : Hd) (ρ : Ev) : gIx a b ρ = (rdSeq a ρ).bind fun xs => (intOf b).bind fun i => (atI xs i).map fun t => .dat t := rfl
@[simp] theorem ev_noPart (ρ : Ev) : fNoPart ρ = some (none, ρ) := rfl
@[simp] theorem ev_part (f : FE) (ρ : Ev) : fPart f ρ = (f ρ).bind fun p => (intOf p.1).map fun i => (some i, p.2) := rfl
@[simp] theorem ev_gSl_t (xs : List T) (lo hi : Option Int) (ρ : Ev) : gSl (.dat (.tuple xs)) lo hi ρ = some (.dat (.tuple (cutT xs lo hi))) := rfl
@[simp] theorem ev_gSl_l (xs : List T) (lo hi : Option Int) (ρ : Ev) : gSl (.tmp (.lst xs)) lo hi ρ = some (.tmp (.lst (cutT xs lo hi))) := rfl
@[simp] theorem ev_gSl_p (i : Nat) (lo hi : Option Int) (ρ : Ev) : gSl (.plc i) lo hi ρ = (rdL (.plc i) ρ).map fun xs => .tmp (.lst (cutT xs lo hi)) := rfl
@[simp] theorem ev_sl (fa : FE) (fl fh : FO) (ρ : Ev) : fSl fa fl fh ρ = (fa ρ).bind fun p => (fl p.2).bind fun q => (fh q.2).bind fun r => (gSl p.1 q.1 r.1 r.2).map fun h => (h, r.2) := rfl
@[simp] theorem ev_backT (fa : FE) (fl : FO) (ρ : Ev) : fBackT fa fl ρ = (fa ρ).bind fun p => (fl p.2).bind fun q => (tupOf p.1).map fun xs => (.dat (.tuple (xs.take (backN xs.length q.1)).reverse), q.2) := rfl
@[simp] theorem ev_backN (n : Nat) : backN n none = n := rfl
@[simp] theorem ev_revL (fa : FE) (ρ : Ev) : fRevL fa ρ = (fa ρ).bind fun p => (rdL p.1 p.2).map fun xs => (.tmp (.lst xs.reverse), p.2) := rfl
@[simp] theorem ev_CB (g : GA) (fa : FA) (ρ : Ev) : fCB g fa ρ = (fa ρ).bind fun p => (g p.1 p.2).map fun h => (h, p.2) := rfl
@[simp] theorem ev_len (h : Hd) (ρ : Ev) : gLen [h] ρ = (rdSeq h ρ).map fun xs => .dat (.int xs.length) := rfl
@[simp] theorem ev_int_i (i : Int) (ρ : Ev) : gInt [.dat (.int i)] ρ = some (.dat (.int i)) := rfl
@[simp] theorem ev_int_b (b : Bool) (ρ : Ev) : gInt [.dat (.bool b)] ρ = some (.dat (.int (if b then 1 else 0))) := rfl
@[simp] theorem ev_tuple (h : Hd) (ρ : Ev) : gTuple [h] ρ = (rdSeq h ρ).map fun xs => .dat (.tuple xs) := rfl
@[simp] theorem ev_list (h : Hd) (ρ : Ev) : gList [h] ρ = (rdSeq h ρ).map fun xs => .tmp (.lst xs) := rfl
@[simp] theorem ev_max (hs : List Hd) (ρ : Ev) : gMax hs ρ = (gMax2 hs ρ).or (gMax1 hs ρ) := rfl
@[simp] theorem ev_min (hs : List Hd) (ρ : Ev) : gMin hs ρ = (gMin2 hs ρ).or (gMin1 hs ρ) := rfl
@[simp] theorem ev_max2 (i j : Int) (ρ : Ev) : gMax2 [.dat (.int i), .dat (.int j)] ρ = some (.dat (.int (max i j))) := rfl
@[simp] theorem ev_min2 (i j : Int) (ρ : Ev) : gMin2 [.dat (.int i), .dat (.int j)] ρ = some (.dat (.int (min i j))) := rfl
@[simp] theorem ev_isi (f : PyData → Bool) (fa : FE) (ρ : Ev) : fIsi f fa ρ = (fa ρ).bind fun p => (py p.1 p.2).map fun d => (.dat (.bool (f d)), p.2) := rfl
@[simp] theorem ev_putL_p (i : Nat) (xs : List T) (ρ : Ev) : putL (.plc i) xs ρ = ρ.set i (some (.obj (.lst xs))) := rfl
@[simp] theorem ev_putL_t (c : C) (xs : List T) (ρ : Ev) : putL (.tmp c) xs ρ = ρ := rfl
@[simp] theorem ev_mt (g : GM) (fa : FE) (fs : FA) (ρ : Ev) : fMt g fa fs ρ = (fa ρ).bind fun p => (lstOf p.1 p.2).bind fun _ => (fs p.2).bind fun q => (datsOf q.1).bind fun ts => (lstOf p.1 q.2).bind fun xs => (g xs ts).map fun r => (.dat r.1, putL p.1 r.2 q.2) := rfl
/-! calls -/
@[simp] theorem ev_args_nil (ρ : Ev) : argsOf [] ρ = some [] := rfl
@[simp] theorem ev_args_d (t : T) (hs : List Hd) (ρ : Ev) : argsOf (.dat t :: hs) ρ = (argsOf hs ρ).map (Sl.dat t :: ·) := rfl
@[simp] theorem ev_args_t (c : C) (hs : List Hd) (ρ : Ev) : argsOf (.tmp c :: hs) ρ = (argsOf hs ρ).map (Sl.obj c :: ·) := rfl
@[simp] theorem ev_args_p (i : Nat) (hs : List Hd) (ρ : Ev) : argsOf (.plc i :: hs) ρ = (match ρ[i]? with
    | some (some (.dat _)) => none
    | some (some s) => (argsOf hs ρ).map (s :: ·)
    | _ => none) := rfl
@[simp] theorem ev_plcs_nil (as : List Sl) : plcs [] as = [] := by cases as <;> rfl
@[simp] theorem ev_plcs_d (t : T) (hs : List Hd) (a : Sl) (as : List Sl) : plcs (.dat t :: hs) (a :: as) = plcs hs as := by cases a <;> rfl
@[simp] theorem ev_plcs_t (t : C) (hs : List Hd) (a : Sl) (as : List Sl) : plcs (.tmp t :: hs) (a :: as) = plcs hs as := by cases a <;> rfl
@[simp] theorem ev_plcs_po (i : Nat) (hs : List Hd) (c : C) (as : List Sl) : plcs (.plc i :: hs) (.obj c :: as) = i :: plcs hs as := rfl
@[simp] theorem ev_plcs_pr (i : Nat) (hs : List Hd) (c : List T) (as : List Sl) : plcs (.plc i :: hs) (.rol c :: as) = plcs hs as := rfl
@[simp] theorem ev_upds_nil (as : List Sl) (cs : List C) : upds [] as cs = [] := by cases as <;> cases cs <;> rfl
@[simp] theorem ev_upds_d (h : Hd) (hs : List Hd) (t : T) (as : List Sl) (cs : List C) : upds (h :: hs) (.dat t :: as) cs = upds hs as cs := by cases h <;> cases cs <;> rfl
@[simp] theorem ev_upds_r (h : Hd) (hs : List Hd) (t : List T) (as : List Sl) (cs : List C) : upds (h :: hs) (.rol t :: as) cs = upds hs as cs := by cases h <;> cases cs <;> rfl
@[simp] theorem ev_upds_t (c0 : C) (hs : List Hd) (t : C) (as : List Sl) (c : C) (cs : List C) : upds (.tmp c0 :: hs) (.obj t :: as) (c :: cs) = upds hs as cs := rfl
@[simp] theorem ev_upds_p (i : Nat) (hs : List Hd) (t : C) (as : List Sl) (c : C) (cs : List C) : upds (.plc i :: hs) (.obj t :: as) (c :: cs) = (i, c) :: upds hs as cs := rfl
@[simp] theorem ev_putMany_nil (ρ : Ev) : putMany ρ [] = ρ := rfl
@[simp] theorem ev_putMany_cons (ρ : Ev) (i : Nat) (c : C) (L : List (Nat × C)) : putMany ρ ((i, c) :: L) = putMany (ρ.set i (some (.obj c))) L := rfl
@[simp] theorem ev_resHd_d (t : T) : resHd (.dat t) = some (.dat t) := rfl
@[simp] theorem ev_resHd_o (t : C) : resHd (.obj t) = some (.tmp t) := rfl
@[simp] theorem ev_call (m : Den) (fs : FA) (ρ : Ev) : fCall m fs ρ = (fs ρ).bind fun p => (argsOf p.1 p.2).bind fun as => (guardP (plcs p.1 as).Nodup).bind fun _ => (m as).bind fun r => (resHd r.1).map fun h => (h, putMany p.2 (upds p.1 as r.2)) := rfl
/-! statements -/
@[simp] theorem ev_seq (f g : FS) (ρ : Ev) : fSeq f g ρ = (f ρ).bind fun o => match o with
    | .nx ρ' => g ρ'
    | o => some o := by
  unfold fSeq
  cases f ρ with
  | none => rfl
  | some o => cases o <;> rfl
@[simp] theorem ev_next (ρ : Ev) : fNext ρ = some (.nx ρ) := rfl
@[simp] theorem ev_break (ρ : Ev) : fBreak ρ = some (.bk ρ) := rfl
@[simp] theorem ev_cont (ρ : Ev) : fCont ρ = some (.ct ρ) := rfl
@[simp] theorem ev_expr (f : FE) (ρ : Ev) : fExpr f ρ = (f ρ).map fun p => .nx p.2 := rfl
@[simp] theorem ev_retOf_d (pl : List Nat) (t : T) (ρ : Ev) : retOf pl (.dat t) ρ = some (.dat t) := rfl
@[simp] theorem ev_retOf_t (pl : List Nat) (t : C) (ρ : Ev) : retOf pl (.tmp t) ρ = some (.obj t) := rfl
@[simp] theorem ev_retOf_p (pl : List Nat) (i : Nat) (ρ : Ev) : retOf pl (.plc i) ρ = if i ∈ pl then none else (match ρ[i]? with
    | some (some (.obj c)) => some (.obj c)
    | _ => none) := by
  unfold retOf
  rfl
@[simp] theorem ev_ret (pl : List Nat) (f : FE) (ρ : Ev) : fRet pl f ρ = (f ρ).bind fun p => (retOf pl p.1 p.2).map fun r => .rt r p.2 := rfl
@[simp] theorem ev_retN (ρ : Ev) : fRetN ρ = some (.rt (.dat .none) ρ) := rfl
@[simp] theorem ev_ifS (c : FB) (f g : FS) (ρ : Ev) : fIfS c f g ρ = (c ρ).bind fun p => if p.1 = true then f p.2 else g p.2 := rfl
@[simp] theorem ev_stH_d (i : Nat) (t : T) (ρ : Ev) : stH false i (.dat t) ρ = some (ρ.set i (some (.dat t))) := rfl
@[simp] theorem ev_stH_t (i : Nat) (t : C) (ρ : Ev) : stH false i (.tmp t) ρ = some (ρ.set i (some (.obj t))) := rfl
@[simp] theorem ev_stH_c (i : Nat) (h : Hd) (ρ : Ev) : stH true i h ρ = if isObj ρ i then none else stH false i h ρ := by
  unfold stH
  simp
@[simp] theorem ev_isObj (ρ : Ev) (i : Nat) : isObj ρ i = (match ρ[i]? with
  | some (some (.obj _)) => true
  | _ => false) := rfl
@[simp] theorem ev_set (chk : Bool) (i : Nat) (f : FE) (ρ : Ev) : fSet chk i f ρ = (f ρ).bind fun p => if i < p.2.length then (stH chk i p.1 p.2).map Fl.nx else none := rfl
@[simp] theorem ev_tgN (chk : Bool) (i : Nat) (d : T) (ρ : Ev) : tgN chk i d ρ = if i < ρ.length then stH chk i (.dat d) ρ else none := rfl
@[simp] theorem ev_tgNil (ρ : Ev) : tgNil [] ρ = some ρ := rfl
@[simp] theorem ev_tgTup (gs : List T → Ev → Option Ev) (ds : List T) (ρ : Ev) : tgTup gs (.tuple ds) ρ = gs ds ρ := rfl
@[simp] theorem ev_tgCons (g : GT) (gs : List T → Ev → Option Ev) (d : T) (ds : List T) (ρ : Ev) : tgCons g gs (d :: ds) ρ = (g d ρ).bind fun ρ1 => gs ds ρ1 := rfl
/-! loops -/
@[simp] theorem ev_itOf_t (xs : List T) (ρ : Ev) : itOf (.dat (.tuple xs)) ρ = some (xs, none) := rfl
@[simp] theorem ev_itOf_l (xs : List T) (ρ : Ev) : itOf (.tmp (.lst xs)) ρ = some (xs, none) := rfl
@[simp] theorem ev_itE (f : FE) (ρ : Ev) : fItE f ρ = (f ρ).bind fun p => (itOf p.1 p.2).map fun q => (q.1, q.2, p.2) := rfl
@[simp] theorem ev_ck_none (ts : List T) (ρ : Ev) : ckOf ts none ρ = True := rfl
@[simp] theorem ev_ck_some (ts : List T) (i : Nat) (ρ : Ev) : ckOf ts (some i) ρ = (ρ[i]? = some (some (.obj (.lst ts)))) := rfl
@[simp] theorem ev_wipe_nil (ρ : Ev) : wipeE ρ [] = ρ := rfl
@[simp] theorem ev_wipe_cons (ρ : Ev) (v : Nat) (vs : List Nat) : wipeE ρ (v :: vs) = (wipeE ρ vs).set v none := rfl
@[simp] theorem ev_back_nil (ρ ρ' : Ev) : backE ρ ρ' [] = ρ' := rfl
@[simp] theorem ev_back_cons (ρ ρ' : Ev) (v : Nat) (vs : List Nat) : backE ρ ρ' (v :: vs) = (backE ρ ρ' vs).set v ((ρ[v]?).getD none) := rfl
@[simp] theorem ev_yes (ρ : Ev) : fYes ρ = some (true, ρ) := rfl
@[simp] theorem ev_outs_nil (ρ : Ev) : outs [] ρ = some [] := by cases ρ <;> rfl
@[simp] theorem ev_outs_d (t : T) (as : List Sl) (o : Option Sl) (ρ : Ev) : outs (.dat t :: as) (o :: ρ) = outs as ρ := by cases o <;> rfl
@[simp] theorem ev_outs_r (t : List T) (as : List Sl) (o : Option Sl) (ρ : Ev) : outs (.rol t :: as) (o :: ρ) = outs as ρ := by cases o <;> rfl
@[simp] theorem ev_outs_o (t c : C) (as : List Sl) (ρ : Ev) : outs (.obj t :: as) (some (.obj c) :: ρ) = (outs as ρ).map (c :: ·) := rfl
@[simp] theorem ev_run (nn n : Nat) (g : FS) (as : List Sl) (h : as.length = n) : runD nn n g as = (g (as.map some ++ List.replicate (nn - n) none)).bind fun o => match o with
    | .rt r ρ' => (outs as ρ').map fun cs => (r, cs)
    | .nx ρ' => (outs as ρ').map fun cs => (.dat .none, cs)
    | _ => none := by
  unfold runD
  rw [if_pos h]
  all_goals
    cases g (List.map some as ++ List.replicate (nn - n) none) with
    | none => rfl
    | some o => cases o <;> rfl
end
theorem ev_run0 (nn : Nat) (g : FS) : runD nn 0 g [] = (g ([] ++ List.replicate (nn - 0) none)).bind fun o => match o with
    | .rt r ρ' => (outs [] ρ').map fun cs => (r, cs)
    | .nx ρ' => (outs [] ρ').map fun cs => (.dat .none, cs)
    | _ => none := ev_run nn 0 g [] rfl
theorem ev_run1 (nn : Nat) (g : FS) (a : Sl) : runD nn 1 g [a] = (g ([some a] ++ List.replicate (nn - 1) none)).bind fun o => match o with
    | .rt r ρ' => (outs [a] ρ').map fun cs => (r, cs)
    | .nx ρ' => (outs [a] ρ').map fun cs => (.dat .none, cs)
    | _ => none := ev_run nn 1 g [a] rfl
theorem ev_run2 (nn : Nat) (g : FS) (a b : Sl) : runD nn 2 g [a, b] = (g ([some a, some b] ++ List.replicate (nn - 2) none)).bind fun o => match o with
    | .rt r ρ' => (outs [a, b] ρ').map fun cs => (r, cs)
    | .nx ρ' => (outs [a, b] ρ').map fun cs => (.dat .none, cs)
    | _ => none := ev_run nn 2 g [a, b] rfl
theorem ev_run3 (nn : Nat) (g : FS) (a b c : Sl) : runD nn 3 g [a, b, c] = (g ([some a, some b, some c] ++ List.replicate (nn - 3) none)).bind fun o => match o with
    | .rt r ρ' => (outs [a, b, c] ρ').map fun cs => (r, cs)
    | .nx ρ' => (outs [a, b, c] ρ').map fun cs => (.dat .none, cs)
    | _ => none := ev_run nn 3 g [a, b, c] rfl
theorem ev_run4 (nn : Nat) (g : FS) (a b c d : Sl) : runD nn 4 g [a, b, c, d] = (g ([some a, some b, some c, some d] ++ List.replicate (nn - 4) none)).bind fun o => match o with
    | .rt r ρ' => (outs [a, b, c, d] ρ').map fun cs => (r, cs)
    | .nx ρ' => (outs [a, b, c, d] ρ').map fun cs => (.dat .none, cs)
    | _ => none := ev_run nn 4 g [a, b, c, d] rfl
theorem ev_run5 (nn : Nat) (g : FS) (a b c d e : Sl) : runD nn 5 g [a, b, c, d, e] = (g ([some a, some b, some c, some d, some e] ++ List.replicate (nn - 5) none)).bind fun o => match o with
    | .rt r ρ' => (outs [a, b, c, d, e] ρ').map fun cs => (r, cs)
    | .nx ρ' => (outs [a, b, c, d, e] ρ').map fun cs => (.dat .none, cs)
    | _ => none := ev_run nn 5 g [a, b, c, d, e] rfl
theorem ev_run6 (nn : Nat) (g : FS) (a b c d e f : Sl) : runD nn 6 g [a, b, c, d, e, f] = (g ([some a, some b, some c, some d, some e, some f] ++ List.replicate (nn - 6) none)).bind fun o => match o with
    | .rt r ρ' => (outs [a, b, c, d, e, f] ρ').map fun cs => (r, cs)
    | .nx ρ' => (outs [a, b, c, d, e, f] ρ').map fun cs => (.dat .none, cs)
    | _ => none := ev_run nn 6 g [a, b, c, d, e, f] rfl
/-! ### while -/
theorem wh_t {c : FB} {b : FS} {ρ ρ1 ρ2 : Ev} (hc : c ρ = some (true, ρ1)) (hb : b ρ1 = some (.nx ρ2)) : fWh c b ρ = fWh c b ρ2 := by
  rw [fWh_eq, hc]
  simp only [Option.bind_some, if_true, hb]
theorem wh_f {c : FB} {b : FS} {ρ ρ1 : Ev} (hc : c ρ = some (false, ρ1)) : fWh c b ρ = some (.nx ρ1) := by
  rw [fWh_eq, hc]
  simp
/-! ### for -/
@[simp] theorem ev_for (it : FI) (g : GT) (b : FS) (ρ : Ev) : fFor it g b ρ = (it ρ).bind fun p => fForL (ckOf p.1 p.2.1) g b p.1 p.2.2 := rfl
theorem for_i {β : Type} {ck : Ev → Prop} {g : GT} {b : FS} (S : Nat → β → Ev) (I : Nat → β → Prop) (Q : Fl → Prop) (ts : List T)
    (h : ∀ (i : Nat) (x : T) (o : β), ts[i]? = some x → I i o → ck (S i o) ∧ ∃ ρ1 fl, g x (S i o) = some ρ1 ∧ b ρ1 = some fl ∧
      ((∃ o', (fl = .nx (S (i + 1) o') ∨ fl = .ct (S (i + 1) o')) ∧ I (i + 1) o') ∨ (∃ ρ', fl = .bk ρ' ∧ Q (.nx ρ')) ∨ ∃ r ρ', fl = .rt r ρ' ∧ Q (.rt r ρ')))
    (hk : ∀ o, I ts.length o → ck (S ts.length o) ∧ Q (.nx (S ts.length o))) (o : β) (h0 : I 0 o) : ∃ fl, fForL ck g b ts (S 0 o) = some fl ∧ Q fl := by
  suffices ∀ (us : List T) (i : Nat) (o : β), i ≤ ts.length → ts.drop i = us → I i o → ∃ fl, fForL ck g b us (S i o) = some fl ∧ Q fl from this ts 0 o (Nat.zero_le _) rfl h0
  intro us
  induction us with
  | nil =>
    intro i o hle e hi
    have h1 : ts.length ≤ i := by simpa using e
    have : i = ts.length := by omega
    subst this
    exact ⟨_, by rw [fForL, guardP_pos (hk o hi).1]; rfl, (hk o hi).2⟩
  | cons x us ih =>
    intro i o hle e hi
    have hx : ts[i]? = some x := by
      have := congrArg List.head? e
      simpa [List.head?_drop] using this
    have hlt : i < ts.length := (List.getElem?_eq_some_iff.mp hx).1
    have hd : ts.drop (i + 1) = us := by
      have := congrArg List.tail e
      simpa [List.tail_drop] using this
    obtain ⟨ck1, ρ1, fl, e1, e2, e3⟩ := h i x o hx hi
    rw [fForL, guardP_pos ck1]
    simp only [Option.bind_some, e1, e2]
    rcases e3 with ⟨o', rfl | rfl, hi'⟩ | ⟨ρ', rfl, q⟩ | ⟨r, ρ', rfl, q⟩
    · exact ih (i + 1) o' hlt hd hi'
    · exact ih (i + 1) o' hlt hd hi'
    · exact ⟨_, rfl, q⟩
    · exact ⟨_, rfl, q⟩
theorem for_l {β : Type} {ck : Ev → Prop} {g : GT} {b : FS} (S : Nat → β → Ev) (I : Nat → β → Prop) (ts : List T)
    (h : ∀ (i : Nat) (x : T) (o : β), ts[i]? = some x → I i o → ck (S i o) ∧ ∃ ρ1 o', g x (S i o) = some ρ1 ∧ (b ρ1 = some (.nx (S (i + 1) o')) ∨ b ρ1 = some (.ct (S (i + 1) o'))) ∧ I (i + 1) o')
    (hk : ∀ o, I ts.length o → ck (S ts.length o)) (o : β) (h0 : I 0 o) : ∃ o', fForL ck g b ts (S 0 o) = some (.nx (S ts.length o')) ∧ I ts.length o' := by
  obtain ⟨fl, e, o', rfl, q⟩ := for_i S I (fun fl => ∃ o', fl = .nx (S ts.length o') ∧ I ts.length o') ts (ck := ck) (g := g) (b := b) (fun i x o hx hi => by
    obtain ⟨c, ρ1, o', e1, e2, e3⟩ := h i x o hx hi
    rcases e2 with e2 | e2
    · exact ⟨c, ρ1, _, e1, e2, .inl ⟨o', .inl rfl, e3⟩⟩
    · exact ⟨c, ρ1, _, e1, e2, .inl ⟨o', .inr rfl, e3⟩⟩) (fun o hi => ⟨hk o hi, o, rfl, hi⟩) o h0
  exact ⟨o', e, q⟩
/-- a range loop -/
theorem for_r {β : Type} {g : GT} {b : FS} (S : Nat → β → Ev) (I : Nat → β → Prop) (n : Nat) (lo : Int)
    (h : ∀ (i : Nat) (o : β), i < n → I i o → ∃ ρ1 o', g (.int (lo + (i : Nat))) (S i o) = some ρ1 ∧ (b ρ1 = some (.nx (S (i + 1) o')) ∨ b ρ1 = some (.ct (S (i + 1) o'))) ∧ I (i + 1) o')
    (o : β) (h0 : I 0 o) : ∃ o', fForL (fun _ => True) g b ((List.range n).map fun i => PyData.int (lo + (i : Nat))) (S 0 o) = some (.nx (S n o')) ∧ I n o' := by
  have := for_l (ck := fun _ => True) (g := g) (b := b) S I ((List.range n).map fun i => PyData.int (lo + (i : Nat))) (fun i x o hx hi => by
    have hlt := (List.getElem?_eq_some_iff.mp hx).1
    rw [List.length_map, List.length_range] at hlt
    rw [List.getElem?_map, List.getElem?_range hlt] at hx
    cases hx
    exact ⟨trivial, h i o hlt hi⟩) (fun _ _ => trivial) o h0
  rwa [List.length_map, List.length_range] at this
/-! ### comprehensions -/
@[simp] theorem ev_lc (it : FI) (g : GT) (tt : FB) (te : FE) (vs : List Nat) (ρ : Ev) : fLc it g tt te vs ρ = (it ρ).bind fun p => (guardP (p.1.length ≤ sizeLine)).bind fun _ => (fLcL (ckOf p.1 p.2.1) g tt te vs p.1 (wipeE p.2.2 vs)).map fun r => (.tmp (.lst r.1), backE p.2.2 r.2 vs) := rfl
theorem lc_pure {ck : Ev → Prop} {g : GT} {tt : FB} {te : FE} {vs : List Nat} {ρ : Ev} (f : T → Option T) (hck : ck ρ) : ∀ (ts : List T)
    (_ : ∀ x ∈ ts, ∃ ρ1 b ρ2, g x ρ = some ρ1 ∧ tt ρ1 = some (b, ρ2) ∧ ((b = true ∧ ∃ t ρ3, te ρ2 = some (.dat t, ρ3) ∧ wipeE ρ3 vs = ρ ∧ f x = some t) ∨ (b = false ∧ wipeE ρ2 vs = ρ ∧ f x = none))),
    fLcL ck g tt te vs ts ρ = some (ts.filterMap f, ρ)
  | [], _ => by rw [fLcL, guardP_pos hck]; rfl
  | x :: ts, h => by
    have ih := lc_pure f hck ts fun y hy => h y (List.mem_cons_of_mem _ hy)
    obtain ⟨ρ1, b, ρ2, e1, e2, e3⟩ := h x List.mem_cons_self
    rw [fLcL, guardP_pos hck]
    simp only [Option.bind_some, e1, e2]
    rcases e3 with ⟨rfl, t, ρ3, e4, e5, e6⟩ | ⟨rfl, e5, e6⟩
    · simp only [if_true, e4, Option.bind_some, e5, ih, Option.map_some, List.filterMap_cons, e6]
    · simp only [Bool.false_eq_true, if_false, e5, ih, List.filterMap_cons, e6]
theorem lc_map {ck : Ev → Prop} {g : GT} {te : FE} {vs : List Nat} {ρ : Ev} (f : T → T) (hck : ck ρ) (ts : List T)
    (h : ∀ x ∈ ts, ∃ ρ1 ρ3, g x ρ = some ρ1 ∧ te ρ1 = some (.dat (f x), ρ3) ∧ wipeE ρ3 vs = ρ) :
    fLcL ck g fYes te vs ts ρ = some (ts.map f, ρ) := by
  rw [lc_pure (fun x => some (f x)) hck ts fun x hx => by
    obtain ⟨ρ1, ρ3, e1, e2, e3⟩ := h x hx
    exact ⟨ρ1, true, ρ1, e1, rfl, .inl ⟨rfl, _, ρ3, e2, e3, rfl⟩⟩]
  rw [List.filterMap_eq_map']
theorem lc_i {β : Type} {ck : Ev → Prop} {g : GT} {tt : FB} {te : FE} {vs : List Nat} (S : Nat → β → Ev) (I : Nat → List T → β → Prop) (ts : List T)
    (h : ∀ (i : Nat) (x : T) (acc : List T) (o : β), ts[i]? = some x → I i acc o → ck (S i o) ∧ ∃ ρ1 b ρ2, g x (S i o) = some ρ1 ∧ tt ρ1 = some (b, ρ2) ∧
      ((b = true ∧ ∃ t ρ3 o', te ρ2 = some (.dat t, ρ3) ∧ wipeE ρ3 vs = S (i + 1) o' ∧ I (i + 1) (acc ++ [t]) o') ∨ (b = false ∧ ∃ o', wipeE ρ2 vs = S (i + 1) o' ∧ I (i + 1) acc o')))
    (hk : ∀ acc o, I ts.length acc o → ck (S ts.length o)) (o : β) (h0 : I 0 [] o) : ∃ out o', fLcL ck g tt te vs ts (S 0 o) = some (out, S ts.length o') ∧ I ts.length out o' := by
  suffices ∀ (us : List T) (i : Nat) (acc : List T) (o : β), i ≤ ts.length → ts.drop i = us → I i acc o → ∃ out o', fLcL ck g tt te vs us (S i o) = some (out, S ts.length o') ∧ I ts.length (acc ++ out) o' by
    obtain ⟨out, o', e, q⟩ := this ts 0 [] o (Nat.zero_le _) rfl h0
    exact ⟨out, o', e, q⟩
  intro us
  induction us with
  | nil =>
    intro i acc o hle e hi
    have h1 : ts.length ≤ i := by simpa using e
    have : i = ts.length := by omega
    subst this
    exact ⟨[], o, by rw [fLcL, guardP_pos (hk _ o hi)]; rfl, by simpa using hi⟩
  | cons x us ih =>
    intro i acc o hle e hi
    have hx : ts[i]? = some x := by
      have := congrArg List.head? e
      simpa [List.head?_drop] using this
    have hlt : i < ts.length := (List.getElem?_eq_some_iff.mp hx).1
    have hd : ts.drop (i + 1) = us := by
      have := congrArg List.tail e
      simpa [List.tail_drop] using this
    obtain ⟨ck1, ρ1, b, ρ2, e1, e2, e3⟩ := h i x acc o hx hi
    rw [fLcL, guardP_pos ck1]
    simp only [Option.bind_some, e1, e2]
    rcases e3 with ⟨rfl, t, ρ3, o', e4, e5, e6⟩ | ⟨rfl, o', e5, e6⟩
    · obtain ⟨out, o2, q, q'⟩ := ih (i + 1) (acc ++ [t]) o' hlt hd e6
      exact ⟨t :: out, o2, by simp only [if_true, e4, Option.bind_some, e5, q, Option.map_some], by simpa using q'⟩
    · obtain ⟨out, o2, q, q'⟩ := ih (i + 1) acc o' hlt hd e6
      exact ⟨out, o2, by simp only [Bool.false_eq_true, if_false, e5, q], q'⟩
end PD

namespace PD
open PySem PySem.Spec PyProof.Rows L2
@[simp] theorem eqv_ii (i j : Int) : PyData.eqv (.int i) (.int j) = (i == j) := by simp [PyData.eqv]
@[simp] theorem eqv_bb (i j : Bool) : PyData.eqv (.bool i) (.bool j) = (i == j) := by simp [PyData.eqv]
@[simp] theorem eqv_ss (i j : Str) : PyData.eqv (.str i) (.str j) = (i == j) := by simp [PyData.eqv]
@[simp] theorem eqv_tt (i j : List T) : PyData.eqv (.tuple i) (.tuple j) = PyData.eqvAll i j := by simp [PyData.eqv]
@[simp] theorem eqv_ll (i j : List T) : PyData.eqv (.list i) (.list j) = PyData.eqvAll i j := by simp [PyData.eqv]
@[simp] theorem depth_i (i : Int) : PyData.depth (.int i) = 0 := by simp [PyData.depth]
@[simp] theorem depth_b (i : Bool) : PyData.depth (.bool i) = 0 := by simp [PyData.depth]
@[simp] theorem depth_s (i : Str) : PyData.depth (.str i) = 0 := by simp [PyData.depth]
@[simp] theorem depth_n : PyData.depth .none = 0 := by simp [PyData.depth]
@[simp] theorem depth_t (xs : List T) : PyData.depth (.tuple xs) = PyData.depthAll xs + 1 := by simp [PyData.depth]
@[simp] theorem depth_l (xs : List T) : PyData.depth (.list xs) = PyData.depthAll xs + 1 := by simp [PyData.depth]
theorem depthAll_le {xs : List T} {k : Nat} (h : ∀ x ∈ xs, x.depth ≤ k) : PyData.depthAll xs ≤ k := by
  induction xs with
  | nil => simp [PyData.depthAll]
  | cons x xs ih =>
    rw [PyData.depthAll]
    exact Nat.max_le.mpr ⟨h x List.mem_cons_self, ih fun y hy => h y (List.mem_cons_of_mem _ hy)⟩
theorem le_depthAll {xs : List T} {x : T} (h : x ∈ xs) : x.depth ≤ PyData.depthAll xs := by
  induction xs with
  | nil => cases h
  | cons y ys ih =>
    rw [PyData.depthAll]
    rcases List.mem_cons.mp h with rfl | h
    · exact Nat.le_max_left _ _
    · exact Nat.le_trans (ih h) (Nat.le_max_right _ _)
@[simp] theorem depthAll_int (ns : List Int) : PyData.depthAll (ns.map .int) = 0 := Nat.le_zero.mp (depthAll_le fun x hx => by
  obtain ⟨n, _, rfl⟩ := List.mem_map.mp hx
  simp)
mutual
theorem eqv_refl : ∀ t : T, t.plain = true → PyData.eqv t t = true
  | .none, _ => by simp [PyData.eqv]
  | .bool _, _ => by simp [PyData.eqv]
  | .int _, _ => by simp [PyData.eqv]
  | .str _, _ => by simp [PyData.eqv]
  | .list xs, h => by rw [eqv_ll]; exact eqvAll_refl xs (by simpa [PyData.plain] using h)
  | .tuple xs, h => by rw [eqv_tt]; exact eqvAll_refl xs (by simpa [PyData.plain] using h)
  | .dict _, h => by simp [PyData.plain] at h
theorem eqvAll_refl : ∀ ts : List T, PyData.plainAll ts = true → PyData.eqvAll ts ts = true
  | [], _ => by simp [PyData.eqvAll]
  | t :: ts, h => by
    rw [PyData.plainAll, Bool.and_eq_true] at h
    rw [PyData.eqvAll, Bool.and_eq_true]
    exact ⟨eqv_refl t h.1, eqvAll_refl ts h.2⟩
end
theorem eqvAll_ints : ∀ (as bs : List Int), PyData.eqvAll (as.map .int) (bs.map .int) = (as == bs)
  | [], [] => by simp [PyData.eqvAll]
  | [], _ :: _ => by simp [PyData.eqvAll]
  | _ :: _, [] => by simp [PyData.eqvAll]
  | a :: as, b :: bs => by simp [PyData.eqvAll, eqvAll_ints as bs]
@[simp] theorem eqvAll_nil : PyData.eqvAll [] [] = true := by simp [PyData.eqvAll]
@[simp] theorem eqvAll_nc (x : T) (xs : List T) : PyData.eqvAll [] (x :: xs) = false := by simp [PyData.eqvAll]
@[simp] theorem eqvAll_cn (x : T) (xs : List T) : PyData.eqvAll (x :: xs) [] = false := by simp [PyData.eqvAll]
@[simp] theorem eqvAll_cc (x y : T) (xs ys : List T) : PyData.eqvAll (x :: xs) (y :: ys) = (PyData.eqv x y && PyData.eqvAll xs ys) := by simp [PyData.eqvAll]
@[simp] theorem isBool_b (b : Bool) : PyData.isBool (.bool b) = true := rfl
@[simp] theorem isBool_i (i : Int) : PyData.isBool (.int i) = false := rfl
@[simp] theorem isBool_s (i : Str) : PyData.isBool (.str i) = false := rfl
@[simp] theorem isBool_n : PyData.isBool .none = false := rfl
@[simp] theorem isBool_t (i : List T) : PyData.isBool (.tuple i) = false := rfl
@[simp] theorem isInt_i (i : Int) : PyData.isInt (.int i) = true := rfl
@[simp] theorem isInt_s (i : Str) : PyData.isInt (.str i) = false := rfl
@[simp] theorem isInt_n : PyData.isInt .none = false := rfl
@[simp] theorem isInt_t (i : List T) : PyData.isInt (.tuple i) = false := rfl
@[simp] theorem isStr_s (i : Str) : PyData.isStr (.str i) = true := rfl
@[simp] theorem isStr_n : PyData.isStr .none = false := rfl
@[simp] theorem isStr_t (i : List T) : PyData.isStr (.tuple i) = false := rfl
@[simp] theorem isTuple_t (i : List T) : PyData.isTuple (.tuple i) = true := rfl
@[simp] theorem isTuple_i (i : Int) : PyData.isTuple (.int i) = false := rfl
@[simp] theorem isTuple_b (i : Bool) : PyData.isTuple (.bool i) = false := rfl
@[simp] theorem isTuple_n : PyData.isTuple .none = false := rfl
@[simp] theorem isTuple_s (i : Str) : PyData.isTuple (.str i) = false := rfl
theorem ixN_nat {n k : Nat} (h : k < n) : ixN n (k : Int) = some k := by
  unfold ixN
  rw [if_pos (by omega), if_pos (by omega)]
  simp
theorem atI_nat {xs : List T} {k : Nat} {t : T} (h : xs[k]? = some t) : atI xs (k : Int) = some t := by
  unfold atI
  rw [ixN_nat (List.getElem?_eq_some_iff.mp h).1]
  exact h
theorem atI_int {xs : List T} {i : Int} {t : T} (h0 : 0 ≤ i) (h : xs[i.toNat]? = some t) : atI xs i = some t := by
  have := atI_nat h
  rwa [Int.toNat_of_nonneg h0] at this
theorem gAppend_ok {xs : List T} {t : T} (h : xs.length < 1000000) : gAppend xs [t] = some (.none, xs ++ [t]) := by
  show (if xs.length < sizeLine then some (PyData.none, xs ++ [t]) else none) = _
  rw [if_pos (by rw [sizeLine_eq]; omega)]
theorem gPop_ok {xs : List T} {t : T} : gPop (xs ++ [t]) [] = some (t, xs) := by
  simp [gPop]
@[simp] theorem gReverse_ok {xs : List T} : gReverse xs [] = some (.none, xs.reverse) := rfl
@[simp] theorem ev_setIx (fe fo fi : FE) (ρ : Ev) : fSetIx fe fo fi ρ = (fe ρ).bind fun p => (fo p.2).bind fun q => (fi q.2).bind fun r => match p.1 with
  | .dat t => (lstOf q.1 r.2).bind fun xs => (intOf r.1).bind fun k => (ixN xs.length k).map fun j => .nx (putL q.1 (xs.set j t) r.2)
  | _ => none := by
  unfold fSetIx
  rcases fe ρ with _ | ⟨h, ρ1⟩
  · rfl
  · cases h with
    | dat t => rfl
    | tmp c =>
      simp only [Option.bind_some]
    | plc c => simp only [Option.bind_some]
@[simp] theorem ev_itR1 (f : FE) (ρ : Ev) : fItR1 f ρ = (f ρ).bind fun p => (intOf p.1).bind fun n => (guardP (-(2 ^ 62) ≤ n ∧ n < 2 ^ 62)).map fun _ => ((List.range n.toNat).map fun i => PyData.int (0 + (i : Nat)), none, p.2) := rfl
@[simp] theorem ev_itR2 (f g : FE) (ρ : Ev) : fItR2 f g ρ = (f ρ).bind fun p => (intOf p.1).bind fun i => (g p.2).bind fun q => (intOf q.1).bind fun j => (guardP (-(2 ^ 62) ≤ i ∧ i < 2 ^ 62 ∧ -(2 ^ 62) ≤ j ∧ j < 2 ^ 62)).map fun _ => ((List.range (j - i).toNat).map fun k => PyData.int (i + (k : Nat)), none, q.2) := rfl
theorem g_rg1 {n : Int} (h0 : -1000000 ≤ n) (h : n ≤ 1000000) : guardP (-(2 ^ 62) ≤ n ∧ n < 2 ^ 62) = some () := guardP_pos (by omega)
theorem g_rg2 {n m : Int} (h0 : -1000000 ≤ n) (h : n ≤ 1000000) (h1 : -1000000 ≤ m) (h2 : m ≤ 1000000) : guardP (-(2 ^ 62) ≤ n ∧ n < 2 ^ 62 ∧ -(2 ^ 62) ≤ m ∧ m < 2 ^ 62) = some () := guardP_pos (by omega)
theorem g_mod {i j : Int} (h : 0 < j) : guardP (ModOk i j) = some () := guardP_pos h
theorem g_div {i j : Int} (h : 0 < j) (h2 : j ≤ 1000000000000) : guardP (DivOk i j) = some () := guardP_pos ⟨h, by
  have h3 : j.natAbs < 2 ^ 64 := by omega
  have := (Nat.log2_lt (by omega)).mpr h3
  omega⟩
theorem g_mulL {i j : Int} (h : -1000000000000 ≤ i) (h2 : i ≤ 1000000000000) : guardP (MulOk i j) = some () := guardP_pos (.inl (.inl (by omega)))
theorem g_mulR {i j : Int} (h : -1000000000000 ≤ j) (h2 : j ≤ 1000000000000) : guardP (MulOk i j) = some () := guardP_pos (.inl (.inr (by omega)))
theorem g_pow {i j : Int} (h : 0 ≤ j) (h2 : j ≤ 1000000) (h3 : -1000000000000 ≤ i) (h4 : i ≤ 1000000000000) : guardP (CPow i j) = some () := guardP_pos ⟨h, h2, by omega⟩
/-! ### the three helpers that all laws share -/
noncomputable def q_take : FS := (fSeq (fIfS (fTst (fBin gEq (fCB gLen (fCons (fVar 0) fNil)) (fC (.int 0)))) (fRet [0, 1] (fC (.int 0))) fNext)
    (fRet [0, 1] (fBin gMod (fCB gInt (fCons (fMt gPop (fVar 0) fNil) fNil)) (fVar 1))))
theorem take_ok (ds : List Int) (many : Int) (h : 0 < many) : ∃ (v : Int) (ds' : List Int), runD 2 2 q_take [.obj (.lst (ds.map .int)), .dat (.int many)] = some (.dat (.int v), [.lst (ds'.map .int)]) ∧ 0 ≤ v ∧ v < many := by
  rcases List.eq_nil_or_concat ds with rfl | ⟨ds', d, rfl⟩
  · exact ⟨0, [], by simp [q_take], Int.le_refl _, h⟩
  · refine ⟨d % many, ds', ?_, Int.emod_nonneg _ (by omega), Int.emod_lt_of_pos _ h⟩
    have e : ((ds'.concat d).map PyData.int) = ds'.map .int ++ [.int d] := by simp
    have hne : ¬ ((ds'.length : Int) + 1 = 0) := by omega
    rw [e]
    simp [q_take, gPop_ok, g_mod h, hne]
noncomputable def q_draws : FS := (fSeq (fSet false 2 (fLc (fItE (fVar 0)) (tgN false 8) fYes (fCB gInt (fCons (fVar 8) fNil)) [8]))
    (fSeq (fIfS (fTst (fBin gEq (fCB gLen (fCons (fVar 2) fNil)) (fC (.int 0)))) (fExpr (fMt gAppend (fVar 2) (fCons (fC (.int 0)) fNil))) fNext)
    (fSeq (fSet false 3 (fCB gList (fCons (fVar 2) fNil)))
    (fSeq (fSet false 4 (fLst fNil))
    (fSeq (fFor (fItR1 (fVar 1)) (tgN false 5) (fSeq (fSet false 6 (fBin gMod (fVar 5) (fCB gLen (fCons (fVar 2) fNil))))
    (fIfS (fAnd (fTst (fBin gGe (fBin gIx (fVar 2) (fVar 6)) (fBin gPow (fC (.int 10)) (fC (.int 18))))) (fTst (fBin gGt (fBin gIx (fVar 3) (fVar 6)) (fC (.int 0))))) (fSeq (fExpr (fMt gAppend (fVar 4) (fCons (fBin gMod (fCB gInt (fCons (fBin gIx (fVar 3) (fVar 6)) fNil)) (fC (.int 1000))) fNil)))
    (fSetIx (fBin gDiv (fBin gIx (fVar 3) (fVar 6)) (fC (.int 1000))) (fVar 3) (fVar 6))) (fSeq (fSet false 7 (fBin gMod (fCB gInt (fCons (fBin gAdd (fBin gAdd (fBin gMul (fBin gIx (fVar 2) (fVar 6)) (fC (.int 48271))) (fBin gMul (fVar 5) (fC (.int 69621)))) (fC (.int 11))) fNil)) (fC (.int 2147483647))))
    (fExpr (fMt gAppend (fVar 4) (fCons (fBin gMod (fCB gInt (fCons (fBin gAdd (fBin gAdd (fBin gMul (fVar 7) (fVar 7)) (fBin gMul (fC (.int 3)) (fVar 7))) (fVar 5)) fNil)) (fC (.int 1000003))) fNil)))))))
    (fSeq (fExpr (fMt gReverse (fVar 4) fNil))
    (fRet [0, 1] (fVar 4))))))))
theorem getElem?_ints {ns : List Int} {k : Nat} (h : k < ns.length) : ∃ i : Int, (ns.map PyData.int)[k]? = some (.int i) := by
  rw [List.getElem?_map, List.getElem?_eq_getElem h]
  exact ⟨_, rfl⟩
theorem draw_old {cs rest ds : List Int} {s0 s1 o3 o8 : Option Sl} {k : Nat} {i r : Int} (e : (rest.map PyData.int)[k]? = some (.int r)) (hd : ds.length < 1000000) {A : Int} (h0 : 0 < A) (hA : A ≤ 1000000000000) :
    (fSeq (fExpr (fMt gAppend (fVar 4) (fCons (fBin gMod (fCB gInt (fCons (fBin gIx (fVar 3) (fVar 6)) fNil)) (fC (.int A))) fNil)))
    (fSetIx (fBin gDiv (fBin gIx (fVar 3) (fVar 6)) (fC (.int A))) (fVar 3) (fVar 6))) [s0, s1, some (.obj (.lst (cs.map .int))), some (.obj (.lst (rest.map .int))), some (.obj (.lst (ds.map .int))), some (.dat (.int i)), some (.dat (.int (k : Nat))), o3, o8]
    = some (.nx [s0, s1, some (.obj (.lst (cs.map .int))), some (.obj (.lst ((rest.set k (r / A)).map .int))), some (.obj (.lst ((ds ++ [r % A]).map .int))), some (.dat (.int i)), some (.dat (.int (k : Nat))), o3, o8]) := by
  have hk := (List.getElem?_eq_some_iff.mp e).1
  rw [List.length_map] at hk
  simp [g_mod h0, g_div h0 hA, atI_nat e, gAppend_ok, hd, ixN_nat hk]
theorem draw_once {cs rest ds : List Int} {s0 s1 o3 o8 : Option Sl} {k : Nat} {i c : Int} (e : (cs.map PyData.int)[k]? = some (.int c)) {A B D M : Int} (hA : guardP (MulOk c A) = some ()) (hB : guardP (MulOk i B) = some ()) (hM : 0 < M) :
    (fSet false 7 (fBin gMod (fCB gInt (fCons (fBin gAdd (fBin gAdd (fBin gMul (fBin gIx (fVar 2) (fVar 6)) (fC (.int A))) (fBin gMul (fVar 5) (fC (.int B)))) (fC (.int D))) fNil)) (fC (.int M)))) [s0, s1, some (.obj (.lst (cs.map .int))), some (.obj (.lst (rest.map .int))), some (.obj (.lst (ds.map .int))), some (.dat (.int i)), some (.dat (.int (k : Nat))), o3, o8]
    = some (.nx [s0, s1, some (.obj (.lst (cs.map .int))), some (.obj (.lst (rest.map .int))), some (.obj (.lst (ds.map .int))), some (.dat (.int i)), some (.dat (.int (k : Nat))), some (.dat (.int ((c * A + i * B + D) % M))), o8]) := by
  simp [g_mod hM, hA, hB, atI_nat e]
theorem draw_new {cs rest ds : List Int} {s0 s1 o6 o8 : Option Sl} {x i : Int} (hd : ds.length < 1000000) {A M : Int} (hx : guardP (MulOk x x) = some ()) (hA : guardP (MulOk A x) = some ()) (hM : 0 < M) :
    (fExpr (fMt gAppend (fVar 4) (fCons (fBin gMod (fCB gInt (fCons (fBin gAdd (fBin gAdd (fBin gMul (fVar 7) (fVar 7)) (fBin gMul (fC (.int A)) (fVar 7))) (fVar 5)) fNil)) (fC (.int M))) fNil))) [s0, s1, some (.obj (.lst (cs.map .int))), some (.obj (.lst (rest.map .int))), some (.obj (.lst (ds.map .int))), some (.dat (.int i)), o6, some (.dat (.int x)), o8]
    = some (.nx [s0, s1, some (.obj (.lst (cs.map .int))), some (.obj (.lst (rest.map .int))), some (.obj (.lst ((ds ++ [(x * x + A * x + i) % M]).map .int))), some (.dat (.int i)), o6, some (.dat (.int x)), o8]) := by
  simp [g_mod hM, hA, hx, gAppend_ok, hd]
noncomputable def q_turn : FS := (fSeq (fSet false 6 (fBin gMod (fVar 5) (fCB gLen (fCons (fVar 2) fNil))))
    (fIfS (fAnd (fTst (fBin gGe (fBin gIx (fVar 2) (fVar 6)) (fBin gPow (fC (.int 10)) (fC (.int 18))))) (fTst (fBin gGt (fBin gIx (fVar 3) (fVar 6)) (fC (.int 0))))) (fSeq (fExpr (fMt gAppend (fVar 4) (fCons (fBin gMod (fCB gInt (fCons (fBin gIx (fVar 3) (fVar 6)) fNil)) (fC (.int 1000))) fNil)))
    (fSetIx (fBin gDiv (fBin gIx (fVar 3) (fVar 6)) (fC (.int 1000))) (fVar 3) (fVar 6))) (fSeq (fSet false 7 (fBin gMod (fCB gInt (fCons (fBin gAdd (fBin gAdd (fBin gMul (fBin gIx (fVar 2) (fVar 6)) (fC (.int 48271))) (fBin gMul (fVar 5) (fC (.int 69621)))) (fC (.int 11))) fNil)) (fC (.int 2147483647))))
    (fExpr (fMt gAppend (fVar 4) (fCons (fBin gMod (fCB gInt (fCons (fBin gAdd (fBin gAdd (fBin gMul (fVar 7) (fVar 7)) (fBin gMul (fC (.int 3)) (fVar 7))) (fVar 5)) fNil)) (fC (.int 1000003))) fNil))))))
theorem turn_ok {cs rest ds : List Int} {s0 s1 o6 o7 o8 : Option Sl} {i : Nat} (hc0 : 0 < cs.length) (h1 : rest.length = cs.length) (hd : ds.length < 1000000) (hi : i ≤ 1000) :
    ∃ (rest' ds' : List Int) (o6' o7' : Option Sl), rest'.length = cs.length ∧ ds'.length = ds.length + 1 ∧ q_turn [s0, s1, some (.obj (.lst (cs.map .int))), some (.obj (.lst (rest.map .int))), some (.obj (.lst (ds.map .int))), some (.dat (.int (i : Nat))), o6, o7, o8]
      = some (.nx [s0, s1, some (.obj (.lst (cs.map .int))), some (.obj (.lst (rest'.map .int))), some (.obj (.lst (ds'.map .int))), some (.dat (.int (i : Nat))), o6', o7', o8]) := by
  have hk : i % cs.length < cs.length := Nat.mod_lt _ hc0
  obtain ⟨c, ec⟩ := getElem?_ints hk
  obtain ⟨r, er⟩ := getElem?_ints (ns := rest) (k := i % cs.length) (by omega)
  have ekm : ((i : Int) % (cs.length : Int)) = ((i % cs.length : Nat) : Int) := by simp
  have a1 := atI_nat ec
  have a2 := atI_nat er
  have hm1 := Int.emod_nonneg (c * 48271 + i * 69621 + 11) (b := 2147483647) (by omega)
  have hm2 := Int.emod_lt_of_pos (c * 48271 + i * 69621 + 11) (b := 2147483647) (by omega)
  have e1 : (fSet false 6 (fBin gMod (fVar 5) (fCB gLen (fCons (fVar 2) fNil)))) [s0, s1, some (.obj (.lst (cs.map .int))), some (.obj (.lst (rest.map .int))), some (.obj (.lst (ds.map .int))), some (.dat (.int (i : Nat))), o6, o7, o8]
    = some (.nx [s0, s1, some (.obj (.lst (cs.map .int))), some (.obj (.lst (rest.map .int))), some (.obj (.lst (ds.map .int))), some (.dat (.int (i : Nat))), some (.dat (.int (i % cs.length : Nat))), o7, o8]) := by
    simp [g_mod, hc0]
  have et : (fAnd (fTst (fBin gGe (fBin gIx (fVar 2) (fVar 6)) (fBin gPow (fC (.int 10)) (fC (.int 18))))) (fTst (fBin gGt (fBin gIx (fVar 3) (fVar 6)) (fC (.int 0))))) [s0, s1, some (.obj (.lst (cs.map .int))), some (.obj (.lst (rest.map .int))), some (.obj (.lst (ds.map .int))), some (.dat (.int (i : Nat))), some (.dat (.int (i % cs.length : Nat))), o7, o8]
    = some (decide ((1000000000000000000 : Int) ≤ c ∧ 0 < r), [s0, s1, some (.obj (.lst (cs.map .int))), some (.obj (.lst (rest.map .int))), some (.obj (.lst (ds.map .int))), some (.dat (.int (i : Nat))), some (.dat (.int (i % cs.length : Nat))), o7, o8]) := by
    by_cases hb1 : (1000000000000000000 : Int) ≤ c
    · simp [g_pow, a1, a2, hb1, -Int.natCast_emod]
    · simp [g_pow, a1, a2, hb1, -Int.natCast_emod]
  unfold q_turn
  rw [ev_seq, e1]
  simp only [Option.bind_some]
  rw [ev_ifS, et]
  simp only [Option.bind_some, decide_eq_true_eq]
  split
  · exact ⟨_, _, _, _, by rw [List.length_set]; exact h1, by simp, draw_old er hd (by decide) (by decide)⟩
  · rw [ev_seq, draw_once ec (g_mulR (by decide) (by decide)) (g_mulR (by decide) (by decide)) (by decide)]
    simp only [Option.bind_some]
    exact ⟨_, _, _, _, h1, by simp, draw_new hd (g_mulL (by omega) (by omega)) (g_mulL (by decide) (by decide)) (by decide)⟩
theorem draws_ok (ns : List Int) (many : Nat) (hl : ns.length ≤ 1000) (hm : many ≤ 1000) : ∃ ds : List Int, runD 9 2 q_draws [.rol (ns.map .int), .dat (.int many)] = some (.obj (.lst (ds.map .int)), []) := by
  obtain ⟨cs, hcs, hc0, hc1⟩ : ∃ cs : List Int, (if ns.length = 0 then [0] else ns) = cs ∧ 0 < cs.length ∧ cs.length ≤ 1000 := by
    by_cases h : ns.length = 0
    · exact ⟨_, if_pos h, by simp, by simp⟩
    · exact ⟨_, if_neg h, by omega, hl⟩
  have hloop := fun (o8 : Option Sl) => for_r (β := (List Int × List Int) × Option Sl × Option Sl × Option Sl) (g := tgN false 5) (b := q_turn)
    (fun i o => [some (.rol (ns.map .int)), some (.dat (.int many)), some (.obj (.lst (cs.map .int))), some (.obj (.lst (o.1.1.map .int))), some (.obj (.lst (o.1.2.map .int))), o.2.1, o.2.2.1, o.2.2.2, o8])
    (fun i o => o.1.1.length = cs.length ∧ o.1.2.length = i) many 0 (fun i o hi ⟨h1, h2⟩ => by
      obtain ⟨⟨rest, ds⟩, o1, o2, o3⟩ := o
      have h1 : rest.length = cs.length := h1
      have h2 : ds.length = i := h2
      obtain ⟨rest', ds', o6', o7', q1, q2, q3⟩ := turn_ok (s0 := some (.rol (ns.map .int))) (s1 := some (.dat (.int many))) (o6 := o2) (o7 := o3) (o8 := o8) (ds := ds) (i := i) hc0 h1 (by omega) (by omega)
      refine ⟨[some (.rol (ns.map .int)), some (.dat (.int many)), some (.obj (.lst (cs.map .int))), some (.obj (.lst (rest.map .int))), some (.obj (.lst (ds.map .int))), some (.dat (.int (i : Nat))), o2, o3, o8], ⟨⟨rest', ds'⟩, some (.dat (.int (i : Nat))), o6', o7'⟩, by simp, .inl q3, q1, by show ds'.length = i + 1; omega⟩) ⟨⟨cs, []⟩, none, none, none⟩ ⟨rfl, rfl⟩
  have hlc : ∀ ρ : Ev, ρ[8]? = some none → fLcL (fun _ => True) (tgN false 8) fYes (fCB gInt (fCons (fVar 8) fNil)) [8] (ns.map PyData.int) ρ = some ((ns.map PyData.int).map id, ρ) := fun ρ hρ => by
    have h8 : 8 < ρ.length := (List.getElem?_eq_some_iff.mp hρ).1
    refine lc_map id trivial _ fun x hx => ?_
    obtain ⟨n, _, rfl⟩ := List.mem_map.mp hx
    refine ⟨ρ.set 8 (some (.dat (.int n))), ρ.set 8 (some (.dat (.int n))), by simp [h8], by simp [h8], ?_⟩
    simp only [ev_wipe_cons, ev_wipe_nil, List.set_set]
    apply List.ext_getElem?
    intro j
    by_cases hj : 8 = j
    · subst hj
      rw [List.getElem?_set_self h8, hρ]
    · rw [List.getElem?_set_ne hj]
  obtain ⟨⟨⟨rest, ds⟩, o1, o2, o3⟩, e, _, hds⟩ := hloop none
  have hds : ds.length = many := hds
  refine ⟨ds.reverse, ?_⟩
  have e' : fFor (fItR1 (fVar 1)) (tgN false 5) q_turn [some (.rol (ns.map .int)), some (.dat (.int many)), some (.obj (.lst (cs.map .int))), some (.obj (.lst (cs.map .int))), some (.obj (.lst [])), none, none, none, none] = some (.nx [some (.rol (ns.map .int)), some (.dat (.int many)), some (.obj (.lst (cs.map .int))), some (.obj (.lst (rest.map .int))), some (.obj (.lst (ds.map .int))), o1, o2, o3, none]) := by
    rw [ev_for]
    have e0 : fItR1 (fVar 1) [some (.rol (ns.map .int)), some (.dat (.int many)), some (.obj (.lst (cs.map .int))), some (.obj (.lst (cs.map .int))), some (.obj (.lst [])), none, none, none, none] = some ((List.range many).map fun i => PyData.int (0 + (i : Nat)), none, [some (.rol (ns.map .int)), some (.dat (.int many)), some (.obj (.lst (cs.map .int))), some (.obj (.lst (cs.map .int))), some (.obj (.lst [])), none, none, none, none]) := by
      rw [ev_itR1]
      have : guardP (-(2 ^ 62) ≤ (many : Int) ∧ (many : Int) < 2 ^ 62) = some () := g_rg1 (by omega) (by omega)
      simp only [ev_var, List.getElem?_cons_succ, List.getElem?_cons_zero, Option.bind_some, ev_intOf, this, Option.map_some, Int.toNat_natCast]
    rw [e0]
    exact e
  have e1 : (fSet false 2 (fLc (fItE (fVar 0)) (tgN false 8) fYes (fCB gInt (fCons (fVar 8) fNil)) [8])) [some (.rol (ns.map .int)), some (.dat (.int many)), none, none, none, none, none, none, none] = some (.nx [some (.rol (ns.map .int)), some (.dat (.int many)), some (.obj (.lst (ns.map .int))), none, none, none, none, none, none]) := by
    have e0 : fItE (fVar 0) [some (.rol (ns.map .int)), some (.dat (.int many)), none, none, none, none, none, none, none] = some (ns.map .int, none, [some (.rol (ns.map .int)), some (.dat (.int many)), none, none, none, none, none, none, none]) := by
      rfl
    rw [ev_set, ev_lc, e0]
    simp only [Option.bind_some, List.length_map, guard_small (show ns.length ≤ 1000000 by omega), ev_wipe_cons, ev_wipe_nil]
    have := hlc ([some (.rol (ns.map .int)), some (.dat (.int many)), none, none, none, none, none, none, none].set 8 none) (by simp)
    rw [show (ckOf (List.map PyData.int ns) none) = fun _ => True from rfl, this]
    simp
  unfold q_draws
  rw [ev_run2, ev_seq]
  simp only [List.map_cons, List.map_nil, List.cons_append, List.nil_append, Nat.reduceSub, List.replicate]
  rw [e1]
  simp only [Option.bind_some]
  have e2 : ∀ Z : FS, (fSeq (fIfS (fTst (fBin gEq (fCB gLen (fCons (fVar 2) fNil)) (fC (.int 0)))) (fExpr (fMt gAppend (fVar 2) (fCons (fC (.int 0)) fNil))) fNext) Z) [some (.rol (ns.map .int)), some (.dat (.int many)), some (.obj (.lst (ns.map .int))), none, none, none, none, none, none] = Z [some (.rol (ns.map .int)), some (.dat (.int many)), some (.obj (.lst (cs.map .int))), none, none, none, none, none, none] := fun Z => by
    subst hcs
    by_cases h : ns = []
    · subst h
      simp [gAppend_ok]
    · simp [h]
  rw [e2]
  rw [ev_seq]
  have e3 : (fSet false 3 (fCB gList (fCons (fVar 2) fNil))) [some (.rol (ns.map .int)), some (.dat (.int many)), some (.obj (.lst (cs.map .int))), none, none, none, none, none, none] = some (.nx [some (.rol (ns.map .int)), some (.dat (.int many)), some (.obj (.lst (cs.map .int))), some (.obj (.lst (cs.map .int))), none, none, none, none, none]) := by simp
  rw [e3]
  simp only [Option.bind_some]
  rw [ev_seq]
  have e4 : (fSet false 4 (fLst fNil)) [some (.rol (ns.map .int)), some (.dat (.int many)), some (.obj (.lst (cs.map .int))), some (.obj (.lst (cs.map .int))), none, none, none, none, none] = some (.nx [some (.rol (ns.map .int)), some (.dat (.int many)), some (.obj (.lst (cs.map .int))), some (.obj (.lst (cs.map .int))), some (.obj (.lst [])), none, none, none, none]) := by simp [guard_small]
  rw [e4]
  simp only [Option.bind_some]
  rw [ev_seq]
  unfold q_turn at e'
  rw [e']
  simp
noncomputable def q_sameB (m : Den) : FS := (fIfS (fNot (fTst (fCall m (fCons (fBin gIx (fVar 0) (fVar 2)) (fCons (fBin gIx (fVar 1) (fVar 2)) fNil))))) (fRet [0, 1] (fC (.bool false))) fNext)
noncomputable def q_same (m : Den) : FS := (fSeq (fIfS (fTst (fIsi PyData.isBool (fVar 1))) (fRet [0, 1] (fAndV (fIsi PyData.isBool (fVar 0)) (fBin gEq (fVar 0) (fVar 1)))) fNext)
    (fSeq (fIfS (fTst (fIsi PyData.isInt (fVar 1))) (fRet [0, 1] (fAndV (fIsi PyData.isInt (fVar 0)) (fAndV (fNotV (fIsi PyData.isBool (fVar 0))) (fBin gEq (fVar 0) (fVar 1))))) fNext)
    (fSeq (fIfS (fTst (fIsi PyData.isStr (fVar 1))) (fRet [0, 1] (fAndV (fIsi PyData.isStr (fVar 0)) (fBin gEq (fVar 0) (fVar 1)))) fNext)
    (fSeq (fIfS (fTst (fBin gIsN (fVar 1) (fC .none))) (fRet [0, 1] (fBin gIsN (fVar 0) (fC .none))) fNext)
    (fSeq (fIfS (fOr (fNot (fTst (fIsi PyData.isTuple (fVar 0)))) (fTst (fBin gNe (fCB gLen (fCons (fVar 0) fNil)) (fCB gLen (fCons (fVar 1) fNil))))) (fRet [0, 1] (fC (.bool false))) fNext)
    (fSeq (fFor (fItR1 (fCB gLen (fCons (fVar 1) fNil))) (tgN false 2) (fIfS (fNot (fTst (fCall m (fCons (fBin gIx (fVar 0) (fVar 2)) (fCons (fBin gIx (fVar 1) (fVar 2)) fNil))))) (fRet [0, 1] (fC (.bool false))) fNext))
    (fRet [0, 1] (fC (.bool true)))))))))
noncomputable def sameD : Nat → Den
  | 0 => fun _ => none
  | k + 1 => runD 3 2 (q_same (sameD k))
inductive SOk : Nat → T → Prop
  | non (k : Nat) : SOk (k + 1) .none
  | bool (k : Nat) (b : Bool) : SOk (k + 1) (.bool b)
  | int (k : Nat) (i : Int) : SOk (k + 1) (.int i)
  | str (k : Nat) (i : Str) : SOk (k + 1) (.str i)
  | tup (k : Nat) (xs : List T) : xs.length ≤ 1000000 → (∀ x ∈ xs, SOk k x) → SOk (k + 1) (.tuple xs)
theorem same_ok : ∀ (k : Nat) (t : T), SOk k t → sameD k [.dat t, .dat t] = some (.dat (.bool true), [])
  | 0, t, h => by cases h
  | k + 1, t, h => by
    rw [sameD]
    cases h with
    | non => simp [q_same]
    | bool b => simp [q_same]
    | int i => simp [q_same]
    | str x => simp [q_same]
    | tup _ xs hl hx =>
      obtain ⟨o', e, _⟩ := for_r (β := Option Sl) (g := tgN false 2) (b := q_sameB (sameD k)) (fun i o => [some (.dat (.tuple xs)), some (.dat (.tuple xs)), o]) (fun _ _ => True) xs.length 0 (fun i o hi _ => by
        have ex : xs[i]? = some xs[i] := List.getElem?_eq_getElem hi
        have ih := same_ok k xs[i] (hx _ (List.getElem_mem hi))
        exact ⟨_, some (.dat (.int i)), by simp; rfl, .inl (by simp [q_sameB, atI_nat ex, ih]), trivial⟩) none trivial
      have hg : guardP (-(2 ^ 62) ≤ (xs.length : Int) ∧ (xs.length : Int) < 2 ^ 62) = some () := g_rg1 (by omega) (by omega)
      have e1 : (fFor (fItR1 (fCB gLen (fCons (fVar 1) fNil))) (tgN false 2) (q_sameB (sameD k))) [some (.dat (.tuple xs)), some (.dat (.tuple xs)), none] = some (.nx [some (.dat (.tuple xs)), some (.dat (.tuple xs)), o']) := by
        rw [ev_for, ev_itR1]
        simp only [ev_CB, ev_cons, ev_var, ev_nil, List.getElem?_cons_succ, List.getElem?_cons_zero, Option.bind_some, Option.map_some, ev_len, ev_rdSeq, ev_tupOf, Option.some_or, ev_intOf, hg, Int.toNat_natCast]
        exact e
      unfold q_sameB at e1
      unfold q_same
      rw [ev_run2]
      simp [-ev_for, e1]
end PD

namespace PD
open PySem PySem.Spec PyProof.Rows L2
theorem sIx_of {n d : Nat} {v : Int} (h : 0 ≤ v) : HT.sIx n d (some v) = min v.toNat n := by
  obtain ⟨k, rfl⟩ := Int.eq_ofNat_of_zero_le h
  exact HT.sIx_nat n d k
theorem take_min {xs : List T} {k : Nat} : xs.take (min k xs.length) = xs.take k := by
  by_cases h : k ≤ xs.length
  · rw [Nat.min_eq_left h]
  · rw [Nat.min_eq_right (by omega), List.take_length, List.take_of_length_le (by omega)]
theorem cut_to {xs : List T} {n : Int} (h : 0 ≤ n) : cutT xs none (some n) = xs.take n.toNat := by
  unfold cutT
  rw [HT.sIx_none, sIx_of h, List.drop_zero, Nat.sub_zero, take_min]
theorem cut_from {xs : List T} {n : Int} (h : 0 ≤ n) : cutT xs (some n) none = xs.drop n.toNat := by
  unfold cutT
  rw [HT.sIx_none, sIx_of h]
  by_cases hk : n.toNat ≤ xs.length
  · rw [Nat.min_eq_left hk, List.take_of_length_le (by rw [List.length_drop]; omega)]
  · rw [Nat.min_eq_right (by omega), List.drop_length, List.drop_of_length_le (by omega), List.take_nil]
theorem cut_mid {xs : List T} {n m : Int} (h : 0 ≤ n) (h2 : 0 ≤ m) : cutT xs (some n) (some m) = (xs.drop n.toNat).take (m.toNat - n.toNat) := by
  unfold cutT
  rw [sIx_of h, sIx_of h2]
  by_cases hk : n.toNat ≤ xs.length
  · rw [Nat.min_eq_left hk]
    by_cases hm : m.toNat ≤ xs.length
    · rw [Nat.min_eq_left hm]
    · rw [Nat.min_eq_right (by omega), List.take_of_length_le (by rw [List.length_drop]; omega), List.take_of_length_le (by rw [List.length_drop]; omega)]
  · rw [show min n.toNat xs.length = xs.length by omega, List.drop_length, List.drop_of_length_le (by omega), List.take_nil, List.take_nil]
theorem alike_ints {ns : List Int} : PySem.W.AlikeAll (ns.map .int) := by
  refine ⟨fun x hx y hy => ?_, fun x hx => ?_⟩
  · obtain ⟨a, _, rfl⟩ := List.mem_map.mp hx
    obtain ⟨b, _, rfl⟩ := List.mem_map.mp hy
    rfl
  · obtain ⟨a, _, rfl⟩ := List.mem_map.mp hx
    exact fun z => by cases z
theorem max1_ints {h : Hd} {ρ : Ev} {n : Int} {ns : List Int} (e : rdSeq h ρ = some ((n :: ns).map .int)) : gMax [h] ρ = some (.dat (.int (ns.foldl max n))) := by
  have e1 : gMax2 [h] ρ = none := by
    rcases h with t | c | i
    · cases t <;> rfl
    · rfl
    · rfl
  rw [ev_max, e1, Option.none_or]
  have ha := alike_ints (ns := n :: ns)
  have hd : PyData.depthAll ((n :: ns).map PyData.int) ≤ 60 := by rw [depthAll_int]; omega
  show gExt _ [h] ρ = _
  unfold gExt
  simp only [e]
  rw [List.map_cons] at ha hd ⊢
  simp only [guardP_pos (And.intro ha hd), Option.map_some, PySem.W.maxD_ints]
@[simp] theorem ev_sum (h : Hd) (ρ : Ev) : gSum [h] ρ = (rdSeq h ρ).bind fun xs => (intsOf xs).map fun ns => .dat (.int ns.sum) := rfl
theorem place_ok {xs : List T} {d : T} {k : Nat} (h : xs[k]? = some d) (hd : d.plain = true) (hb : ∀ j < k, ∀ y, xs[j]? = some y → PyData.eqv y d = false) : fPlace xs d = some (k : Int) := by
  unfold fPlace SeqAt.dataPlace
  rw [Option.map_eq_some_iff]
  refine ⟨k, ?_, rfl⟩
  rw [List.findIdx?_eq_some_iff_getElem]
  obtain ⟨hk, e⟩ := List.getElem?_eq_some_iff.mp h
  refine ⟨hk, by rw [e]; exact eqv_refl d hd, fun j hj => ?_⟩
  have := hb j hj _ (List.getElem?_eq_getElem (by omega))
  simpa using this
@[simp] theorem ev_pl_t (f : List PyData → PyData → Option Int) (fa fb : FE) (ρ : Ev) : fPl false f fa fb ρ = (fa ρ).bind fun p => (tupOf p.1).bind fun _ => (fb p.2).bind fun q => (tupOf p.1).bind fun ds =>
  match q.1 with
  | .dat d => (guardP (min (PyData.depthAll ds) d.depth ≤ 60)).bind fun _ => (f ds d).map fun j => (.dat (.int j), q.2)
  | _ => none := by
  unfold fPl
  simp only [Bool.false_eq_true, if_false]
  all_goals
    rcases fa ρ with _ | ⟨h, ρ1⟩
    · rfl
    · simp only [Option.bind_some]
      rcases tupOf h with _ | ds
      · rfl
      · simp only [Option.bind_some]
        rcases fb ρ1 with _ | ⟨h2, ρ2⟩
        · rfl
        · simp only [Option.bind_some]
          cases h2 <;> rfl
theorem for_rng {f : FE} {g : GT} {b : FS} {ρ ρ1 : Ev} {n : Nat} {r : Option Fl} (h : f ρ = some (.dat (.int n), ρ1)) (hn : n ≤ 1000000) (e : fForL (fun _ => True) g b ((List.range n).map fun i => PyData.int (0 + (i : Nat))) ρ1 = r) : fFor (fItR1 f) g b ρ = r := by
  have hg : guardP (-(2 ^ 62) ≤ (n : Int) ∧ (n : Int) < 2 ^ 62) = some () := g_rg1 (by omega) (by omega)
  rw [ev_for, ev_itR1, h]
  simp only [Option.bind_some, Option.map_some, ev_intOf, hg, Int.toNat_natCast]
  exact e
theorem for_tup {f : FE} {g : GT} {b : FS} {ρ ρ1 : Ev} {xs : List T} {r : Option Fl} (h : f ρ = some (.dat (.tuple xs), ρ1)) (e : fForL (fun _ => True) g b xs ρ1 = r) : fFor (fItE f) g b ρ = r := by
  rw [ev_for, ev_itE, h]
  exact e
/-- a loop over items, with nothing asked of the walked thing -/
theorem for_t {β : Type} {g : GT} {b : FS} (S : Nat → β → Ev) (I : Nat → β → Prop) (ts : List T)
    (h : ∀ (i : Nat) (x : T) (o : β), ts[i]? = some x → I i o → ∃ ρ1 o', g x (S i o) = some ρ1 ∧ (b ρ1 = some (.nx (S (i + 1) o')) ∨ b ρ1 = some (.ct (S (i + 1) o'))) ∧ I (i + 1) o')
    (o : β) (h0 : I 0 o) : ∃ o', fForL (fun _ => True) g b ts (S 0 o) = some (.nx (S ts.length o')) ∧ I ts.length o' :=
  for_l S I ts (fun i x o hx hi => ⟨trivial, h i x o hx hi⟩) (fun _ _ => trivial) o h0
theorem rep1 {t : T} {k : Nat} {ρ : Ev} (h : k ≤ 1000) : gMul (.dat (.tuple [t])) (.dat (.int (k : Nat))) ρ = some (.dat (.tuple (List.replicate k t))) := by
  have e1 : gI MulOk (fun i j => .int (i * j)) (.dat (.tuple [t])) (.dat (.int (k : Nat))) ρ = none := rfl
  rw [ev_mul, e1, Option.none_or, ev_mulT]
  have hg : guardP (-1000000 ≤ (k : Int) ∧ (k : Int) ≤ 1000000 ∧ [t].length * k ≤ 1000000) = some () := guardP_pos ⟨by omega, by omega, by simp; omega⟩
  simp only [ev_tupOf, ev_intOf, Option.bind_some, Int.toNat_natCast, hg, Option.map_some, Option.some_or, List.flatten_replicate_singleton]
theorem addT_ok {xs ys : List T} {ρ : Ev} (h : xs.length + ys.length ≤ 1000000) : gAdd (.dat (.tuple xs)) (.dat (.tuple ys)) ρ = some (.dat (.tuple (xs ++ ys))) := by
  rw [ev_add, ev_addT]
  simp [guard_small h]
theorem seq_nx {f g : FS} {ρ ρ1 : Ev} (h : f ρ = some (.nx ρ1)) : fSeq f g ρ = g ρ1 := by rw [ev_seq, h]; rfl
theorem run_rt {nn n : Nat} {g : FS} {as : List Sl} {r : Sl} {ρ : Ev} {cs : List C} (h : as.length = n) (e : g (as.map some ++ List.replicate (nn - n) none) = some (.rt r ρ)) (o : outs as ρ = some cs) : runD nn n g as = some (r, cs) := by
  rw [ev_run _ _ _ _ h, e]
  simp [o]
end PD

namespace LW
open PySem PySem.Spec PyProof.Rows L2 PD
def topS (i : Nat) : Stmt := PySem.Challenge.pw_everynumber_k01_letters_as_sets_of_track.main.body.getD i (.Pass ⟨0, 0, 0, 0⟩)

abbrev s_letters_for : Stmt := topS 1
theorem sc_letters_for : FnScope ["tracks"] ["tracks"] (defScope s_letters_for) := ⟨rfl, rfl, rfl, by decide +kernel, rfl, by decide +kernel, by decide +kernel⟩
noncomputable def d_letters_for : FS := (fRet [0] (fBin gShl (fC (.int 1)) (fVar 0)))
noncomputable def m_letters_for : Den := runD 1 1 d_letters_for
theorem b_letters_for {P : Program} {w : World} {K : PySem.W.Frag} {mg : Str → Option Value} {base : Heap} (B : Bs mg) (f : Addr) (cdv : Value) (A : Around) (outer : List PySem.Env) (s : Shared) (H : Hp) (E : XK) (hr : Room 0 (A.deeper (envOfC "letters_for" (defScope s_letters_for) s.heap.objs.size f cdv))) :
    DSs (cxOf CX0 P w K mg base ["tracks"] "letters_for" (defScope s_letters_for) f cdv A outer s H E).nox (List.range 1) (defBody s_letters_for) d_letters_for :=
  have nd := (sc_letters_for).nd
  (dss_one (ds_ret (de_bin dop_shl de_int (de_var 0 (pv 0)))))
theorem f_letters_for {P : Program} {w : World} {K : PySem.W.Frag} {mg : Str → Option Value} {base : Heap} (A : At K mg "letters_for" s_letters_for ["tracks"]) (B : Bs mg) : Df P w K mg base "letters_for" 1 1 m_letters_for :=
  df_mk A sc_letters_for rfl (b_letters_for B)
abbrev s_digits_in : Stmt := topS 2
theorem sc_digits_in : FnScope ["letter", "tracks", "track"] ["letter", "tracks"] (defScope s_digits_in) := ⟨rfl, rfl, rfl, by decide +kernel, rfl, by decide +kernel, by decide +kernel⟩
noncomputable def le_digits_in_1 : FE := (fBin gMod (fBin gShr (fVar 0) (fVar 2)) (fC (.int 2)))
noncomputable def d_digits_in : FS := (fRet [0, 1] (fCB gTuple (fCons (fLc (fItR1 (fVar 1)) (tgN false 2) fYes le_digits_in_1 [2]) fNil)))
noncomputable def m_digits_in : Den := runD 3 2 d_digits_in
theorem b_digits_in {P : Program} {w : World} {K : PySem.W.Frag} {mg : Str → Option Value} {base : Heap} (B : Bs mg) (f : Addr) (cdv : Value) (A : Around) (outer : List PySem.Env) (s : Shared) (H : Hp) (E : XK) (hr : Room 0 (A.deeper (envOfC "digits_in" (defScope s_digits_in) s.heap.objs.size f cdv))) :
    DSs (cxOf CX0 P w K mg base ["letter", "tracks", "track"] "digits_in" (defScope s_digits_in) f cdv A outer s H E).nox (List.range 2) (defBody s_digits_in) d_digits_in :=
  have nd := (sc_digits_in).nd
  (dss_one (ds_ret (de_callTy dc_tuple rfl B.tuple bt_tuple (da_cons (de_lc (own := [("track", 2)]) rfl nd (di_r1 rfl B.range (de_var 1 (pv 1))) (blkOk_by (by kernel_rfl)) (by decide) (go_name (chk := false) (i := 2)) (fun _ _ _ _ _ => (dg_name (chk := false) (i := 2) nd rfl (by first | exact Or.inl rfl | exact Or.inr rfl))) (fun _ _ _ _ _ => dts_nil) (fun _ _ _ _ _ => (de_bin dop_mod (de_bin dop_shr (de_var 0 (pv 0)) (de_var 2 (pv 2))) de_int))) da_nil))))
theorem f_digits_in {P : Program} {w : World} {K : PySem.W.Frag} {mg : Str → Option Value} {base : Heap} (A : At K mg "digits_in" s_digits_in ["letter", "tracks"]) (B : Bs mg) : Df P w K mg base "digits_in" 1 2 m_digits_in :=
  df_mk A sc_digits_in rfl (b_digits_in B)
abbrev s_letter_of : Stmt := topS 3
theorem sc_letter_of : FnScope ["digits", "track"] ["digits"] (defScope s_letter_of) := ⟨rfl, rfl, rfl, by decide +kernel, rfl, by decide +kernel, by decide +kernel⟩
noncomputable def le_letter_of_1 : FE := (fBin gShl (fBin gIx (fVar 0) (fVar 1)) (fVar 1))
noncomputable def d_letter_of : FS := (fRet [0] (fCB gSum (fCons (fLc (fItR1 (fCB gLen (fCons (fVar 0) fNil))) (tgN false 1) fYes le_letter_of_1 [1]) fNil)))
noncomputable def m_letter_of : Den := runD 2 1 d_letter_of
theorem b_letter_of {P : Program} {w : World} {K : PySem.W.Frag} {mg : Str → Option Value} {base : Heap} (B : Bs mg) (f : Addr) (cdv : Value) (A : Around) (outer : List PySem.Env) (s : Shared) (H : Hp) (E : XK) (hr : Room 0 (A.deeper (envOfC "letter_of" (defScope s_letter_of) s.heap.objs.size f cdv))) :
    DSs (cxOf CX0 P w K mg base ["digits", "track"] "letter_of" (defScope s_letter_of) f cdv A outer s H E).nox (List.range 1) (defBody s_letter_of) d_letter_of :=
  have nd := (sc_letter_of).nd
  (dss_one (ds_ret (de_callB (dc_sum rfl) rfl B.sum bt_sum (da_cons (de_lc (own := [("track", 1)]) rfl nd (di_r1 rfl B.range (de_callB dc_len rfl B.len bt_len (da_cons (de_var 0 (pv 0)) da_nil))) (blkOk_by (by kernel_rfl)) (by decide) (go_name (chk := false) (i := 1)) (fun _ _ _ _ _ => (dg_name (chk := false) (i := 1) nd rfl (by first | exact Or.inl rfl | exact Or.inr rfl))) (fun _ _ _ _ _ => dts_nil) (fun _ _ _ _ _ => (de_bin dop_shl (de_ix (de_var 0 (pv 0)) (de_var 1 (pv 1)) (fun _ _ => rfl)) (de_var 1 (pv 1))))) da_nil))))
theorem f_letter_of {P : Program} {w : World} {K : PySem.W.Frag} {mg : Str → Option Value} {base : Heap} (A : At K mg "letter_of" s_letter_of ["digits"]) (B : Bs mg) : Df P w K mg base "letter_of" 1 1 m_letter_of :=
  df_mk A sc_letter_of rfl (b_letter_of B)
abbrev s_picked_letter : Stmt := topS 4
theorem sc_picked_letter : FnScope ["letter", "places", "place"] ["letter", "places"] (defScope s_picked_letter) := ⟨rfl, rfl, rfl, by decide +kernel, rfl, by decide +kernel, by decide +kernel⟩
noncomputable def le_picked_letter_1 : FE := (fBin gMod (fBin gShr (fVar 0) (fVar 2)) (fC (.int 2)))
noncomputable def d_picked_letter : FS := (fRet [0, 1] (fCall m_letter_of (fCons (fCB gTuple (fCons (fLc (fItE (fVar 1)) (tgN false 2) fYes le_picked_letter_1 [2]) fNil)) fNil)))
noncomputable def m_picked_letter : Den := runD 3 2 d_picked_letter
theorem b_picked_letter {P : Program} {w : World} {K : PySem.W.Frag} {mg : Str → Option Value} {base : Heap} (B : Bs mg) (D_letter_of : Df P w K mg base "letter_of" 1 1 m_letter_of) (f : Addr) (cdv : Value) (A : Around) (outer : List PySem.Env) (s : Shared) (H : Hp) (E : XK) (hr : Room 1 (A.deeper (envOfC "picked_letter" (defScope s_picked_letter) s.heap.objs.size f cdv))) :
    DSs (cxOf CX0 P w K mg base ["letter", "places", "place"] "picked_letter" (defScope s_picked_letter) f cdv A outer s H E).nox (List.range 2) (defBody s_picked_letter) d_picked_letter :=
  have nd := (sc_picked_letter).nd
  (dss_one (ds_ret (de_callD D_letter_of (hr.mono (by first | decide | omega)) rfl (fCons_len fNil_len) (da_cons (de_callTy dc_tuple rfl B.tuple bt_tuple (da_cons (de_lc (own := [("place", 2)]) rfl nd (di_e (de_var 1 (pv 1))) (blkOk_by (by kernel_rfl)) (by decide) (go_name (chk := false) (i := 2)) (fun _ _ _ _ _ => (dg_name (chk := false) (i := 2) nd rfl (by first | exact Or.inl rfl | exact Or.inr rfl))) (fun _ _ _ _ _ => dts_nil) (fun _ _ _ _ _ => (de_bin dop_mod (de_bin dop_shr (de_var 0 (pv 0)) (de_var 2 (pv 2))) de_int))) da_nil)) da_nil))))
theorem f_picked_letter {P : Program} {w : World} {K : PySem.W.Frag} {mg : Str → Option Value} {base : Heap} (A : At K mg "picked_letter" s_picked_letter ["letter", "places"]) (B : Bs mg) (D_letter_of : Df P w K mg base "letter_of" 1 1 m_letter_of) : Df P w K mg base "picked_letter" 2 2 m_picked_letter :=
  df_mk A sc_picked_letter rfl (b_picked_letter B D_letter_of)
abbrev s_letter_with : Stmt := topS 5
theorem sc_letter_with : FnScope ["letter", "place", "digit", "low"] ["letter", "place", "digit"] (defScope s_letter_with) := ⟨rfl, rfl, rfl, by decide +kernel, rfl, by decide +kernel, by decide +kernel⟩
noncomputable def d_letter_with : FS := (fSeq (fSet false 3 (fBin gShl (fC (.int 1)) (fVar 1)))
    (fRet [0, 1, 2] (fBin gAdd (fBin gAdd (fBin gMod (fVar 0) (fVar 3)) (fBin gMul (fVar 2) (fVar 3))) (fBin gMul (fBin gMul (fBin gDiv (fVar 0) (fVar 3)) (fVar 3)) (fC (.int 2))))))
noncomputable def m_letter_with : Den := runD 4 3 d_letter_with
theorem b_letter_with {P : Program} {w : World} {K : PySem.W.Frag} {mg : Str → Option Value} {base : Heap} (B : Bs mg) (f : Addr) (cdv : Value) (A : Around) (outer : List PySem.Env) (s : Shared) (H : Hp) (E : XK) (hr : Room 0 (A.deeper (envOfC "letter_with" (defScope s_letter_with) s.heap.objs.size f cdv))) :
    DSs (cxOf CX0 P w K mg base ["letter", "place", "digit", "low"] "letter_with" (defScope s_letter_with) f cdv A outer s H E).nox (List.range 3) (defBody s_letter_with) d_letter_with :=
  have nd := (sc_letter_with).nd
  (dss_cons (ds_set (chk := false) (i := 3) nd rfl (by first | exact Or.inl rfl | exact Or.inr rfl) (de_bin dop_shl de_int (de_var 1 (pv 1))))
    (dss_one (ds_ret (de_bin dop_add (de_bin dop_add (de_bin dop_mod (de_var 0 (pv 0)) (de_var 3 (pv 3))) (de_bin dop_mul (de_var 2 (pv 2)) (de_var 3 (pv 3)))) (de_bin dop_mul (de_bin dop_mul (de_bin dop_div (de_var 0 (pv 0)) (de_var 3 (pv 3))) (de_var 3 (pv 3))) de_int)))))
theorem f_letter_with {P : Program} {w : World} {K : PySem.W.Frag} {mg : Str → Option Value} {base : Heap} (A : At K mg "letter_with" s_letter_with ["letter", "place", "digit"]) (B : Bs mg) : Df P w K mg base "letter_with" 1 3 m_letter_with :=
  df_mk A sc_letter_with rfl (b_letter_with B)
abbrev s_letter_without : Stmt := topS 6
theorem sc_letter_without : FnScope ["letter", "place", "low"] ["letter", "place"] (defScope s_letter_without) := ⟨rfl, rfl, rfl, by decide +kernel, rfl, by decide +kernel, by decide +kernel⟩
noncomputable def d_letter_without : FS := (fSeq (fSet false 2 (fBin gShl (fC (.int 1)) (fVar 1)))
    (fRet [0, 1] (fBin gAdd (fBin gMod (fVar 0) (fVar 2)) (fBin gMul (fBin gDiv (fVar 0) (fBin gMul (fC (.int 2)) (fVar 2))) (fVar 2)))))
noncomputable def m_letter_without : Den := runD 3 2 d_letter_without
theorem b_letter_without {P : Program} {w : World} {K : PySem.W.Frag} {mg : Str → Option Value} {base : Heap} (B : Bs mg) (f : Addr) (cdv : Value) (A : Around) (outer : List PySem.Env) (s : Shared) (H : Hp) (E : XK) (hr : Room 0 (A.deeper (envOfC "letter_without" (defScope s_letter_without) s.heap.objs.size f cdv))) :
    DSs (cxOf CX0 P w K mg base ["letter", "place", "low"] "letter_without" (defScope s_letter_without) f cdv A outer s H E).nox (List.range 2) (defBody s_letter_without) d_letter_without :=
  have nd := (sc_letter_without).nd
  (dss_cons (ds_set (chk := false) (i := 2) nd rfl (by first | exact Or.inl rfl | exact Or.inr rfl) (de_bin dop_shl de_int (de_var 1 (pv 1))))
    (dss_one (ds_ret (de_bin dop_add (de_bin dop_mod (de_var 0 (pv 0)) (de_var 2 (pv 2))) (de_bin dop_mul (de_bin dop_div (de_var 0 (pv 0)) (de_bin dop_mul de_int (de_var 2 (pv 2)))) (de_var 2 (pv 2)))))))
theorem f_letter_without {P : Program} {w : World} {K : PySem.W.Frag} {mg : Str → Option Value} {base : Heap} (A : At K mg "letter_without" s_letter_without ["letter", "place"]) (B : Bs mg) : Df P w K mg base "letter_without" 1 2 m_letter_without :=
  df_mk A sc_letter_without rfl (b_letter_without B)
abbrev s__law_draws : Stmt := topS 8
theorem sc__law_draws : FnScope ["script", "many", "cells", "rest", "draws", "k", "at", "once", "cell"] ["script", "many"] (defScope s__law_draws) := ⟨rfl, rfl, rfl, by decide +kernel, rfl, by decide +kernel, by decide +kernel⟩
noncomputable def le__law_draws_1 : FE := (fCB gInt (fCons (fVar 8) fNil))
noncomputable def sd__law_draws_1 : FS := (fSet false 2 (fLc (fItE (fVar 0)) (tgN false 8) fYes le__law_draws_1 [8]))
noncomputable def sd__law_draws_2 : FS := (fIfS (fTst (fBin gEq (fCB gLen (fCons (fVar 2) fNil)) (fC (.int 0)))) (fExpr (fMt gAppend (fVar 2) (fCons (fC (.int 0)) fNil))) fNext)
noncomputable def sd__law_draws_3 : FS := (fSet false 3 (fCB gList (fCons (fVar 2) fNil)))
noncomputable def sd__law_draws_4 : FS := (fSet false 4 (fLst fNil))
noncomputable def lb__law_draws_1 : FS := (fSeq (fSet false 6 (fBin gMod (fVar 5) (fCB gLen (fCons (fVar 2) fNil))))
    (fIfS (fAnd (fTst (fBin gGe (fBin gIx (fVar 2) (fVar 6)) (fBin gPow (fC (.int 10)) (fC (.int 18))))) (fTst (fBin gGt (fBin gIx (fVar 3) (fVar 6)) (fC (.int 0))))) (fSeq (fExpr (fMt gAppend (fVar 4) (fCons (fBin gMod (fCB gInt (fCons (fBin gIx (fVar 3) (fVar 6)) fNil)) (fC (.int 1000))) fNil)))
    (fSetIx (fBin gDiv (fBin gIx (fVar 3) (fVar 6)) (fC (.int 1000))) (fVar 3) (fVar 6))) (fSeq (fSet false 7 (fBin gMod (fCB gInt (fCons (fBin gAdd (fBin gAdd (fBin gMul (fBin gIx (fVar 2) (fVar 6)) (fC (.int 48271))) (fBin gMul (fVar 5) (fC (.int 69621)))) (fC (.int 11))) fNil)) (fC (.int 2147483647))))
    (fExpr (fMt gAppend (fVar 4) (fCons (fBin gMod (fCB gInt (fCons (fBin gAdd (fBin gAdd (fBin gMul (fVar 7) (fVar 7)) (fBin gMul (fC (.int 3)) (fVar 7))) (fVar 5)) fNil)) (fC (.int 1000003))) fNil))))))
noncomputable def sd__law_draws_5 : FS := (fFor (fItR1 (fVar 1)) (tgN false 5) lb__law_draws_1)
noncomputable def sd__law_draws_6 : FS := (fExpr (fMt gReverse (fVar 4) fNil))
noncomputable def sd__law_draws_7 : FS := (fRet [0, 1] (fVar 4))
noncomputable def d__law_draws : FS := (fSeq sd__law_draws_1 (fSeq sd__law_draws_2 (fSeq sd__law_draws_3 (fSeq sd__law_draws_4 (fSeq sd__law_draws_5 (fSeq sd__law_draws_6 sd__law_draws_7))))))
noncomputable def m__law_draws : Den := runD 9 2 d__law_draws
theorem b__law_draws {P : Program} {w : World} {K : PySem.W.Frag} {mg : Str → Option Value} {base : Heap} (B : Bs mg) (f : Addr) (cdv : Value) (A : Around) (outer : List PySem.Env) (s : Shared) (H : Hp) (E : XK) (hr : Room 0 (A.deeper (envOfC "_law_draws" (defScope s__law_draws) s.heap.objs.size f cdv))) :
    DSs (cxOf CX0 P w K mg base ["script", "many", "cells", "rest", "draws", "k", "at", "once", "cell"] "_law_draws" (defScope s__law_draws) f cdv A outer s H E).nox (List.range 2) (defBody s__law_draws) d__law_draws :=
  have nd := (sc__law_draws).nd
  (dss_cons (ds_setLc (own := [("cell", 8)]) (chk := false) (i := 2) rfl nd rfl rfl (sw_true rfl rfl rfl (by kernel_rfl)) (di_e (de_var 0 (pv 0))) (blkOk_by (by kernel_rfl)) (by decide) (go_name (chk := false) (i := 8)) (fun _ _ _ _ _ => (dg_name (chk := false) (i := 8) nd rfl (by first | exact Or.inl rfl | exact Or.inr rfl))) (fun _ _ _ _ _ => dts_nil) (fun _ _ _ _ _ => (de_callTy dc_int rfl B.int bt_int (da_cons (de_var 8 (pv 8)) da_nil))))
    (dss_cons (ds_if (dt_cmp (dop_eq hr.units) (de_callB dc_len rfl B.len bt_len (da_cons (de_var 2 (pv 2)) da_nil)) de_int) (dss_one (ds_expr (de_mt dm_append PySem.F.slot_list_append PySem.F.type_list_append mt_append (de_var 2 (pv 2)) (da_cons de_int da_nil)))) dss_nil)
    (dss_cons (ds_set (chk := false) (i := 3) nd rfl (by first | exact Or.inl rfl | exact Or.inr rfl) (de_callTy dc_list rfl B.list bt_list (da_cons (de_var 2 (pv 2)) da_nil)))
    (dss_cons (ds_set (chk := false) (i := 4) nd rfl (by first | exact Or.inl rfl | exact Or.inr rfl) (de_lst da_nil))
    (dss_cons (ds_for (pl2 := [0, 1]) PassesOwn.never rfl (di_r1 rfl B.range (de_var 1 (pv 1))) (dg_name (chk := false) (i := 5) nd rfl (by first | exact Or.inl rfl | exact Or.inr rfl)) (dss_cons (ds_set (chk := false) (i := 6) nd rfl (by first | exact Or.inl rfl | exact Or.inr rfl) (de_bin dop_mod (de_var 5 (pv 5)) (de_callB dc_len rfl B.len bt_len (da_cons (de_var 2 (pv 2)) da_nil))))
    (dss_one (ds_if (DW.t (dw_and (dt_cmp (dop_geA hr.units) (de_ix (de_var 2 (pv 2)) (de_var 6 (pv 6)) (fun _ _ => rfl)) (de_bin dop_pow de_int de_int)) (dw_and1 (dt_cmp (dop_gtA hr.units) (de_ix (de_var 3 (pv 3)) (de_var 6 (pv 6)) (fun _ _ => rfl)) de_int)))) (dss_cons (ds_expr (de_mt dm_append PySem.F.slot_list_append PySem.F.type_list_append mt_append (de_var 4 (pv 4)) (da_cons (de_bin dop_mod (de_callTy dc_int rfl B.int bt_int (da_cons (de_ix (de_var 3 (pv 3)) (de_var 6 (pv 6)) (fun _ _ => rfl)) da_nil)) de_int) da_nil)))
    (dss_one (ds_setIx (de_bin dop_div (de_ix (de_var 3 (pv 3)) (de_var 6 (pv 6)) (fun _ _ => rfl)) de_int) (de_var 3 (pv 3)) (de_var 6 (pv 6))))) (dss_cons (ds_set (chk := false) (i := 7) nd rfl (by first | exact Or.inl rfl | exact Or.inr rfl) (de_bin dop_mod (de_callTy dc_int rfl B.int bt_int (da_cons (de_bin dop_add (de_bin dop_add (de_bin dop_mul (de_ix (de_var 2 (pv 2)) (de_var 6 (pv 6)) (fun _ _ => rfl)) de_int) (de_bin dop_mul (de_var 5 (pv 5)) de_int)) de_int) da_nil)) de_int))
    (dss_one (ds_expr (de_mt dm_append PySem.F.slot_list_append PySem.F.type_list_append mt_append (de_var 4 (pv 4)) (da_cons (de_bin dop_mod (de_callTy dc_int rfl B.int bt_int (da_cons (de_bin dop_add (de_bin dop_add (de_bin dop_mul (de_var 7 (pv 7)) (de_var 7 (pv 7))) (de_bin dop_mul de_int (de_var 7 (pv 7)))) (de_var 5 (pv 5))) da_nil)) de_int) da_nil)))))))) (fun _ h => h) live_r1)
    (dss_cons (ds_expr (de_mt0 dm_reverse PySem.F.slot_list_reverse PySem.F.type_list_reverse mt_reverse (de_var 4 (pv 4)) ))
    (dss_one (ds_ret (de_var 4 (pv 4))))))))))
theorem f__law_draws {P : Program} {w : World} {K : PySem.W.Frag} {mg : Str → Option Value} {base : Heap} (A : At K mg "_law_draws" s__law_draws ["script", "many"]) (B : Bs mg) : Df P w K mg base "_law_draws" 1 2 m__law_draws :=
  df_mk A sc__law_draws rfl (b__law_draws B)
abbrev s__law_take : Stmt := topS 9
theorem sc__law_take : FnScope ["draws", "many"] ["draws", "many"] (defScope s__law_take) := ⟨rfl, rfl, rfl, by decide +kernel, rfl, by decide +kernel, by decide +kernel⟩
noncomputable def d__law_take : FS := (fSeq (fIfS (fTst (fBin gEq (fCB gLen (fCons (fVar 0) fNil)) (fC (.int 0)))) (fRet [0, 1] (fC (.int 0))) fNext)
    (fRet [0, 1] (fBin gMod (fCB gInt (fCons (fMt gPop (fVar 0) fNil) fNil)) (fVar 1))))
noncomputable def m__law_take : Den := runD 2 2 d__law_take
theorem b__law_take {P : Program} {w : World} {K : PySem.W.Frag} {mg : Str → Option Value} {base : Heap} (B : Bs mg) (f : Addr) (cdv : Value) (A : Around) (outer : List PySem.Env) (s : Shared) (H : Hp) (E : XK) (hr : Room 0 (A.deeper (envOfC "_law_take" (defScope s__law_take) s.heap.objs.size f cdv))) :
    DSs (cxOf CX0 P w K mg base ["draws", "many"] "_law_take" (defScope s__law_take) f cdv A outer s H E).nox (List.range 2) (defBody s__law_take) d__law_take :=
  have nd := (sc__law_take).nd
  (dss_cons (ds_if (dt_cmp (dop_eq hr.units) (de_callB dc_len rfl B.len bt_len (da_cons (de_var 0 (pv 0)) da_nil)) de_int) (dss_one (ds_ret de_int)) dss_nil)
    (dss_one (ds_ret (de_bin dop_mod (de_callTy dc_int rfl B.int bt_int (da_cons (de_mt0 dm_pop PySem.F.slot_list_pop PySem.F.type_list_pop mt_pop (de_var 0 (pv 0)) ) da_nil)) (de_var 1 (pv 1))))))
theorem f__law_take {P : Program} {w : World} {K : PySem.W.Frag} {mg : Str → Option Value} {base : Heap} (A : At K mg "_law_take" s__law_take ["draws", "many"]) (B : Bs mg) : Df P w K mg base "_law_take" 1 2 m__law_take :=
  df_mk A sc__law_take rfl (b__law_take B)
abbrev s__law_same : Stmt := topS 10
theorem sc__law_same : FnScope ["actual", "due", "k"] ["actual", "due"] (defScope s__law_same) := ⟨rfl, rfl, rfl, by decide +kernel, rfl, by decide +kernel, by decide +kernel⟩
noncomputable def sd__law_same_1 : FS := (fIfS (fTst (fIsi PyData.isBool (fVar 1))) (fRet [0, 1] (fAndV (fIsi PyData.isBool (fVar 0)) (fBin gEq (fVar 0) (fVar 1)))) fNext)
noncomputable def sd__law_same_2 : FS := (fIfS (fTst (fIsi PyData.isInt (fVar 1))) (fRet [0, 1] (fAndV (fIsi PyData.isInt (fVar 0)) (fAndV (fNotV (fIsi PyData.isBool (fVar 0))) (fBin gEq (fVar 0) (fVar 1))))) fNext)
noncomputable def sd__law_same_3 : FS := (fIfS (fTst (fIsi PyData.isStr (fVar 1))) (fRet [0, 1] (fAndV (fIsi PyData.isStr (fVar 0)) (fBin gEq (fVar 0) (fVar 1)))) fNext)
noncomputable def sd__law_same_4 : FS := (fIfS (fTst (fBin gIsN (fVar 1) (fC .none))) (fRet [0, 1] (fBin gIsN (fVar 0) (fC .none))) fNext)
noncomputable def sd__law_same_5 : FS := (fIfS (fOr (fNot (fTst (fIsi PyData.isTuple (fVar 0)))) (fTst (fBin gNe (fCB gLen (fCons (fVar 0) fNil)) (fCB gLen (fCons (fVar 1) fNil))))) (fRet [0, 1] (fC (.bool false))) fNext)
noncomputable def sd__law_same_6 : FS := (fRet [0, 1] (fC (.bool true)))
noncomputable def d__law_same (m__law_same : Nat → Den) (k : Nat) : FS := (fSeq sd__law_same_1 (fSeq sd__law_same_2 (fSeq sd__law_same_3 (fSeq sd__law_same_4 (fSeq sd__law_same_5 (fSeq (fFor (fItR1 (fCB gLen (fCons (fVar 1) fNil))) (tgN false 2) (fIfS (fNot (fTst (fCall (m__law_same k) (fCons (fBin gIx (fVar 0) (fVar 2)) (fCons (fBin gIx (fVar 1) (fVar 2)) fNil))))) (fRet [0, 1] (fC (.bool false))) fNext)) sd__law_same_6))))))
noncomputable def m__law_same : Nat → Den
  | 0 => fun _ => none
  | k + 1 => runD 3 2 (d__law_same (fun _ => m__law_same k) k)
theorem b__law_same {P : Program} {w : World} {K : PySem.W.Frag} {mg : Str → Option Value} {base : Heap} (B : Bs mg) (k : Nat) (D__law_same : Df P w K mg base "_law_same" (0 + k) 2 (m__law_same k)) (f : Addr) (cdv : Value) (A : Around) (outer : List PySem.Env) (s : Shared) (H : Hp) (E : XK) (hr : Room (0 + k) (A.deeper (envOfC "_law_same" (defScope s__law_same) s.heap.objs.size f cdv))) :
    DSs (cxOf CX0 P w K mg base ["actual", "due", "k"] "_law_same" (defScope s__law_same) f cdv A outer s H E).nox (List.range 2) (defBody s__law_same) (d__law_same (fun _ => m__law_same k) k) :=
  have nd := (sc__law_same).nd
  (dss_cons (ds_if (dt_val (de_isi isi_bool rfl B.isinstance rfl B.bool bt_bool (de_var 1 (pv 1)))) (dss_one (ds_ret (de_and (de_isi isi_bool rfl B.isinstance rfl B.bool bt_bool (de_var 0 (pv 0))) (de_one (de_cmp (dop_eq hr.units) (de_var 0 (pv 0)) (de_var 1 (pv 1))))))) dss_nil)
    (dss_cons (ds_if (dt_val (de_isi isi_int rfl B.isinstance rfl B.int bt_int (de_var 1 (pv 1)))) (dss_one (ds_ret (de_and (de_isi isi_int rfl B.isinstance rfl B.int bt_int (de_var 0 (pv 0))) (de_and (de_not (de_isi isi_bool rfl B.isinstance rfl B.bool bt_bool (de_var 0 (pv 0)))) (de_one (de_cmp (dop_eq hr.units) (de_var 0 (pv 0)) (de_var 1 (pv 1)))))))) dss_nil)
    (dss_cons (ds_if (dt_val (de_isi isi_str rfl B.isinstance rfl B.str bt_str (de_var 1 (pv 1)))) (dss_one (ds_ret (de_and (de_isi isi_str rfl B.isinstance rfl B.str bt_str (de_var 0 (pv 0))) (de_one (de_cmp (dop_eq hr.units) (de_var 0 (pv 0)) (de_var 1 (pv 1))))))) dss_nil)
    (dss_cons (ds_if (dt_cmp dop_isN (de_var 1 (pv 1)) de_non) (dss_one (ds_ret (de_cmp dop_isN (de_var 0 (pv 0)) de_non))) dss_nil)
    (dss_cons (ds_if (DW.t (dw_or (dt_not (dt_val (de_isi isi_tuple rfl B.isinstance rfl B.tuple bt_tuple (de_var 0 (pv 0))))) (dw_or1 (dt_cmp (dop_ne hr.units) (de_callB dc_len rfl B.len bt_len (da_cons (de_var 0 (pv 0)) da_nil)) (de_callB dc_len rfl B.len bt_len (da_cons (de_var 1 (pv 1)) da_nil)))))) (dss_one (ds_ret de_bl)) dss_nil)
    (dss_cons (ds_for (pl2 := [0, 1]) PassesOwn.never rfl (di_r1 rfl B.range (de_callB dc_len rfl B.len bt_len (da_cons (de_var 1 (pv 1)) da_nil))) (dg_name (chk := false) (i := 2) nd rfl (by first | exact Or.inl rfl | exact Or.inr rfl)) (dss_one (ds_if (dt_not (dt_val (de_callD D__law_same (hr.mono (by first | decide | omega)) rfl (fCons_len (fCons_len fNil_len)) (da_cons (de_ix (de_var 0 (pv 0)) (de_var 2 (pv 2)) (fun _ _ => rfl)) (da_cons (de_ix (de_var 1 (pv 1)) (de_var 2 (pv 2)) (fun _ _ => rfl)) da_nil))))) (dss_one (ds_ret de_bl)) dss_nil)) (fun _ h => h) live_r1)
    (dss_one (ds_ret de_bl))))))))
theorem f__law_same_all {P : Program} {w : World} {K : PySem.W.Frag} {mg : Str → Option Value} {base : Heap} (A : At K mg "_law_same" s__law_same ["actual", "due"]) (B : Bs mg) : ∀ k : Nat, Df P w K mg base "_law_same" (0 + k) 2 (m__law_same k)
  | 0 => (df_none A rfl).up (Nat.zero_le _)
  | k + 1 => df_mk A sc__law_same rfl (b__law_same B k (f__law_same_all A B k))
theorem f__law_same {P : Program} {w : World} {K : PySem.W.Frag} {mg : Str → Option Value} {base : Heap} (A : At K mg "_law_same" s__law_same ["actual", "due"]) (B : Bs mg) : Df P w K mg base "_law_same" 6 2 (m__law_same 6) := f__law_same_all A B 6
abbrev s__law_order : Stmt := topS 11
theorem sc__law_order : FnScope ["draws", "many", "left", "found", "k"] ["draws", "many"] (defScope s__law_order) := ⟨rfl, rfl, rfl, by decide +kernel, rfl, by decide +kernel, by decide +kernel⟩
noncomputable def lb__law_order_1 : FS := (fExpr (fMt gAppend (fVar 3) (fCons (fMt gPopAt (fVar 2) (fCons (fCall m__law_take (fCons (fVar 0) (fCons (fCB gLen (fCons (fVar 2) fNil)) fNil))) fNil)) fNil)))
noncomputable def d__law_order : FS := (fSeq (fSet false 2 (fListRg (fRg1 (fVar 1))))
    (fSeq (fSet false 3 (fLst fNil))
    (fSeq (fFor (fItR1 (fVar 1)) (tgN false 4) lb__law_order_1)
    (fRet [0, 1] (fCB gTuple (fCons (fVar 3) fNil))))))
noncomputable def m__law_order : Den := runD 5 2 d__law_order
theorem b__law_order {P : Program} {w : World} {K : PySem.W.Frag} {mg : Str → Option Value} {base : Heap} (B : Bs mg) (D__law_take : Df P w K mg base "_law_take" 1 2 m__law_take) (f : Addr) (cdv : Value) (A : Around) (outer : List PySem.Env) (s : Shared) (H : Hp) (E : XK) (hr : Room 1 (A.deeper (envOfC "_law_order" (defScope s__law_order) s.heap.objs.size f cdv))) :
    DSs (cxOf CX0 P w K mg base ["draws", "many", "left", "found", "k"] "_law_order" (defScope s__law_order) f cdv A outer s H E).nox (List.range 2) (defBody s__law_order) d__law_order :=
  have nd := (sc__law_order).nd
  (dss_cons (ds_set (chk := false) (i := 2) nd rfl (by first | exact Or.inl rfl | exact Or.inr rfl) (de_listRg rfl rfl B.list (dr_1 rfl B.range (de_var 1 (pv 1)))))
    (dss_cons (ds_set (chk := false) (i := 3) nd rfl (by first | exact Or.inl rfl | exact Or.inr rfl) (de_lst da_nil))
    (dss_cons (ds_for (pl2 := [0, 1]) PassesOwn.never rfl (di_r1 rfl B.range (de_var 1 (pv 1))) (dg_name (chk := false) (i := 4) nd rfl (by first | exact Or.inl rfl | exact Or.inr rfl)) (dss_one (ds_expr (de_mt dm_append PySem.F.slot_list_append PySem.F.type_list_append mt_append (de_var 3 (pv 3)) (da_cons (de_mt dm_popAt PySem.F.slot_list_pop PySem.F.type_list_pop mt_popAt (de_var 2 (pv 2)) (da_cons (de_callD D__law_take (hr.mono (by first | decide | omega)) rfl (fCons_len (fCons_len fNil_len)) (da_cons (de_var 0 (pv 0)) (da_cons (de_callB dc_len rfl B.len bt_len (da_cons (de_var 2 (pv 2)) da_nil)) da_nil))) da_nil)) da_nil)))) (fun _ h => h) live_r1)
    (dss_one (ds_ret (de_callTy dc_tuple rfl B.tuple bt_tuple (da_cons (de_var 3 (pv 3)) da_nil)))))))
theorem f__law_order {P : Program} {w : World} {K : PySem.W.Frag} {mg : Str → Option Value} {base : Heap} (A : At K mg "_law_order" s__law_order ["draws", "many"]) (B : Bs mg) (D__law_take : Df P w K mg base "_law_take" 1 2 m__law_take) : Df P w K mg base "_law_order" 2 2 m__law_order :=
  df_mk A sc__law_order rfl (b__law_order B D__law_take)
abbrev s__law_of_set : Stmt := topS 12
theorem sc__law_of_set : FnScope ["tracks", "found", "k"] ["tracks"] (defScope s__law_of_set) := ⟨rfl, rfl, rfl, by decide +kernel, rfl, by decide +kernel, by decide +kernel⟩
noncomputable def lb__law_of_set_1 : FS := (fSet false 1 (fBin gAdd (fBin gMul (fC (.int 2)) (fVar 1)) (fCB gInt (fCons (fBin gIn (fVar 2) (fVar 0)) fNil))))
noncomputable def d__law_of_set : FS := (fSeq (fSet false 1 (fC (.int 0)))
    (fSeq (fFor (fItR3 (fCB gMax (fCons (fBin gAdd (fTup (fCons (fNeg (fC (.int 1))) fNil)) (fVar 0)) fNil)) (fNeg (fC (.int 1))) (fNeg (fC (.int 1)))) (tgN false 2) lb__law_of_set_1)
    (fRet [0] (fVar 1))))
noncomputable def m__law_of_set : Den := runD 3 1 d__law_of_set
theorem b__law_of_set {P : Program} {w : World} {K : PySem.W.Frag} {mg : Str → Option Value} {base : Heap} (B : Bs mg) (f : Addr) (cdv : Value) (A : Around) (outer : List PySem.Env) (s : Shared) (H : Hp) (E : XK) (hr : Room 0 (A.deeper (envOfC "_law_of_set" (defScope s__law_of_set) s.heap.objs.size f cdv))) :
    DSs (cxOf CX0 P w K mg base ["tracks", "found", "k"] "_law_of_set" (defScope s__law_of_set) f cdv A outer s H E).nox (List.range 1) (defBody s__law_of_set) d__law_of_set :=
  have nd := (sc__law_of_set).nd
  (dss_cons (ds_set (chk := false) (i := 1) nd rfl (by first | exact Or.inl rfl | exact Or.inr rfl) de_int)
    (dss_cons (ds_for (pl2 := [0]) PassesOwn.never rfl (di_r3 rfl B.range (de_callB (dc_max rfl hr.units) rfl B.max bt_max (da_cons (de_bin dop_add (de_tup (da_cons (de_neg de_int) da_nil)) (de_var 0 (pv 0))) da_nil)) (de_neg de_int) (de_neg de_int)) (dg_name (chk := false) (i := 2) nd rfl (by first | exact Or.inl rfl | exact Or.inr rfl)) (dss_one (ds_set (chk := false) (i := 1) nd rfl (by first | exact Or.inl rfl | exact Or.inr rfl) (de_bin dop_add (de_bin dop_mul de_int (de_var 1 (pv 1))) (de_callTy dc_int rfl B.int bt_int (da_cons (de_cmp (dop_in hr.units) (de_var 2 (pv 2)) (de_var 0 (pv 0))) da_nil))))) (fun _ h => h) live_r3)
    (dss_one (ds_ret (de_var 1 (pv 1))))))
theorem f__law_of_set {P : Program} {w : World} {K : PySem.W.Frag} {mg : Str → Option Value} {base : Heap} (A : At K mg "_law_of_set" s__law_of_set ["tracks"]) (B : Bs mg) : Df P w K mg base "_law_of_set" 1 1 m__law_of_set :=
  df_mk A sc__law_of_set rfl (b__law_of_set B)
abbrev s__law_drawn_set : Stmt := topS 13
theorem sc__law_drawn_set : FnScope ["draws", "many", "k"] ["draws", "many"] (defScope s__law_drawn_set) := ⟨rfl, rfl, rfl, by decide +kernel, rfl, by decide +kernel, by decide +kernel⟩
noncomputable def le__law_drawn_set_1 : FE := (fVar 2)
noncomputable def lf__law_drawn_set_1 : FB := (fTst (fBin gEq (fCall m__law_take (fCons (fVar 0) (fCons (fC (.int 2)) fNil))) (fC (.int 0))))
noncomputable def d__law_drawn_set : FS := (fRet [0, 1] (fCB gTuple (fCons (fLc (fItR1 (fVar 1)) (tgN false 2) lf__law_drawn_set_1 le__law_drawn_set_1 [2]) fNil)))
noncomputable def m__law_drawn_set : Den := runD 3 2 d__law_drawn_set
theorem b__law_drawn_set {P : Program} {w : World} {K : PySem.W.Frag} {mg : Str → Option Value} {base : Heap} (B : Bs mg) (D__law_take : Df P w K mg base "_law_take" 1 2 m__law_take) (f : Addr) (cdv : Value) (A : Around) (outer : List PySem.Env) (s : Shared) (H : Hp) (E : XK) (hr : Room 1 (A.deeper (envOfC "_law_drawn_set" (defScope s__law_drawn_set) s.heap.objs.size f cdv))) :
    DSs (cxOf CX0 P w K mg base ["draws", "many", "k"] "_law_drawn_set" (defScope s__law_drawn_set) f cdv A outer s H E).nox (List.range 2) (defBody s__law_drawn_set) d__law_drawn_set :=
  have nd := (sc__law_drawn_set).nd
  (dss_one (ds_ret (de_callTy dc_tuple rfl B.tuple bt_tuple (da_cons (de_lc (own := [("k", 2)]) rfl nd (di_r1 rfl B.range (de_var 1 (pv 1))) (blkOk_by (by kernel_rfl)) (by decide) (go_name (chk := false) (i := 2)) (fun _ _ _ _ _ => (dg_name (chk := false) (i := 2) nd rfl (by first | exact Or.inl rfl | exact Or.inr rfl))) (fun _ _ _ _ _ => (dts_one (dt_cmp (dop_eq hr.units) (de_callD D__law_take (hr.mono (by first | decide | omega)) rfl (fCons_len (fCons_len fNil_len)) (da_cons (de_var 0 (pv 0)) (da_cons de_int da_nil))) de_int))) (fun _ _ _ _ _ => (de_var 2 (pv 2)))) da_nil))))
theorem f__law_drawn_set {P : Program} {w : World} {K : PySem.W.Frag} {mg : Str → Option Value} {base : Heap} (A : At K mg "_law_drawn_set" s__law_drawn_set ["draws", "many"]) (B : Bs mg) (D__law_take : Df P w K mg base "_law_take" 1 2 m__law_take) : Df P w K mg base "_law_drawn_set" 2 2 m__law_drawn_set :=
  df_mk A sc__law_drawn_set rfl (b__law_drawn_set B D__law_take)
abbrev s__law_is_letter_told : Stmt := topS 14
theorem sc__law_is_letter_told : FnScope ["draws", "many", "own", "letter", "digits", "place", "digit", "put", "more", "less", "k"] ["draws", "many", "own"] (defScope s__law_is_letter_told) := ⟨rfl, rfl, rfl, by decide +kernel, rfl, by decide +kernel, by decide +kernel⟩
noncomputable def sd__law_is_letter_told_1 : FS := (fSet false 3 (fCall m__law_of_set (fCons (fVar 2) fNil)))
noncomputable def le__law_is_letter_told_1 : FE := (fCB gInt (fCons (fBin gIn (fVar 10) (fVar 2)) fNil))
noncomputable def sd__law_is_letter_told_2 : FS := (fSet false 4 (fCB gTuple (fCons (fLc (fItR1 (fVar 1)) (tgN false 10) fYes le__law_is_letter_told_1 [10]) fNil)))
noncomputable def sd__law_is_letter_told_3 : FS := (fIfS (fNot (fTst (fCall (m__law_same 6) (fCons (fTup (fCons (fCall m_letter_of (fCons (fVar 4) fNil)) (fCons (fCall m_digits_in (fCons (fVar 3) (fCons (fVar 1) fNil))) (fCons (fCall m_digits_in (fCons (fVar 3) (fCons (fBin gAdd (fVar 1) (fC (.int 3))) fNil))) fNil)))) (fCons (fTup (fCons (fVar 3) (fCons (fVar 4) (fCons (fBin gAdd (fVar 4) (fTup (fCons (fC (.int 0)) (fCons (fC (.int 0)) (fCons (fC (.int 0)) fNil))))) fNil)))) fNil))))) (fRet [0, 1, 2] (fC (.bool false))) fNext)
noncomputable def sd__law_is_letter_told_4 : FS := (fSet false 6 (fCall m__law_take (fCons (fVar 0) (fCons (fC (.int 2)) fNil))))
noncomputable def le__law_is_letter_told_2 : FE := (fBin gAdd (fVar 10) (fCB gInt (fCons (fBin gGe (fVar 10) (fVar 5)) fNil)))
noncomputable def sd__law_is_letter_told_5 : FS := (fSet false 7 (fCB gTuple (fCons (fCB gSortedI (fCons (fBin gAdd (fLc (fItE (fVar 2)) (tgN false 10) fYes le__law_is_letter_told_2 [10]) (fBin gMul (fLst (fCons (fVar 5) fNil)) (fVar 6))) fNil)) fNil)))
noncomputable def sd__law_is_letter_told_6 : FS := (fSet false 8 (fCall m_letter_with (fCons (fVar 3) (fCons (fVar 5) (fCons (fVar 6) fNil)))))
noncomputable def sd__law_is_letter_told_7 : FS := (fIfS (fNot (fTst (fCall (m__law_same 6) (fCons (fTup (fCons (fVar 8) (fCons (fCall m_letter_without (fCons (fVar 8) (fCons (fVar 5) fNil))) fNil))) (fCons (fTup (fCons (fCall m__law_of_set (fCons (fVar 7) fNil)) (fCons (fVar 3) fNil))) fNil))))) (fRet [0, 1, 2] (fC (.bool false))) fNext)
noncomputable def le__law_is_letter_told_3 : FE := (fBin gSub (fVar 10) (fCB gInt (fCons (fBin gGt (fVar 10) (fVar 5)) fNil)))
noncomputable def lf__law_is_letter_told_1 : FB := (fTst (fBin gNe (fVar 10) (fVar 5)))
noncomputable def sd__law_is_letter_told_8 : FS := (fSet false 9 (fCB gTuple (fCons (fLc (fItE (fVar 2)) (tgN false 10) lf__law_is_letter_told_1 le__law_is_letter_told_3 [10]) fNil)))
noncomputable def sd__law_is_letter_told_9 : FS := (fIfS (fAnd (fTst (fBin gLt (fVar 5) (fVar 1))) (fNot (fTst (fCall (m__law_same 6) (fCons (fCall m_letter_without (fCons (fVar 3) (fCons (fVar 5) fNil))) (fCons (fCall m__law_of_set (fCons (fVar 9) fNil)) fNil)))))) (fRet [0, 1, 2] (fC (.bool false))) fNext)
noncomputable def lb__law_is_letter_told_1 : FS := (fSeq sd__law_is_letter_told_4 (fSeq sd__law_is_letter_told_5 (fSeq sd__law_is_letter_told_6 (fSeq sd__law_is_letter_told_7 (fSeq sd__law_is_letter_told_8 sd__law_is_letter_told_9)))))
noncomputable def sd__law_is_letter_told_10 : FS := (fFor (fItR1 (fBin gAdd (fVar 1) (fC (.int 1)))) (tgN false 5) lb__law_is_letter_told_1)
noncomputable def sd__law_is_letter_told_11 : FS := (fRet [0, 1, 2] (fC (.bool true)))
noncomputable def d__law_is_letter_told : FS := (fSeq sd__law_is_letter_told_1 (fSeq sd__law_is_letter_told_2 (fSeq sd__law_is_letter_told_3 (fSeq sd__law_is_letter_told_10 sd__law_is_letter_told_11))))
noncomputable def m__law_is_letter_told : Den := runD 11 3 d__law_is_letter_told
theorem b__law_is_letter_told {P : Program} {w : World} {K : PySem.W.Frag} {mg : Str → Option Value} {base : Heap} (B : Bs mg) (D__law_of_set : Df P w K mg base "_law_of_set" 1 1 m__law_of_set) (D__law_same : Df P w K mg base "_law_same" 6 2 (m__law_same 6)) (D_digits_in : Df P w K mg base "digits_in" 1 2 m_digits_in) (D_letter_of : Df P w K mg base "letter_of" 1 1 m_letter_of) (D__law_take : Df P w K mg base "_law_take" 1 2 m__law_take) (D_letter_with : Df P w K mg base "letter_with" 1 3 m_letter_with) (D_letter_without : Df P w K mg base "letter_without" 1 2 m_letter_without) (f : Addr) (cdv : Value) (A : Around) (outer : List PySem.Env) (s : Shared) (H : Hp) (E : XK) (hr : Room 6 (A.deeper (envOfC "_law_is_letter_told" (defScope s__law_is_letter_told) s.heap.objs.size f cdv))) :
    DSs (cxOf CX0 P w K mg base ["draws", "many", "own", "letter", "digits", "place", "digit", "put", "more", "less", "k"] "_law_is_letter_told" (defScope s__law_is_letter_told) f cdv A outer s H E).nox (List.range 3) (defBody s__law_is_letter_told) d__law_is_letter_told :=
  have nd := (sc__law_is_letter_told).nd
  (dss_cons (ds_set (chk := false) (i := 3) nd rfl (by first | exact Or.inl rfl | exact Or.inr rfl) (de_callD D__law_of_set (hr.mono (by first | decide | omega)) rfl (fCons_len fNil_len) (da_cons (de_var 2 (pv 2)) da_nil)))
    (dss_cons (ds_set (chk := false) (i := 4) nd rfl (by first | exact Or.inl rfl | exact Or.inr rfl) (de_callTy dc_tuple rfl B.tuple bt_tuple (da_cons (de_lc (own := [("k", 10)]) rfl nd (di_r1 rfl B.range (de_var 1 (pv 1))) (blkOk_by (by kernel_rfl)) (by decide) (go_name (chk := false) (i := 10)) (fun _ _ _ _ _ => (dg_name (chk := false) (i := 10) nd rfl (by first | exact Or.inl rfl | exact Or.inr rfl))) (fun _ _ _ _ _ => dts_nil) (fun _ _ _ _ _ => (de_callTy dc_int rfl B.int bt_int (da_cons (de_cmp (dop_in hr.units) (de_var 10 (pv 10)) (de_var 2 (pv 2))) da_nil)))) da_nil)))
    (dss_cons (ds_if (dt_not (dt_val (de_callD D__law_same (hr.mono (by first | decide | omega)) rfl (fCons_len (fCons_len fNil_len)) (da_cons (de_tup (da_cons (de_callD D_letter_of (hr.mono (by first | decide | omega)) rfl (fCons_len fNil_len) (da_cons (de_var 4 (pv 4)) da_nil)) (da_cons (de_callD D_digits_in (hr.mono (by first | decide | omega)) rfl (fCons_len (fCons_len fNil_len)) (da_cons (de_var 3 (pv 3)) (da_cons (de_var 1 (pv 1)) da_nil))) (da_cons (de_callD D_digits_in (hr.mono (by first | decide | omega)) rfl (fCons_len (fCons_len fNil_len)) (da_cons (de_var 3 (pv 3)) (da_cons (de_bin dop_add (de_var 1 (pv 1)) de_int) da_nil))) da_nil)))) (da_cons (de_tup (da_cons (de_var 3 (pv 3)) (da_cons (de_var 4 (pv 4)) (da_cons (de_bin dop_add (de_var 4 (pv 4)) (de_tup (da_cons de_int (da_cons de_int (da_cons de_int da_nil))))) da_nil)))) da_nil))))) (dss_one (ds_ret de_bl)) dss_nil)
    (dss_cons (ds_for (pl2 := [0, 1, 2]) PassesOwn.never rfl (di_r1 rfl B.range (de_bin dop_add (de_var 1 (pv 1)) de_int)) (dg_name (chk := false) (i := 5) nd rfl (by first | exact Or.inl rfl | exact Or.inr rfl)) (dss_cons (ds_set (chk := false) (i := 6) nd rfl (by first | exact Or.inl rfl | exact Or.inr rfl) (de_callD D__law_take (hr.mono (by first | decide | omega)) rfl (fCons_len (fCons_len fNil_len)) (da_cons (de_var 0 (pv 0)) (da_cons de_int da_nil))))
    (dss_cons (ds_set (chk := false) (i := 7) nd rfl (by first | exact Or.inl rfl | exact Or.inr rfl) (de_callTy dc_tuple rfl B.tuple bt_tuple (da_cons (de_callB dc_sortedI rfl B.sorted bt_sorted (da_cons (de_bin dop_add (de_lc (own := [("k", 10)]) rfl nd (di_e (de_var 2 (pv 2))) (blkOk_by (by kernel_rfl)) (by decide) (go_name (chk := false) (i := 10)) (fun _ _ _ _ _ => (dg_name (chk := false) (i := 10) nd rfl (by first | exact Or.inl rfl | exact Or.inr rfl))) (fun _ _ _ _ _ => dts_nil) (fun _ _ _ _ _ => (de_bin dop_add (de_var 10 (pv 10)) (de_callTy dc_int rfl B.int bt_int (da_cons (de_cmp (dop_geA hr.units) (de_var 10 (pv 10)) (de_var 5 (pv 5))) da_nil))))) (de_bin dop_mul (de_lst (da_cons (de_var 5 (pv 5)) da_nil)) (de_var 6 (pv 6)))) da_nil)) da_nil)))
    (dss_cons (ds_set (chk := false) (i := 8) nd rfl (by first | exact Or.inl rfl | exact Or.inr rfl) (de_callD D_letter_with (hr.mono (by first | decide | omega)) rfl (fCons_len (fCons_len (fCons_len fNil_len))) (da_cons (de_var 3 (pv 3)) (da_cons (de_var 5 (pv 5)) (da_cons (de_var 6 (pv 6)) da_nil)))))
    (dss_cons (ds_if (dt_not (dt_val (de_callD D__law_same (hr.mono (by first | decide | omega)) rfl (fCons_len (fCons_len fNil_len)) (da_cons (de_tup (da_cons (de_var 8 (pv 8)) (da_cons (de_callD D_letter_without (hr.mono (by first | decide | omega)) rfl (fCons_len (fCons_len fNil_len)) (da_cons (de_var 8 (pv 8)) (da_cons (de_var 5 (pv 5)) da_nil))) da_nil))) (da_cons (de_tup (da_cons (de_callD D__law_of_set (hr.mono (by first | decide | omega)) rfl (fCons_len fNil_len) (da_cons (de_var 7 (pv 7)) da_nil)) (da_cons (de_var 3 (pv 3)) da_nil))) da_nil))))) (dss_one (ds_ret de_bl)) dss_nil)
    (dss_cons (ds_set (chk := false) (i := 9) nd rfl (by first | exact Or.inl rfl | exact Or.inr rfl) (de_callTy dc_tuple rfl B.tuple bt_tuple (da_cons (de_lc (own := [("k", 10)]) rfl nd (di_e (de_var 2 (pv 2))) (blkOk_by (by kernel_rfl)) (by decide) (go_name (chk := false) (i := 10)) (fun _ _ _ _ _ => (dg_name (chk := false) (i := 10) nd rfl (by first | exact Or.inl rfl | exact Or.inr rfl))) (fun _ _ _ _ _ => (dts_one (dt_cmp (dop_ne hr.units) (de_var 10 (pv 10)) (de_var 5 (pv 5))))) (fun _ _ _ _ _ => (de_bin dop_sub (de_var 10 (pv 10)) (de_callTy dc_int rfl B.int bt_int (da_cons (de_cmp (dop_gtA hr.units) (de_var 10 (pv 10)) (de_var 5 (pv 5))) da_nil))))) da_nil)))
    (dss_one (ds_if (DW.t (dw_and (dt_cmp (dop_ltA hr.units) (de_var 5 (pv 5)) (de_var 1 (pv 1))) (dw_and1 (dt_not (dt_val (de_callD D__law_same (hr.mono (by first | decide | omega)) rfl (fCons_len (fCons_len fNil_len)) (da_cons (de_callD D_letter_without (hr.mono (by first | decide | omega)) rfl (fCons_len (fCons_len fNil_len)) (da_cons (de_var 3 (pv 3)) (da_cons (de_var 5 (pv 5)) da_nil))) (da_cons (de_callD D__law_of_set (hr.mono (by first | decide | omega)) rfl (fCons_len fNil_len) (da_cons (de_var 9 (pv 9)) da_nil)) da_nil)))))))) (dss_one (ds_ret de_bl)) dss_nil))))))) (fun _ h => h) live_r1)
    (dss_one (ds_ret de_bl))))))
theorem f__law_is_letter_told {P : Program} {w : World} {K : PySem.W.Frag} {mg : Str → Option Value} {base : Heap} (A : At K mg "_law_is_letter_told" s__law_is_letter_told ["draws", "many", "own"]) (B : Bs mg) (D__law_of_set : Df P w K mg base "_law_of_set" 1 1 m__law_of_set) (D__law_same : Df P w K mg base "_law_same" 6 2 (m__law_same 6)) (D_digits_in : Df P w K mg base "digits_in" 1 2 m_digits_in) (D_letter_of : Df P w K mg base "letter_of" 1 1 m_letter_of) (D__law_take : Df P w K mg base "_law_take" 1 2 m__law_take) (D_letter_with : Df P w K mg base "letter_with" 1 3 m_letter_with) (D_letter_without : Df P w K mg base "letter_without" 1 2 m_letter_without) : Df P w K mg base "_law_is_letter_told" 7 3 m__law_is_letter_told :=
  df_mk A sc__law_is_letter_told rfl (b__law_is_letter_told B D__law_of_set D__law_same D_digits_in D_letter_of D__law_take D_letter_with D_letter_without)
abbrev s__law_are_picks_told : Stmt := topS 15
theorem sc__law_are_picks_told : FnScope ["draws", "many", "own", "letter", "order", "some", "picked", "again", "back", "moved", "told", "j", "k"] ["draws", "many", "own"] (defScope s__law_are_picks_told) := ⟨rfl, rfl, rfl, by decide +kernel, rfl, by decide +kernel, by decide +kernel⟩
noncomputable def sd__law_are_picks_told_1 : FS := (fSet false 3 (fCall m__law_of_set (fCons (fVar 2) fNil)))
noncomputable def sd__law_are_picks_told_2 : FS := (fSet false 4 (fCall m__law_order (fCons (fVar 0) (fCons (fVar 1) fNil))))
noncomputable def sd__law_are_picks_told_3 : FS := (fSet false 5 (fSl (fVar 4) fNoPart (fPart (fCall m__law_take (fCons (fVar 0) (fCons (fBin gAdd (fVar 1) (fC (.int 1))) fNil))))))
noncomputable def sd__law_are_picks_told_4 : FS := (fSet false 6 (fCall m_picked_letter (fCons (fVar 3) (fCons (fVar 5) fNil))))
noncomputable def le__law_are_picks_told_1 : FE := (fVar 11)
noncomputable def lf__law_are_picks_told_1 : FB := (fTst (fBin gIn (fBin gIx (fVar 5) (fVar 11)) (fVar 2)))
noncomputable def sd__law_are_picks_told_5 : FS := (fIfS (fNot (fTst (fCall (m__law_same 6) (fCons (fVar 6) (fCons (fCall m__law_of_set (fCons (fCB gTuple (fCons (fLc (fItR1 (fCB gLen (fCons (fVar 5) fNil))) (tgN false 11) lf__law_are_picks_told_1 le__law_are_picks_told_1 [11]) fNil)) fNil)) fNil))))) (fRet [0, 1, 2] (fC (.bool false))) fNext)
noncomputable def sd__law_are_picks_told_6 : FS := (fSet false 7 (fCall m__law_order (fCons (fVar 0) (fCons (fCB gLen (fCons (fVar 5) fNil)) fNil))))
noncomputable def le__law_are_picks_told_2 : FE := (fBin gIx (fVar 5) (fVar 12))
noncomputable def sd__law_are_picks_told_7 : FS := (fIfS (fNot (fTst (fCall (m__law_same 6) (fCons (fCall m_picked_letter (fCons (fVar 6) (fCons (fVar 7) fNil))) (fCons (fCall m_picked_letter (fCons (fVar 3) (fCons (fCB gTuple (fCons (fLc (fItE (fVar 7)) (tgN false 12) fYes le__law_are_picks_told_2 [12]) fNil)) fNil))) fNil))))) (fRet [0, 1, 2] (fC (.bool false))) fNext)
noncomputable def le__law_are_picks_told_3 : FE := (fPl false fPlace (fVar 4) (fVar 12))
noncomputable def sd__law_are_picks_told_8 : FS := (fSet false 8 (fCB gTuple (fCons (fLc (fItR1 (fVar 1)) (tgN false 12) fYes le__law_are_picks_told_3 [12]) fNil)))
noncomputable def sd__law_are_picks_told_9 : FS := (fSet false 9 (fCall m_picked_letter (fCons (fVar 3) (fCons (fVar 4) fNil))))
noncomputable def sd__law_are_picks_told_10 : FS := (fSet false 10 (fTup (fCons (fVar 9) (fCons (fCall m_picked_letter (fCons (fVar 9) (fCons (fVar 8) fNil))) (fCons (fCall m_picked_letter (fCons (fVar 3) (fCons (fTupRg (fRg1 (fVar 1))) fNil))) (fCons (fCall m_picked_letter (fCons (fVar 3) (fCons (fTup fNil) fNil))) fNil))))))
noncomputable def le__law_are_picks_told_4 : FE := (fVar 11)
noncomputable def lf__law_are_picks_told_2 : FB := (fTst (fBin gIn (fBin gIx (fVar 4) (fVar 11)) (fVar 2)))
noncomputable def sd__law_are_picks_told_11 : FS := (fRet [0, 1, 2] (fCall (m__law_same 6) (fCons (fVar 10) (fCons (fTup (fCons (fCall m__law_of_set (fCons (fCB gTuple (fCons (fLc (fItR1 (fVar 1)) (tgN false 11) lf__law_are_picks_told_2 le__law_are_picks_told_4 [11]) fNil)) fNil)) (fCons (fVar 3) (fCons (fVar 3) (fCons (fC (.int 0)) fNil))))) fNil))))
noncomputable def d__law_are_picks_told : FS := (fSeq sd__law_are_picks_told_1 (fSeq sd__law_are_picks_told_2 (fSeq sd__law_are_picks_told_3 (fSeq sd__law_are_picks_told_4 (fSeq sd__law_are_picks_told_5 (fSeq sd__law_are_picks_told_6 (fSeq sd__law_are_picks_told_7 (fSeq sd__law_are_picks_told_8 (fSeq sd__law_are_picks_told_9 (fSeq sd__law_are_picks_told_10 sd__law_are_picks_told_11))))))))))
noncomputable def m__law_are_picks_told : Den := runD 13 3 d__law_are_picks_told
theorem b__law_are_picks_told {P : Program} {w : World} {K : PySem.W.Frag} {mg : Str → Option Value} {base : Heap} (B : Bs mg) (D__law_of_set : Df P w K mg base "_law_of_set" 1 1 m__law_of_set) (D__law_order : Df P w K mg base "_law_order" 2 2 m__law_order) (D__law_take : Df P w K mg base "_law_take" 1 2 m__law_take) (D_picked_letter : Df P w K mg base "picked_letter" 2 2 m_picked_letter) (D__law_same : Df P w K mg base "_law_same" 6 2 (m__law_same 6)) (f : Addr) (cdv : Value) (A : Around) (outer : List PySem.Env) (s : Shared) (H : Hp) (E : XK) (hr : Room 6 (A.deeper (envOfC "_law_are_picks_told" (defScope s__law_are_picks_told) s.heap.objs.size f cdv))) :
    DSs (cxOf CX0 P w K mg base ["draws", "many", "own", "letter", "order", "some", "picked", "again", "back", "moved", "told", "j", "k"] "_law_are_picks_told" (defScope s__law_are_picks_told) f cdv A outer s H E).nox (List.range 3) (defBody s__law_are_picks_told) d__law_are_picks_told :=
  have nd := (sc__law_are_picks_told).nd
  (dss_cons (ds_set (chk := false) (i := 3) nd rfl (by first | exact Or.inl rfl | exact Or.inr rfl) (de_callD D__law_of_set (hr.mono (by first | decide | omega)) rfl (fCons_len fNil_len) (da_cons (de_var 2 (pv 2)) da_nil)))
    (dss_cons (ds_set (chk := false) (i := 4) nd rfl (by first | exact Or.inl rfl | exact Or.inr rfl) (de_callD D__law_order (hr.mono (by first | decide | omega)) rfl (fCons_len (fCons_len fNil_len)) (da_cons (de_var 0 (pv 0)) (da_cons (de_var 1 (pv 1)) da_nil))))
    (dss_cons (ds_set (chk := false) (i := 5) nd rfl (by first | exact Or.inl rfl | exact Or.inr rfl) (de_sl (de_var 4 (pv 4)) do_none (do_some (de_callD D__law_take (hr.mono (by first | decide | omega)) rfl (fCons_len (fCons_len fNil_len)) (da_cons (de_var 0 (pv 0)) (da_cons (de_bin dop_add (de_var 1 (pv 1)) de_int) da_nil))))))
    (dss_cons (ds_set (chk := false) (i := 6) nd rfl (by first | exact Or.inl rfl | exact Or.inr rfl) (de_callD D_picked_letter (hr.mono (by first | decide | omega)) rfl (fCons_len (fCons_len fNil_len)) (da_cons (de_var 3 (pv 3)) (da_cons (de_var 5 (pv 5)) da_nil))))
    (dss_cons (ds_if (dt_not (dt_val (de_callD D__law_same (hr.mono (by first | decide | omega)) rfl (fCons_len (fCons_len fNil_len)) (da_cons (de_var 6 (pv 6)) (da_cons (de_callD D__law_of_set (hr.mono (by first | decide | omega)) rfl (fCons_len fNil_len) (da_cons (de_callTy dc_tuple rfl B.tuple bt_tuple (da_cons (de_lc (own := [("j", 11)]) rfl nd (di_r1 rfl B.range (de_callB dc_len rfl B.len bt_len (da_cons (de_var 5 (pv 5)) da_nil))) (blkOk_by (by kernel_rfl)) (by decide) (go_name (chk := false) (i := 11)) (fun _ _ _ _ _ => (dg_name (chk := false) (i := 11) nd rfl (by first | exact Or.inl rfl | exact Or.inr rfl))) (fun _ _ _ _ _ => (dts_one (dt_cmp (dop_in hr.units) (de_ix (de_var 5 (pv 5)) (de_var 11 (pv 11)) (fun _ _ => rfl)) (de_var 2 (pv 2))))) (fun _ _ _ _ _ => (de_var 11 (pv 11)))) da_nil)) da_nil)) da_nil))))) (dss_one (ds_ret de_bl)) dss_nil)
    (dss_cons (ds_set (chk := false) (i := 7) nd rfl (by first | exact Or.inl rfl | exact Or.inr rfl) (de_callD D__law_order (hr.mono (by first | decide | omega)) rfl (fCons_len (fCons_len fNil_len)) (da_cons (de_var 0 (pv 0)) (da_cons (de_callB dc_len rfl B.len bt_len (da_cons (de_var 5 (pv 5)) da_nil)) da_nil))))
    (dss_cons (ds_if (dt_not (dt_val (de_callD D__law_same (hr.mono (by first | decide | omega)) rfl (fCons_len (fCons_len fNil_len)) (da_cons (de_callD D_picked_letter (hr.mono (by first | decide | omega)) rfl (fCons_len (fCons_len fNil_len)) (da_cons (de_var 6 (pv 6)) (da_cons (de_var 7 (pv 7)) da_nil))) (da_cons (de_callD D_picked_letter (hr.mono (by first | decide | omega)) rfl (fCons_len (fCons_len fNil_len)) (da_cons (de_var 3 (pv 3)) (da_cons (de_callTy dc_tuple rfl B.tuple bt_tuple (da_cons (de_lc (own := [("k", 12)]) rfl nd (di_e (de_var 7 (pv 7))) (blkOk_by (by kernel_rfl)) (by decide) (go_name (chk := false) (i := 12)) (fun _ _ _ _ _ => (dg_name (chk := false) (i := 12) nd rfl (by first | exact Or.inl rfl | exact Or.inr rfl))) (fun _ _ _ _ _ => dts_nil) (fun _ _ _ _ _ => (de_ix (de_var 5 (pv 5)) (de_var 12 (pv 12)) (fun _ _ => rfl)))) da_nil)) da_nil))) da_nil))))) (dss_one (ds_ret de_bl)) dss_nil)
    (dss_cons (ds_set (chk := false) (i := 8) nd rfl (by first | exact Or.inl rfl | exact Or.inr rfl) (de_callTy dc_tuple rfl B.tuple bt_tuple (da_cons (de_lc (own := [("k", 12)]) rfl nd (di_r1 rfl B.range (de_var 1 (pv 1))) (blkOk_by (by kernel_rfl)) (by decide) (go_name (chk := false) (i := 12)) (fun _ _ _ _ _ => (dg_name (chk := false) (i := 12) nd rfl (by first | exact Or.inl rfl | exact Or.inr rfl))) (fun _ _ _ _ _ => dts_nil) (fun _ _ _ _ _ => (de_plT PySem.F.slot_tuple_index PySem.F.type_tuple_index (mt_indexT hr.units) (de_var 4 (pv 4)) (de_var 12 (pv 12))))) da_nil)))
    (dss_cons (ds_set (chk := false) (i := 9) nd rfl (by first | exact Or.inl rfl | exact Or.inr rfl) (de_callD D_picked_letter (hr.mono (by first | decide | omega)) rfl (fCons_len (fCons_len fNil_len)) (da_cons (de_var 3 (pv 3)) (da_cons (de_var 4 (pv 4)) da_nil))))
    (dss_cons (ds_set (chk := false) (i := 10) nd rfl (by first | exact Or.inl rfl | exact Or.inr rfl) (de_tup (da_cons (de_var 9 (pv 9)) (da_cons (de_callD D_picked_letter (hr.mono (by first | decide | omega)) rfl (fCons_len (fCons_len fNil_len)) (da_cons (de_var 9 (pv 9)) (da_cons (de_var 8 (pv 8)) da_nil))) (da_cons (de_callD D_picked_letter (hr.mono (by first | decide | omega)) rfl (fCons_len (fCons_len fNil_len)) (da_cons (de_var 3 (pv 3)) (da_cons (de_tupRg rfl rfl B.tuple (dr_1 rfl B.range (de_var 1 (pv 1)))) da_nil))) (da_cons (de_callD D_picked_letter (hr.mono (by first | decide | omega)) rfl (fCons_len (fCons_len fNil_len)) (da_cons (de_var 3 (pv 3)) (da_cons (de_tup da_nil) da_nil))) da_nil))))))
    (dss_one (ds_ret (de_callD D__law_same (hr.mono (by first | decide | omega)) rfl (fCons_len (fCons_len fNil_len)) (da_cons (de_var 10 (pv 10)) (da_cons (de_tup (da_cons (de_callD D__law_of_set (hr.mono (by first | decide | omega)) rfl (fCons_len fNil_len) (da_cons (de_callTy dc_tuple rfl B.tuple bt_tuple (da_cons (de_lc (own := [("j", 11)]) rfl nd (di_r1 rfl B.range (de_var 1 (pv 1))) (blkOk_by (by kernel_rfl)) (by decide) (go_name (chk := false) (i := 11)) (fun _ _ _ _ _ => (dg_name (chk := false) (i := 11) nd rfl (by first | exact Or.inl rfl | exact Or.inr rfl))) (fun _ _ _ _ _ => (dts_one (dt_cmp (dop_in hr.units) (de_ix (de_var 4 (pv 4)) (de_var 11 (pv 11)) (fun _ _ => rfl)) (de_var 2 (pv 2))))) (fun _ _ _ _ _ => (de_var 11 (pv 11)))) da_nil)) da_nil)) (da_cons (de_var 3 (pv 3)) (da_cons (de_var 3 (pv 3)) (da_cons de_int da_nil))))) da_nil)))))))))))))))
theorem f__law_are_picks_told {P : Program} {w : World} {K : PySem.W.Frag} {mg : Str → Option Value} {base : Heap} (A : At K mg "_law_are_picks_told" s__law_are_picks_told ["draws", "many", "own"]) (B : Bs mg) (D__law_of_set : Df P w K mg base "_law_of_set" 1 1 m__law_of_set) (D__law_order : Df P w K mg base "_law_order" 2 2 m__law_order) (D__law_take : Df P w K mg base "_law_take" 1 2 m__law_take) (D_picked_letter : Df P w K mg base "picked_letter" 2 2 m_picked_letter) (D__law_same : Df P w K mg base "_law_same" 6 2 (m__law_same 6)) : Df P w K mg base "_law_are_picks_told" 7 3 m__law_are_picks_told :=
  df_mk A sc__law_are_picks_told rfl (b__law_are_picks_told B D__law_of_set D__law_order D__law_take D_picked_letter D__law_same)
abbrev s__law_are_all_told : Stmt := topS 16
theorem sc__law_are_all_told : FnScope ["many", "rows", "k", "letters", "place", "zeros", "ones", "row", "letter"] ["many"] (defScope s__law_are_all_told) := ⟨rfl, rfl, rfl, by decide +kernel, rfl, by decide +kernel, by decide +kernel⟩
noncomputable def sd__law_are_all_told_1 : FS := (fIfS (fNot (fTst (fCall (m__law_same 6) (fCons (fTup (fCons (fCall m_letters_for (fCons (fVar 0) fNil)) (fCons (fCall m_letters_for (fCons (fBin gAdd (fVar 0) (fC (.int 1))) fNil)) fNil))) (fCons (fTup (fCons (fBin gShl (fC (.int 1)) (fVar 0)) (fCons (fBin gShl (fC (.int 2)) (fVar 0)) fNil))) fNil))))) (fRet [0] (fC (.bool false))) fNext)
noncomputable def sd__law_are_all_told_2 : FS := (fSet false 1 (fLst (fCons (fTup fNil) fNil)))
noncomputable def le__law_are_all_told_1 : FE := (fBin gAdd (fVar 7) (fTup (fCons (fC (.int 0)) fNil)))
noncomputable def le__law_are_all_told_2 : FE := (fBin gAdd (fVar 7) (fTup (fCons (fC (.int 1)) fNil)))
noncomputable def lb__law_are_all_told_1 : FS := (fSet false 1 (fBin gAdd (fLc (fItE (fVar 1)) (tgN false 7) fYes le__law_are_all_told_1 [7]) (fLc (fItE (fVar 1)) (tgN false 7) fYes le__law_are_all_told_2 [7])))
noncomputable def sd__law_are_all_told_3 : FS := (fFor (fItR1 (fVar 0)) (tgN false 2) lb__law_are_all_told_1)
noncomputable def le__law_are_all_told_3 : FE := (fCall m_letter_of (fCons (fVar 7) fNil))
noncomputable def sd__law_are_all_told_4 : FS := (fSet false 3 (fLc (fItE (fVar 1)) (tgN false 7) fYes le__law_are_all_told_3 [7]))
noncomputable def le__law_are_all_told_4 : FE := (fCall m_digits_in (fCons (fVar 8) (fCons (fVar 0) fNil)))
noncomputable def sd__law_are_all_told_5 : FS := (fIfS (fOr (fTst (fBin gNe (fVar 3) (fListRg (fRg1 (fBin gShl (fC (.int 1)) (fVar 0)))))) (fTst (fBin gNe (fLc (fItE (fVar 3)) (tgN false 8) fYes le__law_are_all_told_4 [8]) (fVar 1)))) (fRet [0] (fC (.bool false))) fNext)
noncomputable def le__law_are_all_told_5 : FE := (fCall m_letter_without (fCons (fVar 8) (fCons (fVar 4) fNil)))
noncomputable def le__law_are_all_told_6 : FE := (fCall m_letter_with (fCons (fVar 8) (fCons (fVar 4) (fCons (fC (.int 1)) fNil))))
noncomputable def le__law_are_all_told_7 : FE := (fCall m_letter_with (fCons (fVar 8) (fCons (fVar 4) (fCons (fC (.int 0)) fNil))))
noncomputable def lb__law_are_all_told_2 : FS := (fSeq (fSet false 5 (fLc (fItE (fVar 3)) (tgN false 8) fYes le__law_are_all_told_7 [8]))
    (fSeq (fSet false 6 (fLc (fItE (fVar 3)) (tgN false 8) fYes le__law_are_all_told_6 [8]))
    (fIfS (fOr (fTst (fBin gNe (fCB gSortedI (fCons (fBin gAdd (fVar 5) (fVar 6)) fNil)) (fListRg (fRg1 (fBin gShl (fC (.int 2)) (fVar 0)))))) (fTst (fBin gNe (fLc (fItE (fBin gAdd (fVar 5) (fVar 6))) (tgN false 8) fYes le__law_are_all_told_5 [8]) (fBin gAdd (fVar 3) (fVar 3))))) (fRet [0] (fC (.bool false))) fNext)))
noncomputable def sd__law_are_all_told_6 : FS := (fFor (fItE (fTup (fCons (fC (.int 0)) (fCons (fVar 0) fNil)))) (tgN false 4) lb__law_are_all_told_2)
noncomputable def sd__law_are_all_told_7 : FS := (fRet [0] (fC (.bool true)))
noncomputable def d__law_are_all_told : FS := (fSeq sd__law_are_all_told_1 (fSeq sd__law_are_all_told_2 (fSeq sd__law_are_all_told_3 (fSeq sd__law_are_all_told_4 (fSeq sd__law_are_all_told_5 (fSeq sd__law_are_all_told_6 sd__law_are_all_told_7))))))
noncomputable def m__law_are_all_told : Den := runD 9 1 d__law_are_all_told
theorem b__law_are_all_told {P : Program} {w : World} {K : PySem.W.Frag} {mg : Str → Option Value} {base : Heap} (B : Bs mg) (D__law_same : Df P w K mg base "_law_same" 6 2 (m__law_same 6)) (D_letters_for : Df P w K mg base "letters_for" 1 1 m_letters_for) (D_letter_of : Df P w K mg base "letter_of" 1 1 m_letter_of) (D_digits_in : Df P w K mg base "digits_in" 1 2 m_digits_in) (D_letter_without : Df P w K mg base "letter_without" 1 2 m_letter_without) (D_letter_with : Df P w K mg base "letter_with" 1 3 m_letter_with) (f : Addr) (cdv : Value) (A : Around) (outer : List PySem.Env) (s : Shared) (H : Hp) (E : XK) (hr : Room 6 (A.deeper (envOfC "_law_are_all_told" (defScope s__law_are_all_told) s.heap.objs.size f cdv))) :
    DSs (cxOf CX0 P w K mg base ["many", "rows", "k", "letters", "place", "zeros", "ones", "row", "letter"] "_law_are_all_told" (defScope s__law_are_all_told) f cdv A outer s H E).nox (List.range 1) (defBody s__law_are_all_told) d__law_are_all_told :=
  have nd := (sc__law_are_all_told).nd
  (dss_cons (ds_if (dt_not (dt_val (de_callD D__law_same (hr.mono (by first | decide | omega)) rfl (fCons_len (fCons_len fNil_len)) (da_cons (de_tup (da_cons (de_callD D_letters_for (hr.mono (by first | decide | omega)) rfl (fCons_len fNil_len) (da_cons (de_var 0 (pv 0)) da_nil)) (da_cons (de_callD D_letters_for (hr.mono (by first | decide | omega)) rfl (fCons_len fNil_len) (da_cons (de_bin dop_add (de_var 0 (pv 0)) de_int) da_nil)) da_nil))) (da_cons (de_tup (da_cons (de_bin dop_shl de_int (de_var 0 (pv 0))) (da_cons (de_bin dop_shl de_int (de_var 0 (pv 0))) da_nil))) da_nil))))) (dss_one (ds_ret de_bl)) dss_nil)
    (dss_cons (ds_set (chk := false) (i := 1) nd rfl (by first | exact Or.inl rfl | exact Or.inr rfl) (de_lst (da_cons (de_tup da_nil) da_nil)))
    (dss_cons (ds_for (pl2 := [0]) PassesOwn.never rfl (di_r1 rfl B.range (de_var 0 (pv 0))) (dg_name (chk := false) (i := 2) nd rfl (by first | exact Or.inl rfl | exact Or.inr rfl)) (dss_one (ds_set (chk := false) (i := 1) nd rfl (by first | exact Or.inl rfl | exact Or.inr rfl) (de_bin dop_add (de_lc (own := [("row", 7)]) rfl nd (di_e (de_var 1 (pv 1))) (blkOk_by (by kernel_rfl)) (by decide) (go_name (chk := false) (i := 7)) (fun _ _ _ _ _ => (dg_name (chk := false) (i := 7) nd rfl (by first | exact Or.inl rfl | exact Or.inr rfl))) (fun _ _ _ _ _ => dts_nil) (fun _ _ _ _ _ => (de_bin dop_add (de_var 7 (pv 7)) (de_tup (da_cons de_int da_nil))))) (de_lc (own := [("row", 7)]) rfl nd (di_e (de_var 1 (pv 1))) (blkOk_by (by kernel_rfl)) (by decide) (go_name (chk := false) (i := 7)) (fun _ _ _ _ _ => (dg_name (chk := false) (i := 7) nd rfl (by first | exact Or.inl rfl | exact Or.inr rfl))) (fun _ _ _ _ _ => dts_nil) (fun _ _ _ _ _ => (de_bin dop_add (de_var 7 (pv 7)) (de_tup (da_cons de_int da_nil)))))))) (fun _ h => h) live_r1)
    (dss_cons (ds_setLc (own := [("row", 7)]) (chk := false) (i := 3) rfl nd rfl rfl (sw_true rfl rfl rfl (by kernel_rfl)) (di_e (de_var 1 (pv 1))) (blkOk_by (by kernel_rfl)) (by decide) (go_name (chk := false) (i := 7)) (fun _ _ _ _ _ => (dg_name (chk := false) (i := 7) nd rfl (by first | exact Or.inl rfl | exact Or.inr rfl))) (fun _ _ _ _ _ => dts_nil) (fun _ _ _ _ _ => (de_callD D_letter_of (hr.mono (by first | decide | omega)) rfl (fCons_len fNil_len) (da_cons (de_var 7 (pv 7)) da_nil))))
    (dss_cons (ds_if (DW.t (dw_or (dt_cmp (dop_ne hr.units) (de_var 3 (pv 3)) (de_listRg rfl rfl B.list (dr_1 rfl B.range (de_bin dop_shl de_int (de_var 0 (pv 0)))))) (dw_or1 (dt_cmp (dop_ne hr.units) (de_lc (own := [("letter", 8)]) rfl nd (di_e (de_var 3 (pv 3))) (blkOk_by (by kernel_rfl)) (by decide) (go_name (chk := false) (i := 8)) (fun _ _ _ _ _ => (dg_name (chk := false) (i := 8) nd rfl (by first | exact Or.inl rfl | exact Or.inr rfl))) (fun _ _ _ _ _ => dts_nil) (fun _ _ _ _ _ => (de_callD D_digits_in (hr.mono (by first | decide | omega)) rfl (fCons_len (fCons_len fNil_len)) (da_cons (de_var 8 (pv 8)) (da_cons (de_var 0 (pv 0)) da_nil))))) (de_var 1 (pv 1)))))) (dss_one (ds_ret de_bl)) dss_nil)
    (dss_cons (ds_for (pl2 := [0]) PassesOwn.never rfl (di_e (de_tup (da_cons de_int (da_cons (de_var 0 (pv 0)) da_nil)))) (dg_name (chk := false) (i := 4) nd rfl (by first | exact Or.inl rfl | exact Or.inr rfl)) (dss_cons (ds_setLc (own := [("letter", 8)]) (chk := false) (i := 5) rfl nd rfl rfl (sw_true rfl rfl rfl (by kernel_rfl)) (di_e (de_var 3 (pv 3))) (blkOk_by (by kernel_rfl)) (by decide) (go_name (chk := false) (i := 8)) (fun _ _ _ _ _ => (dg_name (chk := false) (i := 8) nd rfl (by first | exact Or.inl rfl | exact Or.inr rfl))) (fun _ _ _ _ _ => dts_nil) (fun _ _ _ _ _ => (de_callD D_letter_with (hr.mono (by first | decide | omega)) rfl (fCons_len (fCons_len (fCons_len fNil_len))) (da_cons (de_var 8 (pv 8)) (da_cons (de_var 4 (pv 4)) (da_cons de_int da_nil))))))
    (dss_cons (ds_setLc (own := [("letter", 8)]) (chk := false) (i := 6) rfl nd rfl rfl (sw_true rfl rfl rfl (by kernel_rfl)) (di_e (de_var 3 (pv 3))) (blkOk_by (by kernel_rfl)) (by decide) (go_name (chk := false) (i := 8)) (fun _ _ _ _ _ => (dg_name (chk := false) (i := 8) nd rfl (by first | exact Or.inl rfl | exact Or.inr rfl))) (fun _ _ _ _ _ => dts_nil) (fun _ _ _ _ _ => (de_callD D_letter_with (hr.mono (by first | decide | omega)) rfl (fCons_len (fCons_len (fCons_len fNil_len))) (da_cons (de_var 8 (pv 8)) (da_cons (de_var 4 (pv 4)) (da_cons de_int da_nil))))))
    (dss_one (ds_if (DW.t (dw_or (dt_cmp (dop_ne hr.units) (de_callB dc_sortedI rfl B.sorted bt_sorted (da_cons (de_bin dop_add (de_var 5 (pv 5)) (de_var 6 (pv 6))) da_nil)) (de_listRg rfl rfl B.list (dr_1 rfl B.range (de_bin dop_shl de_int (de_var 0 (pv 0)))))) (dw_or1 (dt_cmp (dop_ne hr.units) (de_lc (own := [("letter", 8)]) rfl nd (di_e (de_bin dop_add (de_var 5 (pv 5)) (de_var 6 (pv 6)))) (blkOk_by (by kernel_rfl)) (by decide) (go_name (chk := false) (i := 8)) (fun _ _ _ _ _ => (dg_name (chk := false) (i := 8) nd rfl (by first | exact Or.inl rfl | exact Or.inr rfl))) (fun _ _ _ _ _ => dts_nil) (fun _ _ _ _ _ => (de_callD D_letter_without (hr.mono (by first | decide | omega)) rfl (fCons_len (fCons_len fNil_len)) (da_cons (de_var 8 (pv 8)) (da_cons (de_var 4 (pv 4)) da_nil))))) (de_bin dop_add (de_var 3 (pv 3)) (de_var 3 (pv 3))))))) (dss_one (ds_ret de_bl)) dss_nil)))) (fun _ h => h) (live_no np_tup))
    (dss_one (ds_ret de_bl))))))))
theorem f__law_are_all_told {P : Program} {w : World} {K : PySem.W.Frag} {mg : Str → Option Value} {base : Heap} (A : At K mg "_law_are_all_told" s__law_are_all_told ["many"]) (B : Bs mg) (D__law_same : Df P w K mg base "_law_same" 6 2 (m__law_same 6)) (D_letters_for : Df P w K mg base "letters_for" 1 1 m_letters_for) (D_letter_of : Df P w K mg base "letter_of" 1 1 m_letter_of) (D_digits_in : Df P w K mg base "digits_in" 1 2 m_digits_in) (D_letter_without : Df P w K mg base "letter_without" 1 2 m_letter_without) (D_letter_with : Df P w K mg base "letter_with" 1 3 m_letter_with) : Df P w K mg base "_law_are_all_told" 7 1 m__law_are_all_told :=
  df_mk A sc__law_are_all_told rfl (b__law_are_all_told B D__law_same D_letters_for D_letter_of D_digits_in D_letter_without D_letter_with)
abbrev s_law : Stmt := topS 17
theorem sc_law : FnScope ["script", "draws", "many", "own", "told"] ["script"] (defScope s_law) := ⟨rfl, rfl, rfl, by decide +kernel, rfl, by decide +kernel, by decide +kernel⟩
noncomputable def sd_law_1 : FS := (fSet false 1 (fCall m__law_draws (fCons (fVar 0) (fCons (fC (.int 260)) fNil))))
noncomputable def lb_law_1 : FS := (fSeq (fSet false 3 (fCall m__law_drawn_set (fCons (fVar 1) (fCons (fVar 2) fNil))))
    (fSeq (fIfS (fOr (fNot (fTst (fCall m__law_is_letter_told (fCons (fVar 1) (fCons (fVar 2) (fCons (fVar 3) fNil)))))) (fNot (fTst (fCall m__law_are_picks_told (fCons (fVar 1) (fCons (fVar 2) (fCons (fVar 3) fNil))))))) (fRet [0] (fC (.bool false))) fNext)
    (fIfS (fOr (fNot (fTst (fCall m__law_is_letter_told (fCons (fVar 1) (fCons (fVar 2) (fCons (fTupRg (fRg1 (fVar 2))) fNil)))))) (fNot (fTst (fCall m__law_is_letter_told (fCons (fVar 1) (fCons (fVar 2) (fCons (fTup fNil) fNil))))))) (fRet [0] (fC (.bool false))) fNext)))
noncomputable def sd_law_2 : FS := (fFor (fItE (fTup (fCons (fBin gAdd (fC (.int 5)) (fCall m__law_take (fCons (fVar 1) (fCons (fC (.int 5)) fNil)))) (fCons (fC (.int 6)) (fCons (fBin gAdd (fC (.int 1)) (fCall m__law_take (fCons (fVar 1) (fCons (fC (.int 5)) fNil)))) (fCons (fC (.int 9)) fNil)))))) (tgN false 2) lb_law_1)
noncomputable def lb_law_2 : FS := (fIfS (fNot (fTst (fCall m__law_are_all_told (fCons (fVar 2) fNil)))) (fRet [0] (fC (.bool false))) fNext)
noncomputable def sd_law_3 : FS := (fFor (fItE (fTup (fCons (fC (.int 0)) (fCons (fC (.int 1)) (fCons (fC (.int 5)) (fCons (fC (.int 6)) fNil)))))) (tgN false 2) lb_law_2)
noncomputable def sd_law_4 : FS := (fSet false 4 (fTup (fCons (fCall m_letter_of (fCons (fTup fNil) fNil)) (fCons (fCall m_digits_in (fCons (fC (.int 0)) (fCons (fC (.int 0)) fNil))) (fCons (fCall m_picked_letter (fCons (fC (.int 5)) (fCons (fTup (fCons (fC (.int 2)) (fCons (fC (.int 1)) fNil))) fNil))) (fCons (fCall m_letter_with (fCons (fC (.int 5)) (fCons (fC (.int 6)) (fCons (fC (.int 1)) fNil)))) (fCons (fCall m_letter_with (fCons (fC (.int 0)) (fCons (fC (.int 8)) (fCons (fC (.int 1)) fNil)))) (fCons (fCall m_letter_without (fCons (fC (.int 511)) (fCons (fC (.int 4)) fNil))) fNil))))))))
noncomputable def sd_law_5 : FS := (fRet [0] (fCall (m__law_same 6) (fCons (fVar 4) (fCons (fTup (fCons (fC (.int 0)) (fCons (fTup fNil) (fCons (fC (.int 1)) (fCons (fC (.int 69)) (fCons (fC (.int 256)) (fCons (fC (.int 255)) fNil))))))) fNil))))
noncomputable def d_law : FS := (fSeq sd_law_1 (fSeq sd_law_2 (fSeq sd_law_3 (fSeq sd_law_4 sd_law_5))))
noncomputable def m_law : Den := runD 5 1 d_law
theorem b_law {P : Program} {w : World} {K : PySem.W.Frag} {mg : Str → Option Value} {base : Heap} (B : Bs mg) (D__law_draws : Df P w K mg base "_law_draws" 1 2 m__law_draws) (D__law_take : Df P w K mg base "_law_take" 1 2 m__law_take) (D__law_is_letter_told : Df P w K mg base "_law_is_letter_told" 7 3 m__law_is_letter_told) (D__law_are_picks_told : Df P w K mg base "_law_are_picks_told" 7 3 m__law_are_picks_told) (D__law_drawn_set : Df P w K mg base "_law_drawn_set" 2 2 m__law_drawn_set) (D__law_are_all_told : Df P w K mg base "_law_are_all_told" 7 1 m__law_are_all_told) (D_letter_without : Df P w K mg base "letter_without" 1 2 m_letter_without) (D_letter_with : Df P w K mg base "letter_with" 1 3 m_letter_with) (D_picked_letter : Df P w K mg base "picked_letter" 2 2 m_picked_letter) (D_digits_in : Df P w K mg base "digits_in" 1 2 m_digits_in) (D_letter_of : Df P w K mg base "letter_of" 1 1 m_letter_of) (D__law_same : Df P w K mg base "_law_same" 6 2 (m__law_same 6)) (f : Addr) (cdv : Value) (A : Around) (outer : List PySem.Env) (s : Shared) (H : Hp) (E : XK) (hr : Room 7 (A.deeper (envOfC "law" (defScope s_law) s.heap.objs.size f cdv))) :
    DSs (cxOf CX0 P w K mg base ["script", "draws", "many", "own", "told"] "law" (defScope s_law) f cdv A outer s H E).nox (List.range 1) (defBody s_law) d_law :=
  have nd := (sc_law).nd
  (dss_cons (ds_set (chk := false) (i := 1) nd rfl (by first | exact Or.inl rfl | exact Or.inr rfl) (de_callD D__law_draws (hr.mono (by first | decide | omega)) rfl (fCons_len (fCons_len fNil_len)) (da_cons (de_var 0 (pv 0)) (da_cons de_int da_nil))))
    (dss_cons (ds_for (pl2 := [0]) PassesOwn.never rfl (di_e (de_tup (da_cons (de_bin dop_add de_int (de_callD D__law_take (hr.mono (by first | decide | omega)) rfl (fCons_len (fCons_len fNil_len)) (da_cons (de_var 1 (pv 1)) (da_cons de_int da_nil)))) (da_cons de_int (da_cons (de_bin dop_add de_int (de_callD D__law_take (hr.mono (by first | decide | omega)) rfl (fCons_len (fCons_len fNil_len)) (da_cons (de_var 1 (pv 1)) (da_cons de_int da_nil)))) (da_cons de_int da_nil)))))) (dg_name (chk := false) (i := 2) nd rfl (by first | exact Or.inl rfl | exact Or.inr rfl)) (dss_cons (ds_set (chk := false) (i := 3) nd rfl (by first | exact Or.inl rfl | exact Or.inr rfl) (de_callD D__law_drawn_set (hr.mono (by first | decide | omega)) rfl (fCons_len (fCons_len fNil_len)) (da_cons (de_var 1 (pv 1)) (da_cons (de_var 2 (pv 2)) da_nil))))
    (dss_cons (ds_if (DW.t (dw_or (dt_not (dt_val (de_callD D__law_is_letter_told (hr.mono (by first | decide | omega)) rfl (fCons_len (fCons_len (fCons_len fNil_len))) (da_cons (de_var 1 (pv 1)) (da_cons (de_var 2 (pv 2)) (da_cons (de_var 3 (pv 3)) da_nil)))))) (dw_or1 (dt_not (dt_val (de_callD D__law_are_picks_told (hr.mono (by first | decide | omega)) rfl (fCons_len (fCons_len (fCons_len fNil_len))) (da_cons (de_var 1 (pv 1)) (da_cons (de_var 2 (pv 2)) (da_cons (de_var 3 (pv 3)) da_nil))))))))) (dss_one (ds_ret de_bl)) dss_nil)
    (dss_one (ds_if (DW.t (dw_or (dt_not (dt_val (de_callD D__law_is_letter_told (hr.mono (by first | decide | omega)) rfl (fCons_len (fCons_len (fCons_len fNil_len))) (da_cons (de_var 1 (pv 1)) (da_cons (de_var 2 (pv 2)) (da_cons (de_tupRg rfl rfl B.tuple (dr_1 rfl B.range (de_var 2 (pv 2)))) da_nil)))))) (dw_or1 (dt_not (dt_val (de_callD D__law_is_letter_told (hr.mono (by first | decide | omega)) rfl (fCons_len (fCons_len (fCons_len fNil_len))) (da_cons (de_var 1 (pv 1)) (da_cons (de_var 2 (pv 2)) (da_cons (de_tup da_nil) da_nil))))))))) (dss_one (ds_ret de_bl)) dss_nil)))) (fun _ h => h) (live_no np_tup))
    (dss_cons (ds_for (pl2 := [0]) PassesOwn.never rfl (di_e (de_tup (da_cons de_int (da_cons de_int (da_cons de_int (da_cons de_int da_nil)))))) (dg_name (chk := false) (i := 2) nd rfl (by first | exact Or.inl rfl | exact Or.inr rfl)) (dss_one (ds_if (dt_not (dt_val (de_callD D__law_are_all_told (hr.mono (by first | decide | omega)) rfl (fCons_len fNil_len) (da_cons (de_var 2 (pv 2)) da_nil)))) (dss_one (ds_ret de_bl)) dss_nil)) (fun _ h => h) (live_no np_tup))
    (dss_cons (ds_set (chk := false) (i := 4) nd rfl (by first | exact Or.inl rfl | exact Or.inr rfl) (de_tup (da_cons (de_callD D_letter_of (hr.mono (by first | decide | omega)) rfl (fCons_len fNil_len) (da_cons (de_tup da_nil) da_nil)) (da_cons (de_callD D_digits_in (hr.mono (by first | decide | omega)) rfl (fCons_len (fCons_len fNil_len)) (da_cons de_int (da_cons de_int da_nil))) (da_cons (de_callD D_picked_letter (hr.mono (by first | decide | omega)) rfl (fCons_len (fCons_len fNil_len)) (da_cons de_int (da_cons (de_tup (da_cons de_int (da_cons de_int da_nil))) da_nil))) (da_cons (de_callD D_letter_with (hr.mono (by first | decide | omega)) rfl (fCons_len (fCons_len (fCons_len fNil_len))) (da_cons de_int (da_cons de_int (da_cons de_int da_nil)))) (da_cons (de_callD D_letter_with (hr.mono (by first | decide | omega)) rfl (fCons_len (fCons_len (fCons_len fNil_len))) (da_cons de_int (da_cons de_int (da_cons de_int da_nil)))) (da_cons (de_callD D_letter_without (hr.mono (by first | decide | omega)) rfl (fCons_len (fCons_len fNil_len)) (da_cons de_int (da_cons de_int da_nil))) da_nil))))))))
    (dss_one (ds_ret (de_callD D__law_same (hr.mono (by first | decide | omega)) rfl (fCons_len (fCons_len fNil_len)) (da_cons (de_var 4 (pv 4)) (da_cons (de_tup (da_cons de_int (da_cons (de_tup da_nil) (da_cons de_int (da_cons de_int (da_cons de_int (da_cons de_int da_nil))))))) da_nil)))))))))
theorem law_fn {K : PySem.W.Frag} {mg : Str → Option Value} (B : Bs mg) (A_letters_for : At K mg "letters_for" s_letters_for ["tracks"]) (A_digits_in : At K mg "digits_in" s_digits_in ["letter", "tracks"]) (A_letter_of : At K mg "letter_of" s_letter_of ["digits"]) (A_picked_letter : At K mg "picked_letter" s_picked_letter ["letter", "places"]) (A_letter_with : At K mg "letter_with" s_letter_with ["letter", "place", "digit"]) (A_letter_without : At K mg "letter_without" s_letter_without ["letter", "place"]) (A__law_draws : At K mg "_law_draws" s__law_draws ["script", "many"]) (A__law_take : At K mg "_law_take" s__law_take ["draws", "many"]) (A__law_same : At K mg "_law_same" s__law_same ["actual", "due"]) (A__law_order : At K mg "_law_order" s__law_order ["draws", "many"]) (A__law_of_set : At K mg "_law_of_set" s__law_of_set ["tracks"]) (A__law_drawn_set : At K mg "_law_drawn_set" s__law_drawn_set ["draws", "many"]) (A__law_is_letter_told : At K mg "_law_is_letter_told" s__law_is_letter_told ["draws", "many", "own"]) (A__law_are_picks_told : At K mg "_law_are_picks_told" s__law_are_picks_told ["draws", "many", "own"]) (A__law_are_all_told : At K mg "_law_are_all_told" s__law_are_all_told ["many"]) (A_law : At K mg "law" s_law ["script"]) {fa : Addr} (hfa : mg "law" = some (.ref fa)) : ∃ fd : FuncData, (∀ (s : Shared) (u : Value), BindsTo s fd ⟨[u], []⟩ [("script", u)]) ∧ ∀ (P : Program) (w : World) (base : Heap), FnOk P w K mg base CX0 8 fa fd ["script"] (spD K 1 m_law) := by
  obtain ⟨f, fd, F, hm, hb⟩ := A_law.ex
  rw [hm] at hfa
  cases hfa
  refine ⟨fd, fun s u => .of_eq (hb [u] rfl), fun P w base => ?_⟩
  have D_letters_for := f_letters_for (P := P) (w := w) (base := base) A_letters_for B
  have D_digits_in := f_digits_in (P := P) (w := w) (base := base) A_digits_in B
  have D_letter_of := f_letter_of (P := P) (w := w) (base := base) A_letter_of B
  have D_picked_letter := f_picked_letter (P := P) (w := w) (base := base) A_picked_letter B D_letter_of
  have D_letter_with := f_letter_with (P := P) (w := w) (base := base) A_letter_with B
  have D_letter_without := f_letter_without (P := P) (w := w) (base := base) A_letter_without B
  have D__law_draws := f__law_draws (P := P) (w := w) (base := base) A__law_draws B
  have D__law_take := f__law_take (P := P) (w := w) (base := base) A__law_take B
  have D__law_same := f__law_same (P := P) (w := w) (base := base) A__law_same B
  have D__law_order := f__law_order (P := P) (w := w) (base := base) A__law_order B D__law_take
  have D__law_of_set := f__law_of_set (P := P) (w := w) (base := base) A__law_of_set B
  have D__law_drawn_set := f__law_drawn_set (P := P) (w := w) (base := base) A__law_drawn_set B D__law_take
  have D__law_is_letter_told := f__law_is_letter_told (P := P) (w := w) (base := base) A__law_is_letter_told B D__law_of_set D__law_same D_digits_in D_letter_of D__law_take D_letter_with D_letter_without
  have D__law_are_picks_told := f__law_are_picks_told (P := P) (w := w) (base := base) A__law_are_picks_told B D__law_of_set D__law_order D__law_take D_picked_letter D__law_same
  have D__law_are_all_told := f__law_are_all_told (P := P) (w := w) (base := base) A__law_are_all_told B D__law_same D_letters_for D_letter_of D_digits_in D_letter_without D_letter_with
  exact fn_den F sc_law rfl fun cdv A outer s H E hr => b_law B D__law_draws D__law_take D__law_is_letter_told D__law_are_picks_told D__law_drawn_set D__law_are_all_told D_letter_without D_letter_with D_picked_letter D_digits_in D_letter_of D__law_same _ cdv A outer s H E hr
end LW

namespace LW
open PySem PySem.Spec PyProof.Rows L2 PD
def bf (p : Nat → Bool) : Nat → Nat
  | 0 => 0
  | n + 1 => 2 ^ n * (p n).toNat + bf p n
theorem bf_lt (p : Nat → Bool) : ∀ n, bf p n < 2 ^ n
  | 0 => by simp [bf]
  | n + 1 => by
    have := bf_lt p n
    rw [bf, Nat.pow_succ]
    cases p n <;> simp <;> omega
theorem bf_tb (p : Nat → Bool) : ∀ n k, (bf p n).testBit k = (decide (k < n) && p k)
  | 0, k => by simp [bf]
  | n + 1, k => by
    rw [bf, Nat.testBit_two_pow_mul_add _ (bf_lt p n), bf_tb p n]
    by_cases h : k < n
    · simp [h, show k < n + 1 by omega]
    · by_cases h2 : k = n
      · subst h2
        cases p k <;> simp
      · have : ¬ k < n + 1 := by omega
        simp only [h, if_false, this, decide_false, Bool.false_and]
        apply Nat.testBit_lt_two_pow
        have : 2 ^ 1 ≤ 2 ^ (k - n) := Nat.pow_le_pow_right (by decide) (by omega)
        cases p n <;> simp <;> omega
theorem bf_of {x n : Nat} (h : x < 2 ^ n) : bf x.testBit n = x := Nat.eq_of_testBit_eq fun k => by
  rw [bf_tb]
  by_cases hk : k < n
  · simp [hk]
  · have : x < 2 ^ k := Nat.lt_of_lt_of_le h (Nat.pow_le_pow_right (by decide) (by omega))
    simp [hk, Nat.testBit_lt_two_pow this]
theorem bf_ext {p q : Nat → Bool} {n m : Nat} (h : ∀ k, (decide (k < n) && p k) = (decide (k < m) && q k)) : bf p n = bf q m := Nat.eq_of_testBit_eq fun k => by rw [bf_tb, bf_tb, h]
def bI (b : Bool) : T := .int (if b then 1 else 0)
theorem intOf_bI (b : Bool) : intOf (.dat (bI b)) = some (if b then 1 else 0) := rfl
theorem bit_int (x k : Nat) : ((x : Int) / 2 ^ k) % 2 = if x.testBit k then 1 else 0 := by
  have e : ((x : Int) / 2 ^ k) % 2 = ((x / 2 ^ k % 2 : Nat) : Int) := by simp
  rw [e, Nat.testBit_eq_decide_div_mod_eq]
  have : x / 2 ^ k % 2 = 0 ∨ x / 2 ^ k % 2 = 1 := by omega
  rcases this with z | z <;> simp [z]
/-! ### comprehensions over a range -/
theorem lc_rng {g : GT} {te : FE} {f : FE} {vs : List Nat} {ρ : Ev} {n : Nat} (F : Nat → T) (hf : f ρ = some (.dat (.int n), ρ)) (hn : n ≤ 1000000) (hw : wipeE ρ vs = ρ) (hb : backE ρ ρ vs = ρ)
    (h : ∀ k < n, ∃ ρ1 ρ3, g (.int k) ρ = some ρ1 ∧ te ρ1 = some (.dat (F k), ρ3) ∧ wipeE ρ3 vs = ρ) : fLc (fItR1 f) g fYes te vs ρ = some (.tmp (.lst ((List.range n).map F)), ρ) := by
  have hg : guardP (-(2 ^ 62) ≤ (n : Int) ∧ (n : Int) < 2 ^ 62) = some () := g_rg1 (by omega) (by omega)
  rw [ev_lc, ev_itR1, hf]
  simp only [Option.bind_some, ev_intOf, hg, Option.map_some, Int.toNat_natCast, List.length_map, List.length_range, guard_small hn, hw]
  rw [lc_map (fun x => match x with | .int i => F i.toNat | _ => .none) (by trivial) _ fun x hx => by
    obtain ⟨k, hk, rfl⟩ := List.mem_map.mp hx
    simpa using h k (List.mem_range.mp hk)]
  simp only [Option.map_some, List.map_map, hb]
  congr 4
  apply List.map_congr_left
  intro k _
  simp
theorem e_digits_in (x : Nat) {t : Nat} (ht : t ≤ 1000) : m_digits_in [.dat (.int x), .dat (.int t)] = some (.dat (.tuple ((List.range t).map fun k => bI (x.testBit k))), []) := by
  have e : fLc (fItR1 (fVar 1)) (tgN false 2) fYes le_digits_in_1 [2] [some (.dat (.int x)), some (.dat (.int t)), none] = _ :=
    lc_rng (n := t) (fun k => bI (x.testBit k)) (by simp) (by omega) (by simp) (by simp) fun k hk => ⟨[some (.dat (.int x)), some (.dat (.int t)), some (.dat (.int k))], _, by simp, by
      have hg : guardP ((0 : Int) ≤ (k : Int)) = some () := guardP_pos (by omega)
      simp [le_digits_in_1, hg, g_mod, bit_int, bI]; rfl, by simp⟩
  unfold m_digits_in d_digits_in
  rw [ev_run2]
  simp [-ev_lc, e]
theorem bit_shl (k : Nat) (hk : k ≤ 1000) (b : Bool) : guardP (CShl (if b then 1 else 0) (k : Int)) = some () := guardP_pos ⟨by omega, by
  have h1 : Builtin.Int.intBits 1 ≤ 10 := by decide +kernel
  have h0 : Builtin.Int.intBits 0 ≤ 10 := by decide +kernel
  cases b <;> simp <;> omega⟩
theorem sum_bf (p : Nat → Bool) : ∀ n, ((List.range n).map fun k => ((if p k then 1 else 0 : Int) * 2 ^ k)).sum = (bf p n : Nat)
  | 0 => by simp [bf]
  | n + 1 => by
    rw [List.range_succ, List.map_append, List.sum_append, sum_bf p n, bf]
    cases h : p n <;> simp [h] <;> omega
theorem e_letter_of (p : Nat → Bool) {n : Nat} (hn : n ≤ 1000) : m_letter_of [.dat (.tuple ((List.range n).map fun k => bI (p k)))] = some (.dat (.int (bf p n : Nat)), []) := by
  have e : fLc (fItR1 (fCB gLen (fCons (fVar 0) fNil))) (tgN false 1) fYes le_letter_of_1 [1] [some (.dat (.tuple ((List.range n).map fun k => bI (p k)))), none] = _ :=
    lc_rng (n := n) (fun k => .int ((if p k then 1 else 0) * 2 ^ k)) (by simp) (by omega) (by simp) (by simp) fun k hk => ⟨[some (.dat (.tuple ((List.range n).map fun k => bI (p k)))), some (.dat (.int k))], _, by simp, by
      have ha : atI ((List.range n).map fun k => bI (p k)) (k : Int) = some (bI (p k)) := PD.atI_nat (by rw [List.getElem?_map, List.getElem?_range hk]; rfl)
      have hg := bit_shl k (by omega) (p k)
      simp only [le_letter_of_1, ev_bin, ev_var, List.getElem?_cons_succ, List.getElem?_cons_zero, Option.bind_some, ev_ix, ev_rdSeq, ev_tupOf, Option.some_or, ev_intOf, intOf_bI, ha, Option.map_some, ev_gI, hg, Int.toNat_natCast]
      rfl, by simp⟩
  unfold m_letter_of d_letter_of
  rw [ev_run1]
  have hs : intsOf ((List.range n).map fun k => PyData.int ((if p k then 1 else 0) * 2 ^ k)) = some ((List.range n).map fun k => ((if p k then 1 else 0 : Int) * 2 ^ k)) := by
    have : (List.range n).map (fun k => PyData.int ((if p k then 1 else 0) * 2 ^ k)) = ((List.range n).map fun k => ((if p k then 1 else 0 : Int) * 2 ^ k)).map .int := by rw [List.map_map]; rfl
    rw [this, intsOf_map]
  simp [-ev_lc, e, hs, sum_bf]
end LW

namespace LW
open PySem PySem.Spec PyProof.Rows L2 PD
def pg (ps : List Nat) (k : Nat) : Nat := ps.getD k 0
def nI (n : Nat) : T := .int (n : Nat)
/-- a comprehension over a tuple -/
theorem lc_tup {g : GT} {te : FE} {f : FE} {vs : List Nat} {ρ : Ev} {xs : List T} (F : T → T) (hf : f ρ = some (.dat (.tuple xs), ρ)) (hn : xs.length ≤ 1000000) (hw : wipeE ρ vs = ρ) (hb : backE ρ ρ vs = ρ)
    (h : ∀ x ∈ xs, ∃ ρ1 ρ3, g x ρ = some ρ1 ∧ te ρ1 = some (.dat (F x), ρ3) ∧ wipeE ρ3 vs = ρ) : fLc (fItE f) g fYes te vs ρ = some (.tmp (.lst (xs.map F)), ρ) := by
  rw [ev_lc, ev_itE, hf]
  simp only [Option.bind_some, ev_itOf_t, Option.map_some, guard_small hn, hw]
  rw [lc_map F (by trivial) _ h]
  simp only [Option.map_some, hb]
theorem e_picked (x : Nat) {ps : List Nat} (hn : ps.length ≤ 1000) : m_picked_letter [.dat (.int x), .dat (.tuple (ps.map nI))] = some (.dat (.int (bf (fun i => x.testBit (pg ps i)) ps.length : Nat)), []) := by
  have e : fLc (fItE (fVar 1)) (tgN false 2) fYes le_picked_letter_1 [2] [some (.dat (.int x)), some (.dat (.tuple (ps.map nI))), none] = _ :=
    lc_tup (fun t => match t with | .int i => bI (x.testBit i.toNat) | _ => .none) (by simp; rfl) (by simp; omega) (by simp) (by simp) fun t ht => by
      obtain ⟨k, _, rfl⟩ := List.mem_map.mp ht
      refine ⟨[some (.dat (.int x)), some (.dat (.tuple (ps.map nI))), some (.dat (nI k))], [some (.dat (.int x)), some (.dat (.tuple (ps.map nI))), some (.dat (nI k))], by simp, ?_, by simp⟩
      have hg : guardP ((0 : Int) ≤ (k : Int)) = some () := guardP_pos (by omega)
      simp [le_picked_letter_1, nI, hg, g_mod, bit_int, bI]
  have e2 : (ps.map nI).map (fun t => match t with | .int i => bI (x.testBit i.toNat) | _ => .none) = (List.range ps.length).map fun k => bI (x.testBit (pg ps k)) := by
    rw [List.map_map]
    apply List.ext_getElem?
    intro i
    rw [List.getElem?_map, List.getElem?_map]
    by_cases hi : i < ps.length
    · rw [List.getElem?_eq_getElem hi, List.getElem?_range hi]
      simp [nI, pg, List.getD_eq_getElem?_getD, List.getElem?_eq_getElem hi]
    · rw [List.getElem?_eq_none (by omega), List.getElem?_eq_none (by simpa using hi)]
      rfl
  rw [e2] at e
  unfold m_picked_letter d_picked_letter
  rw [ev_run2]
  simp [-ev_lc, e, e_letter_of (fun i => x.testBit (pg ps i)) hn]
def lwi (x pl : Nat) (d : Bool) : Nat := x % 2 ^ pl + d.toNat * 2 ^ pl + x / 2 ^ pl * 2 ^ pl * 2
def lwo (x pl : Nat) : Nat := x % 2 ^ pl + x / (2 * 2 ^ pl) * 2 ^ pl
theorem lwi_tb (x pl : Nat) (d : Bool) (k : Nat) : (lwi x pl d).testBit k = if k < pl then x.testBit k else if k = pl then d else x.testBit (k - 1) := by
  have e : lwi x pl d = 2 ^ pl * (2 ^ 1 * (x / 2 ^ pl) + d.toNat) + x % 2 ^ pl := by
    unfold lwi
    generalize 2 ^ pl = P
    grind
  rw [e, Nat.testBit_two_pow_mul_add _ (Nat.mod_lt _ (Nat.two_pow_pos pl))]
  by_cases h : k < pl
  · simp [h, Nat.testBit_mod_two_pow]
  · rw [if_neg h, if_neg h, Nat.testBit_two_pow_mul_add _ (by cases d <;> simp)]
    by_cases h2 : k = pl
    · subst h2; cases d <;> simp
    · rw [if_neg (by omega), if_neg h2, Nat.testBit_div_two_pow]
      congr 1
      omega
theorem lwo_tb (x pl k : Nat) : (lwo x pl).testBit k = if k < pl then x.testBit k else x.testBit (k + 1) := by
  have e : lwo x pl = 2 ^ pl * (x / 2 ^ (pl + 1)) + x % 2 ^ pl := by
    unfold lwo
    rw [Nat.pow_succ, Nat.mul_comm (2 ^ pl) 2]
    generalize 2 ^ pl = P
    generalize x / (2 * P) = q
    rw [Nat.mul_comm q P]
    omega
  rw [e, Nat.testBit_two_pow_mul_add _ (Nat.mod_lt _ (Nat.two_pow_pos pl))]
  by_cases h : k < pl
  · simp [h, Nat.testBit_mod_two_pow]
  · rw [if_neg h, if_neg h, Nat.testBit_div_two_pow]
    congr 1
    omega
theorem p20 {pl : Nat} (h : pl ≤ 20) : 2 ^ pl ≤ 1048576 := by
  have : 2 ^ pl ≤ 2 ^ 20 := Nat.pow_le_pow_right (by decide) h
  simpa using this
theorem e_with {x pl : Nat} (d : Bool) (hx : x ≤ 1000000) (hp : pl ≤ 20) : m_letter_with [.dat (.int x), .dat (.int pl), .dat (bI d)] = some (.dat (.int (lwi x pl d : Nat)), []) := by
  have h20 := p20 hp
  have hpos := Nat.two_pow_pos pl
  have hs := bit_shl pl (by omega) true
  simp only [if_true] at hs
  have eP : (2 : Int) ^ pl = ((2 ^ pl : Nat) : Int) := by simp
  have h1 : x / 2 ^ pl ≤ 1000000 := Nat.le_trans (Nat.div_le_self _ _) hx
  have h2 : x / 2 ^ pl * 2 ^ pl ≤ 1000000 := Nat.le_trans (Nat.div_mul_le_self _ _) hx
  unfold m_letter_with d_letter_with lwi bI
  rw [ev_run3]
  generalize 2 ^ pl = P at *
  have q1 : guardP (MulOk (if d = true then 1 else 0) (P : Int)) = some () := g_mulR (by omega) (by omega)
  have q2 : guardP (MulOk ((x : Int) / (P : Int)) (P : Int)) = some () := g_mulR (by omega) (by omega)
  have q3 : ∀ y : Int, guardP (MulOk y 2) = some () := fun y => g_mulR (by omega) (by omega)
  have q4 : guardP (DivOk (x : Int) (P : Int)) = some () := g_div (by omega) (by omega)
  have q5 : guardP (ModOk (x : Int) (P : Int)) = some () := g_mod (by omega)
  cases d <;> simp [hs, eP, q1, q2, q3, q4, q5] <;> simp_all
theorem e_without {x pl : Nat} (hx : x ≤ 1000000) (hp : pl ≤ 20) : m_letter_without [.dat (.int x), .dat (.int pl)] = some (.dat (.int (lwo x pl : Nat)), []) := by
  have h20 := p20 hp
  have hpos := Nat.two_pow_pos pl
  have hs := bit_shl pl (by omega) true
  simp only [if_true] at hs
  have eP : (2 : Int) ^ pl = ((2 ^ pl : Nat) : Int) := by simp
  unfold m_letter_without d_letter_without lwo
  rw [ev_run2]
  generalize 2 ^ pl = P at *
  have q1 : guardP (MulOk 2 (P : Int)) = some () := g_mulR (by omega) (by omega)
  have q2 : ∀ y : Int, guardP (MulOk y (P : Int)) = some () := fun y => g_mulR (by omega) (by omega)
  have q4 : guardP (DivOk (x : Int) (2 * (P : Int))) = some () := g_div (by omega) (by omega)
  have q5 : guardP (ModOk (x : Int) (P : Int)) = some () := g_mod (by omega)
  simp [hs, eP, q1, q2, q4, q5]
theorem e_letters_for {n : Nat} (hn : n ≤ 1000) : m_letters_for [.dat (.int n)] = some (.dat (.int (2 ^ n : Nat)), []) := by
  have hs := bit_shl n hn true
  simp only [if_true] at hs
  unfold m_letters_for d_letters_for
  rw [ev_run1]
  simp [hs]
end LW

namespace LW
open PySem PySem.Spec PyProof.Rows L2 PD
/-! ### the set's letter -/
def isIn (own : List Nat) (k : Nat) : Bool := decide (k ∈ own)
theorem foldl_max : ∀ (own : List Nat) (c : Nat), ∃ N : Nat, (own.map fun k : Nat => (k : Int)).foldl max ((c : Int) - 1) = (N : Int) - 1 ∧ c ≤ N ∧ (∀ k ∈ own, k < N) ∧ ∀ M, c ≤ M → (∀ k ∈ own, k < M) → N ≤ M
  | [], c => ⟨c, rfl, Nat.le_refl _, by simp, fun M h _ => h⟩
  | k :: own, c => by
    obtain ⟨N, e, h1, h2, h3⟩ := foldl_max own (max c (k + 1))
    refine ⟨N, ?_, by omega, ?_, fun M hc hM => h3 M ?_ ?_⟩
    · rw [List.map_cons, List.foldl_cons, ← e]
      congr 1
      omega
    · intro j hj
      rcases List.mem_cons.mp hj with rfl | hj
      · omega
      · exact h2 j hj
    · have := hM k List.mem_cons_self
      omega
    · exact fun j hj => hM j (List.mem_cons_of_mem _ hj)
theorem any_nI (own : List Nat) (d : Nat) : ((own.map nI).any fun y => PyData.eqv y (.int (d : Nat))) = isIn own d := by
  unfold isIn
  induction own with
  | nil => simp
  | cons k ks ih =>
    rw [List.map_cons, List.any_cons, ih, nI, eqv_ii]
    by_cases h : k = d
    · subst h; simp
    · have h1 : ¬ d = k := fun z => h z.symm
      have h2 : ¬ (k : Int) = (d : Int) := by omega
      simp [h1, h2]
@[simp] theorem depthAll_nI (own : List Nat) : PyData.depthAll (own.map nI) = 0 := Nat.le_zero.mp (depthAll_le fun x hx => by
  obtain ⟨n, _, rfl⟩ := List.mem_map.mp hx
  simp [nI])
theorem e_of_set {own : List Nat} {M : Nat} (hM : ∀ k ∈ own, k < M) (hM2 : M ≤ 1000) (hl : own.length ≤ 1000) : m__law_of_set [.dat (.tuple (own.map nI))] = some (.dat (.int (bf (isIn own) M : Nat)), []) := by
  obtain ⟨N, e, _, h2, h3⟩ := foldl_max own 0
  have hN : N ≤ M := h3 M (Nat.zero_le _) hM
  have hv : bf (isIn own) N = bf (isIn own) M := bf_ext fun k => by
    by_cases hk : k < N
    · simp [hk, show k < M by omega]
    · have : isIn own k = false := by
        unfold isIn
        exact decide_eq_false fun z => hk (h2 k z)
      simp [this]
  rw [← hv]
  obtain ⟨⟨v, o⟩, e1, hv1⟩ := for_t (β := Nat × Option Sl) (g := tgN false 2) (b := lb__law_of_set_1) (fun i o => [some (.dat (.tuple (own.map nI))), some (.dat (.int o.1)), o.2])
    (fun i o => o.1 = bf (isIn own) N / 2 ^ (N - i)) ((List.range N).map fun k => PyData.int ((N : Int) - 1 + (k : Nat) * -1)) (fun i x ⟨v, o⟩ hx hv => by
      have hv : v = bf (isIn own) N / 2 ^ (N - i) := hv
      have hlt := (List.getElem?_eq_some_iff.mp hx).1
      rw [List.length_map, List.length_range] at hlt
      rw [List.getElem?_map, List.getElem?_range hlt] at hx
      cases hx
      have ek : (N : Int) - 1 + (i : Nat) * -1 = ((N - 1 - i : Nat) : Int) := by omega
      show ∃ ρ1 o', tgN false 2 (PyData.int ((N : Int) - 1 + (i : Nat) * -1)) _ = some ρ1 ∧ _
      rw [ek]
      refine ⟨[some (.dat (.tuple (own.map nI))), some (.dat (.int v)), some (.dat (.int (N - 1 - i : Nat)))], ⟨2 * v + (isIn own (N - 1 - i)).toNat, some (.dat (.int (N - 1 - i : Nat)))⟩, by simp, .inl ?_, ?_⟩
      · have hm2 : guardP (MulOk 2 (v : Int)) = some () := g_mulL (by omega) (by omega)
        generalize N - 1 - i = k at *
        cases hb : isIn own k <;> simp [-List.any_map, lb__law_of_set_1, hm2, any_nI, hb]
      · show 2 * v + (isIn own (N - 1 - i)).toNat = _
        have e2 : N - i = (N - 1 - i) + 1 := by omega
        have e3 : N - (i + 1) = N - 1 - i := by omega
        have e4 := bf_tb (isIn own) N (N - 1 - i)
        rw [Nat.testBit_eq_decide_div_mod_eq, decide_eq_true (show N - 1 - i < N by omega), Bool.true_and] at e4
        rw [hv, e2, e3, Nat.pow_succ, ← Nat.div_div_eq_div_mul, ← e4]
        generalize bf (isIn own) N / 2 ^ (N - 1 - i) = y
        have : y % 2 = 0 ∨ y % 2 = 1 := by omega
        rcases this with z | z <;> simp [z] <;> omega) ⟨0, none⟩ (by
      show 0 = _
      rw [Nat.sub_zero, Nat.div_eq_of_lt (bf_lt _ _)])
  have hv1 : v = bf (isIn own) N / 2 ^ (N - ((List.range N).map fun k => PyData.int ((N : Int) - 1 + (k : Nat) * -1)).length) := hv1
  rw [List.length_map, List.length_range, Nat.sub_self, Nat.pow_zero, Nat.div_one] at hv1
  subst hv1
  have hmx : ∀ ρ, gMax [.dat (.tuple (PyData.int (-1) :: own.map nI))] ρ = some (.dat (.int ((N : Int) - 1))) := fun ρ => by
    have q := max1_ints (h := .dat (.tuple (PyData.int (-1) :: own.map nI))) (ρ := ρ) (n := -1) (ns := own.map fun k : Nat => (k : Int)) (by simp [List.map_map]; exact fun _ _ => rfl)
    rw [q, show (own.map fun k : Nat => (k : Int)).foldl max (-1) = (N : Int) - 1 by simpa using e]
  have hrg : guardP (RgC ((N : Int) - 1) (-1) (-1) N) = some () := guardP_pos (by
    have := RgC.neg (i := (N : Int) - 1) (j := -1) (by omega) (by omega) (by decide) (by decide)
    rwa [show ((N : Int) - 1 - -1).toNat = N by omega] at this)
  have hcnt : (Builtin.Range.rangeSize ((N : Int) - 1) (-1) (-1)).toNat = N := by
    rw [PySem.W.rangeSize_downNat, Int.toNat_natCast]
    omega
  have hcat : guardP (1 + own.length ≤ sizeLine) = some () := guard_small (by omega)
  have ef : fFor (fItR3 (fCB gMax (fCons (fBin gAdd (fTup (fCons (fNeg (fC (.int 1))) fNil)) (fVar 0)) fNil)) (fNeg (fC (.int 1))) (fNeg (fC (.int 1)))) (tgN false 2) lb__law_of_set_1 [some (.dat (.tuple (own.map nI))), some (.dat (.int 0)), none]
      = some (.nx [some (.dat (.tuple (own.map nI))), some (.dat (.int (bf (isIn own) N : Nat))), o]) := by
    rw [ev_for]
    have e0 : fItR3 (fCB gMax (fCons (fBin gAdd (fTup (fCons (fNeg (fC (.int 1))) fNil)) (fVar 0)) fNil)) (fNeg (fC (.int 1))) (fNeg (fC (.int 1))) [some (.dat (.tuple (own.map nI))), some (.dat (.int 0)), none]
        = some ((List.range N).map fun k => PyData.int ((N : Int) - 1 + (k : Nat) * -1), none, [some (.dat (.tuple (own.map nI))), some (.dat (.int 0)), none]) := by
      unfold fItR3
      simp only [ev_CB, ev_cons, ev_bin, ev_tup, ev_neg, ev_c, ev_nil, ev_var, List.getElem?_cons_succ, List.getElem?_cons_zero, Option.bind_some, Option.map_some, ev_intOf, ev_datsOf_cons, ev_datsOf_nil, List.length_cons, List.length_nil, guard_small (show 0 + 1 ≤ 1000000 by decide)]
      rw [addT_ok (by simp; omega)]
      simp only [Option.map_some, Option.bind_some, List.cons_append, List.nil_append, hmx, ev_intOf, hrg, hcnt]
    rw [e0]
    exact e1
  unfold m__law_of_set d__law_of_set
  rw [ev_run1]
  simp [-ev_for, ef]
end LW

namespace LW
open PySem PySem.Spec PyProof.Rows L2 PD
theorem e_take {ds : List Int} {many : Int} (h : 0 < many) : ∃ (v : Nat) (ds' : List Int), m__law_take [.obj (.lst (ds.map .int)), .dat (.int many)] = some (.dat (.int v), [.lst (ds'.map .int)]) ∧ (v : Int) < many := by
  obtain ⟨v, ds', e, h0, h1⟩ := take_ok ds many h
  obtain ⟨k, rfl⟩ := Int.eq_ofNat_of_zero_le h0
  exact ⟨k, ds', e, h1⟩
theorem map_erase (f : Nat → T) : ∀ (xs : List Nat) (v : Nat), (xs.map f).eraseIdx v = (xs.eraseIdx v).map f
  | [], v => rfl
  | x :: xs, 0 => rfl
  | x :: xs, v + 1 => by
    show f x :: (xs.map f).eraseIdx v = f x :: (xs.eraseIdx v).map f
    rw [map_erase f xs v]
theorem erase_perm : ∀ (xs : List Nat) (v : Nat) (h : v < xs.length), (xs[v] :: xs.eraseIdx v).Perm xs
  | x :: xs, 0, h => List.Perm.refl _
  | x :: xs, v + 1, h => by
    have h' : v < xs.length := by simpa using h
    show (xs[v] :: x :: xs.eraseIdx v).Perm (x :: xs)
    exact (List.Perm.swap _ _ _).trans ((erase_perm xs v h').cons x)
theorem popAt_ok {xs : List Nat} {v : Nat} (h : v < xs.length) (hl : xs.length ≤ 1000) : gPopAt (xs.map nI) [.int (v : Nat)] = some (nI xs[v], (xs.eraseIdx v).map nI) := by
  have hs := (ixN_seq (ixN_nat h)).1
  have hg : guardP (-(2 ^ 63) ≤ (v : Int) ∧ (v : Int) < 2 ^ 63) = some () := guardP_pos (by omega)
  unfold gPopAt
  simp only [hg, Option.bind_some, List.length_map, hs]
  rw [List.getElem?_map, List.getElem?_eq_getElem h]
  simp [map_erase]
theorem perm_erase (xs : List Nat) (v : Nat) (h : v < xs.length) (fs : List Nat) : (fs ++ [xs[v]] ++ xs.eraseIdx v).Perm (fs ++ xs) := by
  rw [List.append_assoc]
  refine List.Perm.append_left fs ?_
  exact erase_perm xs v h
theorem e_order {ds : List Int} {many : Nat} (hm : many ≤ 1000) : ∃ (od : List Nat) (ds' : List Int), m__law_order [.obj (.lst (ds.map .int)), .dat (.int many)] = some (.dat (.tuple (od.map nI)), [.lst (ds'.map .int)]) ∧ od.Perm (List.range many) := by
  obtain ⟨⟨ds', left, fs, o⟩, e, h1, h2, h3⟩ := for_r (β := List Int × List Nat × List Nat × Option Sl) (g := tgN false 4) (b := lb__law_order_1)
    (fun i o => [some (.obj (.lst (o.1.map .int))), some (.dat (.int many)), some (.obj (.lst (o.2.1.map nI))), some (.obj (.lst (o.2.2.1.map nI))), o.2.2.2])
    (fun i o => o.2.1.length + i = many ∧ o.2.2.1.length = i ∧ (o.2.2.1 ++ o.2.1).Perm (List.range many)) many 0 (fun i ⟨ds, left, fs, o⟩ hi ⟨h1, h2, h3⟩ => by
      have h1 : left.length + i = many := h1
      have h2 : fs.length = i := h2
      have h3 : (fs ++ left).Perm (List.range many) := h3
      obtain ⟨v, ds', tk, hv⟩ := e_take (ds := ds) (many := (left.length : Int)) (by omega)
      have hv : v < left.length := by omega
      have hz : (fs.map nI).length < 1000000 := by simp; omega
      refine ⟨[some (.obj (.lst (ds.map .int))), some (.dat (.int many)), some (.obj (.lst (left.map nI))), some (.obj (.lst (fs.map nI))), some (.dat (.int i))], ⟨ds', left.eraseIdx v, fs ++ [left[v]], some (.dat (.int i))⟩, by simp, .inl ?_, ?_, ?_, ?_⟩
      · simp [lb__law_order_1, tk, popAt_ok hv (by omega), gAppend_ok hz]
      · show (left.eraseIdx v).length + (i + 1) = many
        rw [List.length_eraseIdx_of_lt hv]; omega
      · show (fs ++ [left[v]]).length = i + 1
        simp [h2]
      · exact (perm_erase left v hv fs).trans h3) ⟨ds, List.range many, [], none⟩ ⟨by simp, rfl, by simp⟩
  have h1 : left.length + many = many := h1
  have h3 : (fs ++ left).Perm (List.range many) := h3
  have : left = [] := List.eq_nil_of_length_eq_zero (by omega)
  subst this
  rw [List.append_nil] at h3
  refine ⟨fs, ds', ?_, h3⟩
  have e1 : fFor (fItR1 (fVar 1)) (tgN false 4) lb__law_order_1 [some (.obj (.lst (ds.map .int))), some (.dat (.int many)), some (.obj (.lst ((List.range many).map nI))), some (.obj (.lst [])), none] = _ :=
    for_rng (n := many) (by simp) (by omega) e
  have hr : fListRg (fRg1 (fVar 1)) [some (.obj (.lst (ds.map .int))), some (.dat (.int many)), none, none, none] = some (.tmp (.lst ((List.range many).map nI)), [some (.obj (.lst (ds.map .int))), some (.dat (.int many)), none, none, none]) := by
    unfold fListRg fRg1
    have hg : guardP (RgOk 0 (many : Int)) = some () := guardP_pos (by unfold RgOk; refine ⟨by omega, by omega, by omega, by omega, by omega⟩)
    have : rgT 0 (many : Int) = (List.range many).map nI := by unfold rgT nI; simp
    simp [hg, this]
  unfold m__law_order d__law_order
  rw [ev_run2]
  simp [-ev_for, hr, guard_small, e1]
theorem e_drawn {ds : List Int} {many : Nat} (hm : many ≤ 1000) : ∃ (own : List Nat) (ds' : List Int), m__law_drawn_set [.obj (.lst (ds.map .int)), .dat (.int many)] = some (.dat (.tuple (own.map nI)), [.lst (ds'.map .int)]) ∧ (∀ k ∈ own, k < many) ∧ own.length ≤ many := by
  obtain ⟨out, ds', e, own, rfl, h1, h2⟩ := lc_i (β := List Int) (ck := fun _ => True) (g := tgN false 2) (tt := lf__law_drawn_set_1) (te := le__law_drawn_set_1) (vs := [2])
    (fun i o => [some (.obj (.lst (o.map .int))), some (.dat (.int many)), none])
    (fun i acc o => ∃ own : List Nat, acc = own.map nI ∧ (∀ k ∈ own, k < i) ∧ own.length ≤ i) ((List.range many).map fun i => PyData.int (0 + (i : Nat))) (fun i x acc o hi ⟨own, ea, h1, h2⟩ => by
      have hlt := (List.getElem?_eq_some_iff.mp hi).1
      rw [List.length_map, List.length_range] at hlt
      rw [List.getElem?_map, List.getElem?_range hlt] at hi
      cases hi
      obtain ⟨v, ds', tk, hv⟩ := e_take (ds := o) (many := 2) (by omega)
      refine ⟨trivial, [some (.obj (.lst (o.map .int))), some (.dat (.int many)), some (.dat (.int i))], decide (v = 0), [some (.obj (.lst (ds'.map .int))), some (.dat (.int many)), some (.dat (.int i))], by simp, ?_, ?_⟩
      · have : decide ((v : Int) = 0) = decide (v = 0) := by apply decide_eq_decide.mpr; omega
        simp [lf__law_drawn_set_1, tk, ← this]
        rfl
      · by_cases h0 : v = 0
        · refine .inl ⟨by simp [h0], nI i, [some (.obj (.lst (ds'.map .int))), some (.dat (.int many)), some (.dat (.int i))], ds', by simp [le__law_drawn_set_1, nI], by simp, own ++ [i], by simp [ea], ?_, by simp; omega⟩
          intro k hk
          rcases List.mem_append.mp hk with hk | hk
          · have := h1 k hk; omega
          · simp at hk; omega
        · exact .inr ⟨by simp [h0], ds', by simp, own, ea, fun k hk => by have := h1 k hk; omega, by omega⟩) (fun _ _ _ => trivial) ds ⟨[], rfl, by simp, by simp⟩
  rw [List.length_map, List.length_range] at h1 h2
  refine ⟨own, ds', ?_, h1, h2⟩
  have e2 : fLc (fItR1 (fVar 1)) (tgN false 2) lf__law_drawn_set_1 le__law_drawn_set_1 [2] [some (.obj (.lst (ds.map .int))), some (.dat (.int many)), none] = some (.tmp (.lst (own.map nI)), [some (.obj (.lst (ds'.map .int))), some (.dat (.int many)), none]) := by
    have hg : guardP (-(2 ^ 62) ≤ (many : Int) ∧ (many : Int) < 2 ^ 62) = some () := g_rg1 (by omega) (by omega)
    rw [ev_lc, ev_itR1]
    simp only [ev_var, List.getElem?_cons_succ, List.getElem?_cons_zero, Option.bind_some, ev_intOf, hg, Option.map_some, Int.toNat_natCast, List.length_map, List.length_range, guard_small (show many ≤ 1000000 by omega), ev_wipe_cons, ev_wipe_nil]
    rw [show (ckOf ((List.range many).map fun i => PyData.int (0 + (i : Nat))) none) = fun _ => True from rfl]
    rw [show ([some (.obj (.lst (ds.map .int))), some (.dat (.int many)), none] : Ev).set 2 none = [some (.obj (.lst (ds.map .int))), some (.dat (.int many)), none] from rfl, e]
    rfl
  unfold m__law_drawn_set d__law_drawn_set
  rw [ev_run2]
  simp [-ev_lc, e2]
end LW

namespace LW
open PySem PySem.Spec PyProof.Rows L2 PD
theorem same_eq : ∀ k, m__law_same k = sameD k
  | 0 => rfl
  | k + 1 => by
    rw [m__law_same, sameD, same_eq k]
    rfl
theorem same6 {t : T} (h : SOk 6 t) : m__law_same 6 [.dat t, .dat t] = some (.dat (.bool true), []) := by
  rw [same_eq]
  exact same_ok 6 t h
theorem sok_cons {k : Nat} {x : T} {xs : List T} (h : SOk k x) (t : SOk (k + 1) (.tuple xs)) (hl : xs.length ≤ 1000) : SOk (k + 1) (.tuple (x :: xs)) := by
  cases t with
  | tup _ _ l hx =>
    refine .tup k _ (by simp; omega) fun y hy => ?_
    rcases List.mem_cons.mp hy with rfl | hy
    · exact h
    · exact hx y hy
theorem sok_nil {k : Nat} : SOk (k + 1) (.tuple []) := .tup k [] (by simp) fun x hx => by cases hx
theorem sok_ints {k : Nat} {xs : List T} (h : ∀ x ∈ xs, ∃ i : Int, x = .int i) (hl : xs.length ≤ 1000000) : SOk (k + 2) (.tuple xs) :=
  .tup (k + 1) xs hl fun x hx => by obtain ⟨i, rfl⟩ := h x hx; exact .int _ _
/-! ### sorting -/
theorem sorted_nat (L0 : List Nat) : ∃ put : List Nat, (sortI (L0.map fun k : Nat => (k : Int))).map PyData.int = put.map nI ∧ (∀ k, k ∈ put ↔ k ∈ L0) ∧ put.length = L0.length := by
  have hm : ∀ x, x ∈ sortI (L0.map fun k : Nat => (k : Int)) ↔ ∃ k : Nat, k ∈ L0 ∧ (k : Int) = x := fun x => by
    unfold sortI
    rw [List.mem_mergeSort, List.mem_map]
  refine ⟨(sortI (L0.map fun k : Nat => (k : Int))).map Int.toNat, ?_, fun k => ?_, ?_⟩
  · rw [List.map_map]
    apply List.map_congr_left
    intro x hx
    obtain ⟨k, _, rfl⟩ := (hm x).mp hx
    rfl
  · rw [List.mem_map]
    constructor
    · rintro ⟨x, hx, rfl⟩
      obtain ⟨j, hj, rfl⟩ := (hm x).mp hx
      simpa using hj
    · intro h
      exact ⟨(k : Int), (hm _).mpr ⟨k, h, rfl⟩, by simp⟩
  · rw [List.length_map]
    unfold sortI
    rw [List.length_mergeSort, List.length_map]
theorem intsOf_nI (L : List Nat) : intsOf (L.map nI) = some (L.map fun k : Nat => (k : Int)) := by
  have : L.map nI = (L.map fun k : Nat => (k : Int)).map .int := by rw [List.map_map]; rfl
  rw [this, intsOf_map]
theorem sorted_ok (L0 : List Nat) : ∃ put : List Nat, (∀ ρ, gSortedI [.tmp (.lst (L0.map nI))] ρ = some (.tmp (.lst (put.map nI)))) ∧ (∀ k, k ∈ put ↔ k ∈ L0) ∧ put.length = L0.length := by
  obtain ⟨put, e, h1, h2⟩ := sorted_nat L0
  refine ⟨put, fun ρ => ?_, h1, h2⟩
  show ((rdL (.tmp (.lst (L0.map nI))) ρ).bind fun xs => (intsOf xs).map fun ns => Hd.tmp (.lst ((sortI ns).map .int))) = _
  rw [ev_rdL_t, Option.bind_some, intsOf_nI, Option.map_some, e]
theorem mulL_bit (x : T) (d : Bool) (ρ : Ev) : gMul (.tmp (.lst [x])) (.dat (bI d)) ρ = some (.tmp (.lst (if d then [x] else []))) := by
  have hg1 : guardP (-1000000 ≤ (1 : Int) ∧ (1 : Int) ≤ 1000000 ∧ [x].length * (1 : Int).toNat ≤ 1000000) = some () := guardP_pos ⟨by decide, by decide, by simp⟩
  have hg0 : guardP (-1000000 ≤ (0 : Int) ∧ (0 : Int) ≤ 1000000 ∧ [x].length * (0 : Int).toNat ≤ 1000000) = some () := guardP_pos ⟨by decide, by decide, by simp⟩
  cases d
  · rw [ev_mul]
    simp only [bI, ev_gI, ev_intOf_l, Option.bind_none, Option.none_or, ev_mulT, ev_tupOf_l, ev_mulL, ev_lstOf_t, Option.bind_some, ev_intOf, Bool.false_eq_true, if_false, hg0, Option.map_some]
    rfl
  · rw [ev_mul]
    simp only [bI, ev_gI, ev_intOf_l, Option.bind_none, Option.none_or, ev_mulT, ev_tupOf_l, ev_mulL, ev_lstOf_t, Option.bind_some, ev_intOf, if_true, hg1, Option.map_some]
    rfl
theorem lc_tupF {g : GT} {tt : FB} {te : FE} {f : FE} {vs : List Nat} {ρ : Ev} {xs : List T} (F : T → Option T) (hf : f ρ = some (.dat (.tuple xs), ρ)) (hn : xs.length ≤ 1000000) (hw : wipeE ρ vs = ρ) (hb : backE ρ ρ vs = ρ)
    (h : ∀ x ∈ xs, ∃ ρ1 b ρ2, g x ρ = some ρ1 ∧ tt ρ1 = some (b, ρ2) ∧ ((b = true ∧ ∃ t ρ3, te ρ2 = some (.dat t, ρ3) ∧ wipeE ρ3 vs = ρ ∧ F x = some t) ∨ (b = false ∧ wipeE ρ2 vs = ρ ∧ F x = none))) : fLc (fItE f) g tt te vs ρ = some (.tmp (.lst (xs.filterMap F)), ρ) := by
  rw [ev_lc, ev_itE, hf]
  simp only [Option.bind_some, ev_itOf_t, Option.map_some, guard_small hn, hw]
  rw [lc_pure F (by trivial) _ h]
  simp only [Option.map_some, hb]
theorem lc_rngF {g : GT} {tt : FB} {te : FE} {f : FE} {vs : List Nat} {ρ : Ev} {n : Nat} (p : Nat → Bool) (hf : f ρ = some (.dat (.int n), ρ)) (hn : n ≤ 1000000) (hw : wipeE ρ vs = ρ) (hb : backE ρ ρ vs = ρ)
    (h : ∀ k < n, ∃ ρ1 ρ2, g (.int k) ρ = some ρ1 ∧ tt ρ1 = some (p k, ρ2) ∧ te ρ2 = some (.dat (nI k), ρ2) ∧ wipeE ρ2 vs = ρ) : fLc (fItR1 f) g tt te vs ρ = some (.tmp (.lst (((List.range n).filter p).map nI)), ρ) := by
  have hg : guardP (-(2 ^ 62) ≤ (n : Int) ∧ (n : Int) < 2 ^ 62) = some () := g_rg1 (by omega) (by omega)
  rw [ev_lc, ev_itR1, hf]
  simp only [Option.bind_some, ev_intOf, hg, Option.map_some, Int.toNat_natCast, List.length_map, List.length_range, guard_small hn, hw]
  rw [lc_pure (fun x => match x with | .int i => if p i.toNat then some (nI i.toNat) else none | _ => none) (by trivial) _ fun x hx => by
    obtain ⟨k, hk, rfl⟩ := List.mem_map.mp hx
    obtain ⟨ρ1, ρ2, e1, e2, e3, e4⟩ := h k (List.mem_range.mp hk)
    refine ⟨ρ1, p k, ρ2, by simpa using e1, e2, ?_⟩
    cases hp : p k
    · exact .inr ⟨rfl, e4, by simp [hp]⟩
    · exact .inl ⟨rfl, nI k, ρ2, e3, e4, by simp [hp]⟩]
  simp only [Option.map_some, hb]
  congr 4
  generalize List.range n = L
  induction L with
  | nil => rfl
  | cons k L ih =>
    rw [List.map_cons, List.filterMap_cons, List.filter_cons, ih]
    cases hp : p k <;> simp [hp]
end LW

namespace LW
open PySem PySem.Spec PyProof.Rows L2 PD
abbrev dt (xs : List T) : Option Sl := some (.dat (.tuple xs))
abbrev di (i : Int) : Option Sl := some (.dat (.int i))
abbrev ol (ds : List Int) : Option Sl := some (.obj (.lst (ds.map .int)))
abbrev KE (ds : List Int) (many : Nat) (own : List Nat) (x3 x4 x5 x6 x7 x8 x9 x10 : Option Sl) : Ev := [ol ds, di many, dt (own.map nI), x3, x4, x5, x6, x7, x8, x9, x10]
def up (p k : Nat) : Nat := k + if p ≤ k then 1 else 0
def dn (p k : Nat) : Nat := k - if p < k then 1 else 0
theorem bI_sok {k : Nat} {b : Bool} : SOk (k + 1) (bI b) := .int k _
theorem bs_sok {k n : Nat} (p : Nat → Bool) (h : n ≤ 1000) : SOk (k + 2) (.tuple ((List.range n).map fun k => bI (p k))) := sok_ints (fun x hx => by
  obtain ⟨j, _, rfl⟩ := List.mem_map.mp hx
  exact ⟨_, rfl⟩) (by simp; omega)
theorem filter_dn (own : List Nat) (pl : Nat) : ((own.map nI).filterMap fun t => match t with | .int i => if i = (pl : Int) then none else some (PyData.int (i - if (pl : Int) < i then 1 else 0)) | _ => none) = ((own.filter fun k => decide (k ≠ pl)).map (dn pl)).map nI := by
  induction own with
  | nil => rfl
  | cons k ks ih =>
    rw [List.map_cons, List.filterMap_cons, List.filter_cons, ih]
    by_cases hk : k = pl
    · simp [nI, hk]
    · have : ¬ (k : Int) = (pl : Int) := by omega
      simp only [nI, this, if_false, hk, ne_eq, not_false_eq_true, decide_true, if_true, List.map_cons]
      congr 2
      unfold dn
      split <;> split <;> omega
/-- one turn of the loop over the places -/
theorem letter_turn {ds : List Int} {many pl S : Nat} {own : List Nat} {dl : List T} {x6 x7 x8 x9 : Option Sl} (hm : many ≤ 10) (ho : ∀ k ∈ own, k < many) (hl : own.length ≤ many) (hp : pl ≤ many) (hS : S = bf (isIn own) many) :
    ∃ (ds' : List Int) (y6 y7 y8 y9 : Option Sl), lb__law_is_letter_told_1 (KE ds many own (di S) (dt dl) (di pl) x6 x7 x8 x9 none) = some (.nx (KE ds' many own (di S) (dt dl) (di pl) y6 y7 y8 y9 none)) := by
  have g : ∀ n, n ≤ 1000 → guardP (n ≤ sizeLine) = some () := fun n hn => guard_small (by omega)
  obtain ⟨v, ds', tk, hv⟩ := e_take (ds := ds) (many := 2) (by decide)
  obtain ⟨d, hd⟩ : ∃ d : Bool, (.int (v : Int) : T) = bI d := by
    have : v = 0 ∨ v = 1 := by omega
    rcases this with rfl | rfl
    · exact ⟨false, rfl⟩
    · exact ⟨true, rfl⟩
  rw [hd] at tk
  have hSl : S < 2 ^ many := hS ▸ bf_lt _ _
  have h1024 : 2 ^ many ≤ 2 ^ 10 := Nat.pow_le_pow_right (by decide) hm
  have hSb : S ≤ 1000000 := by omega
  have tS : ∀ k, S.testBit k = isIn own k := fun k => by
    rw [hS, bf_tb]
    by_cases hk : k < many
    · simp [hk]
    · have : isIn own k = false := decide_eq_false fun z => hk (ho k z)
      simp [this]
  -- put
  obtain ⟨put, es, hput, hlen⟩ := sorted_ok (own.map (up pl) ++ if d then [pl] else [])
  have hlen2 : put.length ≤ 30 := by
    rw [hlen, List.length_append, List.length_map]
    cases d <;> simp <;> omega
  have hputm : ∀ k, k ∈ put ↔ (∃ j ∈ own, up pl j = k) ∨ (d = true ∧ k = pl) := fun k => by
    rw [hput, List.mem_append, List.mem_map]
    cases d <;> simp
  have hputb : ∀ k ∈ put, k < many + 1 := fun k hk => by
    rcases (hputm k).mp hk with ⟨j, hj, rfl⟩ | ⟨_, rfl⟩
    · have := ho j hj
      unfold up
      split <;> omega
    · omega
  have c1 := e_of_set (own := put) (M := many + 1) hputb (by omega) (by omega)
  have c2 := e_with (x := S) (pl := pl) d hSb (by omega)
  have hmore : lwi S pl d = bf (isIn put) (many + 1) := Nat.eq_of_testBit_eq fun k => by
    rw [lwi_tb, bf_tb, tS, tS]
    have hb : isIn put k = true → k < many + 1 := fun h => hputb k (of_decide_eq_true h)
    have e1 : (decide (k < many + 1) && isIn put k) = isIn put k := by
      cases h : isIn put k with
      | false => simp
      | true => simp [hb h]
    rw [e1]
    unfold isIn
    by_cases h1 : k < pl
    · rw [if_pos h1]
      apply decide_eq_decide.mpr
      rw [hputm]
      constructor
      · intro h
        exact .inl ⟨k, h, by unfold up; rw [if_neg (by omega)]; rfl⟩
      · rintro (⟨j, hj, e⟩ | ⟨_, e⟩)
        · unfold up at e
          split at e
          · omega
          · subst e; exact hj
        · omega
    · rw [if_neg h1]
      by_cases h2 : k = pl
      · rw [if_pos h2]
        cases d with
        | true => exact (decide_eq_true ((hputm k).mpr (.inr ⟨rfl, h2⟩))).symm
        | false =>
          refine (decide_eq_false fun z => ?_).symm
          rcases (hputm k).mp z with ⟨j, hj, e⟩ | ⟨e, _⟩
          · unfold up at e
            split at e <;> omega
          · cases e
      · rw [if_neg h2]
        apply decide_eq_decide.mpr
        rw [hputm]
        constructor
        · intro h
          exact .inl ⟨k - 1, h, by unfold up; rw [if_pos (by omega)]; omega⟩
        · rintro (⟨j, hj, e⟩ | ⟨_, e⟩)
          · unfold up at e
            split at e
            · have : k - 1 = j := by omega
              rw [this]; exact hj
            · omega
          · omega
  rw [← hmore] at c1
  have hmb : lwi S pl d ≤ 1000000 := by
    rw [hmore]
    have := bf_lt (isIn put) (many + 1)
    have h2 : 2 ^ (many + 1) ≤ 2 ^ 11 := Nat.pow_le_pow_right (by decide) (by omega)
    omega
  have c3 := e_without (x := lwi S pl d) (pl := pl) hmb (by omega)
  have hback : lwo (lwi S pl d) pl = S := Nat.eq_of_testBit_eq fun k => by
    rw [lwo_tb, lwi_tb, lwi_tb]
    by_cases h1 : k < pl
    · simp [h1]
    · rw [if_neg h1, if_neg (by omega), if_neg (by omega)]
      rfl
  rw [hback] at c3
  -- less
  have c4 := e_without (x := S) (pl := pl) hSb (by omega)
  have hlb : ∀ k ∈ (own.filter fun k => decide (k ≠ pl)).map (dn pl), k < many := fun k hk => by
    obtain ⟨j, hj, rfl⟩ := List.mem_map.mp hk
    have := ho j (List.mem_filter.mp hj).1
    unfold dn
    omega
  have c5 := e_of_set (own := (own.filter fun k => decide (k ≠ pl)).map (dn pl)) (M := many) hlb (by omega) (by
    rw [List.length_map]
    have := List.length_filter_le (fun k => decide (k ≠ pl)) own
    omega)
  have hless : lwo S pl = bf (isIn ((own.filter fun k => decide (k ≠ pl)).map (dn pl))) many := Nat.eq_of_testBit_eq fun k => by
    rw [lwo_tb, bf_tb, tS, tS]
    have hb : isIn ((own.filter fun k => decide (k ≠ pl)).map (dn pl)) k = true → k < many := fun h => hlb k (of_decide_eq_true h)
    have e1 : (decide (k < many) && isIn ((own.filter fun k => decide (k ≠ pl)).map (dn pl)) k) = isIn ((own.filter fun k => decide (k ≠ pl)).map (dn pl)) k := by
      cases h : isIn ((own.filter fun k => decide (k ≠ pl)).map (dn pl)) k with
      | false => simp
      | true => simp [hb h]
    rw [e1]
    unfold isIn
    have hmem : k ∈ (own.filter fun k => decide (k ≠ pl)).map (dn pl) ↔ ∃ j, j ∈ own ∧ j ≠ pl ∧ dn pl j = k := by
      rw [List.mem_map]
      constructor
      · rintro ⟨j, hj, e⟩
        have := List.mem_filter.mp hj
        exact ⟨j, this.1, by simpa using this.2, e⟩
      · rintro ⟨j, h1, h2, e⟩
        exact ⟨j, List.mem_filter.mpr ⟨h1, by simpa using h2⟩, e⟩
    by_cases h1 : k < pl
    · rw [if_pos h1]
      apply decide_eq_decide.mpr
      rw [hmem]
      constructor
      · intro h
        exact ⟨k, h, by omega, by unfold dn; rw [if_neg (by omega)]; rfl⟩
      · rintro ⟨j, hj, hne, e⟩
        unfold dn at e
        split at e
        · omega
        · have : j = k := by omega
          exact this ▸ hj
    · rw [if_neg h1]
      apply decide_eq_decide.mpr
      rw [hmem]
      constructor
      · intro h
        exact ⟨k + 1, h, by omega, by unfold dn; rw [if_pos (by omega)]; rfl⟩
      · rintro ⟨j, hj, hne, e⟩
        unfold dn at e
        split at e
        · have : j = k + 1 := by omega
          exact this ▸ hj
        · omega
  rw [← hless] at c5
  have s7 := same6 (sok_cons (.int 4 (lwi S pl d : Nat)) (sok_cons (.int 4 (S : Nat)) sok_nil (by simp)) (by simp))
  have s9 := same6 (.int 5 (lwo S pl : Nat))
  have t4 : sd__law_is_letter_told_4 (KE ds many own (di S) (dt dl) (di pl) x6 x7 x8 x9 none) = some (.nx (KE ds' many own (di S) (dt dl) (di pl) (some (.dat (bI d))) x7 x8 x9 none)) := by
    simp [sd__law_is_letter_told_4, tk]
  have el : fLc (fItE (fVar 2)) (tgN false 10) fYes le__law_is_letter_told_2 [10] (KE ds' many own (di S) (dt dl) (di pl) (some (.dat (bI d))) x7 x8 x9 none) = some (.tmp (.lst ((own.map nI).map fun t => match t with | .int i => .int (i + if (pl : Int) ≤ i then 1 else 0) | _ => .none)), KE ds' many own (di S) (dt dl) (di pl) (some (.dat (bI d))) x7 x8 x9 none) :=
    lc_tup _ (by simp) (by simp; omega) (by simp) (by simp) fun t ht => by
      obtain ⟨k, _, rfl⟩ := List.mem_map.mp ht
      refine ⟨KE ds' many own (di S) (dt dl) (di pl) (some (.dat (bI d))) x7 x8 x9 (some (.dat (nI k))), KE ds' many own (di S) (dt dl) (di pl) (some (.dat (bI d))) x7 x8 x9 (some (.dat (nI k))), by simp, ?_, by simp⟩
      simp [le__law_is_letter_told_2, nI]
  have el2 : ((own.map nI).map fun t => match t with | .int i => .int (i + if (pl : Int) ≤ i then 1 else 0) | _ => .none) = (own.map (up pl)).map nI := by
    rw [List.map_map, List.map_map]
    apply List.map_congr_left
    intro k _
    simp only [Function.comp, nI, up]
    congr 1
    split <;> split <;> omega
  rw [el2] at el
  have ecat : ∀ ρ, gAdd (.tmp (.lst ((own.map (up pl)).map nI))) (.tmp (.lst (if d = true then [nI pl] else []))) ρ = some (.tmp (.lst ((own.map (up pl) ++ if d then [pl] else []).map nI))) := fun ρ => by
    have hg : guardP ((((own.map (up pl)).map nI).length + (if d = true then [nI pl] else []).length) ≤ sizeLine) = some () := guard_small (by simp; cases d <;> simp <;> omega)
    rw [ev_add, ev_addL, ev_lstOf_t, ev_lstOf_t]
    simp only [Option.bind_some, hg, Option.map_some]
    cases d <;> simp <;> rfl
  have emul : ∀ ρ, gMul (.tmp (.lst [PyData.int (pl : Nat)])) (.dat (bI d)) ρ = some (.tmp (.lst (if d = true then [nI pl] else []))) := fun ρ => mulL_bit _ d ρ
  have t5 : sd__law_is_letter_told_5 (KE ds' many own (di S) (dt dl) (di pl) (some (.dat (bI d))) x7 x8 x9 none) = some (.nx (KE ds' many own (di S) (dt dl) (di pl) (some (.dat (bI d))) (dt (put.map nI)) x8 x9 none)) := by
    generalize (own.map (up pl) ++ if d then [pl] else []) = L0 at *
    generalize (own.map (up pl)).map nI = L1 at *
    generalize (if d = true then [nI pl] else []) = L2 at *
    simp [-ev_lc, -ev_mul, -ev_add, sd__law_is_letter_told_5, el, g, emul, ecat, es]
  have t6 : sd__law_is_letter_told_6 (KE ds' many own (di S) (dt dl) (di pl) (some (.dat (bI d))) (dt (put.map nI)) x8 x9 none) = some (.nx (KE ds' many own (di S) (dt dl) (di pl) (some (.dat (bI d))) (dt (put.map nI)) (di (lwi S pl d : Nat)) x9 none)) := by
    simp [sd__law_is_letter_told_6, c2]
  have t7 : sd__law_is_letter_told_7 (KE ds' many own (di S) (dt dl) (di pl) (some (.dat (bI d))) (dt (put.map nI)) (di (lwi S pl d : Nat)) x9 none) = some (.nx (KE ds' many own (di S) (dt dl) (di pl) (some (.dat (bI d))) (dt (put.map nI)) (di (lwi S pl d : Nat)) x9 none)) := by
    simp [sd__law_is_letter_told_7, c1, c3, s7, g]
  have em : fLc (fItE (fVar 2)) (tgN false 10) lf__law_is_letter_told_1 le__law_is_letter_told_3 [10] (KE ds' many own (di S) (dt dl) (di pl) (some (.dat (bI d))) (dt (put.map nI)) (di (lwi S pl d : Nat)) x9 none) = some (.tmp (.lst ((own.map nI).filterMap fun t => match t with | .int i => if i = (pl : Int) then none else some (.int (i - if (pl : Int) < i then 1 else 0)) | _ => none)), KE ds' many own (di S) (dt dl) (di pl) (some (.dat (bI d))) (dt (put.map nI)) (di (lwi S pl d : Nat)) x9 none) :=
    lc_tupF _ (by simp) (by simp; omega) (by simp) (by simp) fun t ht => by
      obtain ⟨k, _, rfl⟩ := List.mem_map.mp ht
      refine ⟨KE ds' many own (di S) (dt dl) (di pl) (some (.dat (bI d))) (dt (put.map nI)) (di (lwi S pl d : Nat)) x9 (some (.dat (nI k))), decide (k ≠ pl), KE ds' many own (di S) (dt dl) (di pl) (some (.dat (bI d))) (dt (put.map nI)) (di (lwi S pl d : Nat)) x9 (some (.dat (nI k))), by simp, ?_, ?_⟩
      · by_cases hk : k = pl
        · simp [lf__law_is_letter_told_1, nI, hk]
        · have : ¬ (k : Int) = (pl : Int) := by omega
          simp [lf__law_is_letter_told_1, nI, hk, this]
      · by_cases hk : k = pl
        · exact .inr ⟨by simp [hk], by simp, by simp [nI, hk]⟩
        · have : ¬ (k : Int) = (pl : Int) := by omega
          refine .inl ⟨by simp [hk], .int ((k : Int) - if (pl : Int) < (k : Int) then 1 else 0), KE ds' many own (di S) (dt dl) (di pl) (some (.dat (bI d))) (dt (put.map nI)) (di (lwi S pl d : Nat)) x9 (some (.dat (nI k))), ?_, by simp, by simp [nI, this]⟩
          simp [le__law_is_letter_told_3, nI]
  have em2 := filter_dn own pl
  rw [em2] at em
  have t8 : sd__law_is_letter_told_8 (KE ds' many own (di S) (dt dl) (di pl) (some (.dat (bI d))) (dt (put.map nI)) (di (lwi S pl d : Nat)) x9 none) = some (.nx (KE ds' many own (di S) (dt dl) (di pl) (some (.dat (bI d))) (dt (put.map nI)) (di (lwi S pl d : Nat)) (dt (((own.filter fun k => decide (k ≠ pl)).map (dn pl)).map nI)) none)) := by
    generalize ((own.filter fun k => decide (k ≠ pl)).map (dn pl)) = L0 at *
    simp [-ev_lc, sd__law_is_letter_told_8, em]
  have t9 : sd__law_is_letter_told_9 (KE ds' many own (di S) (dt dl) (di pl) (some (.dat (bI d))) (dt (put.map nI)) (di (lwi S pl d : Nat)) (dt (((own.filter fun k => decide (k ≠ pl)).map (dn pl)).map nI)) none) = some (.nx (KE ds' many own (di S) (dt dl) (di pl) (some (.dat (bI d))) (dt (put.map nI)) (di (lwi S pl d : Nat)) (dt (((own.filter fun k => decide (k ≠ pl)).map (dn pl)).map nI)) none)) := by
    generalize ((own.filter fun k => decide (k ≠ pl)).map (dn pl)) = L0 at *
    by_cases h : pl < many
    · simp [sd__law_is_letter_told_9, h, c4, c5, s9]
    · simp [sd__law_is_letter_told_9, h]
  exact ⟨ds', _, _, _, _, (seq_nx t4).trans ((seq_nx t5).trans ((seq_nx t6).trans ((seq_nx t7).trans ((seq_nx t8).trans t9))))⟩
theorem e_letter {ds : List Int} {many : Nat} {own : List Nat} (hm : many ≤ 10) (ho : ∀ k ∈ own, k < many) (hl : own.length ≤ many) : ∃ ds' : List Int, m__law_is_letter_told [.obj (.lst (ds.map .int)), .dat (.int many), .dat (.tuple (own.map nI))] = some (.dat (.bool true), [.lst (ds'.map .int)]) := by
  have g : ∀ n, n ≤ 1000 → guardP (n ≤ sizeLine) = some () := fun n hn => guard_small (by omega)
  obtain ⟨S, hS⟩ : ∃ S, S = bf (isIn own) many := ⟨_, rfl⟩
  have c1 := e_of_set ho (by omega) (by omega)
  rw [← hS] at c1
  have tS : ∀ k, S.testBit k = isIn own k := fun k => by
    rw [hS, bf_tb]
    by_cases hk : k < many
    · simp [hk]
    · have : isIn own k = false := decide_eq_false fun z => hk (ho k z)
      simp [this]
  have c2 := e_letter_of (isIn own) (n := many) (by omega)
  rw [← hS] at c2
  have c3 := e_digits_in S (t := many) (by omega)
  have c4 := e_digits_in S (t := many + 3) (by omega)
  have hd1 : (List.range many).map (fun k => bI (S.testBit k)) = (List.range many).map fun k => bI (isIn own k) := by
    apply List.map_congr_left
    intro k _
    rw [tS]
  have hd2 : (List.range (many + 3)).map (fun k => bI (S.testBit k)) = (List.range many).map (fun k => bI (isIn own k)) ++ [PyData.int 0, .int 0, .int 0] := by
    have hf : ∀ k, many ≤ k → isIn own k = false := fun k hk => decide_eq_false fun z => by have := ho k z; omega
    rw [List.range_succ, List.range_succ, List.range_succ]
    simp only [List.map_append, List.map_cons, List.map_nil, tS, hf many (by omega), hf (many + 1) (by omega), hf (many + 2) (by omega), List.append_assoc]
    rfl
  rw [hd1] at c3
  rw [hd2] at c4
  have eC : fLc (fItR1 (fVar 1)) (tgN false 10) fYes le__law_is_letter_told_1 [10] (KE ds many own (di S) none none none none none none none) = some (.tmp (.lst ((List.range many).map fun k => bI (isIn own k))), KE ds many own (di S) none none none none none none none) :=
    lc_rng (n := many) _ (by simp) (by omega) (by simp) (by simp) fun k hk => ⟨KE ds many own (di S) none none none none none none (di k), KE ds many own (di S) none none none none none none (di k), by simp, by
      simp [-List.any_map, le__law_is_letter_told_1, any_nI, bI], by simp⟩
  generalize hDL : (List.range many).map (fun k => bI (isIn own k)) = DL at *
  have hDLl : DL.length = many := by rw [← hDL]; simp
  have kd : SOk 5 (.tuple DL) := by rw [← hDL]; exact bs_sok _ (by omega)
  have kd3 : SOk 5 (.tuple (DL ++ [PyData.int 0, .int 0, .int 0])) := by
    refine sok_ints (fun x hx => ?_) (by simp; omega)
    rcases List.mem_append.mp hx with hx | hx
    · rw [← hDL] at hx
      obtain ⟨j, _, rfl⟩ := List.mem_map.mp hx
      exact ⟨_, rfl⟩
    · simp at hx
      exact ⟨0, hx⟩
  have s3 := same6 (sok_cons (.int 4 (S : Nat)) (sok_cons kd (sok_cons kd3 sok_nil (by simp)) (by simp)) (by simp))
  have t1 : sd__law_is_letter_told_1 (KE ds many own none none none none none none none none) = some (.nx (KE ds many own (di S) none none none none none none none)) := by
    simp [sd__law_is_letter_told_1, c1]
  have t2 : sd__law_is_letter_told_2 (KE ds many own (di S) none none none none none none none) = some (.nx (KE ds many own (di S) (dt DL) none none none none none none)) := by
    simp [-ev_lc, sd__law_is_letter_told_2, eC]
  have a3 : ∀ ρ, gAdd (.dat (.tuple DL)) (.dat (.tuple [PyData.int 0, .int 0, .int 0])) ρ = some (.dat (.tuple (DL ++ [PyData.int 0, .int 0, .int 0]))) := fun ρ => addT_ok (by simp; omega)
  have hm3 : (many : Int) + 3 = ((many + 3 : Nat) : Int) := by omega
  have t3 : sd__law_is_letter_told_3 (KE ds many own (di S) (dt DL) none none none none none none) = some (.nx (KE ds many own (di S) (dt DL) none none none none none none)) := by
    generalize DL ++ [PyData.int 0, .int 0, .int 0] = D3 at *
    have a4 : ∀ ρ, gAdd (.dat (.int many)) (.dat (.int 3)) ρ = some (.dat (.int ((many + 3 : Nat) : Int))) := fun ρ => by rw [← hm3]; rfl
    generalize ((many + 3 : Nat) : Int) = M3 at *
    simp [-ev_add, sd__law_is_letter_told_3, g, c2, c3, a4, c4, a3, s3]
  obtain ⟨⟨ds', y6, y7, y8, y9, o⟩, e, _⟩ := for_r (β := List Int × Option Sl × Option Sl × Option Sl × Option Sl × Option Sl) (g := tgN false 5) (b := lb__law_is_letter_told_1) (fun _ o => KE o.1 many own (di S) (dt DL) o.2.2.2.2.2 o.2.1 o.2.2.1 o.2.2.2.1 o.2.2.2.2.1 none) (fun _ _ => True) (many + 1) 0 (fun i ⟨ds, x6, x7, x8, x9, o⟩ hi _ => by
    obtain ⟨ds', z6, z7, z8, z9, e⟩ := letter_turn (ds := ds) (pl := i) (dl := DL) (x6 := x6) (x7 := x7) (x8 := x8) (x9 := x9) hm ho hl (by omega) hS
    exact ⟨KE ds many own (di S) (dt DL) (di i) x6 x7 x8 x9 none, ⟨ds', z6, z7, z8, z9, di i⟩, by simp, .inl e, trivial⟩) (ds, none, none, none, none, none) trivial
  have t10 : sd__law_is_letter_told_10 (KE ds many own (di S) (dt DL) none none none none none none) = some (.nx (KE ds' many own (di S) (dt DL) o y6 y7 y8 y9 none)) := for_rng (n := many + 1) (by simp) (by omega) e
  have t11 : sd__law_is_letter_told_11 (KE ds' many own (di S) (dt DL) o y6 y7 y8 y9 none) = some (.rt (.dat (.bool true)) (KE ds' many own (di S) (dt DL) o y6 y7 y8 y9 none)) := by
    simp [sd__law_is_letter_told_11]
  exact ⟨ds', run_rt rfl (ρ := KE ds' many own (di S) (dt DL) o y6 y7 y8 y9 none) ((seq_nx t1).trans ((seq_nx t2).trans ((seq_nx t3).trans ((seq_nx t10).trans t11)))) rfl⟩
end LW

namespace LW
open PySem PySem.Spec PyProof.Rows L2 PD
def pk (x : Nat) (ps : List Nat) : Nat := bf (fun i => x.testBit (pg ps i)) ps.length
theorem pk_tb (x : Nat) (ps : List Nat) (k : Nat) : (pk x ps).testBit k = (decide (k < ps.length) && x.testBit (pg ps k)) := bf_tb _ _ _
theorem e_pk (x : Nat) {ps : List Nat} (hn : ps.length ≤ 1000) : m_picked_letter [.dat (.int x), .dat (.tuple (ps.map nI))] = some (.dat (.int (pk x ps : Nat)), []) := e_picked x hn
theorem pg_get {ps : List Nat} {i : Nat} (h : i < ps.length) : ps[i]? = some (pg ps i) := by
  unfold pg
  rw [List.getD_eq_getElem?_getD, List.getElem?_eq_getElem h]
  rfl
theorem pg_mem {ps : List Nat} {i : Nat} (h : i < ps.length) : pg ps i ∈ ps := List.mem_of_getElem? (pg_get h)
theorem pg_map (f : Nat → Nat) {ps : List Nat} {i : Nat} (h : i < ps.length) : pg (ps.map f) i = f (pg ps i) := by
  have h1 := pg_get h
  have h2 := pg_get (ps := ps.map f) (i := i) (by simpa using h)
  rw [List.getElem?_map, h1] at h2
  exact (Option.some.inj h2).symm
theorem pk_set {S : Nat} {own ps : List Nat} (tS : ∀ k, S.testBit k = isIn own k) : bf (isIn ((List.range ps.length).filter fun j => isIn own (pg ps j))) ps.length = pk S ps := Nat.eq_of_testBit_eq fun k => by
  rw [bf_tb, pk_tb, tS]
  by_cases hk : k < ps.length
  · simp only [hk, decide_true, Bool.true_and]
    unfold isIn
    by_cases h : pg ps k ∈ own
    · rw [decide_eq_true h, decide_eq_true]
      exact List.mem_filter.mpr ⟨List.mem_range.mpr hk, by simpa using h⟩
    · rw [decide_eq_false h, decide_eq_false]
      intro z
      have := (List.mem_filter.mp z).2
      exact h (of_decide_eq_true this)
  · simp [hk]
theorem pk_pk {S : Nat} {ps qs : List Nat} (h : ∀ q ∈ qs, q < ps.length) : pk (pk S ps) qs = pk S (qs.map (pg ps)) := Nat.eq_of_testBit_eq fun k => by
  rw [pk_tb, pk_tb, pk_tb, List.length_map]
  by_cases hk : k < qs.length
  · rw [pg_map _ hk, decide_eq_true (h _ (pg_mem hk))]
    simp
  · simp [hk]
theorem pk_range {S n : Nat} (h : S < 2 ^ n) : pk S (List.range n) = S := Nat.eq_of_testBit_eq fun k => by
  rw [pk_tb, List.length_range]
  by_cases hk : k < n
  · have : pg (List.range n) k = k := by
      have := pg_get (ps := List.range n) (i := k) (by simpa using hk)
      rw [List.getElem?_range hk] at this
      exact (Option.some.inj this).symm
    simp [hk, this]
  · have h2 : S < 2 ^ k := Nat.lt_of_lt_of_le h (Nat.pow_le_pow_right (by decide) (by omega))
    simp [hk, Nat.testBit_lt_two_pow h2]
/-- where it stands -/
theorem idx_ok {od : List Nat} {k : Nat} (h : k ∈ od) : od.idxOf k < od.length ∧ pg od (od.idxOf k) = k ∧ fPlace (od.map nI) (nI k) = some ((od.idxOf k : Nat) : Int) := by
  have h1 : od.idxOf k < od.length := List.idxOf_lt_length_iff.mpr h
  have h2 : od[od.idxOf k]? = some k := by
    rw [List.getElem?_eq_getElem h1, List.getElem_idxOf]
  refine ⟨h1, ?_, place_ok (by rw [List.getElem?_map, h2]; rfl) rfl fun j hj y hy => ?_⟩
  · have := pg_get h1
    rw [h2] at this
    exact (Option.some.inj this).symm
  · rw [List.getElem?_map] at hy
    cases e : od[j]? with
    | none => rw [e] at hy; cases hy
    | some z =>
      rw [e] at hy
      cases hy
      have hne : z ≠ k := fun q => by
        subst q
        have hj2 : j < od.length := by omega
        have e1 : od[j] = z := by
          rw [List.getElem?_eq_getElem hj2] at e
          exact Option.some.inj e
        have q := List.not_of_lt_findIdx (p := fun x => x == z) (xs := od) (i := j) hj
        simp [e1] at q
      have : ¬ (z : Int) = (k : Int) := by omega
      simp [nI, this]
theorem pk_back {S n : Nat} {od : List Nat} (h : S < 2 ^ n) (hp : od.Perm (List.range n)) : pk (pk S od) ((List.range n).map od.idxOf) = S := Nat.eq_of_testBit_eq fun k => by
  rw [pk_tb, List.length_map, List.length_range]
  by_cases hk : k < n
  · have hm : k ∈ od := hp.mem_iff.mpr (List.mem_range.mpr hk)
    obtain ⟨h1, h2, _⟩ := idx_ok hm
    have e : pg ((List.range n).map od.idxOf) k = od.idxOf k := by
      rw [pg_map _ (by simpa using hk)]
      congr 1
      have := pg_get (ps := List.range n) (i := k) (by simpa using hk)
      rw [List.getElem?_range hk] at this
      exact (Option.some.inj this).symm
    rw [e, pk_tb, h2]
    simp [hk, h1]
  · have h2 : S < 2 ^ k := Nat.lt_of_lt_of_le h (Nat.pow_le_pow_right (by decide) (by omega))
    simp [hk, Nat.testBit_lt_two_pow h2]
abbrev PE (ds : List Int) (many : Nat) (own : List Nat) (x3 x4 x5 x6 x7 x8 x9 x10 x11 x12 : Option Sl) : Ev := [ol ds, di many, dt (own.map nI), x3, x4, x5, x6, x7, x8, x9, x10, x11, x12]
theorem atI_nI {ps : List Nat} {i : Nat} (h : i < ps.length) : atI (ps.map nI) (i : Int) = some (nI (pg ps i)) := PD.atI_nat (by rw [List.getElem?_map, pg_get h]; rfl)
theorem e_picks {ds : List Int} {many : Nat} {own : List Nat} (hm : many ≤ 10) (ho : ∀ k ∈ own, k < many) (hl : own.length ≤ many) : ∃ ds' : List Int, m__law_are_picks_told [.obj (.lst (ds.map .int)), .dat (.int many), .dat (.tuple (own.map nI))] = some (.dat (.bool true), [.lst (ds'.map .int)]) := by
  have g : ∀ n, n ≤ 1000 → guardP (n ≤ sizeLine) = some () := fun n hn => guard_small (by omega)
  obtain ⟨S, hS⟩ : ∃ S, S = bf (isIn own) many := ⟨_, rfl⟩
  have c1 := e_of_set ho (by omega) (by omega)
  rw [← hS] at c1
  have hSl : S < 2 ^ many := hS ▸ bf_lt _ _
  have tS : ∀ k, S.testBit k = isIn own k := fun k => by
    rw [hS, bf_tb]
    by_cases hk : k < many
    · simp [hk]
    · have : isIn own k = false := decide_eq_false fun z => hk (ho k z)
      simp [this]
  obtain ⟨od, ds1, k1, hp⟩ := e_order (ds := ds) (many := many) (by omega)
  have hol : od.length = many := by have := hp.length_eq; simpa using this
  obtain ⟨v, ds2, k2, hv⟩ := e_take (ds := ds1) (many := (many : Int) + 1) (by omega)
  have hv : v ≤ many := by omega
  obtain ⟨sm, hsm⟩ : ∃ sm, sm = od.take v := ⟨_, rfl⟩
  have hsl : sm.length = v := by rw [hsm, List.length_take]; omega
  have c2 := e_pk S (ps := sm) (by omega)
  obtain ⟨ag, ds3, k3, hp3⟩ := e_order (ds := ds2) (many := v) (by omega)
  have hal : ag.length = v := by have := hp3.length_eq; simpa using this
  have c3 := e_pk (pk S sm) (ps := ag) (by omega)
  rw [pk_pk fun q hq => by rw [hsl]; exact List.mem_range.mp (hp3.mem_iff.mp hq)] at c3
  have c4 := e_pk S (ps := ag.map (pg sm)) (by rw [List.length_map]; omega)
  have c5 := e_pk S (ps := od) (by omega)
  have c6 := e_pk (pk S od) (ps := (List.range many).map od.idxOf) (by simp; omega)
  rw [pk_back hSl hp] at c6
  have c7 := e_pk S (ps := List.range many) (by simp; omega)
  rw [pk_range hSl] at c7
  have c8 : m_picked_letter [.dat (.int S), .dat (.tuple [])] = some (.dat (.int 0), []) := e_pk S (ps := []) (by simp)
  have c9 := e_of_set (own := (List.range sm.length).filter fun j => isIn own (pg sm j)) (M := sm.length) (fun k hk => List.mem_range.mp (List.mem_filter.mp hk).1) (by omega) (by
    have := List.length_filter_le (fun j => isIn own (pg sm j)) (List.range sm.length)
    rw [List.length_range] at this; omega)
  rw [pk_set tS] at c9
  have c10 := e_of_set (own := (List.range od.length).filter fun j => isIn own (pg od j)) (M := od.length) (fun k hk => List.mem_range.mp (List.mem_filter.mp hk).1) (by omega) (by
    have := List.length_filter_le (fun j => isIn own (pg od j)) (List.range od.length)
    rw [List.length_range] at this; omega)
  rw [pk_set tS] at c10
  have s5 := same6 (.int 5 (pk S sm : Nat))
  have s7 := same6 (.int 5 (pk S (ag.map (pg sm)) : Nat))
  have s11 := same6 (sok_cons (.int 4 (pk S od : Nat)) (sok_cons (.int 4 (S : Nat)) (sok_cons (.int 4 (S : Nat)) (sok_cons (.int 4 0) sok_nil (by simp)) (by simp)) (by simp)) (by simp))
  have t1 : sd__law_are_picks_told_1 (PE ds many own none none none none none none none none none none) = some (.nx (PE ds many own (di S) none none none none none none none none none)) := by
    simp [sd__law_are_picks_told_1, c1]
  have t2 : sd__law_are_picks_told_2 (PE ds many own (di S) none none none none none none none none none) = some (.nx (PE ds1 many own (di S) (dt (od.map nI)) none none none none none none none none)) := by
    simp [sd__law_are_picks_told_2, k1]
  have hcut : cutT (od.map nI) none (some (v : Int)) = sm.map nI := by rw [cut_to (by omega), hsm, Int.toNat_natCast, List.map_take]
  have t3 : sd__law_are_picks_told_3 (PE ds1 many own (di S) (dt (od.map nI)) none none none none none none none none) = some (.nx (PE ds2 many own (di S) (dt (od.map nI)) (dt (sm.map nI)) none none none none none none none)) := by
    simp [sd__law_are_picks_told_3, k2, hcut]
  have t4 : sd__law_are_picks_told_4 (PE ds2 many own (di S) (dt (od.map nI)) (dt (sm.map nI)) none none none none none none none) = some (.nx (PE ds2 many own (di S) (dt (od.map nI)) (dt (sm.map nI)) (di (pk S sm : Nat)) none none none none none none)) := by
    simp [sd__law_are_picks_told_4, c2]
  have e5 : fLc (fItR1 (fCB gLen (fCons (fVar 5) fNil))) (tgN false 11) lf__law_are_picks_told_1 le__law_are_picks_told_1 [11] (PE ds2 many own (di S) (dt (od.map nI)) (dt (sm.map nI)) (di (pk S sm : Nat)) none none none none none none) = some (.tmp (.lst (((List.range sm.length).filter fun j => isIn own (pg sm j)).map nI)), PE ds2 many own (di S) (dt (od.map nI)) (dt (sm.map nI)) (di (pk S sm : Nat)) none none none none none none) :=
    lc_rngF (n := sm.length) _ (by simp) (by omega) (by simp) (by simp) fun k hk => by
      have ha := atI_nI hk
      refine ⟨PE ds2 many own (di S) (dt (od.map nI)) (dt (sm.map nI)) (di (pk S sm : Nat)) none none none none (di k) none, PE ds2 many own (di S) (dt (od.map nI)) (dt (sm.map nI)) (di (pk S sm : Nat)) none none none none (di k) none, by simp, ?_, by simp [le__law_are_picks_told_1, nI], by simp⟩
      have hd : (nI (pg sm k)).depth = 0 := by simp [nI]
      have hany := any_nI own (pg sm k)
      change ((own.map nI).any fun y => PyData.eqv y (nI (pg sm k))) = _ at hany
      generalize nI (pg sm k) = q at *
      simp [-List.any_map, lf__law_are_picks_told_1, ha, hany]
  have t5 : sd__law_are_picks_told_5 (PE ds2 many own (di S) (dt (od.map nI)) (dt (sm.map nI)) (di (pk S sm : Nat)) none none none none none none) = some (.nx (PE ds2 many own (di S) (dt (od.map nI)) (dt (sm.map nI)) (di (pk S sm : Nat)) none none none none none none)) := by
    generalize ((List.range sm.length).filter fun j => isIn own (pg sm j)) = L at *
    simp [-ev_lc, sd__law_are_picks_told_5, e5, c9, s5]
  have t6 : sd__law_are_picks_told_6 (PE ds2 many own (di S) (dt (od.map nI)) (dt (sm.map nI)) (di (pk S sm : Nat)) none none none none none none) = some (.nx (PE ds3 many own (di S) (dt (od.map nI)) (dt (sm.map nI)) (di (pk S sm : Nat)) (dt (ag.map nI)) none none none none none)) := by
    simp [sd__law_are_picks_told_6, hsl, k3]
  have e7 : fLc (fItE (fVar 7)) (tgN false 12) fYes le__law_are_picks_told_2 [12] (PE ds3 many own (di S) (dt (od.map nI)) (dt (sm.map nI)) (di (pk S sm : Nat)) (dt (ag.map nI)) none none none none none) = some (.tmp (.lst ((ag.map nI).map fun t => match t with | .int i => nI (pg sm i.toNat) | _ => .none)), PE ds3 many own (di S) (dt (od.map nI)) (dt (sm.map nI)) (di (pk S sm : Nat)) (dt (ag.map nI)) none none none none none) :=
    lc_tup _ (by simp) (by simp; omega) (by simp) (by simp) fun t ht => by
      obtain ⟨k, hk, rfl⟩ := List.mem_map.mp ht
      have hk2 : k < sm.length := by rw [hsl]; exact List.mem_range.mp (hp3.mem_iff.mp hk)
      refine ⟨PE ds3 many own (di S) (dt (od.map nI)) (dt (sm.map nI)) (di (pk S sm : Nat)) (dt (ag.map nI)) none none none none (some (.dat (nI k))), PE ds3 many own (di S) (dt (od.map nI)) (dt (sm.map nI)) (di (pk S sm : Nat)) (dt (ag.map nI)) none none none none (some (.dat (nI k))), by simp, ?_, by simp⟩
      have ha := atI_nI hk2
      have hn : nI k = .int (k : Nat) := rfl
      rw [hn]
      simp [le__law_are_picks_told_2, ha]
  have e72 : ((ag.map nI).map fun t => match t with | .int i => nI (pg sm i.toNat) | _ => .none) = (ag.map (pg sm)).map nI := by
    rw [List.map_map, List.map_map]
    rfl
  rw [e72] at e7
  have t7 : sd__law_are_picks_told_7 (PE ds3 many own (di S) (dt (od.map nI)) (dt (sm.map nI)) (di (pk S sm : Nat)) (dt (ag.map nI)) none none none none none) = some (.nx (PE ds3 many own (di S) (dt (od.map nI)) (dt (sm.map nI)) (di (pk S sm : Nat)) (dt (ag.map nI)) none none none none none)) := by
    generalize ag.map (pg sm) = L at *
    simp [-ev_lc, sd__law_are_picks_told_7, e7, c3, c4, s7]
  have e8 : fLc (fItR1 (fVar 1)) (tgN false 12) fYes le__law_are_picks_told_3 [12] (PE ds3 many own (di S) (dt (od.map nI)) (dt (sm.map nI)) (di (pk S sm : Nat)) (dt (ag.map nI)) none none none none none) = some (.tmp (.lst ((List.range many).map fun k => nI (od.idxOf k))), PE ds3 many own (di S) (dt (od.map nI)) (dt (sm.map nI)) (di (pk S sm : Nat)) (dt (ag.map nI)) none none none none none) :=
    lc_rng (n := many) _ (by simp) (by omega) (by simp) (by simp) fun k hk => by
      have hm : k ∈ od := hp.mem_iff.mpr (List.mem_range.mpr hk)
      obtain ⟨h1, h2, h3⟩ := idx_ok hm
      refine ⟨PE ds3 many own (di S) (dt (od.map nI)) (dt (sm.map nI)) (di (pk S sm : Nat)) (dt (ag.map nI)) none none none none (di k), PE ds3 many own (di S) (dt (od.map nI)) (dt (sm.map nI)) (di (pk S sm : Nat)) (dt (ag.map nI)) none none none none (di k), by simp, ?_, by simp⟩
      have hn : nI k = .int (k : Nat) := rfl
      rw [hn] at h3
      simp [le__law_are_picks_told_3, h3, nI]
  have e82 : ((List.range many).map fun k => nI (od.idxOf k)) = ((List.range many).map od.idxOf).map nI := by rw [List.map_map]; rfl
  rw [e82] at e8
  have t8 : sd__law_are_picks_told_8 (PE ds3 many own (di S) (dt (od.map nI)) (dt (sm.map nI)) (di (pk S sm : Nat)) (dt (ag.map nI)) none none none none none) = some (.nx (PE ds3 many own (di S) (dt (od.map nI)) (dt (sm.map nI)) (di (pk S sm : Nat)) (dt (ag.map nI)) (dt (((List.range many).map od.idxOf).map nI)) none none none none)) := by
    generalize (List.range many).map od.idxOf = L at *
    simp [-ev_lc, sd__law_are_picks_told_8, e8]
  have t9 : sd__law_are_picks_told_9 (PE ds3 many own (di S) (dt (od.map nI)) (dt (sm.map nI)) (di (pk S sm : Nat)) (dt (ag.map nI)) (dt (((List.range many).map od.idxOf).map nI)) none none none none) = some (.nx (PE ds3 many own (di S) (dt (od.map nI)) (dt (sm.map nI)) (di (pk S sm : Nat)) (dt (ag.map nI)) (dt (((List.range many).map od.idxOf).map nI)) (di (pk S od : Nat)) none none none)) := by
    simp [sd__law_are_picks_told_9, c5]
  have hr : ∀ ρ : Ev, ρ[1]? = some (some (.dat (.int many))) → fTupRg (fRg1 (fVar 1)) ρ = some (.dat (.tuple ((List.range many).map nI)), ρ) := fun ρ hρ => by
    unfold fTupRg fRg1
    have hg : guardP (RgOk 0 (many : Int)) = some () := guardP_pos (by unfold RgOk; refine ⟨by omega, by omega, by omega, by omega, by omega⟩)
    have : rgT 0 (many : Int) = (List.range many).map nI := by unfold rgT nI; simp
    simp [hρ, hg, this]
  have t10 : sd__law_are_picks_told_10 (PE ds3 many own (di S) (dt (od.map nI)) (dt (sm.map nI)) (di (pk S sm : Nat)) (dt (ag.map nI)) (dt (((List.range many).map od.idxOf).map nI)) (di (pk S od : Nat)) none none none) = some (.nx (PE ds3 many own (di S) (dt (od.map nI)) (dt (sm.map nI)) (di (pk S sm : Nat)) (dt (ag.map nI)) (dt (((List.range many).map od.idxOf).map nI)) (di (pk S od : Nat)) (dt [.int (pk S od : Nat), .int S, .int S, .int 0]) none none)) := by
    have hr2 := hr (PE ds3 many own (di S) (dt (od.map nI)) (dt (sm.map nI)) (di (pk S sm : Nat)) (dt (ag.map nI)) (dt (((List.range many).map od.idxOf).map nI)) (di (pk S od : Nat)) none none none) rfl
    generalize (List.range many).map od.idxOf = L at *
    generalize List.range many = R at *
    simp [sd__law_are_picks_told_10, c6, hr2, c7, c8, g]
  have e11 : fLc (fItR1 (fVar 1)) (tgN false 11) lf__law_are_picks_told_2 le__law_are_picks_told_4 [11] (PE ds3 many own (di S) (dt (od.map nI)) (dt (sm.map nI)) (di (pk S sm : Nat)) (dt (ag.map nI)) (dt (((List.range many).map od.idxOf).map nI)) (di (pk S od : Nat)) (dt [.int (pk S od : Nat), .int S, .int S, .int 0]) none none) = some (.tmp (.lst (((List.range many).filter fun j => isIn own (pg od j)).map nI)), PE ds3 many own (di S) (dt (od.map nI)) (dt (sm.map nI)) (di (pk S sm : Nat)) (dt (ag.map nI)) (dt (((List.range many).map od.idxOf).map nI)) (di (pk S od : Nat)) (dt [.int (pk S od : Nat), .int S, .int S, .int 0]) none none) :=
    lc_rngF (n := many) _ (by simp) (by omega) (by simp) (by simp) fun k hk => by
      have ha := atI_nI (ps := od) (i := k) (by omega)
      refine ⟨PE ds3 many own (di S) (dt (od.map nI)) (dt (sm.map nI)) (di (pk S sm : Nat)) (dt (ag.map nI)) (dt (((List.range many).map od.idxOf).map nI)) (di (pk S od : Nat)) (dt [.int (pk S od : Nat), .int S, .int S, .int 0]) (di k) none, PE ds3 many own (di S) (dt (od.map nI)) (dt (sm.map nI)) (di (pk S sm : Nat)) (dt (ag.map nI)) (dt (((List.range many).map od.idxOf).map nI)) (di (pk S od : Nat)) (dt [.int (pk S od : Nat), .int S, .int S, .int 0]) (di k) none, by simp, ?_, by simp [le__law_are_picks_told_4, nI], by simp⟩
      have hd : (nI (pg od k)).depth = 0 := by simp [nI]
      have hany := any_nI own (pg od k)
      change ((own.map nI).any fun y => PyData.eqv y (nI (pg od k))) = _ at hany
      generalize (List.range many).map od.idxOf = L at *
      generalize nI (pg od k) = q at *
      simp [-List.any_map, lf__law_are_picks_told_2, ha, hany]
  have t11 : sd__law_are_picks_told_11 (PE ds3 many own (di S) (dt (od.map nI)) (dt (sm.map nI)) (di (pk S sm : Nat)) (dt (ag.map nI)) (dt (((List.range many).map od.idxOf).map nI)) (di (pk S od : Nat)) (dt [.int (pk S od : Nat), .int S, .int S, .int 0]) none none) = some (.rt (.dat (.bool true)) (PE ds3 many own (di S) (dt (od.map nI)) (dt (sm.map nI)) (di (pk S sm : Nat)) (dt (ag.map nI)) (dt (((List.range many).map od.idxOf).map nI)) (di (pk S od : Nat)) (dt [.int (pk S od : Nat), .int S, .int S, .int 0]) none none)) := by
    rw [hol] at c10
    generalize ((List.range many).filter fun j => isIn own (pg od j)) = L0 at *
    generalize (List.range many).map od.idxOf = L at *
    simp [-ev_lc, sd__law_are_picks_told_11, e11, c10, s11, g]
  exact ⟨ds3, run_rt rfl (ρ := PE ds3 many own (di S) (dt (od.map nI)) (dt (sm.map nI)) (di (pk S sm : Nat)) (dt (ag.map nI)) (dt (((List.range many).map od.idxOf).map nI)) (di (pk S od : Nat)) (dt [.int (pk S od : Nat), .int S, .int S, .int 0]) none none) ((seq_nx t1).trans ((seq_nx t2).trans ((seq_nx t3).trans ((seq_nx t4).trans ((seq_nx t5).trans ((seq_nx t6).trans ((seq_nx t7).trans ((seq_nx t8).trans ((seq_nx t9).trans ((seq_nx t10).trans t11)))))))))) rfl⟩
end LW

namespace LW
open PySem PySem.Spec PyProof.Rows L2 PD
def row (k i : Nat) : T := .tuple ((List.range k).map fun j => bI (i.testBit j))
def RW (k : Nat) : List T := (List.range (2 ^ k)).map (row k)
/-- a comprehension over a list in its place -/
theorem lc_lst {g : GT} {te : FE} {f : FE} {vs : List Nat} {ρ : Ev} {xs : List T} {i : Nat} (F : T → T) (hf : f ρ = some (.plc i, ρ)) (hi : ρ[i]? = some (some (.obj (.lst xs)))) (hn : xs.length ≤ 1000000) (hw : wipeE ρ vs = ρ) (hb : backE ρ ρ vs = ρ)
    (h : ∀ x ∈ xs, ∃ ρ1 ρ3, g x ρ = some ρ1 ∧ te ρ1 = some (.dat (F x), ρ3) ∧ wipeE ρ3 vs = ρ) : fLc (fItE f) g fYes te vs ρ = some (.tmp (.lst (xs.map F)), ρ) := by
  have hit : itOf (.plc i) ρ = some (xs, some i) := by
    unfold itOf
    simp only [hi]
  rw [ev_lc, ev_itE, hf]
  simp only [Option.bind_some, hit, Option.map_some, guard_small hn, hw]
  rw [lc_map F (show ckOf xs (some i) ρ from hi) _ h]
  simp only [Option.map_some, hb]
theorem lc_tmp {g : GT} {te : FE} {f : FE} {vs : List Nat} {ρ : Ev} {xs : List T} (F : T → T) (hf : f ρ = some (.tmp (.lst xs), ρ)) (hn : xs.length ≤ 1000000) (hw : wipeE ρ vs = ρ) (hb : backE ρ ρ vs = ρ)
    (h : ∀ x ∈ xs, ∃ ρ1 ρ3, g x ρ = some ρ1 ∧ te ρ1 = some (.dat (F x), ρ3) ∧ wipeE ρ3 vs = ρ) : fLc (fItE f) g fYes te vs ρ = some (.tmp (.lst (xs.map F)), ρ) := by
  rw [ev_lc, ev_itE, hf]
  simp only [Option.bind_some, ev_itOf_l, Option.map_some, guard_small hn, hw]
  rw [lc_map F (by trivial) _ h]
  simp only [Option.map_some, hb]
def ext (b : Bool) (t : T) : T := match t with
  | .tuple xs => .tuple (xs ++ [bI b])
  | _ => .none
theorem RW_succ (k : Nat) : RW (k + 1) = (RW k).map (ext false) ++ (RW k).map (ext true) := by
  have e0 : ∀ i, i < 2 ^ k → row (k + 1) i = ext false (row k i) := fun i hi => by
    unfold row ext
    rw [List.range_succ, List.map_append]
    simp [Nat.testBit_lt_two_pow hi]
  have e1 : ∀ i, i < 2 ^ k → row (k + 1) (2 ^ k + i) = ext true (row k i) := fun i hi => by
    have hb : ∀ j, (2 ^ k + i).testBit j = if j < k then i.testBit j else (1 : Nat).testBit (j - k) := fun j => by
      have := Nat.testBit_two_pow_mul_add 1 hi j
      simpa using this
    unfold row ext
    rw [List.range_succ, List.map_append]
    simp only [List.map_cons, List.map_nil, hb, Nat.lt_irrefl, if_false, Nat.sub_self]
    congr 2
    apply List.map_congr_left
    intro j hj
    rw [if_pos (List.mem_range.mp hj)]
  unfold RW
  rw [Nat.pow_succ, Nat.mul_two, List.range_add, List.map_append, List.map_map, List.map_map, List.map_map]
  congr 1
  · apply List.map_congr_left
    intro i hi
    exact e0 i (List.mem_range.mp hi)
  · apply List.map_congr_left
    intro i hi
    exact e1 i (List.mem_range.mp hi)
theorem evens_odds : ∀ n : Nat, ((List.range n).map (fun i => 2 * i) ++ (List.range n).map fun i => 2 * i + 1).Perm (List.range (2 * n))
  | 0 => by simp
  | n + 1 => by
    have ih := evens_odds n
    have e : 2 * (n + 1) = 2 * n + 1 + 1 := by omega
    rw [e, List.range_succ, List.range_succ, List.range_succ, List.map_append, List.map_append]
    simp only [List.map_cons, List.map_nil]
    have h1 : ((List.range n).map (fun i => 2 * i) ++ [2 * n] ++ ((List.range n).map (fun i => 2 * i + 1) ++ [2 * n + 1])).Perm (((List.range n).map (fun i => 2 * i) ++ (List.range n).map (fun i => 2 * i + 1)) ++ ([2 * n] ++ [2 * n + 1])) := by
      rw [List.append_assoc, List.append_assoc]
      refine List.Perm.append_left _ ?_
      rw [← List.append_assoc, ← List.append_assoc]
      exact List.Perm.append_right _ List.perm_append_comm
    refine h1.trans ?_
    rw [List.append_assoc (List.range (2 * n))]
    exact List.Perm.append ih (List.Perm.refl _)
theorem sort_range {L : List Nat} {n : Nat} (h : L.Perm (List.range n)) : sortI (L.map fun k : Nat => (k : Int)) = (List.range n).map fun k : Nat => (k : Int) := by
  unfold sortI
  refine List.Perm.eq_of_pairwise (le := fun a b : Int => a ≤ b) (fun a b _ _ h1 h2 => by omega) ?_ ?_ ((List.mergeSort_perm _ _).trans (h.map _))
  · have := List.pairwise_mergeSort (le := fun a b : Int => decide (a ≤ b)) (fun a b c h1 h2 => by simp at *; omega) (fun a b => by simp; omega) (L.map fun k : Nat => (k : Int))
    exact this.imp fun h => by simpa using h
  · rw [List.pairwise_map]
    exact List.pairwise_lt_range.imp fun h => by omega
theorem sorted_rg {L : List Nat} {n : Nat} (h : L.Perm (List.range n)) (ρ : Ev) : gSortedI [.tmp (.lst (L.map nI))] ρ = some (.tmp (.lst ((List.range n).map nI))) := by
  show ((rdL (.tmp (.lst (L.map nI))) ρ).bind fun xs => (intsOf xs).map fun ns => Hd.tmp (.lst ((sortI ns).map .int))) = _
  rw [ev_rdL_t, Option.bind_some, intsOf_nI, Option.map_some, sort_range h, List.map_map]
  rfl
abbrev AE (m : Nat) (x1 x2 x3 x4 x5 x6 x7 x8 : Option Sl) : Ev := [di m, x1, x2, x3, x4, x5, x6, x7, x8]
abbrev oT (ts : List T) : Option Sl := some (.obj (.lst ts))
theorem RW_len (k : Nat) : (RW k).length = 2 ^ k := by unfold RW; simp
theorem RW_mem {k : Nat} {t : T} (h : t ∈ RW k) : ∃ i, i < 2 ^ k ∧ t = row k i := by
  obtain ⟨i, hi, rfl⟩ := List.mem_map.mp h
  exact ⟨i, List.mem_range.mp hi, rfl⟩
theorem all_rows {m : Nat} (hm : m ≤ 10) : ∃ o, fForL (fun _ => True) (tgN false 2) lb__law_are_all_told_1 ((List.range m).map fun i => PyData.int (0 + (i : Nat))) (AE m (oT (RW 0)) none none none none none none none) = some (.nx (AE m (oT (RW m)) o none none none none none none)) := by
  obtain ⟨o, e, _⟩ := for_r (β := Option Sl) (g := tgN false 2) (b := lb__law_are_all_told_1) (fun i o => AE m (oT (RW i)) o none none none none none none) (fun _ _ => True) m 0 (fun i o hi _ => by
    have hlen : (RW i).length ≤ 1024 := by
      rw [RW_len]
      have : 2 ^ i ≤ 2 ^ 10 := Nat.pow_le_pow_right (by decide) (by omega)
      omega
    refine ⟨AE m (oT (RW i)) (di i) none none none none none none, di i, by simp, .inl ?_, trivial⟩
    have hx : ∀ (te : FE) (b : Bool), (∀ xs : List T, te (AE m (oT (RW i)) (di i) none none none none (dt xs) none) = (gAdd (.dat (.tuple xs)) (.dat (.tuple [bI b])) (AE m (oT (RW i)) (di i) none none none none (dt xs) none)).map fun h => (h, AE m (oT (RW i)) (di i) none none none none (dt xs) none)) →
        fLc (fItE (fVar 1)) (tgN false 7) fYes te [7] (AE m (oT (RW i)) (di i) none none none none none none) = some (.tmp (.lst ((RW i).map (ext b))), AE m (oT (RW i)) (di i) none none none none none none) := fun te b hte =>
      lc_lst (i := 1) _ (by simp) (by simp) (by omega) (by simp) (by simp) fun t ht => by
        obtain ⟨j, _, rfl⟩ := RW_mem ht
        refine ⟨AE m (oT (RW i)) (di i) none none none none (some (.dat (row i j))) none, AE m (oT (RW i)) (di i) none none none none (some (.dat (row i j))) none, by simp, ?_, by simp⟩
        refine (hte _).trans ?_
        rw [addT_ok (by simp; omega)]
        rfl
    have g : ∀ n, n ≤ 10 → guardP (n ≤ sizeLine) = some () := fun n hn => guard_small (by omega)
    have h1 := hx le__law_are_all_told_1 false (fun xs => by simp [-ev_add, le__law_are_all_told_1, g, bI])
    have h2 := hx le__law_are_all_told_2 true (fun xs => by simp [-ev_add, le__law_are_all_told_2, g, bI])
    have ha : ∀ ρ, gAdd (.tmp (.lst ((RW i).map (ext false)))) (.tmp (.lst ((RW i).map (ext true)))) ρ = some (.tmp (.lst (RW (i + 1)))) := fun ρ => by
      rw [RW_succ, ev_add, ev_addL, ev_lstOf_t, ev_lstOf_t]
      have hg : guardP (((RW i).map (ext false)).length + ((RW i).map (ext true)).length ≤ sizeLine) = some () := guard_small (by simp; omega)
      simp only [Option.bind_some, hg, Option.map_some]
      simp
    generalize (RW i).map (ext false) = A at *
    generalize (RW i).map (ext true) = B at *
    simp [-ev_lc, -ev_add, lb__law_are_all_told_1, h1, h2, ha]) none trivial
  exact ⟨o, e⟩
end LW

namespace LW
open PySem PySem.Spec PyProof.Rows L2 PD
def valOf (r : Option (Sl × List C)) : T := match r with
  | some (.dat t, _) => t
  | _ => .none
abbrev NL (n : Nat) : List T := (List.range n).map nI
theorem plain_nI (L : List Nat) : PyData.plainAll (L.map nI) = true := by
  induction L with
  | nil => rfl
  | cons x L ih => rw [List.map_cons, PyData.plainAll, ih]; rfl
theorem plain_bits (p : Nat → Bool) (L : List Nat) : PyData.plainAll (L.map fun k => bI (p k)) = true := by
  induction L with
  | nil => rfl
  | cons x L ih => rw [List.map_cons, PyData.plainAll, ih]; rfl
theorem plain_RW (k : Nat) : PyData.plainAll (RW k) = true := by
  unfold RW
  generalize List.range (2 ^ k) = L
  induction L with
  | nil => rfl
  | cons x L ih =>
    rw [List.map_cons, PyData.plainAll, ih, Bool.and_true]
    unfold row
    rw [PyData.plain]
    exact plain_bits _ _
theorem depth_RW (k : Nat) : PyData.depthAll (RW k) ≤ 1 := depthAll_le fun x hx => by
  obtain ⟨i, _, rfl⟩ := RW_mem hx
  unfold row
  rw [depth_t]
  have : PyData.depthAll ((List.range k).map fun j => bI (i.testBit j)) ≤ 0 := depthAll_le fun y hy => by
    obtain ⟨j, _, rfl⟩ := List.mem_map.mp hy
    simp [bI]
  omega
theorem letters_row {m i : Nat} (hm : m ≤ 10) (hi : i < 2 ^ m) : m_letter_of [.dat (row m i)] = some (.dat (nI i), []) := by
  have := e_letter_of i.testBit (n := m) (by omega)
  rw [bf_of hi] at this
  exact this
theorem lwi0 (i : Nat) : lwi i 0 false = 2 * i := by unfold lwi; simp; omega
theorem lwi1 (i : Nat) : lwi i 0 true = 2 * i + 1 := by unfold lwi; simp; omega
theorem lwim {i m : Nat} (hi : i < 2 ^ m) : lwi i m false = i := by
  unfold lwi
  rw [Nat.mod_eq_of_lt hi, Nat.div_eq_of_lt hi]
  simp
theorem lwim1 {i m : Nat} (hi : i < 2 ^ m) : lwi i m true = 2 ^ m + i := by
  unfold lwi
  rw [Nat.mod_eq_of_lt hi, Nat.div_eq_of_lt hi]
  simp
  omega
theorem lwi_perm {m p : Nat} (hp : p = 0 ∨ p = m) : ((List.range (2 ^ m)).map (fun i => lwi i p false) ++ (List.range (2 ^ m)).map fun i => lwi i p true).Perm (List.range (2 ^ (m + 1))) := by
  rcases hp with rfl | rfl
  · have := evens_odds (2 ^ m)
    rw [Nat.pow_succ, Nat.mul_comm]
    simpa only [lwi0, lwi1] using this
  · rw [Nat.pow_succ, Nat.mul_two, List.range_add]
    have e1 : (List.range (2 ^ p)).map (fun i => lwi i p false) = List.range (2 ^ p) := by
      conv => rhs; rw [← List.map_id (List.range (2 ^ p))]
      apply List.map_congr_left
      intro i hi
      exact lwim (List.mem_range.mp hi)
    have e2 : (List.range (2 ^ p)).map (fun i => lwi i p true) = (List.range (2 ^ p)).map fun i => 2 ^ p + i := by
      apply List.map_congr_left
      intro i hi
      exact lwim1 (List.mem_range.mp hi)
    rw [e1, e2]
theorem lwo_lwi (i p : Nat) (d : Bool) : lwo (lwi i p d) p = i := Nat.eq_of_testBit_eq fun k => by
  rw [lwo_tb, lwi_tb, lwi_tb]
  by_cases h1 : k < p
  · simp [h1]
  · rw [if_neg h1, if_neg (by omega), if_neg (by omega)]
    rfl
theorem lcl_ix {α : Type} {ck : Ev → Prop} {g : GT} {te : FE} {vs : List Nat} {ρ : Ev} (c : α → T) (F : α → T) (hck : ck ρ) : ∀ (L : List α)
    (_ : ∀ a ∈ L, ∃ ρ1 ρ3, g (c a) ρ = some ρ1 ∧ te ρ1 = some (.dat (F a), ρ3) ∧ wipeE ρ3 vs = ρ), fLcL ck g fYes te vs (L.map c) ρ = some (L.map F, ρ)
  | [], _ => by rw [List.map_nil, fLcL, guardP_pos hck]; rfl
  | a :: L, h => by
    have ih := lcl_ix c F hck L fun b hb => h b (List.mem_cons_of_mem _ hb)
    obtain ⟨ρ1, ρ3, e1, e2, e3⟩ := h a List.mem_cons_self
    rw [List.map_cons, fLcL, guardP_pos hck]
    simp only [Option.bind_some, e1, ev_yes, if_true, e2, e3, ih, Option.map_some, List.map_cons]
theorem lc_lstN {α : Type} {g : GT} {te : FE} {f : FE} {vs : List Nat} {ρ : Ev} {i : Nat} (c : α → T) (L : List α) (F : α → T) (hf : f ρ = some (.plc i, ρ)) (hi : ρ[i]? = some (some (.obj (.lst (L.map c))))) (hn : L.length ≤ 1000000) (hw : wipeE ρ vs = ρ) (hb : backE ρ ρ vs = ρ)
    (h : ∀ a ∈ L, ∃ ρ1 ρ3, g (c a) ρ = some ρ1 ∧ te ρ1 = some (.dat (F a), ρ3) ∧ wipeE ρ3 vs = ρ) : fLc (fItE f) g fYes te vs ρ = some (.tmp (.lst (L.map F)), ρ) := by
  have hit : itOf (.plc i) ρ = some (L.map c, some i) := by
    unfold itOf
    simp only [hi]
  rw [ev_lc, ev_itE, hf]
  simp only [Option.bind_some, hit, Option.map_some, List.length_map, guard_small hn, hw]
  rw [lcl_ix c F (show ckOf (L.map c) (some i) ρ from hi) _ h]
  simp only [Option.map_some, hb]
theorem lc_tmpN {α : Type} {g : GT} {te : FE} {f : FE} {vs : List Nat} {ρ : Ev} (c : α → T) (L : List α) (F : α → T) (hf : f ρ = some (.tmp (.lst (L.map c)), ρ)) (hn : L.length ≤ 1000000) (hw : wipeE ρ vs = ρ) (hb : backE ρ ρ vs = ρ)
    (h : ∀ a ∈ L, ∃ ρ1 ρ3, g (c a) ρ = some ρ1 ∧ te ρ1 = some (.dat (F a), ρ3) ∧ wipeE ρ3 vs = ρ) : fLc (fItE f) g fYes te vs ρ = some (.tmp (.lst (L.map F)), ρ) := by
  rw [ev_lc, ev_itE, hf]
  simp only [Option.bind_some, ev_itOf_l, Option.map_some, List.length_map, guard_small hn, hw]
  rw [lcl_ix c F (by trivial) _ h]
  simp only [Option.map_some, hb]
theorem ne_self {xs : List T} {ρ : Ev} (h : PyData.plainAll xs = true) (hd : PyData.depthAll xs ≤ 50) : gNe (.tmp (.lst xs)) (.tmp (.lst xs)) ρ = some (.dat (.bool false)) := by
  have hg : guardP (min (PyData.list xs).depth (PyData.list xs).depth ≤ 60) = some () := guardP_pos (by rw [depth_l]; omega)
  rw [ev_ne]
  simp only [ev_py_tmp, Option.bind_some, hg, Option.map_some, eqv_ll, eqvAll_refl xs h, Bool.not_true]
theorem shl_ok {c : Int} {m : Nat} (hc : c = 1 ∨ c = 2) (hm : m ≤ 10) : guardP (CShl c (m : Int)) = some () := guardP_pos ⟨by omega, by
  have h1 : Builtin.Int.intBits 1 ≤ 10 := by decide +kernel
  have h0 : Builtin.Int.intBits 2 ≤ 10 := by decide +kernel
  rcases hc with rfl | rfl <;> omega⟩
theorem rg_ok {f : FE} {n : Nat} {ρ : Ev} (hf : f ρ = some (.dat (.int n), ρ)) (hn : n ≤ 100000) : fListRg (fRg1 f) ρ = some (.tmp (.lst (NL n)), ρ) := by
  unfold fListRg fRg1
  have hg : guardP (RgOk 0 (n : Int)) = some () := guardP_pos (by unfold RgOk; refine ⟨by omega, by omega, by omega, by omega, by omega⟩)
  have : rgT 0 (n : Int) = NL n := by
    unfold rgT NL
    rw [Int.sub_zero, Int.toNat_natCast]
    apply List.map_congr_left
    intro i _
    simp [nI]
  simp [hf, hg, this]
theorem rg2_ok {m : Nat} {ρ : Ev} (hm : m ≤ 10) (hρ : ρ[0]? = some (di m)) : fListRg (fRg1 (fBin gShl (fC (.int 2)) (fVar 0))) ρ = some (.tmp (.lst (NL (2 ^ (m + 1)))), ρ) := by
  have h1024 : 2 ^ m ≤ 1024 := Nat.pow_le_pow_right (n := 2) (by decide) hm
  refine rg_ok ?_ (by rw [Nat.pow_succ]; omega)
  have hs := shl_ok (c := 2) (.inr rfl) hm
  simp [hρ, hs, Nat.pow_succ, Int.mul_comm]
theorem rg1_ok {m : Nat} {ρ : Ev} (hm : m ≤ 10) (hρ : ρ[0]? = some (di m)) : fListRg (fRg1 (fBin gShl (fC (.int 1)) (fVar 0))) ρ = some (.tmp (.lst (NL (2 ^ m))), ρ) := by
  have h1024 : 2 ^ m ≤ 1024 := Nat.pow_le_pow_right (n := 2) (by decide) hm
  refine rg_ok ?_ (by omega)
  have hs := shl_ok (c := 1) (.inl rfl) hm
  simp [hρ, hs]
/-- one turn of the loop over the two places -/
theorem all_turn {m p : Nat} {x1 x2 x5 x6 : Option Sl} (hm : m ≤ 10) (hp : p = 0 ∨ p = m) : ∃ y5 y6, lb__law_are_all_told_2 (AE m x1 x2 (oT (NL (2 ^ m))) (di p) x5 x6 none none) = some (.nx (AE m x1 x2 (oT (NL (2 ^ m))) (di p) y5 y6 none none)) := by
  have h1024 : 2 ^ m ≤ 1024 := Nat.pow_le_pow_right (n := 2) (by decide) hm
  have hp10 : p ≤ 10 := by omega
  obtain ⟨Zs, hZ⟩ : ∃ Zs, Zs = (List.range (2 ^ m)).map fun i => lwi i p false := ⟨_, rfl⟩
  obtain ⟨Os, hO⟩ : ∃ Os, Os = (List.range (2 ^ m)).map fun i => lwi i p true := ⟨_, rfl⟩
  have hper : (Zs ++ Os).Perm (List.range (2 ^ (m + 1))) := by rw [hZ, hO]; exact lwi_perm hp
  have lz : Zs.length = 2 ^ m := by rw [hZ]; simp
  have lo : Os.length = 2 ^ m := by rw [hO]; simp
  have hgen : ∀ (te : FE) (d : Bool) (x5 x6 : Option Sl), (∀ i, te (AE m x1 x2 (oT (NL (2 ^ m))) (di p) x5 x6 none (di i)) = fCall m_letter_with (fCons (fVar 8) (fCons (fVar 4) (fCons (fC (bI d)) fNil))) (AE m x1 x2 (oT (NL (2 ^ m))) (di p) x5 x6 none (di i))) →
      fLc (fItE (fVar 3)) (tgN false 8) fYes te [8] (AE m x1 x2 (oT (NL (2 ^ m))) (di p) x5 x6 none none) = some (.tmp (.lst (((List.range (2 ^ m)).map fun i => lwi i p d).map nI)), AE m x1 x2 (oT (NL (2 ^ m))) (di p) x5 x6 none none) := fun te d x5 x6 hte => by
    rw [List.map_map]
    exact lc_lstN (i := 3) nI _ _ (by simp) (by simp) (by simp; omega) (by simp) (by simp) fun i hi => by
      have hi := List.mem_range.mp hi
      have c := e_with (x := i) (pl := p) d (by omega) (by omega)
      refine ⟨AE m x1 x2 (oT (NL (2 ^ m))) (di p) x5 x6 none (di i), AE m x1 x2 (oT (NL (2 ^ m))) (di p) x5 x6 none (di i), by simp [nI], ?_, by simp⟩
      rw [hte i]
      simp [c, nI]
  have e1 := hgen le__law_are_all_told_7 false x5 x6 fun i => rfl
  rw [← hZ] at e1
  have e2 := hgen le__law_are_all_told_6 true (oT (Zs.map nI)) x6 fun i => rfl
  rw [← hO] at e2
  have e3 : fLc (fItE (fBin gAdd (fVar 5) (fVar 6))) (tgN false 8) fYes le__law_are_all_told_5 [8] (AE m x1 x2 (oT (NL (2 ^ m))) (di p) (oT (Zs.map nI)) (oT (Os.map nI)) none none) = some (.tmp (.lst (NL (2 ^ m) ++ NL (2 ^ m))), AE m x1 x2 (oT (NL (2 ^ m))) (di p) (oT (Zs.map nI)) (oT (Os.map nI)) none none) := by
    have hw : (Zs ++ Os).map (fun j => nI (lwo j p)) = NL (2 ^ m) ++ NL (2 ^ m) := by
      rw [List.map_append, hZ, hO, List.map_map, List.map_map]
      congr 1 <;> (apply List.map_congr_left; intro i _; simp only [Function.comp, lwo_lwi])
    have hg : guardP ((Zs.map nI).length + (Os.map nI).length ≤ sizeLine) = some () := guard_small (by simp; omega)
    rw [← hw]
    refine lc_tmpN nI _ _ (by simp only [ev_bin, ev_var, List.getElem?_cons_succ, List.getElem?_cons_zero, Option.bind_some, ev_add, ev_gI0, ev_intOf_p, Option.bind_none, Option.none_or, ev_addT, ev_tupOf_p, ev_addL, ev_lstOf_p, hg, Option.map_some, Option.some_or, List.map_append]) (by simp; omega) (by simp) (by simp) fun j hj => ?_
    have hj2 : j ≤ 100000 := by
      have : j ∈ List.range (2 ^ (m + 1)) := hper.mem_iff.mp hj
      have h3 := List.mem_range.mp this
      rw [Nat.pow_succ] at h3
      omega
    have c := e_without (x := j) (pl := p) (by omega) (by omega)
    refine ⟨AE m x1 x2 (oT (NL (2 ^ m))) (di p) (oT (Zs.map nI)) (oT (Os.map nI)) none (di j), AE m x1 x2 (oT (NL (2 ^ m))) (di p) (oT (Zs.map nI)) (oT (Os.map nI)) none (di j), by simp [nI], ?_, by simp⟩
    simp [le__law_are_all_told_5, c, nI]
  have t1 : fSet false 5 (fLc (fItE (fVar 3)) (tgN false 8) fYes le__law_are_all_told_7 [8]) (AE m x1 x2 (oT (NL (2 ^ m))) (di p) x5 x6 none none) = some (.nx (AE m x1 x2 (oT (NL (2 ^ m))) (di p) (oT (Zs.map nI)) x6 none none)) := by
    rw [ev_set, e1]
    simp
  have t2 : fSet false 6 (fLc (fItE (fVar 3)) (tgN false 8) fYes le__law_are_all_told_6 [8]) (AE m x1 x2 (oT (NL (2 ^ m))) (di p) (oT (Zs.map nI)) x6 none none) = some (.nx (AE m x1 x2 (oT (NL (2 ^ m))) (di p) (oT (Zs.map nI)) (oT (Os.map nI)) none none)) := by
    rw [ev_set, e2]
    simp
  have hrg := rg2_ok (m := m) (ρ := AE m x1 x2 (oT (NL (2 ^ m))) (di p) (oT (Zs.map nI)) (oT (Os.map nI)) none none) hm rfl
  have hsort := sorted_rg hper
  have hg1 : guardP ((Zs.map nI).length + (Os.map nI).length ≤ sizeLine) = some () := guard_small (by simp; omega)
  have hg2 : guardP ((NL (2 ^ m)).length + (NL (2 ^ m)).length ≤ sizeLine) = some () := guard_small (by simp; omega)
  have hz : (fBin gAdd (fVar 5) (fVar 6)) (AE m x1 x2 (oT (NL (2 ^ m))) (di p) (oT (Zs.map nI)) (oT (Os.map nI)) none none) = some (.tmp (.lst ((Zs ++ Os).map nI)), AE m x1 x2 (oT (NL (2 ^ m))) (di p) (oT (Zs.map nI)) (oT (Os.map nI)) none none) := by
    simp only [ev_bin, ev_var, List.getElem?_cons_succ, List.getElem?_cons_zero, Option.bind_some, ev_add, ev_gI0, ev_intOf_p, Option.bind_none, Option.none_or, ev_addT, ev_tupOf_p, ev_addL, ev_lstOf_p, hg1, Option.map_some, Option.some_or, List.map_append]
  have hl : (fBin gAdd (fVar 3) (fVar 3)) (AE m x1 x2 (oT (NL (2 ^ m))) (di p) (oT (Zs.map nI)) (oT (Os.map nI)) none none) = some (.tmp (.lst (NL (2 ^ m) ++ NL (2 ^ m))), AE m x1 x2 (oT (NL (2 ^ m))) (di p) (oT (Zs.map nI)) (oT (Os.map nI)) none none) := by
    simp only [ev_bin, ev_var, List.getElem?_cons_succ, List.getElem?_cons_zero, Option.bind_some, ev_add, ev_gI0, ev_intOf_p, Option.bind_none, Option.none_or, ev_addT, ev_tupOf_p, ev_addL, ev_lstOf_p, hg2, Option.map_some, Option.some_or]
  have q1 : ∀ ρ, gNe (.tmp (.lst (NL (2 ^ (m + 1))))) (.tmp (.lst (NL (2 ^ (m + 1))))) ρ = some (.dat (.bool false)) := fun ρ => ne_self (plain_nI _) (by rw [depthAll_nI]; decide)
  have q2 : ∀ ρ, gNe (.tmp (.lst (NL (2 ^ m) ++ NL (2 ^ m)))) (.tmp (.lst (NL (2 ^ m) ++ NL (2 ^ m)))) ρ = some (.dat (.bool false)) := fun ρ => by
    rw [← List.map_append]
    exact ne_self (plain_nI _) (by rw [depthAll_nI]; decide)
  have t3 : (fIfS (fOr (fTst (fBin gNe (fCB gSortedI (fCons (fBin gAdd (fVar 5) (fVar 6)) fNil)) (fListRg (fRg1 (fBin gShl (fC (.int 2)) (fVar 0)))))) (fTst (fBin gNe (fLc (fItE (fBin gAdd (fVar 5) (fVar 6))) (tgN false 8) fYes le__law_are_all_told_5 [8]) (fBin gAdd (fVar 3) (fVar 3))))) (fRet [0] (fC (.bool false))) fNext) (AE m x1 x2 (oT (NL (2 ^ m))) (di p) (oT (Zs.map nI)) (oT (Os.map nI)) none none) = some (.nx (AE m x1 x2 (oT (NL (2 ^ m))) (di p) (oT (Zs.map nI)) (oT (Os.map nI)) none none)) := by
    have w1 : (fBin gNe (fCB gSortedI (fCons (fBin gAdd (fVar 5) (fVar 6)) fNil)) (fListRg (fRg1 (fBin gShl (fC (.int 2)) (fVar 0))))) (AE m x1 x2 (oT (NL (2 ^ m))) (di p) (oT (Zs.map nI)) (oT (Os.map nI)) none none) = some (.dat (.bool false), AE m x1 x2 (oT (NL (2 ^ m))) (di p) (oT (Zs.map nI)) (oT (Os.map nI)) none none) := by
      rw [ev_bin, ev_CB, ev_cons, hz]
      simp only [Option.bind_some, ev_nil, Option.map_some, hsort, hrg, q1]
    have w2 : (fBin gNe (fLc (fItE (fBin gAdd (fVar 5) (fVar 6))) (tgN false 8) fYes le__law_are_all_told_5 [8]) (fBin gAdd (fVar 3) (fVar 3))) (AE m x1 x2 (oT (NL (2 ^ m))) (di p) (oT (Zs.map nI)) (oT (Os.map nI)) none none) = some (.dat (.bool false), AE m x1 x2 (oT (NL (2 ^ m))) (di p) (oT (Zs.map nI)) (oT (Os.map nI)) none none) := by
      rw [ev_bin, e3]
      simp only [Option.bind_some, hl, q2, Option.map_some]
    rw [ev_ifS, ev_or, ev_tst, w1]
    simp only [Option.bind_some, ev_boolOf, Option.map_some, Bool.false_eq_true, if_false, ev_tst, w2, ev_next]
  exact ⟨_, _, (seq_nx t1).trans ((seq_nx t2).trans t3)⟩
end LW

namespace LW
open PySem PySem.Spec PyProof.Rows L2 PD
theorem e_all {m : Nat} (hm : m ≤ 10) : m__law_are_all_told [.dat (.int m)] = some (.dat (.bool true), []) := by
  have g : ∀ n, n ≤ 1000 → guardP (n ≤ sizeLine) = some () := fun n hn => guard_small (by omega)
  have h1024 : 2 ^ m ≤ 1024 := Nat.pow_le_pow_right (n := 2) (by decide) hm
  have c1 := e_letters_for (n := m) (by omega)
  have c2 := e_letters_for (n := m + 1) (by omega)
  have hs1 := shl_ok (c := 1) (.inl rfl) hm
  have hs2 := shl_ok (c := 2) (.inr rfl) hm
  have s1 := same6 (sok_cons (.int 4 (2 ^ m : Nat)) (sok_cons (.int 4 (2 ^ (m + 1) : Nat)) sok_nil (by simp)) (by simp))
  have t1 : sd__law_are_all_told_1 (AE m none none none none none none none none) = some (.nx (AE m none none none none none none none none)) := by
    have a1 : ∀ ρ, gAdd (.dat (.int m)) (.dat (.int 1)) ρ = some (.dat (.int ((m + 1 : Nat) : Int))) := fun ρ => rfl
    have b1 : ∀ ρ, gI CShl (fun i j => .int (i * 2 ^ j.toNat)) (.dat (.int 1)) (.dat (.int (m : Nat))) ρ = some (.dat (.int (2 ^ m : Nat))) := fun ρ => by
      rw [ev_gI]
      simp [hs1]
    have b2 : ∀ ρ, gI CShl (fun i j => .int (i * 2 ^ j.toNat)) (.dat (.int 2)) (.dat (.int (m : Nat))) ρ = some (.dat (.int (2 ^ (m + 1) : Nat))) := fun ρ => by
      rw [ev_gI]
      simp [hs2, Nat.pow_succ, Int.mul_comm]
    generalize ((m + 1 : Nat) : Int) = M1 at *
    generalize ((2 ^ m : Nat) : Int) = A at *
    generalize ((2 ^ (m + 1) : Nat) : Int) = B at *
    simp [-ev_gI, -ev_add, sd__law_are_all_told_1, g, c1, a1, c2, b1, b2, s1]
  have t2 : sd__law_are_all_told_2 (AE m none none none none none none none none) = some (.nx (AE m (oT (RW 0)) none none none none none none none)) := by
    have : RW 0 = [.tuple []] := rfl
    simp [sd__law_are_all_told_2, g, this]
  obtain ⟨o2, e3⟩ := all_rows hm
  have t3 : sd__law_are_all_told_3 (AE m (oT (RW 0)) none none none none none none none) = some (.nx (AE m (oT (RW m)) o2 none none none none none none)) := for_rng (n := m) (by simp) (by omega) e3
  have e4 : fLc (fItE (fVar 1)) (tgN false 7) fYes le__law_are_all_told_3 [7] (AE m (oT (RW m)) o2 none none none none none none) = some (.tmp (.lst (NL (2 ^ m))), AE m (oT (RW m)) o2 none none none none none none) :=
    lc_lstN (i := 1) (row m) (List.range (2 ^ m)) nI (by simp) (by simp; rfl) (by simp; omega) (by simp) (by simp) fun i hi => by
      have c := letters_row hm (List.mem_range.mp hi)
      refine ⟨AE m (oT (RW m)) o2 none none none none (some (.dat (row m i))) none, AE m (oT (RW m)) o2 none none none none (some (.dat (row m i))) none, by simp, ?_, by simp⟩
      simp [le__law_are_all_told_3, c]
  have t4 : sd__law_are_all_told_4 (AE m (oT (RW m)) o2 none none none none none none) = some (.nx (AE m (oT (RW m)) o2 (oT (NL (2 ^ m))) none none none none none)) := by
    unfold sd__law_are_all_told_4
    rw [ev_set, e4]
    simp
  have e5 : fLc (fItE (fVar 3)) (tgN false 8) fYes le__law_are_all_told_4 [8] (AE m (oT (RW m)) o2 (oT (NL (2 ^ m))) none none none none none) = some (.tmp (.lst (RW m)), AE m (oT (RW m)) o2 (oT (NL (2 ^ m))) none none none none none) :=
    lc_lstN (i := 3) nI (List.range (2 ^ m)) (row m) (by simp) (by simp) (by simp; omega) (by simp) (by simp) fun i hi => by
      have c := e_digits_in i (t := m) (by omega)
      refine ⟨AE m (oT (RW m)) o2 (oT (NL (2 ^ m))) none none none none (di i), AE m (oT (RW m)) o2 (oT (NL (2 ^ m))) none none none none (di i), by simp [nI], ?_, by simp⟩
      simp [le__law_are_all_told_4, c, row]
  have q1 : gNe (.plc 3) (.tmp (.lst (NL (2 ^ m)))) (AE m (oT (RW m)) o2 (oT (NL (2 ^ m))) none none none none none) = some (.dat (.bool false)) :=
    ne_self (ρ := AE m (oT (RW m)) o2 (oT (NL (2 ^ m))) none none none none none) (plain_nI _) (by rw [depthAll_nI]; decide)
  have q2 : gNe (.tmp (.lst (RW m))) (.plc 1) (AE m (oT (RW m)) o2 (oT (NL (2 ^ m))) none none none none none) = some (.dat (.bool false)) :=
    ne_self (ρ := AE m (oT (RW m)) o2 (oT (NL (2 ^ m))) none none none none none) (plain_RW _) (by have := depth_RW m; omega)
  have hrg := rg1_ok (m := m) (ρ := AE m (oT (RW m)) o2 (oT (NL (2 ^ m))) none none none none none) hm rfl
  have t5 : sd__law_are_all_told_5 (AE m (oT (RW m)) o2 (oT (NL (2 ^ m))) none none none none none) = some (.nx (AE m (oT (RW m)) o2 (oT (NL (2 ^ m))) none none none none none)) := by
    have w1 : (fBin gNe (fVar 3) (fListRg (fRg1 (fBin gShl (fC (.int 1)) (fVar 0))))) (AE m (oT (RW m)) o2 (oT (NL (2 ^ m))) none none none none none) = some (.dat (.bool false), AE m (oT (RW m)) o2 (oT (NL (2 ^ m))) none none none none none) := by
      rw [ev_bin, ev_var]
      simp only [List.getElem?_cons_succ, List.getElem?_cons_zero, Option.bind_some, hrg, q1, Option.map_some]
    have w2 : (fBin gNe (fLc (fItE (fVar 3)) (tgN false 8) fYes le__law_are_all_told_4 [8]) (fVar 1)) (AE m (oT (RW m)) o2 (oT (NL (2 ^ m))) none none none none none) = some (.dat (.bool false), AE m (oT (RW m)) o2 (oT (NL (2 ^ m))) none none none none none) := by
      rw [ev_bin, e5]
      simp only [Option.bind_some, ev_var, List.getElem?_cons_succ, List.getElem?_cons_zero, q2, Option.map_some]
    unfold sd__law_are_all_told_5
    rw [ev_ifS, ev_or, ev_tst, w1]
    simp only [Option.bind_some, ev_boolOf, Option.map_some, Bool.false_eq_true, if_false, ev_tst, w2, ev_next]
  obtain ⟨⟨o4, o5, o6⟩, e6, _⟩ := for_t (β := Option Sl × Option Sl × Option Sl) (g := tgN false 4) (b := lb__law_are_all_told_2) (fun _ o => AE m (oT (RW m)) o2 (oT (NL (2 ^ m))) o.1 o.2.1 o.2.2 none none) (fun _ _ => True) [PyData.int 0, .int m] (fun i x ⟨o4, o5, o6⟩ hx _ => by
    obtain ⟨p, rfl, hp⟩ : ∃ p : Nat, x = .int p ∧ (p = 0 ∨ p = m) := by
      have := List.mem_of_getElem? hx
      simp at this
      rcases this with rfl | rfl
      · exact ⟨0, rfl, .inl rfl⟩
      · exact ⟨m, rfl, .inr rfl⟩
    obtain ⟨y5, y6, e⟩ := all_turn (m := m) (p := p) (x1 := oT (RW m)) (x2 := o2) (x5 := o5) (x6 := o6) hm hp
    exact ⟨AE m (oT (RW m)) o2 (oT (NL (2 ^ m))) (di p) o5 o6 none none, ⟨di p, y5, y6⟩, by simp, .inl e, trivial⟩) (none, none, none) trivial
  have t6 : sd__law_are_all_told_6 (AE m (oT (RW m)) o2 (oT (NL (2 ^ m))) none none none none none) = some (.nx (AE m (oT (RW m)) o2 (oT (NL (2 ^ m))) o4 o5 o6 none none)) := for_tup (by simp [g]) e6
  have t7 : sd__law_are_all_told_7 (AE m (oT (RW m)) o2 (oT (NL (2 ^ m))) o4 o5 o6 none none) = some (.rt (.dat (.bool true)) (AE m (oT (RW m)) o2 (oT (NL (2 ^ m))) o4 o5 o6 none none)) := by
    simp [sd__law_are_all_told_7]
  exact run_rt rfl (ρ := AE m (oT (RW m)) o2 (oT (NL (2 ^ m))) o4 o5 o6 none none) ((seq_nx t1).trans ((seq_nx t2).trans ((seq_nx t3).trans ((seq_nx t4).trans ((seq_nx t5).trans ((seq_nx t6).trans t7)))))) rfl
end LW

namespace LW
open PySem PySem.Spec PyProof.Rows L2 PD
abbrev LE (ns : List Int) (ds : List Int) (x2 x3 x4 : Option Sl) : Ev := [some (.rol (ns.map .int)), ol ds, x2, x3, x4]
theorem law_body {ns ds : List Int} {m : Nat} (hm : m ≤ 10) {x3 x4 : Option Sl} : ∃ (ds' : List Int) (y3 : Option Sl), lb_law_1 (LE ns ds (di m) x3 x4) = some (.nx (LE ns ds' (di m) y3 x4)) := by
  have g : ∀ n, n ≤ 10 → guardP (n ≤ sizeLine) = some () := fun n hn => guard_small (by omega)
  obtain ⟨own, ds1, k1, ho, hl⟩ := e_drawn (ds := ds) (many := m) (by omega)
  obtain ⟨ds2, k2⟩ := e_letter (ds := ds1) hm ho hl
  obtain ⟨ds3, k3⟩ := e_picks (ds := ds2) hm ho hl
  obtain ⟨ds4, k4⟩ := e_letter (ds := ds3) (own := List.range m) hm (fun k hk => List.mem_range.mp hk) (by simp)
  obtain ⟨ds5, k5⟩ := e_letter (ds := ds4) (own := []) hm (by simp) (by simp)
  have k5' : m__law_is_letter_told [.obj (.lst (ds4.map .int)), .dat (.int m), .dat (.tuple [])] = some (.dat (.bool true), [.lst (ds5.map .int)]) := k5
  have hr : fTupRg (fRg1 (fVar 2)) (LE ns ds3 (di m) (dt (own.map nI)) x4) = some (.dat (.tuple ((List.range m).map nI)), LE ns ds3 (di m) (dt (own.map nI)) x4) := by
    unfold fTupRg fRg1
    have hg : guardP (RgOk 0 (m : Int)) = some () := guardP_pos (by unfold RgOk; refine ⟨by omega, by omega, by omega, by omega, by omega⟩)
    have : rgT 0 (m : Int) = (List.range m).map nI := by unfold rgT nI; simp
    simp [hg, this]
  refine ⟨ds5, dt (own.map nI), ?_⟩
  have t1 : fSet false 3 (fCall m__law_drawn_set (fCons (fVar 1) (fCons (fVar 2) fNil))) (LE ns ds (di m) x3 x4) = some (.nx (LE ns ds1 (di m) (dt (own.map nI)) x4)) := by simp [k1]
  generalize List.range m = R at *
  refine (seq_nx t1).trans ?_
  simp [k2, k3, hr, k4, k5', g]
theorem law_true (ns : List Int) (h63 : ns.length ≤ 63) (_ : ∀ z ∈ ns, PySem.Builtin.Int.intBits z ≤ 1048576) : ∃ cs, m_law [.rol (ns.map .int)] = some (.dat (.bool true), cs) := by
  have g : ∀ n, n ≤ 10 → guardP (n ≤ sizeLine) = some () := fun n hn => guard_small (by omega)
  obtain ⟨ds, hd⟩ := draws_ok ns 260 (by omega) (by decide)
  have hd : m__law_draws [.rol (ns.map .int), .dat (.int 260)] = some (.obj (.lst (ds.map .int)), []) := hd
  have t1 : sd_law_1 [some (.rol (ns.map .int)), none, none, none, none] = some (.nx (LE ns ds none none none)) := by
    simp [sd_law_1, hd]
  obtain ⟨v1, ds1, k1, l1⟩ := e_take (ds := ds) (many := 5) (by decide)
  obtain ⟨v2, ds2, k2, l2⟩ := e_take (ds := ds1) (many := 5) (by decide)
  obtain ⟨⟨ds3, o2, o3⟩, e2, _⟩ := for_t (β := List Int × Option Sl × Option Sl) (g := tgN false 2) (b := lb_law_1) (fun _ o => LE ns o.1 o.2.1 o.2.2 none) (fun _ _ => True) [PyData.int (5 + v1), .int 6, .int (1 + v2), .int 9] (fun i x ⟨ds, x2, x3⟩ hx _ => by
    obtain ⟨m, rfl, hm⟩ : ∃ m : Nat, x = .int m ∧ m ≤ 10 := by
      have := List.mem_of_getElem? hx
      simp at this
      rcases this with rfl | rfl | rfl | rfl
      · exact ⟨5 + v1, by simp, by omega⟩
      · exact ⟨6, rfl, by decide⟩
      · exact ⟨1 + v2, by simp, by omega⟩
      · exact ⟨9, rfl, by decide⟩
    obtain ⟨ds', y3, e⟩ := law_body (ns := ns) (ds := ds) (m := m) hm (x3 := x3) (x4 := none)
    exact ⟨LE ns ds (di m) x3 none, ⟨ds', di m, y3⟩, by simp, .inl e, trivial⟩) (ds2, none, none) trivial
  have t2 : sd_law_2 (LE ns ds none none none) = some (.nx (LE ns ds3 o2 o3 none)) := for_tup (by simp [k1, k2, g]) e2
  obtain ⟨o4, e3, _⟩ := for_t (β := Option Sl) (g := tgN false 2) (b := lb_law_2) (fun _ o => LE ns ds3 o o3 none) (fun _ _ => True) [PyData.int 0, .int 1, .int 5, .int 6] (fun i x o hx _ => by
    obtain ⟨m, rfl, hm⟩ : ∃ m : Nat, x = .int m ∧ m ≤ 10 := by
      have := List.mem_of_getElem? hx
      simp at this
      rcases this with rfl | rfl | rfl | rfl
      · exact ⟨0, rfl, by decide⟩
      · exact ⟨1, rfl, by decide⟩
      · exact ⟨5, rfl, by decide⟩
      · exact ⟨6, rfl, by decide⟩
    have e := e_all hm
    exact ⟨LE ns ds3 (di m) o3 none, di m, by simp, .inl (by simp [lb_law_2, e]), trivial⟩) o2 trivial
  have t3 : sd_law_3 (LE ns ds3 o2 o3 none) = some (.nx (LE ns ds3 o4 o3 none)) := for_tup (by simp [g]) e3
  have c1 : m_letter_of [.dat (.tuple [])] = some (.dat (.int 0), []) := e_letter_of (fun _ => false) (n := 0) (by decide)
  have c2 : m_digits_in [.dat (.int 0), .dat (.int 0)] = some (.dat (.tuple []), []) := e_digits_in 0 (t := 0) (by decide)
  have c3 : m_picked_letter [.dat (.int 5), .dat (.tuple [.int 2, .int 1])] = some (.dat (.int 1), []) := e_pk 5 (ps := [2, 1]) (by decide)
  have c4 : m_letter_with [.dat (.int 5), .dat (.int 6), .dat (.int 1)] = some (.dat (.int 69), []) := e_with (x := 5) (pl := 6) true (by decide) (by decide)
  have c5 : m_letter_with [.dat (.int 0), .dat (.int 8), .dat (.int 1)] = some (.dat (.int 256), []) := e_with (x := 0) (pl := 8) true (by decide) (by decide)
  have c6 : m_letter_without [.dat (.int 511), .dat (.int 4)] = some (.dat (.int 255), []) := e_without (x := 511) (pl := 4) (by decide) (by decide)
  have s := same6 (sok_cons (.int 4 0) (sok_cons sok_nil (sok_cons (.int 4 1) (sok_cons (.int 4 69) (sok_cons (.int 4 256) (sok_cons (.int 4 255) sok_nil (by simp)) (by simp)) (by simp)) (by simp)) (by simp)) (by simp))
  have t4 : sd_law_4 (LE ns ds3 o4 o3 none) = some (.nx (LE ns ds3 o4 o3 (dt [.int 0, .tuple [], .int 1, .int 69, .int 256, .int 255]))) := by
    simp [sd_law_4, g, c1, c2, c3, c4, c5, c6]
  have t5 : sd_law_5 (LE ns ds3 o4 o3 (dt [.int 0, .tuple [], .int 1, .int 69, .int 256, .int 255])) = some (.rt (.dat (.bool true)) (LE ns ds3 o4 o3 (dt [.int 0, .tuple [], .int 1, .int 69, .int 256, .int 255]))) := by
    simp [sd_law_5, g, s]
  exact ⟨[], run_rt rfl (ρ := LE ns ds3 o4 o3 (dt [.int 0, .tuple [], .int 1, .int 69, .int 256, .int 255])) ((seq_nx t1).trans ((seq_nx t2).trans ((seq_nx t3).trans ((seq_nx t4).trans t5)))) (by simp)⟩
end LW

open PySem PySem.W PyProof.Rows
set_option maxRecDepth 100000 in
set_option maxHeartbeats 0 in
theorem PySem.Challenge.cw_everynumber_k01_letters_as_sets_of_track_holds : PySem.Challenge.rw_everynumber_k01_letters_as_sets_of_track.Holds := by
  w_on; o_law; k_head; (case hw => w_witness2)
  k_fill
  refine PD.walk_pd (l := PySem.Challenge.rw_everynumber_k01_letters_as_sets_of_track) (k := 8) (m := LW.m_law) rfl rfl ⟨rfl, by decide, by decide⟩ (fun w h Y => PySem.W.kIn_of Y) ?F (fun ns h1 h2 => LW.law_true ns h1 h2)
  case F =>
    intro w mg fa h KX G hmg
    have B : PD.Bs mg := by
      refine' PD.bs_mk KX G ?_ ?_ ?_ ?_ ?_ ?_ ?_ ?_ ?_ ?_ ?_ ?_ ?_ ?_ ?_ ?_ ?_ <;> k_is
    have A_letters_for : PD.At (PD.KOf KX) mg "letters_for" LW.s_letters_for ["tracks"] := by
      refine' PD.at_mk KX G ?a ?l ?c ?k (fun _ _ _ _ _ _ us hl => match us, hl with | [_], _ => rfl)
      (case a => k_is); (case l => k_is); (case c => k_is); (case k => k_is)
    have A_digits_in : PD.At (PD.KOf KX) mg "digits_in" LW.s_digits_in ["letter", "tracks"] := by
      refine' PD.at_mk KX G ?a ?l ?c ?k (fun _ _ _ _ _ _ us hl => match us, hl with | [_, _], _ => rfl)
      (case a => k_is); (case l => k_is); (case c => k_is); (case k => k_is)
    have A_letter_of : PD.At (PD.KOf KX) mg "letter_of" LW.s_letter_of ["digits"] := by
      refine' PD.at_mk KX G ?a ?l ?c ?k (fun _ _ _ _ _ _ us hl => match us, hl with | [_], _ => rfl)
      (case a => k_is); (case l => k_is); (case c => k_is); (case k => k_is)
    have A_picked_letter : PD.At (PD.KOf KX) mg "picked_letter" LW.s_picked_letter ["letter", "places"] := by
      refine' PD.at_mk KX G ?a ?l ?c ?k (fun _ _ _ _ _ _ us hl => match us, hl with | [_, _], _ => rfl)
      (case a => k_is); (case l => k_is); (case c => k_is); (case k => k_is)
    have A_letter_with : PD.At (PD.KOf KX) mg "letter_with" LW.s_letter_with ["letter", "place", "digit"] := by
      refine' PD.at_mk KX G ?a ?l ?c ?k (fun _ _ _ _ _ _ us hl => match us, hl with | [_, _, _], _ => rfl)
      (case a => k_is); (case l => k_is); (case c => k_is); (case k => k_is)
    have A_letter_without : PD.At (PD.KOf KX) mg "letter_without" LW.s_letter_without ["letter", "place"] := by
      refine' PD.at_mk KX G ?a ?l ?c ?k (fun _ _ _ _ _ _ us hl => match us, hl with | [_, _], _ => rfl)
      (case a => k_is); (case l => k_is); (case c => k_is); (case k => k_is)
    have A__law_draws : PD.At (PD.KOf KX) mg "_law_draws" LW.s__law_draws ["script", "many"] := by
      refine' PD.at_mk KX G ?a ?l ?c ?k (fun _ _ _ _ _ _ us hl => match us, hl with | [_, _], _ => rfl)
      (case a => k_is); (case l => k_is); (case c => k_is); (case k => k_is)
    have A__law_take : PD.At (PD.KOf KX) mg "_law_take" LW.s__law_take ["draws", "many"] := by
      refine' PD.at_mk KX G ?a ?l ?c ?k (fun _ _ _ _ _ _ us hl => match us, hl with | [_, _], _ => rfl)
      (case a => k_is); (case l => k_is); (case c => k_is); (case k => k_is)
    have A__law_same : PD.At (PD.KOf KX) mg "_law_same" LW.s__law_same ["actual", "due"] := by
      refine' PD.at_mk KX G ?a ?l ?c ?k (fun _ _ _ _ _ _ us hl => match us, hl with | [_, _], _ => rfl)
      (case a => k_is); (case l => k_is); (case c => k_is); (case k => k_is)
    have A__law_order : PD.At (PD.KOf KX) mg "_law_order" LW.s__law_order ["draws", "many"] := by
      refine' PD.at_mk KX G ?a ?l ?c ?k (fun _ _ _ _ _ _ us hl => match us, hl with | [_, _], _ => rfl)
      (case a => k_is); (case l => k_is); (case c => k_is); (case k => k_is)
    have A__law_of_set : PD.At (PD.KOf KX) mg "_law_of_set" LW.s__law_of_set ["tracks"] := by
      refine' PD.at_mk KX G ?a ?l ?c ?k (fun _ _ _ _ _ _ us hl => match us, hl with | [_], _ => rfl)
      (case a => k_is); (case l => k_is); (case c => k_is); (case k => k_is)
    have A__law_drawn_set : PD.At (PD.KOf KX) mg "_law_drawn_set" LW.s__law_drawn_set ["draws", "many"] := by
      refine' PD.at_mk KX G ?a ?l ?c ?k (fun _ _ _ _ _ _ us hl => match us, hl with | [_, _], _ => rfl)
      (case a => k_is); (case l => k_is); (case c => k_is); (case k => k_is)
    have A__law_is_letter_told : PD.At (PD.KOf KX) mg "_law_is_letter_told" LW.s__law_is_letter_told ["draws", "many", "own"] := by
      refine' PD.at_mk KX G ?a ?l ?c ?k (fun _ _ _ _ _ _ us hl => match us, hl with | [_, _, _], _ => rfl)
      (case a => k_is); (case l => k_is); (case c => k_is); (case k => k_is)
    have A__law_are_picks_told : PD.At (PD.KOf KX) mg "_law_are_picks_told" LW.s__law_are_picks_told ["draws", "many", "own"] := by
      refine' PD.at_mk KX G ?a ?l ?c ?k (fun _ _ _ _ _ _ us hl => match us, hl with | [_, _, _], _ => rfl)
      (case a => k_is); (case l => k_is); (case c => k_is); (case k => k_is)
    have A__law_are_all_told : PD.At (PD.KOf KX) mg "_law_are_all_told" LW.s__law_are_all_told ["many"] := by
      refine' PD.at_mk KX G ?a ?l ?c ?k (fun _ _ _ _ _ _ us hl => match us, hl with | [_], _ => rfl)
      (case a => k_is); (case l => k_is); (case c => k_is); (case k => k_is)
    have A_law : PD.At (PD.KOf KX) mg "law" LW.s_law ["script"] := by
      refine' PD.at_mk KX G ?a ?l ?c ?k (fun _ _ _ _ _ _ us hl => match us, hl with | [_], _ => rfl)
      (case a => k_is); (case l => k_is); (case c => k_is); (case k => k_is)
    exact LW.law_fn B A_letters_for A_digits_in A_letter_of A_picked_letter A_letter_with A_letter_without A__law_draws A__law_take A__law_same A__law_order A__law_of_set A__law_drawn_set A__law_is_letter_told A__law_are_picks_told A__law_are_all_told A_law hmg
