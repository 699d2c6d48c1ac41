import PyProof.Rows.All
import Wide.All
import OpenK.AllK
import Wide.FinOn
import HandS.ForMost
import HandS.IsInst
import HandS.Codes
import HandS.More
import HandS.SortInts
import HandS.DictComp
import HandS.Conv
import HandS.Walk
import HandS.SetKeys
import HandS.Zip
import KE.KDictIter
import PySem.Challenge.RW_someandall_k89_plans_that_fit
set_option Elab.async false
set_option linter.all false
set_option maxRecDepth 100000
set_option maxHeartbeats 8000000

/-! The own layer over the rules: a frozen heap F, owned cells, their frame; representations of data. -/
namespace G
open PySem PySem.Spec PyProof.Rows L2

abbrev Own := List (Addr × HO)
/-- the frozen heap with the cells over it -/
def ov (F : Hp) : Own → Hp
  | [] => F
  | (a, o) :: cs => upd (ov F cs) a o
/-- the state: frozen part F, owned cells cs, all within H -/
structure Sta (F : Hp) (cs : Own) (H : Hp) : Prop where
  sub : Same F H
  own : ∀ a o, (a, o) ∈ cs → H a = some o ∧ F a = none
  nd : (cs.map (·.1)).Nodup

theorem mem_fst {cs : Own} {a : Addr} {o : HO} (h : (a, o) ∈ cs) : a ∈ cs.map (·.1) := List.mem_map.mpr ⟨_, h, rfl⟩
theorem ov_or {F : Hp} : ∀ {cs : Own} {b : Addr} {o : HO}, ov F cs b = some o → (b, o) ∈ cs ∨ (F b = some o ∧ ∀ u, (b, u) ∉ cs)
  | [], _, _, h => .inr ⟨h, fun _ q => nomatch q⟩
  | (a, u) :: cs, b, o, h => by
    by_cases e : b = a
    · subst e
      have h' : upd (ov F cs) b u b = some o := h
      rw [upd_same] at h'
      cases h'
      exact .inl (.head _)
    · have h' : upd (ov F cs) a u b = some o := h
      rw [upd_ne e] at h'
      rcases ov_or h' with q | ⟨q, n⟩
      · exact .inl (.tail _ q)
      · refine .inr ⟨q, fun v m => ?_⟩
        cases m with
        | head => exact e rfl
        | tail _ m => exact n v m
theorem ov_mem {F : Hp} : ∀ {cs : Own} {b : Addr} {o : HO}, (cs.map (·.1)).Nodup → (b, o) ∈ cs → ov F cs b = some o
  | (a, u) :: cs, b, o, nd, m => by
    have nd' : a ∉ cs.map (·.1) ∧ (cs.map (·.1)).Nodup := List.nodup_cons.mp nd
    cases m with
    | head => exact upd_same
    | tail _ m =>
      have ne : b ≠ a := fun e => nd'.1 (e ▸ mem_fst m)
      show upd (ov F cs) a u b = some o
      rw [upd_ne ne]
      exact ov_mem nd'.2 m
theorem ov_F {F : Hp} : ∀ {cs : Own} {b : Addr} {o : HO}, F b = some o → (∀ a u, (a, u) ∈ cs → F a = none) → ov F cs b = some o
  | [], _, _, h, _ => h
  | (a, u) :: cs, b, o, h, n => by
    have ne : b ≠ a := fun e => by
      have q := n a u (.head _)
      rw [← e, h] at q
      cases q
    show upd (ov F cs) a u b = some o
    rw [upd_ne ne]
    exact ov_F h fun a u m => n a u (.tail _ m)

section
variable {F F0 F' : Hp} {cs R : Own} {H : Hp} {a p : Addr} {o : HO}
theorem Sta.mono0 (S : Sta F cs H) : Sta F cs H := S
/-- what a frame shows stands in the heap -/
theorem Sta.bor (S : Sta F cs H) (f : Same F0 F) (m : ∀ c ∈ R, c ∈ cs) : Same (ov F0 R) H := fun b o h => by
  rcases ov_or h with q | ⟨q, _⟩
  · exact (S.own _ _ (m _ q)).1
  · exact S.sub _ _ (f _ _ q)
/-- .. and in a greater frame -/
theorem Sta.ovR (S : Sta F cs H) (f : Same F0 F) (m : ∀ c ∈ R, c ∈ cs) : Same (ov F0 R) (ov F cs) := fun b o h => by
  rcases ov_or h with q | ⟨q, _⟩
  · exact ov_mem S.nd (m _ q)
  · exact ov_F (f _ _ q) fun a u m => (S.own a u m).2
theorem Sta.ovS (S : Sta F cs H) : Same F (ov F cs) := fun _ _ h => ov_F h fun a u m => (S.own a u m).2
theorem Sta.get (S : Sta F cs H) (i : Nat) (e : cs[i]? = some (a, o)) : H a = some o := (S.own a o (List.mem_of_getElem? e)).1
theorem Sta.getO (S : Sta F cs H) (i : Nat) (e : cs[i]? = some (a, o)) : ov F cs a = some o := ov_mem S.nd (List.mem_of_getElem? e)
theorem nd_set : ∀ {cs : Own} {i : Nat} {a : Addr} {o o' : HO}, cs[i]? = some (a, o) → (cs.set i (a, o')).map (·.1) = cs.map (·.1)
  | [], _, _, _, _, h => by simp at h
  | c :: cs, 0, a, o, o', h => by
    simp at h
    subst h
    rfl
  | c :: cs, i + 1, a, o, o', h => by
    have h' : cs[i]? = some (a, o) := by simpa using h
    show c.1 :: (cs.set i (a, o')).map (·.1) = c.1 :: cs.map (·.1)
    rw [nd_set h']
theorem mem_set : ∀ {cs : Own} {i : Nat} {a : Addr} {o o' : HO} {c : Addr × HO}, (cs.map (·.1)).Nodup → cs[i]? = some (a, o) → c ∈ cs.set i (a, o') → c = (a, o') ∨ (c ∈ cs ∧ c.1 ≠ a)
  | [], _, _, _, _, _, _, h, _ => by simp at h
  | d :: cs, 0, a, o, o', c, nd, h, m => by
    have nd' : d.1 ∉ cs.map (·.1) ∧ (cs.map (·.1)).Nodup := List.nodup_cons.mp nd
    simp at h
    subst h
    have m' : c ∈ (a, o') :: cs := m
    cases m' with
    | head => exact .inl rfl
    | tail _ q => exact .inr ⟨.tail _ q, fun e => nd'.1 (e ▸ mem_fst (o := c.2) q)⟩
  | d :: cs, i + 1, a, o, o', c, nd, h, m => by
    have nd' : d.1 ∉ cs.map (·.1) ∧ (cs.map (·.1)).Nodup := List.nodup_cons.mp nd
    have h' : cs[i]? = some (a, o) := by simpa using h
    have m' : c ∈ d :: cs.set i (a, o') := m
    cases m' with
    | head => exact .inr ⟨.head _, fun e => nd'.1 (e ▸ mem_fst (List.mem_of_getElem? h'))⟩
    | tail _ q =>
      rcases mem_set nd'.2 h' q with z | ⟨z, n⟩
      · exact .inl z
      · exact .inr ⟨.tail _ z, n⟩
theorem Sta.set (S : Sta F cs H) (i : Nat) (e : cs[i]? = some (a, o)) (o' : HO) : Sta F (cs.set i (a, o')) (upd H a o') where
  sub := fun b u h => by
    have ne : b ≠ a := fun q => by
      have z := (S.own a o (List.mem_of_getElem? e)).2
      rw [← q, h] at z
      cases z
    rw [upd_ne ne]
    exact S.sub b u h
  own := fun b u m => by
    rcases mem_set S.nd e m with z | ⟨z, n⟩
    · cases z
      exact ⟨upd_same, (S.own a o (List.mem_of_getElem? e)).2⟩
    · rw [upd_ne n]
      exact S.own b u z
  nd := by
    rw [nd_set e]
    exact S.nd
theorem Sta.noF (S : Sta F cs H) (h : H p = none) : F p = none := S.sub.free h
theorem Sta.noC (S : Sta F cs H) (h : H p = none) {u : HO} : (p, u) ∉ cs := fun m => by
  have z := (S.own p u m).1
  rw [h] at z
  cases z
/-- a new cell -/
theorem Sta.new (S : Sta F cs H) (h : H p = none) (o : HO) : Sta F ((p, o) :: cs) (upd H p o) where
  sub := fun b u q => by
    rw [upd_ne (ne_of_none (S.sub b u q) h)]
    exact S.sub b u q
  own := fun b u m => by
    cases m with
    | head => exact ⟨upd_same, S.noF h⟩
    | tail _ m =>
      rw [upd_ne (ne_of_none (S.own b u m).1 h)]
      exact S.own b u m
  nd := List.nodup_cons.mpr ⟨fun m => by
    obtain ⟨⟨b, u⟩, q, e⟩ := List.mem_map.mp m
    have e' : b = p := e
    subst e'
    exact S.noC h q, S.nd⟩
/-- a new object of the frozen part -/
theorem Sta.newF (S : Sta F cs H) (h : H p = none) (o : HO) : Sta (upd F p o) cs (upd H p o) where
  sub := fun b u q => by
    by_cases e : b = p
    · subst e
      rw [upd_same] at q ⊢
      exact q
    · rw [upd_ne e] at q ⊢
      exact S.sub b u q
  own := fun b u m => by
    have ne : b ≠ p := ne_of_none (S.own b u m).1 h
    rw [upd_ne ne, upd_ne ne]
    exact S.own b u m
  nd := S.nd
theorem Sta.sameF (S : Sta F cs H) (h : H p = none) (o : HO) : Same F (upd F p o) := fun b u q => by
  have ne : b ≠ p := fun e => by
    have z := S.noF h
    rw [← e, q] at z
    cases z
  rw [upd_ne ne]
  exact q
/-- a cell is frozen -/
theorem Sta.frz (S : Sta F ((p, o) :: cs) H) : Sta (upd F p o) cs H where
  sub := fun b u q => by
    by_cases e : b = p
    · subst e
      rw [upd_same] at q
      cases q
      exact (S.own _ _ (.head _)).1
    · rw [upd_ne e] at q
      exact S.sub b u q
  own := fun b u m => by
    have nd' : p ∉ cs.map (·.1) ∧ (cs.map (·.1)).Nodup := List.nodup_cons.mp S.nd
    have ne : b ≠ p := fun e => nd'.1 (e ▸ mem_fst m)
    rw [upd_ne ne]
    exact S.own b u (.tail _ m)
  nd := (List.nodup_cons.mp S.nd).2
theorem Sta.frzS (S : Sta F ((p, o) :: cs) H) : Same F (upd F p o) := fun b u q => by
  have ne : b ≠ p := fun e => by
    have z := (S.own p o (.head _)).2
    rw [← e, q] at z
    cases z
  rw [upd_ne ne]
  exact q
theorem Sta.tl {c : Addr × HO} (S : Sta F (c :: cs) H) : Sta F cs H := ⟨S.sub, fun a o m => S.own a o (.tail _ m), (List.nodup_cons.mp S.nd).2⟩
/-- other cells of the same frame, in another sequence -/
theorem Sta.sel (S : Sta F cs H) {cs' : Own} (nd : (cs'.map (·.1)).Nodup) (m : ∀ c ∈ cs', c ∈ cs) : Sta F cs' H :=
  ⟨S.sub, fun a o q => S.own a o (m _ q), nd⟩
theorem nodup_pick {α : Type} : ∀ {is : List Nat} {xs ys : List α}, xs.Nodup → is.Nodup → is.map (xs[·]?) = ys.map some → ys.Nodup
  | [], _, [], _, _, _ => List.nodup_nil
  | [], _, _ :: _, _, _, e => by simp at e
  | _ :: _, _, [], _, _, e => by simp at e
  | i :: is, xs, y :: ys, hx, hi, e => by
    have hi' := List.nodup_cons.mp hi
    simp at e
    obtain ⟨e1, e2⟩ := e
    refine List.nodup_cons.mpr ⟨fun m => ?_, nodup_pick hx hi'.2 (by simpa using e2)⟩
    have m2 : some y ∈ is.map (xs[·]?) := by
      rw [show is.map (xs[·]?) = ys.map some by simpa using e2]
      exact List.mem_map.mpr ⟨y, m, rfl⟩
    obtain ⟨j, hj, ej⟩ := List.mem_map.mp m2
    obtain ⟨l1, q1⟩ := List.getElem?_eq_some_iff.mp e1
    obtain ⟨l2, q2⟩ := List.getElem?_eq_some_iff.mp (show xs[j]? = some y from ej)
    have : i = j := (List.getElem_inj hx).mp (q1.trans q2.symm)
    exact hi'.1 (this ▸ hj)
/-- the cells at the places is, then the frame -/
theorem Sta.pick (S : Sta F (cs ++ R) H) {cs' : Own} (is : List Nat) (hi : is.Nodup) (e : is.map (cs[·]?) = cs'.map some) : Sta F (cs' ++ R) H := by
  have nd : (cs.map (·.1) ++ R.map (·.1)).Nodup := by
    rw [← List.map_append]
    exact S.nd
  obtain ⟨n1, n2, n3⟩ := List.nodup_append.mp nd
  have sub : ∀ c ∈ cs', c ∈ cs := fun c m => by
    have m2 : some c ∈ is.map (cs[·]?) := by
      rw [e]
      exact List.mem_map.mpr ⟨c, m, rfl⟩
    obtain ⟨j, _, ej⟩ := List.mem_map.mp m2
    exact List.mem_of_getElem? ej
  refine S.sel ?_ fun c m => ?_
  · rw [List.map_append]
    refine List.nodup_append.mpr ⟨nodup_pick (is := is) n1 hi ?_, n2, fun x hx y hy => n3 x ?_ y hy⟩
    · have e2 : (is.map (cs[·]?)).map (Option.map (·.1)) = (cs'.map some).map (Option.map (·.1)) := congrArg _ e
      simpa [List.map_map, Function.comp_def] using e2
    · obtain ⟨c, hc, ec⟩ := List.mem_map.mp hx
      exact List.mem_map.mpr ⟨c, sub c hc, ec⟩
  · rcases List.mem_append.mp m with q | q
    · exact List.mem_append_left _ (sub c q)
    · exact List.mem_append_right _ q
end

/-! ### representations -/
abbrev Rp (α : Type) := Hp → V → α → Prop
class MonoR {α : Type} (r : Rp α) : Prop where
  mono : ∀ {F F' : Hp} {v : V} {x : α}, Same F F' → r F v x → r F' v x
theorem SqL.mono {K : PySem.W.Frag} {H H' : Hp} {a : Addr} {xs : List V} (h : SqL K H a xs) (e : Same H H') : SqL K H' a xs := e.seq h
theorem SqT.mono {K : PySem.W.Frag} {H H' : Hp} {a : Addr} {xs : List V} (h : SqT K H a xs) (e : Same H H') : SqT K H' a xs := by
  rcases h with (h | ⟨o, h⟩) | h
  · exact .inl (.inl (e _ _ h))
  · exact .inl (.inr ⟨o, e _ _ h⟩)
  · exact .inr h
def LR {α : Type} (r : V → α → Prop) : List V → List α → Prop
  | [], [] => True
  | v :: vs, x :: xs => r v x ∧ LR r vs xs
  | _, _ => False
section
variable {α β : Type} {r : V → α → Prop}
theorem LR.length : ∀ {vs : List V} {xs : List α}, LR r vs xs → vs.length = xs.length
  | [], [], _ => rfl
  | _ :: _, _ :: _, h => congrArg (· + 1) (LR.length h.2)
  | [], _ :: _, h => h.elim
  | _ :: _, [], h => h.elim
theorem LR.get : ∀ {vs : List V} {xs : List α} {i : Nat} {x : α}, LR r vs xs → xs[i]? = some x → ∃ v, vs[i]? = some v ∧ r v x
  | [], [], _, _, _, e => by simp at e
  | v :: _, _ :: _, 0, _, h, e => by
    simp at e
    subst e
    exact ⟨v, rfl, h.1⟩
  | _ :: vs, _ :: xs, i + 1, x, h, e => by
    obtain ⟨v, q1, q2⟩ := LR.get (i := i) (x := x) h.2 (by simpa using e)
    exact ⟨v, by simpa using q1, q2⟩
  | [], _ :: _, _, _, h, _ => h.elim
  | _ :: _, [], _, _, h, _ => h.elim
theorem LR.getV : ∀ {vs : List V} {xs : List α} {i : Nat} {v : V}, LR r vs xs → vs[i]? = some v → ∃ x, xs[i]? = some x ∧ r v x
  | [], [], _, _, _, e => by simp at e
  | v :: _, x :: _, 0, _, h, e => by
    simp at e
    subst e
    exact ⟨x, rfl, h.1⟩
  | _ :: vs, _ :: xs, i + 1, v, h, e => by
    obtain ⟨x, q1, q2⟩ := LR.getV (i := i) (v := v) h.2 (by simpa using e)
    exact ⟨x, by simpa using q1, q2⟩
  | [], _ :: _, _, _, h, _ => h.elim
  | _ :: _, [], _, _, h, _ => h.elim
theorem LR.append : ∀ {vs ws : List V} {xs ys : List α}, LR r vs xs → LR r ws ys → LR r (vs ++ ws) (xs ++ ys)
  | [], _, [], _, _, h => h
  | _ :: _, _, _ :: _, _, g, h => ⟨g.1, LR.append g.2 h⟩
  | [], _, _ :: _, _, g, _ => g.elim
  | _ :: _, _, [], _, g, _ => g.elim
theorem LR.snoc {vs : List V} {v : V} {xs : List α} {x : α} (h : LR r vs xs) (g : r v x) : LR r (vs ++ [v]) (xs ++ [x]) := h.append ⟨g, trivial⟩
theorem LR.set : ∀ {vs : List V} {v : V} {xs : List α} {x : α} {i : Nat}, LR r vs xs → r v x → LR r (vs.set i v) (xs.set i x)
  | [], _, [], _, _, _, _ => trivial
  | _ :: _, _, _ :: _, _, 0, h, g => ⟨g, h.2⟩
  | _ :: _, _, _ :: _, _, i + 1, h, g => ⟨h.1, LR.set (i := i) h.2 g⟩
  | [], _, _ :: _, _, _, h, _ => h.elim
  | _ :: _, _, [], _, _, h, _ => h.elim
theorem LR.imp {s : V → α → Prop} (f : ∀ v x, r v x → s v x) : ∀ {vs : List V} {xs : List α}, LR r vs xs → LR s vs xs
  | [], [], _ => trivial
  | _ :: _, _ :: _, h => ⟨f _ _ h.1, LR.imp f h.2⟩
  | [], _ :: _, h => h.elim
  | _ :: _, [], h => h.elim
end
theorem LR.mono {α : Type} {r : Rp α} [m : MonoR r] {F F' : Hp} {vs : List V} {xs : List α} (h : LR (r F) vs xs) (e : Same F F') : LR (r F') vs xs := h.imp fun _ _ q => m.mono e q

def rInt : Rp Int := fun _ v x => v = .int x
def rBool : Rp Bool := fun _ v x => v = .bl x
def rStr : Rp Str := fun _ v x => v = .str x
def rNon : Rp Unit := fun _ v _ => v = .non
instance : MonoR rInt := ⟨fun _ h => h⟩
instance : MonoR rBool := ⟨fun _ h => h⟩
instance : MonoR rStr := ⟨fun _ h => h⟩
instance : MonoR rNon := ⟨fun _ h => h⟩
def rLst {α : Type} (K : PySem.W.Frag) (r : Rp α) : Rp (List α) := fun F v xs => ∃ a vs, v = .ref a ∧ SqL K F a vs ∧ LR (r F) vs xs
def rVT {α : Type} (K : PySem.W.Frag) (r : Rp α) : Rp (List α) := fun F v xs => ∃ a vs, v = .ref a ∧ SqT K F a vs ∧ LR (r F) vs xs
instance {α : Type} {K : PySem.W.Frag} {r : Rp α} [MonoR r] : MonoR (rLst K r) := ⟨fun e ⟨a, vs, h1, h2, h3⟩ => ⟨a, vs, h1, SqL.mono h2 e, h3.mono e⟩⟩
instance {α : Type} {K : PySem.W.Frag} {r : Rp α} [MonoR r] : MonoR (rVT K r) := ⟨fun e ⟨a, vs, h1, h2, h3⟩ => ⟨a, vs, h1, SqT.mono h2 e, h3.mono e⟩⟩
/-- tuples of two, of three -/
def rT2 {α β : Type} (K : PySem.W.Frag) (r : Rp α) (s : Rp β) : Rp (α × β) := fun F v x => ∃ a u w, v = .ref a ∧ SqT K F a [u, w] ∧ r F u x.1 ∧ s F w x.2
def rT3 {α β γ : Type} (K : PySem.W.Frag) (r : Rp α) (s : Rp β) (t : Rp γ) : Rp (α × β × γ) := fun F v x => ∃ a u w z, v = .ref a ∧ SqT K F a [u, w, z] ∧ r F u x.1 ∧ s F w x.2.1 ∧ t F z x.2.2
instance {α β : Type} {K : PySem.W.Frag} {r : Rp α} {s : Rp β} [m : MonoR r] [n : MonoR s] : MonoR (rT2 K r s) :=
  ⟨fun e ⟨a, u, w, h1, h2, h3, h4⟩ => ⟨a, u, w, h1, SqT.mono h2 e, m.mono e h3, n.mono e h4⟩⟩
instance {α β γ : Type} {K : PySem.W.Frag} {r : Rp α} {s : Rp β} {t : Rp γ} [m : MonoR r] [n : MonoR s] [l : MonoR t] : MonoR (rT3 K r s t) :=
  ⟨fun e ⟨a, u, w, z, h1, h2, h3, h4, h5⟩ => ⟨a, u, w, z, h1, SqT.mono h2 e, m.mono e h3, n.mono e h4, l.mono e h5⟩⟩
/-- a tracked tuple of ints and texts (may be a key) -/
def rKT : Rp (List Key) := fun F v ks => ∃ a, v = .ref a ∧ F a = some (.tup (ks.map kV))
instance : MonoR rKT := ⟨fun e ⟨a, h1, h2⟩ => ⟨a, h1, e _ _ h2⟩⟩

/-! ### the mirror's monad: Option; none: nothing is said -/
theorem bnd {α β : Type} {m : Option α} {f : α → Option β} {r : β} (h : m.bind f = some r) : ∃ x, m = some x ∧ f x = some r := by
  cases m with
  | none => cases h
  | some x => exact ⟨x, rfl, h⟩
def grd (b : Bool) : Option Unit := if b then some () else none
theorem grd_ok {b : Bool} {β : Type} {f : Unit → Option β} {r : β} (h : (grd b).bind f = some r) : b = true ∧ f () = some r := by
  cases b with
  | false => cases h
  | true => exact ⟨rfl, h⟩
theorem ifT {α : Type} {c : Bool} {x y : α} {r : α} (h : (if c = true then x else y) = r) (e : c = true) : x = r := by
  rw [if_pos e] at h
  exact h
theorem ifF {α : Type} {c : Bool} {x y : α} {r : α} (h : (if c = true then x else y) = r) (e : ¬ c = true) : y = r := by
  rw [if_neg e] at h
  exact h
theorem bndI {α β : Type} {m : Option α} {f : α → Option β} {r : β} {C : Prop} (k : ∀ x, m = some x → f x = some r → C) : m.bind f = some r → C := fun h => by
  obtain ⟨x, e, h⟩ := bnd h
  exact k x e h
theorem grdI {b : Bool} {β : Type} {f : Unit → Option β} {r : β} {C : Prop} (k : b = true → f () = some r → C) : (grd b).bind f = some r → C := fun h => k (grd_ok h).1 (grd_ok h).2
theorem ifTI {α : Type} {c : Bool} {x y : α} {r : α} {C : Prop} (e : c = true) (k : x = r → C) : (if c = true then x else y) = r → C := fun h => k (ifT h e)
theorem ifFI {α : Type} {c : Bool} {x y : α} {r : α} {C : Prop} (e : ¬ c = true) (k : y = r → C) : (if c = true then x else y) = r → C := fun h => k (ifF h e)
/-- the goals' if -/
theorem goT {c : Bool} {A B : Prop} (e : c = true) (h : A) : if c = true then A else B := by
  rw [if_pos e]
  exact h
theorem goF {c : Bool} {A B : Prop} (e : ¬ c = true) (h : B) : if c = true then A else B := by
  rw [if_neg e]
  exact h
/-- what follows a statement, as a letter -/
theorem seqI {t u : TS} {D : Ends} {σ : L2.St} {H : Hp} (k : ∀ N : L2.St → Hp → Prop, (∀ σ H, u D σ H → N σ H) → t { D with nx := N } σ H) : tSeq t u D σ H := k (u D) fun _ _ h => h
/-- how a loop's turns end -/
inductive Flw (S ρ : Type) where
  | done (s : S)
  | ret (r : ρ)
/-- the state that a caller reads off -/
def small24 : sizeLine = 16777216 := rfl

/-! ### operators by their kinds -/
section
variable {X : Cx}
theorem oI_eq : OpR X (compareOp .Eq) (rI0 fun i j => .bl (decide (i = j))) := by
  intro pins s σ H x y v u Q I rx ry h
  obtain ⟨i, j, rfl, rfl, q⟩ := h
  refine op_eq pins s σ H _ _ v u Q I rx ry ⟨rfl, ?_⟩
  rw [show decide ((V.int i) = V.int j) = decide (i = j) from by by_cases e : i = j <;> simp [e]]
  exact q
theorem oI_ne : OpR X (compareOp .NotEq) (rI0 fun i j => .bl (!decide (i = j))) := by
  intro pins s σ H x y v u Q I rx ry h
  obtain ⟨i, j, rfl, rfl, q⟩ := h
  refine op_ne pins s σ H _ _ v u Q I rx ry ⟨rfl, ?_⟩
  rw [show decide ((V.int i) = V.int j) = decide (i = j) from by by_cases e : i = j <;> simp [e]]
  exact q
def rS0 (g : Str → Str → V) : R2 := fun x y H Q => ∃ i j, x = .str i ∧ y = .str j ∧ Q (g i j) H
theorem oS_eq : OpR X (compareOp .Eq) (rS0 fun i j => .bl (decide (i = j))) := by
  intro pins s σ H x y v u Q I rx ry h
  obtain ⟨i, j, rfl, rfl, q⟩ := h
  refine op_eq pins s σ H _ _ v u Q I rx ry ⟨rfl, ?_⟩
  rw [show decide ((V.str i) = V.str j) = decide (i = j) from by by_cases e : i = j <;> simp [e]]
  exact q
theorem oS_ne : OpR X (compareOp .NotEq) (rS0 fun i j => .bl (!decide (i = j))) := by
  intro pins s σ H x y v u Q I rx ry h
  obtain ⟨i, j, rfl, rfl, q⟩ := h
  refine op_ne pins s σ H _ _ v u Q I rx ry ⟨rfl, ?_⟩
  rw [show decide ((V.str i) = V.str j) = decide (i = j) from by by_cases e : i = j <;> simp [e]]
  exact q
def rB0 (g : Bool → Bool → V) : R2 := fun x y H Q => ∃ i j, x = .bl i ∧ y = .bl j ∧ Q (g i j) H
theorem oB_eq : OpR X (compareOp .Eq) (rB0 fun i j => .bl (decide (i = j))) := by
  intro pins s σ H x y v u Q I rx ry h
  obtain ⟨i, j, rfl, rfl, q⟩ := h
  refine op_eq pins s σ H _ _ v u Q I rx ry ⟨rfl, ?_⟩
  rw [show decide ((V.bl i) = V.bl j) = decide (i = j) from by by_cases e : i = j <;> simp [e]]
  exact q
theorem oB_ne : OpR X (compareOp .NotEq) (rB0 fun i j => .bl (!decide (i = j))) := by
  intro pins s σ H x y v u Q I rx ry h
  obtain ⟨i, j, rfl, rfl, q⟩ := h
  refine op_ne pins s σ H _ _ v u Q I rx ry ⟨rfl, ?_⟩
  rw [show decide ((V.bl i) = V.bl j) = decide (i = j) from by by_cases e : i = j <;> simp [e]]
  exact q
/-- a word between a test (a value) and what follows it -/
theorem pt_cut {e : Expr} {t : TT} (h : PT X e t) : PT X e (fun σ H Q => ∃ P : Bool → Hp → Prop, t σ H P ∧ ∀ b H', P b H' → Q b H') := by
  refine ⟨fun pins s σ H Q I q => ?_⟩
  obtain ⟨P, h1, h2⟩ := q
  refine wpAny_mono (h.run pins s σ H P I h1) (fun b s' z => ?_) fun _ _ z => z
  obtain ⟨H', I', p⟩ := z
  exact ⟨H', I', h2 _ _ p⟩
theorem pe_cut {e : Expr} {t : TE} (h : PE X e t) : PE X e (fun σ H Q => ∃ P : VK, t σ H P ∧ ∀ v H', P v H' → Q v H') := by
  refine ⟨fun pins s σ H Q I q => ?_⟩
  obtain ⟨P, h1, h2⟩ := q
  refine wpAny_mono (h.run pins s σ H P I h1) (fun b s' z => ?_) fun _ _ z => z
  obtain ⟨v, H', I', r, p⟩ := z
  exact ⟨v, H', I', r, h2 _ _ p⟩
theorem pt_pure {e : Expr} {t : TT} (h : PT X e t) : PT X e (fun σ H Q => ∃ B : Bool, t σ H (fun b H' => b = B ∧ H' = H) ∧ Q B H) := by
  refine ⟨fun pins s σ H Q I q => ?_⟩
  obtain ⟨B, h1, h2⟩ := q
  exact (pt_cut h).run pins s σ H Q I ⟨_, h1, fun b H' z => by rw [z.1, z.2]; exact h2⟩
theorem pe_pure {e : Expr} {t : TE} (h : PE X e t) : PE X e (fun σ H Q => ∃ B : V, t σ H (fun b H' => b = B ∧ H' = H) ∧ Q B H) := by
  refine ⟨fun pins s σ H Q I q => ?_⟩
  obtain ⟨B, h1, h2⟩ := q
  exact (pe_cut h).run pins s σ H Q I ⟨_, h1, fun b H' z => by rw [z.1, z.2]; exact h2⟩
end
theorem rInt_e {F : Hp} {v : V} {x : Int} (h : rInt F v x) : v = .int x := h
theorem rBool_e {F : Hp} {v : V} {x : Bool} (h : rBool F v x) : v = .bl x := h
theorem rStr_e {F : Hp} {v : V} {x : Str} (h : rStr F v x) : v = .str x := h
theorem rNon_e {F : Hp} {v : V} {x : Unit} (h : rNon F v x) : v = .non := h
/-- None or not -/
def rOpt {α : Type} (r : Rp α) : Rp (Option α) := fun F v x => match x with
  | none => v = .non
  | some y => r F v y
instance {α : Type} {r : Rp α} [m : MonoR r] : MonoR (rOpt r) := ⟨fun {F F' v x} e h => by
  cases x with
  | none => exact h
  | some y => exact m.mono (x := y) e h⟩
theorem rOpt_un {α : Type} {r : Rp α} {F : Hp} {v : V} {x : Option α} {z : α} (e : x = some z) (h : rOpt r F v x) : r F v z := by subst e; exact h
theorem rOpt_some {α : Type} {r : Rp α} {F : Hp} {v : V} {x : α} (h : r F v x) : rOpt r F v (some x) := h

/-! ### checks of the mirror -/
def mulOk (i j : Int) : Bool := decide (-(2 ^ 64) < i ∧ i < 2 ^ 64) || decide (-(2 ^ 64) < j ∧ j < 2 ^ 64)
theorem mulOk_ok {i j : Int} (h : mulOk i j = true) : CMul i j := by
  unfold mulOk at h
  rw [Bool.or_eq_true] at h
  rcases h with h | h
  · exact .inl (of_decide_eq_true h)
  · exact .inr (of_decide_eq_true h)
def divOk (j : Int) : Bool := decide (0 < j ∧ j < 1073741824)
theorem divOk_fdiv {i j : Int} (h : divOk j = true) : CDiv i j := (of_decide_eq_true h : 0 < j ∧ j < 1073741824)
theorem divOk_mod {j : Int} (h : divOk j = true) : 0 < j := (of_decide_eq_true h).1
def rngOk (j : Int) : Bool := decide (-(2 ^ 62) ≤ j ∧ j < 2 ^ 62)
theorem rngOk_lo {j : Int} (h : rngOk j = true) : -(2 ^ 62) ≤ j := (of_decide_eq_true h).1
theorem rngOk_hi {j : Int} (h : rngOk j = true) : j < 2 ^ 62 := (of_decide_eq_true h).2
def rng2Ok (i j : Int) : Bool := decide (-(2 ^ 62) ≤ i ∧ i < 2 ^ 62 ∧ -(2 ^ 62) ≤ j ∧ j < 2 ^ 62)
theorem rng2Ok_ok {i j : Int} (h : rng2Ok i j = true) : -(2 ^ 62) ≤ i ∧ i < 2 ^ 62 ∧ -(2 ^ 62) ≤ j ∧ j < 2 ^ 62 := of_decide_eq_true h

/-! ### lists -/
section
variable {α : Type} {r : V → α → Prop}
theorem LR.isEmpty {vs : List V} {xs : List α} (h : LR r vs xs) : vs.isEmpty = xs.isEmpty := by
  have e := h.length
  cases vs <;> cases xs <;> simp_all
theorem LR.atI {vs : List V} {xs : List α} {i : Int} {x : α} (h : LR r vs xs) (e : atI xs i = some x) : ∃ v, L2.atI vs i = some v ∧ r v x := by
  unfold L2.atI at e ⊢
  rw [h.length]
  cases q : ixN xs.length i with
  | none => rw [q] at e; cases e
  | some j =>
    rw [q] at e
    exact h.get e
theorem LR.dropEnd {vs : List V} {xs : List α} (h : LR r vs xs) : xs.drop vs.length = [] := by rw [h.length, List.drop_length]
end
theorem drop_cons {α : Type} {xs : List α} {i : Nat} {x : α} (h : xs[i]? = some x) : xs.drop i = x :: xs.drop (i + 1) := by
  obtain ⟨l, e⟩ := List.getElem?_eq_some_iff.mp h
  rw [← e]
  exact List.drop_eq_getElem_cons l
def pyRange (lo : Int) (n : Nat) : List Int := (List.range n).map fun (i : Nat) => lo + (i : Int)
theorem pyRange_get {lo : Int} {n i : Nat} (h : i < n) : (pyRange lo n)[i]? = some (lo + (i : Int)) := by
  unfold pyRange
  rw [List.getElem?_map, List.getElem?_range h]
  rfl
theorem pyRange_len {lo : Int} {n : Nat} : (pyRange lo n).length = n := by simp [pyRange]
theorem drop_rng {lo : Int} {n : Nat} : (pyRange lo n).drop n = [] := List.drop_eq_nil_of_le (Nat.le_of_eq pyRange_len)
theorem for_rng {lo : Int} {n : Nat} {g : TG} {tb : TS} {D : Ends} {σ : L2.St} {H : Hp} (Pv : Nat → L2.St → Hp → Prop) (h0 : Pv 0 σ H)
    (hs : ∀ i x σ H, (pyRange lo n)[i]? = some x → Pv i σ H → g (.int x) σ H fun σ2 H2 => tb { D with nx := Pv (i + 1), ct := Pv (i + 1), bk := D.nx } σ2 H2) (hd : ∀ σ H, Pv n σ H → D.nx σ H) :
    ∃ W : Nat → Nat → L2.St → Hp → Prop, (∃ m, W 0 m σ H) ∧ ∀ i m σ H, W i m σ H →
      ((Itr lo n).stop i H ∧ D.nx σ H) ∨ ((Itr lo n).go i H ∧ ∃ N : L2.St → Hp → Prop, (∀ σ' H', N σ' H' → ∃ m', m' < m ∧ W (i + 1) m' σ' H') ∧ ∀ x H', (Itr lo n).yld i H x H' → g x σ H' fun σ2 H2 => tb { D with nx := N, ct := N, bk := D.nx } σ2 H2) :=
  for_range Pv h0 (fun i σ H hi p => hs i _ σ H (pyRange_get hi) p) hd
/-- for over a dict's keys -/
theorem for_keys {d : Addr} {od : Obj} {kvs : List (Key × V)} {g : TG} {tb : TS} {D : Ends} {σ : L2.St} {H : Hp} (Pv : Nat → L2.St → Hp → Prop) (h0 : Pv 0 σ H) (hl : ∀ i σ H, Pv i σ H → H d = some (.frz od (.dK kvs)))
    (hs : ∀ i x σ H, (kvs.map fun kv => kV kv.1)[i]? = some x → Pv i σ H → g x σ H fun σ2 H2 => tb { D with nx := Pv (i + 1), ct := Pv (i + 1), bk := D.nx } σ2 H2) (hd : ∀ σ H, Pv (kvs.map fun kv => kV kv.1).length σ H → D.nx σ H) :
    ∃ W : Nat → Nat → L2.St → Hp → Prop, (∃ m, W 0 m σ H) ∧ ∀ i m σ H, W i m σ H →
      ((Itk d od kvs).stop i H ∧ D.nx σ H) ∨ ((Itk d od kvs).go i H ∧ ∃ N : L2.St → Hp → Prop, (∀ σ' H', N σ' H' → ∃ m', m' < m ∧ W (i + 1) m' σ' H') ∧ ∀ x H', (Itk d od kvs).yld i H x H' → g x σ H' fun σ2 H2 => tb { D with nx := N, ct := N, bk := D.nx } σ2 H2) := by
  refine ⟨fun i m σ H => m = kvs.length - i ∧ i ≤ kvs.length ∧ Pv i σ H, ⟨kvs.length, by simp, Nat.zero_le _, h0⟩, ?_⟩
  rintro i m σ H ⟨rfl, hi, p⟩
  have q := hl i σ H p
  by_cases hlt : i < kvs.length
  · refine .inr ⟨⟨q, hlt⟩, Pv (i + 1), fun σ' H' p' => ⟨kvs.length - (i + 1), by omega, rfl, hlt, p'⟩, fun x H' y => ?_⟩
    obtain ⟨e, k, v, e1, e2⟩ := y
    subst e
    exact hs i x σ _ (by rw [List.getElem?_map, e1, e2]; rfl) p
  · have e : i = kvs.length := by omega
    subst e
    exact .inl ⟨⟨q, Nat.le_refl _⟩, hd σ H (by rw [List.length_map]; exact p)⟩
/-- range with any step -/
def pyRangeC (lo c : Int) (n : Nat) : List Int := (List.range n).map fun (i : Nat) => lo + (i : Int) * c
theorem pyRangeC_get {lo c : Int} {n i : Nat} (h : i < n) : (pyRangeC lo c n)[i]? = some (lo + (i : Int) * c) := by
  unfold pyRangeC
  rw [List.getElem?_map, List.getElem?_range h]
  rfl
theorem pyRangeC_len {lo c : Int} {n : Nat} : (pyRangeC lo c n).length = n := by simp [pyRangeC]
theorem drop_rngC {lo c : Int} {n : Nat} : (pyRangeC lo c n).drop n = [] := List.drop_eq_nil_of_le (Nat.le_of_eq pyRangeC_len)
theorem for_rngC {lo c : Int} {n : Nat} {g : TG} {tb : TS} {D : Ends} {σ : L2.St} {H : Hp} (Pv : Nat → L2.St → Hp → Prop) (h0 : Pv 0 σ H)
    (hs : ∀ i x σ H, (pyRangeC lo c n)[i]? = some x → Pv i σ H → g (.int x) σ H fun σ2 H2 => tb { D with nx := Pv (i + 1), ct := Pv (i + 1), bk := D.nx } σ2 H2) (hd : ∀ σ H, Pv n σ H → D.nx σ H) :
    ∃ W : Nat → Nat → L2.St → Hp → Prop, (∃ m, W 0 m σ H) ∧ ∀ i m σ H, W i m σ H →
      ((Itc lo c n).stop i H ∧ D.nx σ H) ∨ ((Itc lo c n).go i H ∧ ∃ N : L2.St → Hp → Prop, (∀ σ' H', N σ' H' → ∃ m', m' < m ∧ W (i + 1) m' σ' H') ∧ ∀ x H', (Itc lo c n).yld i H x H' → g x σ H' fun σ2 H2 => tb { D with nx := N, ct := N, bk := D.nx } σ2 H2) :=
  for_rangeC Pv h0 (fun i σ H hi p => hs i _ σ H (pyRangeC_get hi) p) hd
theorem rng2_neg {i j : Int} (h : rng2Ok i j = true) : RgC i j (-1) (i - j).toNat := RgC.neg (rng2Ok_ok h).1 (rng2Ok_ok h).2.1 (rng2Ok_ok h).2.2.1 (rng2Ok_ok h).2.2.2
/-- the turns that a while's mirror may take -/
@[irreducible] def fuel : Nat := 1000000000
/-- while, the mirror's fuel its measure -/
theorem while_fuel {c : TT} {tb : TS} {D : Ends} {σ : L2.St} {H : Hp} (Pv : Nat → L2.St → Hp → Prop) (n : Nat) (h0 : Pv n σ H)
    (hs : ∀ m σ H, Pv (m + 1) σ H → c σ H fun b H1 => if b = true then ∃ N : L2.St → Hp → Prop, (∀ σ' H', N σ' H' → ∃ m', m' < m + 1 ∧ Pv m' σ' H') ∧ tb { D with nx := N, ct := N, bk := D.nx } σ H1 else D.nx σ H1)
    (hz : ∀ σ H, Pv 0 σ H → False) : tWhile c tb D σ H := by
  refine ⟨Pv, ⟨n, h0⟩, fun m => ?_⟩
  cases m with
  | zero => exact fun σ H p => (hz σ H p).elim
  | succ m => exact hs m
theorem wh_in {Pv : Nat → L2.St → Hp → Prop} {m : Nat} {tb : TS} {D : Ends} {σ : L2.St} {H : Hp} (h : tb { D with nx := Pv m, ct := Pv m, bk := D.nx } σ H) :
    ∃ N : L2.St → Hp → Prop, (∀ σ' H', N σ' H' → ∃ m', m' < m + 1 ∧ Pv m' σ' H') ∧ tb { D with nx := N, ct := N, bk := D.nx } σ H :=
  ⟨Pv m, fun _ _ p => ⟨m, Nat.lt_succ_self m, p⟩, h⟩

/-! ### dicts: by pairs in order -/
section
variable {κ ν α : Type}
def KR (f : κ → ν) (r : V → α → Prop) : List (ν × V) → List (κ × α) → Prop
  | [], [] => True
  | p :: ps, q :: qs => (p.1 = f q.1 ∧ r p.2 q.2) ∧ KR f r ps qs
  | _, _ => False
def mget [DecidableEq κ] (xs : List (κ × α)) (k : κ) : Option α := (xs.find? fun p => decide (p.1 = k)).map (·.2)
def mput [DecidableEq κ] (xs : List (κ × α)) (k : κ) (x : α) : List (κ × α) :=
  if (xs.any fun p => decide (p.1 = k)) = true then xs.map (fun p => if p.1 = k then (p.1, x) else p) else xs ++ [(k, x)]
theorem kinj_K : ∀ a b : List Key, id a = id b → a = b := fun _ _ h => h
theorem kinj_int : ∀ a b : Int, (Sum.inl a : Key) = Sum.inl b → a = b := fun _ _ h => Sum.inl.inj h
theorem kinj_str : ∀ a b : Str, (Sum.inr a : Key) = Sum.inr b → a = b := fun _ _ h => Sum.inr.inj h
variable {f : κ → ν} {r : V → α → Prop}
theorem KR.nil : KR f r [] [] := trivial
theorem KR.cons {p : ν × V} {q : κ × α} {ps : List (ν × V)} {qs : List (κ × α)} (h1 : p.1 = f q.1) (h2 : r p.2 q.2) (h : KR f r ps qs) : KR f r (p :: ps) (q :: qs) := ⟨⟨h1, h2⟩, h⟩
theorem KR.length : ∀ {ps : List (ν × V)} {qs : List (κ × α)}, KR f r ps qs → ps.length = qs.length
  | [], [], _ => rfl
  | _ :: _, _ :: _, h => congrArg (· + 1) (KR.length h.2)
  | [], _ :: _, h => h.elim
  | _ :: _, [], h => h.elim
theorem KR.imp {s : V → α → Prop} (g : ∀ v x, r v x → s v x) : ∀ {ps : List (ν × V)} {qs : List (κ × α)}, KR f r ps qs → KR f s ps qs
  | [], [], _ => trivial
  | _ :: _, _ :: _, h => ⟨⟨h.1.1, g _ _ h.1.2⟩, KR.imp g h.2⟩
  | [], _ :: _, h => h.elim
  | _ :: _, [], h => h.elim
theorem KR.append : ∀ {ps ps' : List (ν × V)} {qs qs' : List (κ × α)}, KR f r ps qs → KR f r ps' qs' → KR f r (ps ++ ps') (qs ++ qs')
  | [], _, [], _, _, h => h
  | _ :: _, _, _ :: _, _, g, h => ⟨g.1, KR.append g.2 h⟩
  | [], _, _ :: _, _, g, _ => g.elim
  | _ :: _, _, [], _, g, _ => g.elim
variable [DecidableEq κ] [DecidableEq ν]
theorem KR.find (inj : ∀ a b, f a = f b → a = b) (k : κ) : ∀ {ps : List (ν × V)} {qs : List (κ × α)}, KR f r ps qs →
    (mget qs k = none ∧ valV ps (f k) = none) ∨ ∃ x v, mget qs k = some x ∧ valV ps (f k) = some v ∧ r v x
  | [], [], _ => .inl ⟨rfl, rfl⟩
  | p :: ps, q :: qs, h => by
    by_cases e : q.1 = k
    · refine .inr ⟨q.2, p.2, ?_, ?_, h.1.2⟩
      · simp [mget, List.find?_cons, e]
      · exact valV_pos (by rw [h.1.1, e])
    · have e2 : ¬ p.1 = f k := fun z => e (inj _ _ (h.1.1.symm.trans z))
      have e3 : mget (q :: qs) k = mget qs k := by simp [mget, List.find?_cons, e]
      rw [e3, valV_neg e2]
      exact KR.find inj k h.2
  | [], _ :: _, h => h.elim
  | _ :: _, [], h => h.elim
theorem KR.get {ps : List (ν × V)} {qs : List (κ × α)} {k : κ} {x : α} (h : KR f r ps qs) (inj : ∀ a b, f a = f b → a = b) (e : mget qs k = some x) : ∃ v, valV ps (f k) = some v ∧ r v x := by
  rcases h.find inj k with ⟨q, _⟩ | ⟨y, v, q, q2, q3⟩
  · rw [q] at e; cases e
  · rw [q] at e; cases e; exact ⟨v, q2, q3⟩
theorem KR.some_eq {ps : List (ν × V)} {qs : List (κ × α)} (h : KR f r ps qs) (inj : ∀ a b, f a = f b → a = b) (k : κ) : (valV ps (f k)).isSome = (mget qs k).isSome := by
  rcases h.find inj k with ⟨q, q2⟩ | ⟨y, v, q, q2, q3⟩
  · rw [q, q2]; rfl
  · rw [q, q2]; rfl
theorem KR.any (inj : ∀ a b, f a = f b → a = b) (k : κ) : ∀ {ps : List (ν × V)} {qs : List (κ × α)}, KR f r ps qs → (ps.any fun p => decide (p.1 = f k)) = (qs.any fun p => decide (p.1 = k))
  | [], [], _ => rfl
  | p :: ps, q :: qs, h => by
    have e : decide (p.1 = f k) = decide (q.1 = k) := by
      by_cases e : q.1 = k
      · rw [decide_eq_true e, decide_eq_true (by rw [h.1.1, e])]
      · rw [decide_eq_false e, decide_eq_false fun z => e (inj _ _ (h.1.1.symm.trans z))]
    simp only [List.any_cons, e, KR.any inj k h.2]
  | [], _ :: _, h => h.elim
  | _ :: _, [], h => h.elim
theorem KR.map (inj : ∀ a b, f a = f b → a = b) (k : κ) {v : V} {x : α} (g : r v x) : ∀ {ps : List (ν × V)} {qs : List (κ × α)}, KR f r ps qs →
    KR f r (ps.map fun kv => if kv.1 = f k then (kv.1, v) else kv) (qs.map fun p => if p.1 = k then (p.1, x) else p)
  | [], [], _ => trivial
  | p :: ps, q :: qs, h => by
    refine ⟨?_, KR.map inj k g h.2⟩
    dsimp only
    by_cases e : q.1 = k
    · rw [if_pos e, if_pos (show p.1 = f k by rw [h.1.1, e])]
      exact ⟨h.1.1, g⟩
    · rw [if_neg e, if_neg (show ¬ p.1 = f k from fun z => e (inj _ _ (h.1.1.symm.trans z)))]
      exact h.1
  | [], _ :: _, h => h.elim
  | _ :: _, [], h => h.elim
theorem KR.put {ps : List (ν × V)} {qs : List (κ × α)} {k : κ} {v : V} {x : α} (h : KR f r ps qs) (inj : ∀ a b, f a = f b → a = b) (g : r v x) : KR f r (putK ps (f k) v) (mput qs k x) := by
  unfold putK mput
  rw [h.any inj k]
  by_cases c : (qs.any fun p => decide (p.1 = k)) = true
  · rw [if_pos c, if_pos c]
    exact h.map inj k g
  · rw [if_neg c, if_neg c]
    exact h.append ⟨⟨rfl, g⟩, trivial⟩
end
theorem KR.mono {κ ν α : Type} {f : κ → ν} {r : Rp α} [m : MonoR r] {F F' : Hp} {ps : List (ν × V)} {qs : List (κ × α)} (h : KR f (r F) ps qs) (e : Same F F') : KR f (r F') ps qs := h.imp fun _ _ q => m.mono e q
theorem dget_of {H : Hp} {a : Addr} {y : V} {o o' : Option V} (h : DGet H a y o) (e : o = o') : DGet H a y o' := e ▸ h

/-! ### data of any depth, for == -/
class DOk (α : Type) where
  ok : α → Bool
instance : DOk Int := ⟨fun _ => true⟩
instance : DOk Bool := ⟨fun _ => true⟩
instance : DOk Unit := ⟨fun _ => true⟩
instance : DOk Str := ⟨fun x => PyData.strOk x⟩
instance : DOk Key := ⟨fun x => match x with | .inl _ => true | .inr y => PyData.strOk y⟩
instance {α : Type} [DOk α] : DOk (List α) := ⟨fun xs => xs.all DOk.ok⟩
instance {α β : Type} [DOk α] [DOk β] : DOk (α × β) := ⟨fun p => DOk.ok p.1 && DOk.ok p.2⟩
class DPl (α : Type) [DOk α] : Prop where
  pl : ∀ x : α, DOk.ok x = true
instance : DPl Int := ⟨fun _ => rfl⟩
instance : DPl Bool := ⟨fun _ => rfl⟩
instance {α : Type} [DOk α] [DPl α] : DPl (List α) := ⟨fun xs => List.all_eq_true.mpr fun x _ => DPl.pl x⟩
instance {α β : Type} [DOk α] [DOk β] [DPl α] [DPl β] : DPl (α × β) := ⟨fun p => Bool.and_eq_true_iff.mpr ⟨DPl.pl p.1, DPl.pl p.2⟩⟩
class DatR {α : Type} [DecidableEq α] [DOk α] (K : PySem.W.Frag) (r : Rp α) where
  d : α → PyData
  dp : ∀ {H : Hp} {v : V} {x : α}, r H v x → Dp K H v (d x)
  eqv : ∀ x y : α, PyData.eqv (d x) (d y) = decide (x = y)
  shp : ∀ x : α, DOk.ok x = true → (d x).canLay0 = true
  n : Nat
  dep : ∀ x : α, (d x).depth ≤ n
instance {K : PySem.W.Frag} : DatR K rInt := ⟨fun i => .int i, fun {H v x} h => by rw [rInt_e h]; exact .int x, fun x y => by simp [PyData.eqv, BEq.beq], fun _ _ => rfl, 1, fun _ => by simp [PyData.depth]⟩
instance {K : PySem.W.Frag} : DatR K rBool := ⟨fun i => .bool i, fun {H v x} h => by rw [rBool_e h]; exact .bl x, fun x y => by cases x <;> cases y <;> rfl, fun _ _ => rfl, 1, fun _ => by simp [PyData.depth]⟩
instance {K : PySem.W.Frag} : DatR K rStr := ⟨fun i => .str i, fun {H v x} h => by rw [rStr_e h]; exact .str x, fun x y => by
  by_cases e : x = y
  · subst e; simp [PyData.eqv]
  · simp [PyData.eqv, e], fun x h => by simp only [PyData.canLay0]; exact h, 1, fun _ => by simp [PyData.depth]⟩
section
variable {α : Type} [DecidableEq α] [DOk α] {K : PySem.W.Frag} {r : Rp α}
theorem dpAll [D : DatR K r] {H : Hp} : ∀ {vs : List V} {xs : List α}, LR (r H) vs xs → DpAll K H vs (xs.map D.d)
  | [], [], _ => .nil
  | _ :: _, _ :: _, h => .cons (D.dp h.1) (dpAll h.2)
  | [], _ :: _, h => h.elim
  | _ :: _, [], h => h.elim
theorem eqvAll [D : DatR K r] : ∀ xs ys : List α, PyData.eqvAll (xs.map D.d) (ys.map D.d) = decide (xs = ys)
  | [], [] => rfl
  | [], _ :: _ => rfl
  | _ :: _, [] => rfl
  | x :: xs, y :: ys => by
    show (PyData.eqv (D.d x) (D.d y) && PyData.eqvAll (xs.map D.d) (ys.map D.d)) = _
    rw [D.eqv, eqvAll xs ys]
    by_cases e : x = y <;> by_cases e2 : xs = ys <;> simp [e, e2]
theorem shpAll [D : DatR K r] : ∀ xs : List α, DOk.ok xs = true → PyData.canLayAll0 (xs.map D.d) = true
  | [], _ => rfl
  | x :: xs, h => by
    have h' := Bool.and_eq_true_iff.mp (show (DOk.ok x && xs.all DOk.ok) = true from h)
    show (PyData.canLay0 (D.d x) && PyData.canLayAll0 (xs.map D.d)) = true
    rw [D.shp x h'.1, shpAll xs h'.2]
    rfl
theorem depAll [D : DatR K r] : ∀ xs : List α, PyData.depthAll (xs.map D.d) ≤ D.n
  | [] => by simp [PyData.depthAll]
  | x :: xs => by
    have h1 := D.dep x
    have h2 := depAll xs
    simp only [List.map_cons, PyData.depthAll]
    omega
instance [D : DatR K r] : DatR K (rLst K r) := ⟨fun xs => .list (xs.map D.d), fun {H v x} ⟨a, vs, h1, h2, h3⟩ => by rw [h1]; exact .lst h2 (dpAll h3), fun x y => eqvAll x y, fun x h => shpAll x h, D.n + 1, fun x => by
  have := depAll (D := D) x
  simp only [PyData.depth]
  omega⟩
instance [D : DatR K r] : DatR K (rVT K r) := ⟨fun xs => .tuple (xs.map D.d), fun {H v x} ⟨a, vs, h1, h2, h3⟩ => by rw [h1]; exact .tup h2 (dpAll h3), fun x y => eqvAll x y, fun x h => shpAll x h, D.n + 1, fun x => by
  have := depAll (D := D) x
  simp only [PyData.depth]
  omega⟩
theorem dat_shaped [D : DatR K r] (hn : D.n ≤ 64) (x : α) (h : DOk.ok x = true) : SeqAt.shaped (D.d x) = true :=
  Bool.and_eq_true_iff.mpr ⟨D.shp x h, decide_eq_true (Nat.le_trans (D.dep x) hn)⟩
theorem dat_dp [D : DatR K r] {H : Hp} {v : V} {x : α} (h : r H v x) : Dp K H v (D.d x) := D.dp h
theorem dat_eqv [D : DatR K r] (x y : α) : PyData.eqv (D.d x) (D.d y) = decide (x = y) := D.eqv x y
end
instance {K : PySem.W.Frag} : DatR K rKT := ⟨fun ks => .tuple (ks.map fun k => match k with | .inl i => .int i | .inr x => .str x),
  fun {H v x} ⟨a, h1, h2⟩ => by
    rw [h1]
    refine .tup (xs := x.map kV) (.inl (.inl h2)) ?_
    have q : ∀ ks : List Key, DpAll K H (ks.map kV) (ks.map fun k => match k with | .inl i => .int i | .inr x => .str x) := by
      intro ks
      induction ks with
      | nil => exact .nil
      | cons k t ih => cases k with
        | inl i => exact .cons (.int i) ih
        | inr y => exact .cons (.str y) ih
    exact q x,
  fun x y => by
    show PyData.eqvAll _ _ = _
    induction x generalizing y with
    | nil => cases y <;> rfl
    | cons k t ih =>
      cases y with
      | nil => rfl
      | cons l u =>
        show (PyData.eqv _ _ && PyData.eqvAll _ _) = _
        rw [ih u]
        cases k <;> cases l
        · rename_i a b; by_cases e : a = b <;> by_cases e2 : t = u <;> simp [PyData.eqv, e, e2]
        · simp [PyData.eqv]
        · simp [PyData.eqv]
        · rename_i a b; by_cases e : a = b <;> by_cases e2 : t = u <;> simp [PyData.eqv, e, e2],
  fun x h => by
    show PyData.canLayAll0 _ = true
    induction x with
    | nil => rfl
    | cons k t ih =>
      have h' := Bool.and_eq_true_iff.mp (show (DOk.ok k && t.all DOk.ok) = true from h)
      show (PyData.canLay0 _ && PyData.canLayAll0 _) = true
      rw [ih h'.2]
      cases k with
      | inl i => rfl
      | inr y =>
        simp only [PyData.canLay0, Bool.and_true]
        exact h'.1,
  2, fun x => by
    have : ∀ ks : List Key, PyData.depthAll (ks.map fun k => match k with | .inl i => .int i | .inr x => .str x) ≤ 1 := by
      intro ks
      induction ks with
      | nil => simp [PyData.depthAll]
      | cons k t ih => cases k <;> simp [PyData.depthAll, PyData.depth] <;> exact ih
    have := this x
    simp only [PyData.depth]
    omega⟩
theorem tyx_list {K : PySem.W.Frag} {H : Hp} {a : Addr} {xs : List V} (h : SqL K H a xs) : TyX K H (.ref a) (.type "list") := by
  rcases h with (h | ⟨o, h⟩) | ⟨o, _, _, h1, h2, _⟩
  · exact .base (.lst h)
  · exact .base (.frz h)
  · exact .kList h1 h2
theorem tyx_tup {K : PySem.W.Frag} {H : Hp} {a : Addr} {xs : List V} (h : SqT K H a xs) : TyX K H (.ref a) (.type "tuple") := by
  rcases h with (h | ⟨o, h⟩) | ⟨o, _, _, h1, h2, _⟩
  · exact .base (.tup h)
  · exact .fTuple h
  · exact .kTuple h1 h2
/-! ### fields -/
theorem fewl {fs : List (Str × V)} {f : Str} {v : V} {n : Nat} (h : fs.length ≤ n) : (putF f v fs).length ≤ n + 1 := by
  have q : ∀ fs : List (Str × V), (putF f v fs).length ≤ fs.length + 1 := by
    intro fs
    induction fs with
    | nil => exact Nat.le_refl _
    | cons p t ih =>
      show (if p.1 = f then (p.1, v) :: t else p :: putF f v t).length ≤ _
      by_cases e : p.1 = f
      · rw [if_pos e]; exact Nat.le_succ _
      · rw [if_neg e]; exact Nat.succ_le_succ ih
  exact Nat.le_trans (q fs) (Nat.succ_le_succ h)
/-! ### the law's start -/
theorem lr_ints {F : Hp} : ∀ ns : List Int, LR (rInt F) (ns.map V.int) ns
  | [] => trivial
  | _ :: ns => ⟨rfl, lr_ints ns⟩
theorem sta0 (H : Hp) : Sta H ([] ++ ([] : Own)) H := ⟨Same.refl H, (fun _ _ m => nomatch m), List.nodup_nil⟩
section
variable {X : Cx}
/-- sorted(d), a dict with int keys, any number of them -/
def rSortD : List V → Hp → VK → Prop := fun xs H Q => ∃ (a : Addr) (kvs : List (Key × V)) (ks : List Int), xs = [.ref a] ∧ Rd H a (.dK kvs) ∧ kvs.map (·.1) = ks.map Sum.inl ∧
    ∀ (ys : List Int) (p : Addr), ys.Perm ks → ys.Pairwise (· ≤ ·) → H p = none → Q (.ref p) (upd H p (.lst (ys.map V.int)))
theorem call_sortD (hc : X.calm = true) : CallR X (.builtin "sorted") rSortD := by
  intro pins s σ H xs us Q I r ⟨a, kvs, ks, ex, hd, hks, q⟩
  subst ex
  obtain ⟨u, eu, rx⟩ := vals1 r; subst eu; cases rx
  obtain ⟨z, lo, vs, rel, dd⟩ := dk_rd I.hok hd
  obtain ⟨ep, hat⟩ := dd.dictAt
  have hkeys : vs.map (·.1) = ks.map Sum.inl := rel.keys.symm.trans hks
  have hl : vs.length = ks.length := by simpa using congrArg List.length hkeys
  have hkl : kvs.length = ks.length := by simpa using congrArg List.length hks
  have hz : ks.length ≤ sizeLine := by rw [← hkl]; exact z
  refine Calls.call_function_entry kind_sorted plain_sorted entry_sorted
    (args_sorted1 _) ?_
  unfold Builtin.«sorted»
  refine wpAny_bind (m := checkCount "sorted" 1 1 _)
    (wpAny_pure ?_)
  refine wpAny_bind (PySem.W.kdu_collect (A := X.A.in1) (PySem.W.kdl_dict (knd := mixKind X.prog X.w) (kvs := vs) (ep := ep) lo)
    (I.ok.hd hc) hat (by rw [hl]; exact hz) fun h' tk acc hk hacc => ?_)
  have hal : acc.toList.length = ks.length := by rw [Array.length_toList, hacc.1, hl]
  have hS : IntsAre acc.toList ks := by
    refine ints_each hal fun j v e => ?_
    obtain ⟨k, x, e1, e2⟩ := hacc.2 j v (by rw [← Array.getElem?_toList]; exact e)
    have e3 : (ks.map (Sum.inl : Int → Key))[j]? = some k := by rw [← hkeys, List.getElem?_map, e1]; rfl
    rw [List.getElem?_map] at e3
    cases e4 : ks[j]? with
    | none => rw [e4] at e3; cases e3
    | some y =>
      rw [e4] at e3
      cases e3
      rcases keyIs_shape (show keyIs (Sum.inl y) v = true from e2) with ⟨i, t, ek, ev⟩ | ⟨w', t, ek, ev⟩
      · cases ek; exact ⟨y, t, rfl, ev⟩
      · cases ek
  have I1 : Inv X pins σ H { s with heap := h', toks := tk } := I.kept hk
  refine wpAny_bind (wpAny_newList ?_ (by rw [hal]; exact hz))
  have hoL : (h'.push (seqObj "list" acc.toList.toArray 0)).get? h'.objs.size = some (seqObj "list" acc.toList.toArray 0) := Heap.get?_push_size _ rfl
  show wpAny _ _ _ _ _ { s with heap := h'.push (seqObj "list" acc.toList.toArray 0), toks := tk }
  refine wpAny_bind (wpAny_holding (wpAny_call_entry slot_list_sort ⟨_, hoL, rfl⟩ entry_list_sort
    (SrtO.list_sort_ord SrtO.swo_int hoL (by rw [hal]; exact hz) (fun h2 => SrtO.ints_sortable hS h2) fun out g1 g2 => ⟨_, rfl, ?_⟩) (args_list_sort _)))
  obtain ⟨k1, k2, k3⟩ := SrtO.ints_out hS g1 g2
  obtain ⟨e', he'⟩ := sortedHeap_at (vs := acc.toList) (out := out.toArray) hoL
  have hlen : ((out.map SrtO.iv).map V.int).length ≤ sizeLine := by rw [List.length_map, k2.length_eq]; exact hz
  refine wpAny_pure ⟨_, rfl, .ref h'.objs.size, upd H h'.objs.size (.lst ((out.map SrtO.iv).map V.int)), I1.laid (t' := tk) (fun b u e => ?_) (Nat.le_refl _)
    (show ObjOk X.prog X.w _ _ _ (.lst ((out.map SrtO.iv).map V.int)) from ⟨hlen, out, e', vals_of_ints k1, he'⟩), rfl, q _ _ k2 k3 (I1.hok.fresh (Nat.le_refl _))⟩
  have hb : b < h'.objs.size := Heap.lt_size e
  rw [sortedHeap_old (Nat.ne_of_lt hb) (by rw [size_push']; exact Nat.lt_succ_of_lt hb)]
  exact Heap.get?_push_of_some _ e
end
/-- sorted ints are one list -/
theorem sorted_uniq : ∀ {xs ys : List Int}, xs.Perm ys → xs.Pairwise (· ≤ ·) → ys.Pairwise (· ≤ ·) → xs = ys
  | [], ys, h, _, _ => (List.nil_perm.mp h).symm
  | x :: xs, [], h, _, _ => absurd h.length_eq (by simp)
  | x :: xs, y :: ys, h, hx, hy => by
    have h1 := List.pairwise_cons.mp hx
    have h2 := List.pairwise_cons.mp hy
    have e : x = y := by
      have m1 : x ∈ y :: ys := h.mem_iff.mp (.head _)
      have m2 : y ∈ x :: xs := h.mem_iff.mpr (.head _)
      have l1 : y ≤ x := by
        cases m1 with
        | head => exact Int.le_refl _
        | tail _ m => exact h2.1 x m
      have l2 : x ≤ y := by
        cases m2 with
        | head => exact Int.le_refl _
        | tail _ m => exact h1.1 y m
      exact Int.le_antisymm l2 l1
    subst e
    rw [sorted_uniq (List.Perm.cons_inv h) h1.2 h2.2]
def sortI (xs : List Int) : List Int := xs.mergeSort fun a b => decide (a ≤ b)
theorem sortI_perm (xs : List Int) : (sortI xs).Perm xs := List.mergeSort_perm _ _
theorem sortI_sorted (xs : List Int) : (sortI xs).Pairwise (· ≤ ·) := by
  have h := List.pairwise_mergeSort (le := fun (a b : Int) => decide (a ≤ b)) (fun a b c h1 h2 => by simp at *; omega) (fun a b => by simp; omega) xs
  exact h.imp fun h => by simpa using h
theorem sortI_eq {xs ys : List Int} (h : ys.Perm xs) (s : ys.Pairwise (· ≤ ·)) : ys = sortI xs := sorted_uniq (h.trans (sortI_perm xs).symm) s (sortI_sorted xs)
theorem lr_map {F : Hp} : ∀ {vs : List V} {xs : List Int}, LR (rInt F) vs xs → vs = xs.map V.int
  | [], [], _ => rfl
  | _ :: _, _ :: _, h => by rw [rInt_e h.1, lr_map h.2]; rfl
  | [], _ :: _, h => h.elim
  | _ :: _, [], h => h.elim
theorem LR.dropLast {α : Type} {r : V → α → Prop} : ∀ {vs : List V} {xs : List α}, LR r vs xs → LR r vs.dropLast xs.dropLast
  | [], [], _ => trivial
  | [_], [_], _ => trivial
  | _ :: _ :: _, _ :: _ :: _, h => ⟨h.1, LR.dropLast h.2⟩
  | [], _ :: _, h => h.elim
  | _ :: _, [], h => h.elim
  | [_], _ :: _ :: _, h => h.2.elim
  | _ :: _ :: _, [_], h => h.2.elim
theorem LR.last {α : Type} {r : V → α → Prop} {vs : List V} {xs : List α} {x : α} (h : LR r vs xs) (e : xs.getLast? = some x) : ∃ v, vs[vs.length - 1]? = some v ∧ r v x := by
  rw [List.getLast?_eq_getElem?] at e
  rw [h.length]
  exact h.get e
theorem LR.reverse {α : Type} {r : V → α → Prop} : ∀ {vs : List V} {xs : List α}, LR r vs xs → LR r vs.reverse xs.reverse
  | [], [], _ => trivial
  | _ :: _, _ :: _, h => by
    rw [List.reverse_cons, List.reverse_cons]
    exact (LR.reverse h.2).snoc h.1
  | [], _ :: _, h => h.elim
  | _ :: _, [], h => h.elim
theorem LR.take {α : Type} {r : V → α → Prop} : ∀ (n : Nat) {vs : List V} {xs : List α}, LR r vs xs → LR r (vs.take n) (xs.take n)
  | 0, _, _, _ => trivial
  | _ + 1, [], [], _ => trivial
  | n + 1, _ :: _, _ :: _, h => ⟨h.1, LR.take n h.2⟩
  | _ + 1, [], _ :: _, h => h.elim
  | _ + 1, _ :: _, [], h => h.elim
theorem LR.drop {α : Type} {r : V → α → Prop} : ∀ (n : Nat) {vs : List V} {xs : List α}, LR r vs xs → LR r (vs.drop n) (xs.drop n)
  | 0, _, _, h => h
  | _ + 1, [], [], _ => trivial
  | n + 1, _ :: _, _ :: _, h => LR.drop n h.2
  | _ + 1, [], _ :: _, h => h.elim
  | _ + 1, _ :: _, [], h => h.elim
/-- slices -/
def cutL {α : Type} (xs : List α) (lo hi : Option Int) : List α := (xs.drop (HT.sIx xs.length 0 lo)).take (HT.sIx xs.length xs.length hi - HT.sIx xs.length 0 lo)
theorem LR.cut {α : Type} {r : V → α → Prop} {vs : List V} {xs : List α} (h : LR r vs xs) (lo hi : Option Int) : LR r (cutV vs lo hi) (cutL xs lo hi) := by
  unfold cutV cutL
  rw [h.length]
  exact (h.drop _).take _
theorem KR.keysI {α : Type} {r : V → α → Prop} : ∀ {ps : List (Key × V)} {qs : List (Int × α)}, KR Sum.inl r ps qs → ps.map (·.1) = (qs.map (·.1)).map Sum.inl
  | [], [], _ => rfl
  | p :: ps, q :: qs, h => by
    show p.1 :: ps.map (·.1) = Sum.inl q.1 :: (qs.map (·.1)).map Sum.inl
    rw [h.1.1, KR.keysI h.2]
  | [], _ :: _, h => h.elim
  | _ :: _, [], h => h.elim
theorem KR.keysLI {α : Type} {r : V → α → Prop} {F : Hp} : ∀ {ps : List (Key × V)} {qs : List (Int × α)}, KR Sum.inl r ps qs → LR (rInt F) (ps.map fun kv => kV kv.1) (qs.map (·.1))
  | [], [], _ => trivial
  | p :: ps, q :: qs, h => ⟨by show kV p.1 = V.int q.1; rw [h.1.1]; rfl, KR.keysLI h.2⟩
  | [], _ :: _, h => h.elim
  | _ :: _, [], h => h.elim
/-! ### keys as rows: a text first, then numbers -/
def kStr (ks : List Key) (i : Int) : Option Str := (atI ks i).bind fun k => match k with | .inr s => some s | .inl _ => none
def kInt (ks : List Key) (i : Int) : Option Int := (atI ks i).bind fun k => match k with | .inl s => some s | .inr _ => none
theorem atI_map {α β : Type} {xs : List α} {i : Int} {x : α} (f : α → β) (h : atI xs i = some x) : atI (xs.map f) i = some (f x) := by
  unfold L2.atI at h ⊢
  rw [List.length_map]
  cases q : ixN xs.length i with
  | none => rw [q] at h; cases h
  | some j =>
    rw [q] at h
    show (xs.map f)[j]? = _
    rw [List.getElem?_map, show xs[j]? = some x from h]
    rfl
theorem kStr_at {ks : List Key} {i : Int} {s : Str} (h : kStr ks i = some s) : atI (ks.map kV) i = some (V.str s) := by
  obtain ⟨k, e, h⟩ := bnd h
  cases k with
  | inl _ => cases h
  | inr z => cases h; exact atI_map kV e
theorem kInt_at {ks : List Key} {i : Int} {s : Int} (h : kInt ks i = some s) : atI (ks.map kV) i = some (V.int s) := by
  obtain ⟨k, e, h⟩ := bnd h
  cases k with
  | inr _ => cases h
  | inl z => cases h; exact atI_map kV e
/-! ### list comprehensions -/
theorem tYesI {σ : L2.St} {H : Hp} {Q : Bool → Hp → Prop} (h : Q true H) : tYes σ H Q := h
theorem ifYes {A B : Prop} (h : A) : if true = true then A else B := by rw [if_pos rfl]; exact h
def lcO {α β : Type} (f : α → Option (Option β)) : List α → Option (List β)
  | [] => some []
  | x :: t => (f x).bind fun y => (lcO f t).bind fun r => some (match y with | none => r | some b => b :: r)
theorem lcI {α β : Type} {f : α → Option (Option β)} {x : α} {t : List α} {r : List β} {C : Prop} (k : ∀ y r', f x = some y → lcO f t = some r' → r = (match y with | none => r' | some b => b :: r') → C) : lcO f (x :: t) = some r → C := fun h => by
  obtain ⟨y, e1, h⟩ := bnd (show ((f x).bind fun y => (lcO f t).bind fun r => some (match y with | none => r | some b => b :: r)) = some r from h)
  obtain ⟨r', e2, h⟩ := bnd h
  exact k y r' e1 e2 (Option.some.inj h).symm
theorem lc_map {α β : Type} (f : α → β) : ∀ xs : List α, lcO (fun x => some (some (f x))) xs = some (xs.map f)
  | [] => rfl
  | x :: t => by
    show ((lcO (fun x => some (some (f x))) t).bind fun r => some (f x :: r)) = _
    rw [lc_map f t]; rfl
theorem lc_filter {α β : Type} (c : α → Bool) (f : α → β) : ∀ xs : List α, lcO (fun x => if c x = true then some (some (f x)) else some none) xs = some ((xs.filter c).map f)
  | [] => rfl
  | x :: t => by
    show ((if c x = true then some (some (f x)) else some none).bind fun y => (lcO (fun x => if c x = true then some (some (f x)) else some none) t).bind fun r => some (match y with | none => r | some b => b :: r)) = _
    rw [lc_filter c f t]
    by_cases h : c x = true
    · rw [if_pos h, List.filter_cons, if_pos h]; rfl
    · rw [if_neg h, List.filter_cons, if_neg h]; rfl
theorem lc_rng {lo : Int} {n : Nat} {g : TG} {tt : TT} {te : TE} {vs : List Nat} {σ : L2.St} {H1 : Hp} {D : Addr} {Qd : Hp → Prop} (Pv : Nat → Hp → Prop) (h0 : Pv 0 (upd H1 D (.lst [])))
    (hs : ∀ i x H, (pyRange lo n)[i]? = some x → Pv i H → g (.int x) (wipe σ vs) H fun σ2 H2 => wipe σ2 vs = wipe σ vs ∧ tt σ2 H2 fun b H3 =>
      if b = true then te σ2 H3 fun y H4 => ∃ acc, H4 D = some (.lst acc) ∧ acc.length < sizeLine ∧ Pv (i + 1) (upd H4 D (.lst (acc ++ [y]))) else Pv (i + 1) H3) (hd : ∀ H, Pv n H → Qd H) :
    ∃ W : Nat → Nat → Hp → Prop, (∃ m, W 0 m (upd H1 D (.lst []))) ∧ ∀ i m H, W i m H →
      ((Itr lo n).stop i H ∧ Qd H) ∨ ((Itr lo n).go i H ∧ ∃ Nx : Hp → Prop, (∀ H', Nx H' → ∃ m', m' < m ∧ W (i + 1) m' H') ∧ ∀ x H', (Itr lo n).yld i H x H' → g x (wipe σ vs) H' fun σ2 H2 => wipe σ2 vs = wipe σ vs ∧ tt σ2 H2 fun b H3 =>
        if b = true then te σ2 H3 fun y H4 => ∃ acc, H4 D = some (.lst acc) ∧ acc.length < sizeLine ∧ Nx (upd H4 D (.lst (acc ++ [y]))) else Nx H3) :=
  lc_range Pv h0 (fun i H hi p => hs i _ H (pyRange_get hi) p) hd
theorem KR.getD_int {κ : Type} [DecidableEq κ] {f : κ → Key} {F : Hp} {ps : List (Key × V)} {qs : List (κ × Int)} (h : KR f (rInt F) ps qs) (inj : ∀ a b, f a = f b → a = b) (k : κ) (x : Int) : (valV ps (f k)).getD (V.int x) = V.int ((mget qs k).getD x) := by
  rcases h.find inj k with ⟨q, q2⟩ | ⟨y, v, q, q2, q3⟩
  · rw [q, q2]; rfl
  · rw [q, q2, rInt_e q3]; rfl
theorem KR.getD_bool {κ : Type} [DecidableEq κ] {f : κ → Key} {F : Hp} {ps : List (Key × V)} {qs : List (κ × Bool)} (h : KR f (rBool F) ps qs) (inj : ∀ a b, f a = f b → a = b) (k : κ) (x : Bool) : (valV ps (f k)).getD (V.bl x) = V.bl ((mget qs k).getD x) := by
  rcases h.find inj k with ⟨q, q2⟩ | ⟨y, v, q, q2, q3⟩
  · rw [q, q2]; rfl
  · rw [q, q2, rBool_e q3]; rfl
/-! ### equal dicts of plain values -/
def dictEq {κ α : Type} [DecidableEq κ] [DecidableEq α] (x y : List (κ × α)) : Bool := decide (x.length = y.length) && x.all fun p => decide (mget y p.1 = some p.2)
theorem dictEq_int {F : Hp} {f : Int → Key} (inj : ∀ a b, f a = f b → a = b) {ps qs : List (Key × V)} {x y : List (Int × Int)} (h : KR f (rInt F) ps x) (g : KR f (rInt F) qs y) (e : dictEq x y = true) :
    ps.length = qs.length ∧ ∀ p ∈ ps, valV qs p.1 = some p.2 ∧ flatB p.2 = true := by
  have e' := Bool.and_eq_true_iff.mp e
  refine ⟨by rw [h.length, g.length]; exact of_decide_eq_true e'.1, ?_⟩
  have all := List.all_eq_true.mp e'.2
  clear e e'
  induction ps generalizing x with
  | nil => exact fun _ m => nomatch m
  | cons p ps ih =>
    cases x with
    | nil => exact h.elim
    | cons q x =>
      intro p' m
      cases m with
      | head =>
        obtain ⟨v, e1, e2⟩ := g.get inj (of_decide_eq_true (all q (.head _)))
        rw [h.1.1, e1, rInt_e h.1.2, rInt_e e2]
        exact ⟨rfl, rfl⟩
      | tail _ m => exact ih h.2 (fun z hz => all z (.tail _ hz)) p' m
theorem dictEq_bool {F : Hp} {f : Int → Key} (inj : ∀ a b, f a = f b → a = b) {ps qs : List (Key × V)} {x y : List (Int × Bool)} (h : KR f (rBool F) ps x) (g : KR f (rBool F) qs y) (e : dictEq x y = true) :
    ps.length = qs.length ∧ ∀ p ∈ ps, valV qs p.1 = some p.2 ∧ flatB p.2 = true := by
  have e' := Bool.and_eq_true_iff.mp e
  refine ⟨by rw [h.length, g.length]; exact of_decide_eq_true e'.1, ?_⟩
  have all := List.all_eq_true.mp e'.2
  clear e e'
  induction ps generalizing x with
  | nil => exact fun _ m => nomatch m
  | cons p ps ih =>
    cases x with
    | nil => exact h.elim
    | cons q x =>
      intro p' m
      cases m with
      | head =>
        obtain ⟨v, e1, e2⟩ := g.get inj (of_decide_eq_true (all q (.head _)))
        rw [h.1.1, e1, rBool_e h.1.2, rBool_e e2]
        exact ⟨rfl, rfl⟩
      | tail _ m => exact ih h.2 (fun z hz => all z (.tail _ hz)) p' m
/-! ### rules that name K (within comprehensions) -/
section
variable {X : Cx} {K : PySem.W.Frag}
theorem pe_fldK (K : PySem.W.Frag) {e : Expr} {f : Str} {ta : TE} {pos : Pos} (ho : PE X e ta) (hb : attributeBase e f X.env (eval e X.env) = eval e X.env) (hK : X.K = K := by rfl) : PE X (.Attribute e f pos) (tFld K ta f) := by
  subst hK
  exact pe_fld ho hb
theorem ix_listK (K : PySem.W.Frag) (hK : X.K = K := by rfl) : IxR X (rIxL K) := by
  subst hK
  exact ix_list
theorem ix_tupK (K : PySem.W.Frag) (hK : X.K = K := by rfl) : IxR X (rIxT K) := by
  subst hK
  exact ix_tup
theorem op_eqDK (K : PySem.W.Frag) (hu : X.A.units + 64 < cLine) (hK : X.K = K := by rfl) : OpR X (compareOp .Eq) (rEqD K) := by
  subst hK
  exact op_eqD hu
theorem op_neDK (K : PySem.W.Frag) (hu : X.A.units + 64 < cLine) (hK : X.K = K := by rfl) : OpR X (compareOp .NotEq) (rNeD K) := by
  subst hK
  exact op_neD hu
theorem len_seqK (K : PySem.W.Frag) (hK : X.K = K := by rfl) : CallR X (.builtin "len") (fun xs H Q => ∃ p ys, xs = [.ref p] ∧ (SqL K H p ys ∨ SqT K H p ys) ∧ Q (.int (ys.length : Nat)) H) := by
  subst hK
  exact call_len_seq
theorem list_ofK (K : PySem.W.Frag) (hK : X.K = K := by rfl) : CallR X (.type "list") (fun xs H Q => ∃ p ys, xs = [.ref p] ∧ (SqL K H p ys ∨ SqT K H p ys) ∧ ∀ l, H l = none → Q (.ref l) (upd H l (.lst ys))) := by
  subst hK
  exact call_list_of
theorem isiK (K : PySem.W.Frag) (hK : X.K = K := by rfl) : CallR X (.builtin "isinstance") (rIsi K) := by
  subst hK
  exact call_isi
theorem pi_listK (K : PySem.W.Frag) {tg l : Expr} {tl : TE} (hl : PE X l tl) (hK : X.K = K := by rfl) : PI X tg l (iList K tl) := by
  subst hK
  exact pi_list hl
end
theorem DGet.kf {H : Hp} {a : Addr} {od : _} {kvs : List (Key × V)} {k : Key} (e : H a = some (.frz od (.dK kvs))) : DGet H a (kV k) (valV kvs k) := .inl ⟨kvs, k, .inr ⟨_, e⟩, rfl, rfl⟩
theorem DGet.tf {H : Hp} {a b : Addr} {od : _} {kvs : List (List Key × V)} {k : List Key} (e : H a = some (.frz od (.dT kvs))) (eb : H b = some (.tup (k.map kV))) : DGet H a (.ref b) (valV kvs k) := .inr ⟨kvs, k, b, .inr ⟨_, e⟩, rfl, eb, rfl⟩
theorem _root_.L2.FnOk.or {P : Program} {w : World} {K : PySem.W.Frag} {mg : Str → Option Value} {base : Heap} {CX : CXT} {k : Nat} {f : Addr} {fd : FuncData} {ps : List Str} {s1 s2 : Sp}
    (F1 : FnOk P w K mg base CX k f fd ps s1) (F2 : FnOk P w K mg base CX k f fd ps s2) : FnOk P w K mg base CX k f fd ps (fun vs H Q E => s1 vs H Q E ∨ s2 vs H Q E) :=
  ⟨fun vs H Q E h => h.elim (F1.len vs H Q E) (F2.len vs H Q E), fun A outer s H args us vs Q E hr he hb hv h => h.elim (F1.run A outer s H args us vs Q E hr he hb hv) (F2.run A outer s H args us vs Q E hr he hb hv)⟩
theorem ints_in {F : Hp} (x : Int) : ∀ {vs : List V} {m : List Int}, LR (rInt F) vs m → inV (V.int x) vs = decide (x ∈ m) ∧ vs.all flatV = true
  | [], [], _ => ⟨by simp [inV], rfl⟩
  | v :: vs, y :: m, h => by
    obtain ⟨h1, h2⟩ := ints_in x h.2
    obtain rfl := rInt_e h.1
    refine ⟨?_, by simp only [List.all_cons, h2]; rfl⟩
    show (eqV (V.int y) (V.int x) || inV (V.int x) vs) = _
    rw [h1]
    show (decide (y = x) || _) = _
    by_cases c : y = x
    · simp [c]
    · have c2 : ¬ x = y := fun e => c e.symm
      simp [c, c2]
theorem strs_in {F : Hp} (x : Str) : ∀ {vs : List V} {m : List Str}, LR (rStr F) vs m → inV (V.str x) vs = decide (x ∈ m) ∧ vs.all flatV = true
  | [], [], _ => ⟨by simp [inV], rfl⟩
  | v :: vs, y :: m, h => by
    obtain ⟨h1, h2⟩ := strs_in x h.2
    obtain rfl := rStr_e h.1
    refine ⟨?_, by simp only [List.all_cons, h2]; rfl⟩
    show (eqV (V.str y) (V.str x) || inV (V.str x) vs) = _
    rw [h1]
    show (decide (y = x) || _) = _
    by_cases c : y = x
    · simp [c]
    · have c2 : ¬ x = y := fun e => c e.symm
      simp [c, c2]
theorem op_in_seqK {X : Cx} (K : PySem.W.Frag) (hK : X.K = K := by rfl) : OpR X (compareOp .In) (rIn K false) := by
  subst hK
  exact op_in_seq
theorem op_notIn_seqK {X : Cx} (K : PySem.W.Frag) (hK : X.K = K := by rfl) : OpR X (compareOp .NotIn) (rIn K true) := by
  subst hK
  exact op_notIn_seq
theorem LR.eraseIdx {α : Type} {r : V → α → Prop} : ∀ {vs : List V} {xs : List α} (j : Nat), LR r vs xs → LR r (vs.eraseIdx j) (xs.eraseIdx j)
  | [], [], _, _ => trivial
  | _ :: _, _ :: _, 0, h => h.2
  | _ :: _, _ :: _, j + 1, h => ⟨h.1, LR.eraseIdx j h.2⟩
theorem LR.insertIdx {α : Type} {r : V → α → Prop} {v : V} {x : α} (e : r v x) : ∀ {vs : List V} {xs : List α} (j : Nat), LR r vs xs → LR r (vs.take j ++ v :: vs.drop j) (xs.take j ++ x :: xs.drop j)
  | [], [], j, _ => by simp; exact ⟨e, trivial⟩
  | _ :: _, _ :: _, 0, h => ⟨e, h⟩
  | _ :: _, _ :: _, j + 1, h => ⟨h.1, LR.insertIdx e j h.2⟩
theorem pop_ix {α : Type} {r : V → α → Prop} {vs : List V} {xs : List α} {i : Int} {j : Nat} (h : LR r vs xs) (e : ixN xs.length i = some j) : seqIndex? i vs.length = some j := by
  rw [h.length]
  exact (ixN_seq e).1
theorem lr_rg {F : Hp} (a b : Int) : LR (rInt F) (rgV a b) (pyRange a (b - a).toNat) := by
  have e : rgV a b = (pyRange a (b - a).toNat).map V.int := by
    unfold rgV pyRange
    rw [List.map_map]
    rfl
  rw [e]
  exact lr_ints _
def rgOk (a b : Int) : Bool := decide (-(2 ^ 62) ≤ a ∧ a < 2 ^ 62 ∧ -(2 ^ 62) ≤ b ∧ b < 2 ^ 62 ∧ (b - a).toNat ≤ 2 ^ 24)
theorem rgOk_t {a b : Int} (h : rgOk a b = true) : RgOk a b := by unfold rgOk at h; unfold RgOk; exact of_decide_eq_true h
def mdrop {κ α : Type} [DecidableEq κ] (xs : List (κ × α)) (k : κ) : List (κ × α) := xs.filter fun p => decide (p.1 ≠ k)
theorem KR.drop {κ ν α : Type} [DecidableEq κ] [DecidableEq ν] {f : κ → ν} {r : V → α → Prop} (inj : ∀ a b, f a = f b → a = b) (k : κ) : ∀ {ps : List (ν × V)} {qs : List (κ × α)}, KR f r ps qs → KR f r (dropK ps (f k)) (mdrop qs k)
  | [], [], _ => trivial
  | p :: ps, q :: qs, h => by
    have ih := KR.drop inj k h.2
    unfold dropK mdrop at ih ⊢
    by_cases c : q.1 = k
    · have c2 : p.1 = f k := by rw [h.1.1, c]
      rw [List.filter_cons_of_neg (by simpa using c2), List.filter_cons_of_neg (by simpa using c)]
      exact ih
    · have c2 : ¬ p.1 = f k := by rw [h.1.1]; exact fun e => c (inj _ _ e)
      rw [List.filter_cons_of_pos (by simpa using c2), List.filter_cons_of_pos (by simpa using c)]
      exact ⟨h.1, ih⟩
theorem sl_listK {X : Cx} (K : PySem.W.Frag) (hK : X.K = K := by rfl) : SlR X (rSlL K) := by
  subst hK
  exact sl_list
theorem lc_keys {d : Addr} {od : Obj} {kvs : List (Key × V)} {g : TG} {tt : TT} {te : TE} {vs : List Nat} {σ : L2.St} {H1 : Hp} {D : Addr} {Qd : Hp → Prop} (Pv : Nat → Hp → Prop) (h0 : Pv 0 (upd H1 D (.lst [])))
    (hl : ∀ i H, i ≤ kvs.length → Pv i H → H d = some (.frz od (.dK kvs)))
    (hs : ∀ i x H, (kvs.map fun kv => kV kv.1)[i]? = some x → Pv i H → g x (wipe σ vs) H fun σ2 H2 => wipe σ2 vs = wipe σ vs ∧ tt σ2 H2 fun b H3 =>
      if b = true then te σ2 H3 fun y H4 => ∃ acc, H4 D = some (.lst acc) ∧ acc.length < sizeLine ∧ Pv (i + 1) (upd H4 D (.lst (acc ++ [y]))) else Pv (i + 1) H3) (hd : ∀ H, Pv (kvs.map fun kv => kV kv.1).length H → Qd H) :
    ∃ W : Nat → Nat → Hp → Prop, (∃ m, W 0 m (upd H1 D (.lst []))) ∧ ∀ i m H, W i m H →
      ((Itk d od kvs).stop i H ∧ Qd H) ∨ ((Itk d od kvs).go i H ∧ ∃ Nx : Hp → Prop, (∀ H', Nx H' → ∃ m', m' < m ∧ W (i + 1) m' H') ∧ ∀ x H', (Itk d od kvs).yld i H x H' → g x (wipe σ vs) H' fun σ2 H2 => wipe σ2 vs = wipe σ vs ∧ tt σ2 H2 fun b H3 =>
        if b = true then te σ2 H3 fun y H4 => ∃ acc, H4 D = some (.lst acc) ∧ acc.length < sizeLine ∧ Nx (upd H4 D (.lst (acc ++ [y]))) else Nx H3) :=
  lc_it walk_keys Pv h0 hl (fun i x H H' hi p y => by
    obtain ⟨rfl, k, v, e1, rfl⟩ := y
    exact hs i _ _ (by rw [List.getElem?_map, e1]; rfl) p) (fun H p => hd H (by rw [List.length_map]; exact p))
theorem rdMap {H H' : Hp} {a : Addr} {u : HO} (f : ∀ v, H a = some v → H' a = some v) (h : Rd H a u) : Rd H' a u := h.elim (fun e => .inl (f _ e)) fun ⟨o, e⟩ => .inr ⟨o, f _ e⟩
theorem DGet.rd {H : Hp} {a : Addr} {kvs : List (Key × V)} {k : Key} (e : Rd H a (.dK kvs)) : DGet H a (kV k) (valV kvs k) := .inl ⟨kvs, k, e, rfl, rfl⟩
def maxL : List Int → Int
  | [] => 0
  | [x] => x
  | x :: y :: t => if maxL (y :: t) > x then maxL (y :: t) else x
theorem maxL_mem : ∀ {ns : List Int}, 0 < ns.length → maxL ns ∈ ns
  | [x], _ => .head _
  | x :: y :: t, _ => by
    have ih := maxL_mem (ns := y :: t) (by simp)
    unfold maxL
    by_cases c : maxL (y :: t) > x
    · rw [if_pos c]; exact .tail _ ih
    · rw [if_neg c]; exact .head _
theorem maxL_ge : ∀ {ns : List Int} {z : Int}, z ∈ ns → z ≤ maxL ns
  | [x], z, h => by
    have := List.mem_singleton.mp h
    subst this
    exact Int.le_refl _
  | x :: y :: t, z, h => by
    unfold maxL
    rcases List.mem_cons.mp h with e | h
    · subst e; split <;> omega
    · have := maxL_ge (ns := y :: t) h
      split <;> omega
theorem maxL_eq {ns : List Int} {m : Int} (h : m ∈ ns) (g : ∀ y, y ∈ ns → y ≤ m) : m = maxL ns := by
  have h1 := maxL_ge h
  have h2 := g _ (maxL_mem (List.length_pos_of_mem h))
  omega
/-! ### own parts within containers: what an item owns -/
abbrev RO (α : Type) := Hp → V → α → Own → Prop
def roF {α : Type} (r : Rp α) : RO α := fun F v x cs => cs = [] ∧ r F v x
def roM {α : Type} (r : Rp α) : RO (List α) := fun F v xs cs => ∃ a vs, v = .ref a ∧ cs = [(a, HO.lst vs)] ∧ LR (r F) vs xs
def roT2 {α β : Type} (K : PySem.W.Frag) (r : RO α) (s : RO β) : RO (α × β) := fun F v x cs => ∃ a u w c1 c2, v = .ref a ∧ SqT K F a [u, w] ∧ r F u x.1 c1 ∧ s F w x.2 c2 ∧ cs = c1 ++ c2
class MonoO {α : Type} (r : RO α) : Prop where
  mono : ∀ {F F' : Hp} {v : V} {x : α} {cs : Own}, Same F F' → r F v x cs → r F' v x cs
instance {α : Type} {r : Rp α} [m : MonoR r] : MonoO (roF r) := ⟨fun e h => ⟨h.1, m.mono e h.2⟩⟩
instance {α : Type} {r : Rp α} [m : MonoR r] : MonoO (roM r) := ⟨fun e ⟨a, vs, h1, h2, h3⟩ => ⟨a, vs, h1, h2, h3.mono e⟩⟩
instance {α β : Type} {K : PySem.W.Frag} {r : RO α} {s : RO β} [m : MonoO r] [n : MonoO s] : MonoO (roT2 K r s) :=
  ⟨fun e ⟨a, u, w, c1, c2, h1, h2, h3, h4, h5⟩ => ⟨a, u, w, c1, c2, h1, SqT.mono h2 e, m.mono e h3, n.mono e h4, h5⟩⟩
def LRO {α : Type} (r : V → α → Own → Prop) : List V → List α → Own → Prop
  | [], [], cs => cs = []
  | v :: vs, x :: xs, cs => ∃ c1 c2, cs = c1 ++ c2 ∧ r v x c1 ∧ LRO r vs xs c2
  | _, _, _ => False
def KRO {κ ν α : Type} (f : κ → ν) (r : V → α → Own → Prop) : List (ν × V) → List (κ × α) → Own → Prop
  | [], [], cs => cs = []
  | p :: ps, q :: qs, cs => ∃ c1 c2, cs = c1 ++ c2 ∧ (p.1 = f q.1 ∧ r p.2 q.2 c1) ∧ KRO f r ps qs c2
  | _, _, _ => False
/-- an item as it stands in the heap G, its frozen parts in F -/
def vw {α : Type} (ro : RO α) (G F : Hp) : V → α → Prop := fun v x => ∃ cs, ro F v x cs ∧ ∀ c ∈ cs, G c.1 = some c.2
section
variable {α κ ν : Type} {r : V → α → Own → Prop} {f : κ → ν}
theorem LRO.length : ∀ {vs : List V} {xs : List α} {cs : Own}, LRO r vs xs cs → vs.length = xs.length
  | [], [], _, _ => rfl
  | _ :: _, _ :: _, _, ⟨_, _, _, _, h⟩ => congrArg (· + 1) (LRO.length h)
  | [], _ :: _, _, h => h.elim
  | _ :: _, [], _, h => h.elim
theorem KRO.length : ∀ {vs : List (ν × V)} {xs : List (κ × α)} {cs : Own}, KRO f r vs xs cs → vs.length = xs.length
  | [], [], _, _ => rfl
  | _ :: _, _ :: _, _, ⟨_, _, _, _, h⟩ => congrArg (· + 1) (KRO.length h)
  | [], _ :: _, _, h => h.elim
  | _ :: _, [], _, h => h.elim
theorem LRO.imp {s : V → α → Own → Prop} (g : ∀ v x cs, r v x cs → s v x cs) : ∀ {vs : List V} {xs : List α} {cs : Own}, LRO r vs xs cs → LRO s vs xs cs
  | [], [], _, h => h
  | _ :: _, _ :: _, _, ⟨c1, c2, e, h1, h2⟩ => ⟨c1, c2, e, g _ _ _ h1, LRO.imp g h2⟩
  | [], _ :: _, _, h => h.elim
  | _ :: _, [], _, h => h.elim
theorem KRO.imp {s : V → α → Own → Prop} (g : ∀ v x cs, r v x cs → s v x cs) : ∀ {vs : List (ν × V)} {xs : List (κ × α)} {cs : Own}, KRO f r vs xs cs → KRO f s vs xs cs
  | [], [], _, h => h
  | _ :: _, _ :: _, _, ⟨c1, c2, e, h1, h2⟩ => ⟨c1, c2, e, ⟨h1.1, g _ _ _ h1.2⟩, KRO.imp g h2⟩
  | [], _ :: _, _, h => h.elim
  | _ :: _, [], _, h => h.elim
theorem LRO.snoc {v : V} {x : α} {c : Own} (g : r v x c) : ∀ {vs : List V} {xs : List α} {cs : Own}, LRO r vs xs cs → LRO r (vs ++ [v]) (xs ++ [x]) (cs ++ c)
  | [], [], _, h => ⟨c, [], by rw [show _ = [] from h]; simp, g, rfl⟩
  | _ :: _, _ :: _, _, ⟨c1, c2, e, h1, h2⟩ => ⟨c1, c2 ++ c, by rw [e, List.append_assoc], h1, LRO.snoc g h2⟩
  | [], _ :: _, _, h => h.elim
  | _ :: _, [], _, h => h.elim
theorem KRO.snoc {v : V} {k : κ} {x : α} {c : Own} (g : r v x c) : ∀ {vs : List (ν × V)} {xs : List (κ × α)} {cs : Own}, KRO f r vs xs cs → KRO f r (vs ++ [(f k, v)]) (xs ++ [(k, x)]) (cs ++ c)
  | [], [], _, h => ⟨c, [], by rw [show _ = [] from h]; simp, ⟨rfl, g⟩, rfl⟩
  | _ :: _, _ :: _, _, ⟨c1, c2, e, h1, h2⟩ => ⟨c1, c2 ++ c, by rw [e, List.append_assoc], h1, KRO.snoc g h2⟩
  | [], _ :: _, _, h => h.elim
  | _ :: _, [], _, h => h.elim
theorem LRO.toLR {s : V → α → Prop} : ∀ {vs : List V} {xs : List α} {cs : Own}, LRO r vs xs cs → (∀ v x c, r v x c → (∀ y ∈ c, y ∈ cs) → s v x) → LR s vs xs
  | [], [], _, _, _ => trivial
  | v :: vs, x :: xs, cs, ⟨c1, c2, e, h1, h2⟩, g => ⟨g _ _ _ h1 fun y q => by rw [e]; exact List.mem_append_left _ q, LRO.toLR h2 fun v x c q z => g v x c q fun y w => by rw [e]; exact List.mem_append_right _ (z y w)⟩
  | [], _ :: _, _, h, _ => h.elim
  | _ :: _, [], _, h, _ => h.elim
theorem KRO.toKR {s : V → α → Prop} : ∀ {vs : List (ν × V)} {xs : List (κ × α)} {cs : Own}, KRO f r vs xs cs → (∀ v x c, r v x c → (∀ y ∈ c, y ∈ cs) → s v x) → KR f s vs xs
  | [], [], _, _, _ => trivial
  | v :: vs, x :: xs, cs, ⟨c1, c2, e, h1, h2⟩, g => ⟨⟨h1.1, g _ _ _ h1.2 fun y q => by rw [e]; exact List.mem_append_left _ q⟩, KRO.toKR h2 fun v x c q z => g v x c q fun y w => by rw [e]; exact List.mem_append_right _ (z y w)⟩
  | [], _ :: _, _, h, _ => h.elim
  | _ :: _, [], _, h, _ => h.elim
/-- an item taken out, and put back -/
theorem LRO.open_ : ∀ {vs : List V} {xs : List α} {cs : Own} {i : Nat} {x : α}, LRO r vs xs cs → xs[i]? = some x →
    ∃ v c0 c1 c2, vs[i]? = some v ∧ r v x c1 ∧ cs = c0 ++ (c1 ++ c2) ∧ ∀ x' c1', r v x' c1' → LRO r vs (xs.set i x') (c0 ++ (c1' ++ c2))
  | [], [], _, _, _, _, e => by simp at e
  | v :: vs, y :: xs, cs, 0, x, ⟨c1, c2, e, h1, h2⟩, ex => by
    simp at ex
    subst ex
    exact ⟨v, [], c1, c2, rfl, h1, by simpa using e, fun x' c1' q => ⟨c1', c2, by simp, q, h2⟩⟩
  | v :: vs, y :: xs, cs, i + 1, x, ⟨d1, d2, e, h1, h2⟩, ex => by
    obtain ⟨u, c0, c1, c2, q1, q2, q3, q4⟩ := LRO.open_ (i := i) (x := x) h2 (by simpa using ex)
    refine ⟨u, d1 ++ c0, c1, c2, by simpa using q1, q2, by rw [e, q3, List.append_assoc], fun x' c1' q => ⟨d1, c0 ++ (c1' ++ c2), by rw [List.append_assoc], h1, q4 x' c1' q⟩⟩
  | [], _ :: _, _, _, _, h, _ => h.elim
  | _ :: _, [], _, _, _, h, _ => h.elim
def mupd1 [DecidableEq κ] : List (κ × α) → κ → α → List (κ × α)
  | [], _, _ => []
  | q :: qs, k, x => if q.1 = k then (q.1, x) :: qs else q :: mupd1 qs k x
theorem KRO.find [DecidableEq κ] [DecidableEq ν] (inj : ∀ a b, f a = f b → a = b) (k : κ) : ∀ {ps : List (ν × V)} {qs : List (κ × α)} {cs : Own}, KRO f r ps qs cs →
    (mget qs k = none ∧ valV ps (f k) = none) ∨ ∃ x v c0 c1 c2, mget qs k = some x ∧ valV ps (f k) = some v ∧ r v x c1 ∧ cs = c0 ++ (c1 ++ c2) ∧
      ∀ x' c1', r v x' c1' → KRO f r ps (mupd1 qs k x') (c0 ++ (c1' ++ c2))
  | [], [], _, _ => .inl ⟨rfl, rfl⟩
  | p :: ps, q :: qs, cs, ⟨d1, d2, e, h1, h2⟩ => by
    have mc : mget (q :: qs) k = if q.1 = k then some q.2 else mget qs k := by
      unfold mget
      by_cases c : q.1 = k
      · rw [List.find?_cons_of_pos (by simpa using c), if_pos c]; rfl
      · rw [List.find?_cons_of_neg (by simpa using c), if_neg c]
    by_cases c : q.1 = k
    · refine .inr ⟨q.2, p.2, [], d1, d2, by rw [mc, if_pos c], valV_pos (by rw [h1.1, c]), h1.2, by simpa using e, fun x' c1' g => ?_⟩
      unfold mupd1
      rw [if_pos c]
      exact ⟨c1', d2, by simp, ⟨h1.1, g⟩, h2⟩
    · have e2 : ¬ p.1 = f k := fun z => c (inj _ _ (h1.1.symm.trans z))
      rw [mc, if_neg c, valV_neg e2]
      rcases KRO.find inj k h2 with h | ⟨x, v, c0, c1, c2, q1, q2, q3, q4, q5⟩
      · exact .inl h
      · refine .inr ⟨x, v, d1 ++ c0, c1, c2, q1, q2, q3, by rw [e, q4, List.append_assoc], fun x' c1' g => ?_⟩
        unfold mupd1
        rw [if_neg c]
        exact ⟨d1, _, by rw [List.append_assoc], h1, q5 x' c1' g⟩
  | [], _ :: _, _, h => h.elim
  | _ :: _, [], _, h => h.elim
/-- d.setdefault(k, []).append(y) -/
def mapp {β : Type} [DecidableEq κ] (m : List (κ × List β)) (k : κ) (y : β) : List (κ × List β) := match mget m k with
  | some x => mupd1 m k (x ++ [y])
  | none => m ++ [(k, [y])]
end
theorem LRO.mono {α : Type} {r : RO α} [m : MonoO r] {F F' : Hp} {vs : List V} {xs : List α} {cs : Own} (h : LRO (r F) vs xs cs) (e : Same F F') : LRO (r F') vs xs cs := h.imp fun _ _ _ q => m.mono e q
theorem KRO.mono {κ ν α : Type} {f : κ → ν} {r : RO α} [m : MonoO r] {F F' : Hp} {vs : List (ν × V)} {xs : List (κ × α)} {cs : Own} (h : KRO f (r F) vs xs cs) (e : Same F F') : KRO f (r F') vs xs cs := h.imp fun _ _ _ q => m.mono e q
theorem LRO.view {α : Type} {r : RO α} {G F : Hp} {vs : List V} {xs : List α} {cs : Own} (h : LRO (r F) vs xs cs) (g : ∀ c ∈ cs, G c.1 = some c.2) : LR (vw r G F) vs xs := h.toLR fun _ _ c q z => ⟨c, q, fun y w => g y (z y w)⟩
theorem KRO.view {κ ν α : Type} {f : κ → ν} {r : RO α} {G F : Hp} {vs : List (ν × V)} {xs : List (κ × α)} {cs : Own} (h : KRO f (r F) vs xs cs) (g : ∀ c ∈ cs, G c.1 = some c.2) : KR f (vw r G F) vs xs := h.toKR fun _ _ c q z => ⟨c, q, fun y w => g y (z y w)⟩
theorem vw_mono {α : Type} {r : RO α} [m : MonoO r] {G G' F F' : Hp} (eg : Same G G') (ef : Same F F') {v : V} {x : α} (h : vw r G F v x) : vw r G' F' v x := by
  obtain ⟨cs, h1, h2⟩ := h
  exact ⟨cs, m.mono ef h1, fun c q => eg _ _ (h2 c q)⟩
theorem LR.vmono {α : Type} {r : RO α} [MonoO r] {G G' F F' : Hp} {vs : List V} {xs : List α} (h : LR (vw r G F) vs xs) (eg : Same G G') (ef : Same F F') : LR (vw r G' F') vs xs := h.imp fun _ _ q => vw_mono eg ef q
theorem KR.vmono {κ ν α : Type} {f : κ → ν} {r : RO α} [MonoO r] {G G' F F' : Hp} {vs : List (ν × V)} {xs : List (κ × α)} (h : KR f (vw r G F) vs xs) (eg : Same G G') (ef : Same F F') : KR f (vw r G' F') vs xs := h.imp fun _ _ q => vw_mono eg ef q
theorem vw_F {α : Type} {r : Rp α} {G F : Hp} {v : V} {x : α} (h : vw (roF r) G F v x) : r F v x := by obtain ⟨_, h, _⟩ := h; exact h.2
theorem vw_M {α : Type} {K : PySem.W.Frag} {r : Rp α} {G F : Hp} {v : V} {xs : List α} (h : vw (roM r) G F v xs) : ∃ a vs, v = .ref a ∧ SqL K G a vs ∧ LR (r F) vs xs := by
  obtain ⟨_, ⟨a, vs, h1, rfl, h3⟩, g⟩ := h
  exact ⟨a, vs, h1, SqL.of (g _ (.head _)), h3⟩
theorem vw_T2 {α β : Type} {K : PySem.W.Frag} {r : RO α} {s : RO β} {G F : Hp} {v : V} {x : α × β} (h : vw (roT2 K r s) G F v x) : ∃ a u w, v = .ref a ∧ SqT K F a [u, w] ∧ vw r G F u x.1 ∧ vw s G F w x.2 := by
  obtain ⟨_, ⟨a, u, w, c1, c2, h1, h2, h3, h4, rfl⟩, g⟩ := h
  exact ⟨a, u, w, h1, h2, ⟨c1, h3, fun c q => g c (List.mem_append_left _ q)⟩, ⟨c2, h4, fun c q => g c (List.mem_append_right _ q)⟩⟩
/-- frozen: the own parts belong to the frozen heap -/
class FrzO {α : Type} (ro : RO α) (r : Rp α) : Prop where
  frz : ∀ {F : Hp} {v : V} {x : α}, vw ro F F v x → r F v x
instance {α : Type} {r : Rp α} : FrzO (roF r) r := ⟨fun h => vw_F h⟩
instance {α : Type} {K : PySem.W.Frag} {r : Rp α} : FrzO (roM r) (rLst K r) := ⟨fun h => by
  obtain ⟨a, vs, h1, h2, h3⟩ := vw_M (K := K) h
  exact ⟨a, vs, h1, h2, h3⟩⟩
instance {α β : Type} {K : PySem.W.Frag} {ro : RO α} {so : RO β} {r : Rp α} {s : Rp β} [m : FrzO ro r] [n : FrzO so s] : FrzO (roT2 K ro so) (rT2 K r s) := ⟨fun h => by
  obtain ⟨a, u, w, h1, h2, h3, h4⟩ := vw_T2 h
  exact ⟨a, u, w, h1, h2, m.frz h3, n.frz h4⟩⟩
theorem LRO.frz {α : Type} {ro : RO α} {r : Rp α} [m : FrzO ro r] [MonoO ro] {F F' : Hp} {vs : List V} {xs : List α} {cs : Own} (h : LRO (ro F) vs xs cs) (e : Same F F') (g : ∀ c ∈ cs, F' c.1 = some c.2) : LR (r F') vs xs :=
  ((h.mono e).view g).imp fun _ _ q => m.frz q
theorem KRO.frz {κ ν α : Type} {f : κ → ν} {ro : RO α} {r : Rp α} [m : FrzO ro r] [MonoO ro] {F F' : Hp} {vs : List (ν × V)} {xs : List (κ × α)} {cs : Own} (h : KRO f (ro F) vs xs cs) (e : Same F F') (g : ∀ c ∈ cs, F' c.1 = some c.2) : KR f (r F') vs xs :=
  ((h.mono e).view g).imp fun _ _ q => m.frz q
section
variable {F : Hp} {cs ds R : Own} {H : Hp}
theorem Sta.dropL (S : Sta F (cs ++ ds) H) : Sta F ds H := ⟨S.sub, fun a o m => S.own a o (List.mem_append_right _ m), by
  have h := S.nd
  rw [List.map_append] at h
  exact (List.nodup_append.mp h).2.1⟩
theorem Sta.takeL (S : Sta F (cs ++ ds) H) : Sta F cs H := ⟨S.sub, fun a o m => S.own a o (List.mem_append_left _ m), by
  have h := S.nd
  rw [List.map_append] at h
  exact (List.nodup_append.mp h).1⟩
theorem Sta.selfO (S : Sta F cs H) : ∀ c ∈ cs, ov F cs c.1 = some c.2 := fun c q => ov_mem S.nd (show (c.1, c.2) ∈ cs from q)
theorem ov_none : ∀ {cs : Own} {b : Addr}, F b = none → b ∉ cs.map (·.1) → ov F cs b = none
  | [], _, h, _ => h
  | (a, o) :: cs, b, h, n => by
    have n' : ¬ b = a ∧ b ∉ cs.map (·.1) := by simpa using n
    show upd (ov F cs) a o b = none
    rw [upd_ne n'.1]
    exact ov_none h n'.2
/-- cells are frozen all at once -/
theorem Sta.frzL (S : Sta F (cs ++ ds) H) : ∃ F', Same F F' ∧ Sta F' ds H ∧ ∀ c ∈ cs, F' c.1 = some c.2 := by
  have nd := S.nd
  rw [List.map_append] at nd
  obtain ⟨n1, n2, n3⟩ := List.nodup_append.mp nd
  refine ⟨ov F cs, S.takeL.ovS, ⟨S.takeL.bor (Same.refl _) fun _ q => q, fun a o m => ⟨(S.own a o (List.mem_append_right _ m)).1, ov_none (S.own a o (List.mem_append_right _ m)).2 fun q => n3 a q a (mem_fst m) rfl⟩, n2⟩, S.takeL.selfO⟩
def fl : List Own → Own → Own
  | [], R => R
  | s :: ss, R => s ++ fl ss R
theorem fl_eq : ∀ (ss : List Own) (R : Own), fl ss R = ss.flatten ++ R
  | [], _ => rfl
  | s :: ss, R => by
    show s ++ fl ss R = _
    rw [fl_eq ss R, List.flatten_cons, List.append_assoc]
theorem pw_pick {α : Type} {p : α → α → Prop} (sym : ∀ a b, p a b → p b a) {xs : List α} (hx : xs.Pairwise p) : ∀ {is : List Nat} {ys : List α}, is.Nodup → is.map (xs[·]?) = ys.map some → ys.Pairwise p
  | [], [], _, _ => List.Pairwise.nil
  | [], _ :: _, _, e => by simp at e
  | _ :: _, [], _, e => by simp at e
  | i :: is, y :: ys, hi, e => by
    have hi' := List.nodup_cons.mp hi
    simp at e
    obtain ⟨e1, e2⟩ := e
    refine List.Pairwise.cons (fun z hz => ?_) (pw_pick sym hx hi'.2 (by simpa using e2))
    have m2 : some z ∈ is.map (xs[·]?) := by
      rw [show is.map (xs[·]?) = ys.map some by simpa using e2]
      exact List.mem_map.mpr ⟨z, hz, rfl⟩
    obtain ⟨j, hj, ej⟩ := List.mem_map.mp m2
    obtain ⟨l1, q1⟩ := List.getElem?_eq_some_iff.mp e1
    obtain ⟨l2, q2⟩ := List.getElem?_eq_some_iff.mp (show xs[j]? = some z from ej)
    have ne : i ≠ j := fun h => hi'.1 (h ▸ hj)
    subst q1 q2
    rcases Nat.lt_or_gt_of_ne ne with h | h
    · exact List.pairwise_iff_getElem.mp hx i j l1 l2 h
    · exact sym _ _ (List.pairwise_iff_getElem.mp hx j i l2 l1 h)
/-- segments of cells, in another sequence, some left out -/
theorem Sta.pickS {segs segs' : List Own} (is : List Nat) (hi : is.Nodup) (e : is.map (segs[·]?) = segs'.map some) (S : Sta F (fl segs R) H) : Sta F (fl segs' R) H := by
  have sub : ∀ s ∈ segs', s ∈ segs := fun s m => by
    have m2 : some s ∈ is.map (segs[·]?) := by
      rw [e]
      exact List.mem_map.mpr ⟨s, m, rfl⟩
    obtain ⟨j, _, ej⟩ := List.mem_map.mp m2
    exact List.mem_of_getElem? ej
  have nd := S.nd
  rw [fl_eq, List.map_append] at nd
  obtain ⟨n1, n2, n3⟩ := List.nodup_append.mp nd
  have n1' : ((segs.map fun s => s.map (·.1)).flatten).Nodup := by
    rw [← List.map_flatten] ; exact n1
  have pw := List.pairwise_flatten.mp n1'
  have msub : ∀ c, c ∈ segs'.flatten → c ∈ segs.flatten := fun c m => by
    obtain ⟨s, hs, hc⟩ := List.mem_flatten.mp m
    exact List.mem_flatten.mpr ⟨s, sub s hs, hc⟩
  refine S.sel ?_ fun c m => ?_
  · rw [fl_eq, List.map_append]
    refine List.nodup_append.mpr ⟨?_, n2, fun x hx y hy => n3 x ?_ y hy⟩
    · rw [List.map_flatten]
      refine List.pairwise_flatten.mpr ⟨fun l hl => ?_, ?_⟩
      · obtain ⟨s, hs, rfl⟩ := List.mem_map.mp hl
        exact pw.1 _ (List.mem_map.mpr ⟨s, sub s hs, rfl⟩)
      · have h2 := pw.2
        rw [List.pairwise_map] at h2 ⊢
        exact pw_pick (fun a b h x hx y hy => (h y hy x hx).symm) h2 hi e
    · obtain ⟨c, hc, ec⟩ := List.mem_map.mp hx
      exact List.mem_map.mpr ⟨c, msub c hc, ec⟩
  · rw [fl_eq] at m ⊢
    rcases List.mem_append.mp m with q | q
    · exact List.mem_append_left _ (msub c q)
    · exact List.mem_append_right _ q
theorem Sta.jn {a b ys : Own} (S : Sta F (cs ++ (a ++ (b ++ ys))) H) : Sta F (cs ++ ((a ++ b) ++ ys)) H := by
  rw [List.append_assoc]
  exact S
theorem Sta.op3 {a b c ys : Own} (S : Sta F (cs ++ ((a ++ (b ++ c)) ++ ys)) H) : Sta F (b ++ (cs ++ ((a ++ c) ++ ys))) H := by
  rw [List.append_assoc, List.append_assoc] at S
  rw [List.append_assoc]
  exact Sta.pickS (segs := [cs, a, b, c]) (segs' := [b, cs, a, c]) (R := ys) [2, 0, 1, 3] (by decide) rfl S
theorem Sta.cl3 {a b c ys : Own} (S : Sta F (b ++ (cs ++ ((a ++ c) ++ ys))) H) : Sta F (cs ++ ((a ++ (b ++ c)) ++ ys)) H := by
  rw [List.append_assoc] at S
  rw [List.append_assoc, List.append_assoc]
  exact Sta.pickS (segs := [b, cs, a, c]) (segs' := [cs, a, b, c]) (R := ys) [1, 2, 0, 3] (by decide) rfl S
theorem Sta.memO (S : Sta F cs H) (m : ∀ c ∈ R, c ∈ cs) : ∀ c ∈ R, ov F cs c.1 = some c.2 := fun c q => ov_mem S.nd (show (c.1, c.2) ∈ cs from m c q)
end
/-! ### None or not -/
def optE {α β : Type} (m : Option α) (a : β) (f : α → β) : β := match m with
  | none => a
  | some y => f y
theorem optI {α β : Type} {m : Option α} {a : β} {f : α → β} {r : β} {C : Prop} (h0 : m = none → a = r → C) (h1 : ∀ y, m = some y → f y = r → C) : optE m a f = r → C := by
  intro h
  cases m with
  | none => exact h0 rfl h
  | some y => exact h1 y rfl h
theorem rOpt_none {α : Type} {r : Rp α} {F : Hp} {v : V} {x : Option α} (e : x = none) (h : rOpt r F v x) : v = .non := by subst e; exact h
/-- never None -/
class NoNon {α : Type} (r : Rp α) : Prop where
  nn : ∀ {F : Hp} {x : α}, ¬ r F .non x
instance : NoNon rInt := ⟨fun h => by cases rInt_e h⟩
instance : NoNon rBool := ⟨fun h => by cases rBool_e h⟩
instance : NoNon rStr := ⟨fun h => by cases rStr_e h⟩
instance {α : Type} {K : PySem.W.Frag} {r : Rp α} : NoNon (rLst K r) := ⟨fun ⟨_, _, h, _⟩ => by cases h⟩
instance {α : Type} {K : PySem.W.Frag} {r : Rp α} : NoNon (rVT K r) := ⟨fun ⟨_, _, h, _⟩ => by cases h⟩
instance {α β : Type} {K : PySem.W.Frag} {r : Rp α} {s : Rp β} : NoNon (rT2 K r s) := ⟨fun ⟨_, _, _, h, _⟩ => by cases h⟩
instance {α β γ : Type} {K : PySem.W.Frag} {r : Rp α} {s : Rp β} {t : Rp γ} : NoNon (rT3 K r s t) := ⟨fun ⟨_, _, _, _, h, _⟩ => by cases h⟩
instance : NoNon rKT := ⟨fun ⟨_, h, _⟩ => by cases h⟩
theorem opt_isN {α : Type} {r : Rp α} [n : NoNon r] {F : Hp} {v : V} {x : Option α} (h : rOpt r F v x) : decide (v = .non) = x.isNone := by
  cases x with
  | none => obtain rfl := (show v = .non from h); rfl
  | some y => exact decide_eq_false fun e => n.nn (F := F) (x := y) (e ▸ h)
theorem putK_new {ν : Type} [DecidableEq ν] {ps : List (ν × V)} {k : ν} {v : V} (h : valV ps k = none) : putK ps k v = ps ++ [(k, v)] := by
  unfold putK
  rw [if_neg]
  intro c
  obtain ⟨p, hp, e⟩ := List.any_eq_true.mp c
  unfold valV at h
  rw [Option.map_eq_none_iff, List.find?_eq_none] at h
  exact h p hp e
theorem getL {κ ν α : Type} [DecidableEq κ] [DecidableEq ν] {f : κ → ν} {K : PySem.W.Frag} {r : Rp α} {G F : Hp} {kvs : List (ν × V)} {m : List (κ × List α)} (h : KR f (vw (roM r) G F) kvs m) (inj : ∀ a b, f a = f b → a = b) (k : κ) {l : Addr} (hl : SqL K G l []) :
    ∃ a vs, (valV kvs (f k)).getD (V.ref l) = V.ref a ∧ SqL K G a vs ∧ LR (r F) vs ((mget m k).getD []) := by
  rcases h.find inj k with ⟨q, q2⟩ | ⟨x, v, q, q2, q3⟩
  · rw [q, q2]; exact ⟨l, [], rfl, hl, trivial⟩
  · rw [q, q2]
    obtain ⟨a, vs, rfl, h1, h2⟩ := vw_M (K := K) q3
    exact ⟨a, vs, rfl, h1, h2⟩
theorem getLF {κ ν α : Type} [DecidableEq κ] [DecidableEq ν] {f : κ → ν} {K : PySem.W.Frag} {r : Rp α} {F : Hp} {kvs : List (ν × V)} {m : List (κ × List α)} (h : KR f (rLst K r F) kvs m) (inj : ∀ a b, f a = f b → a = b) (k : κ) {l : Addr} (hl : SqL K F l []) :
    ∃ a vs, (valV kvs (f k)).getD (V.ref l) = V.ref a ∧ SqL K F a vs ∧ LR (r F) vs ((mget m k).getD []) := by
  rcases h.find inj k with ⟨q, q2⟩ | ⟨x, v, q, q2, q3⟩
  · rw [q, q2]; exact ⟨l, [], rfl, hl, trivial⟩
  · rw [q, q2]
    obtain ⟨a, vs, rfl, h1, h2⟩ := q3
    exact ⟨a, vs, rfl, h1, h2⟩
/-! ### a list or a tuple: (is it a list, the items) -/
def SqB (K : PySem.W.Frag) (b : Bool) (H : Hp) (a : Addr) (xs : List V) : Prop := if b = true then SqL K H a xs else SqT K H a xs
theorem SqB.mono {K : PySem.W.Frag} {b : Bool} {H H' : Hp} {a : Addr} {xs : List V} (h : SqB K b H a xs) (e : Same H H') : SqB K b H' a xs := by
  cases b with
  | true => exact SqL.mono (show SqL K H a xs from h) e
  | false => exact SqT.mono (show SqT K H a xs from h) e
theorem SqB.or {K : PySem.W.Frag} {b : Bool} {H : Hp} {a : Addr} {xs : List V} (h : SqB K b H a xs) : SqL K H a xs ∨ SqT K H a xs := by
  cases b with
  | true => exact .inl h
  | false => exact .inr h
def rSeq {α : Type} (K : PySem.W.Frag) (r : Rp α) : Rp (Bool × List α) := fun F v x => ∃ a vs, v = .ref a ∧ SqB K x.1 F a vs ∧ LR (r F) vs x.2
instance {α : Type} {K : PySem.W.Frag} {r : Rp α} [MonoR r] : MonoR (rSeq K r) := ⟨fun e ⟨a, vs, h1, h2, h3⟩ => ⟨a, vs, h1, SqB.mono h2 e, h3.mono e⟩⟩
instance {α : Type} {K : PySem.W.Frag} {r : Rp α} : NoNon (rSeq K r) := ⟨fun ⟨_, _, h, _⟩ => by cases h⟩
def roSeq {α : Type} (K : PySem.W.Frag) (r : Rp α) : RO (Bool × List α) := fun F v x cs => ∃ a vs, v = .ref a ∧ (if x.1 = true then cs = [(a, HO.lst vs)] else cs = [] ∧ SqT K F a vs) ∧ LR (r F) vs x.2
instance {α : Type} {K : PySem.W.Frag} {r : Rp α} [MonoR r] : MonoO (roSeq K r) := ⟨fun {F F' v x cs} e ⟨a, vs, h1, h2, h3⟩ => ⟨a, vs, h1, by
  by_cases c : x.1 = true
  · rw [if_pos c] at h2 ⊢; exact h2
  · rw [if_neg c] at h2 ⊢; exact ⟨h2.1, SqT.mono h2.2 e⟩, h3.mono e⟩⟩
theorem vw_S {α : Type} {K : PySem.W.Frag} {r : Rp α} {G F : Hp} (s : Same F G) {v : V} {x : Bool × List α} (h : vw (roSeq K r) G F v x) : ∃ a vs, v = .ref a ∧ SqB K x.1 G a vs ∧ LR (r F) vs x.2 := by
  obtain ⟨cs, ⟨a, vs, h1, h2, h3⟩, g⟩ := h
  refine ⟨a, vs, h1, ?_, h3⟩
  unfold SqB
  by_cases c : x.1 = true
  · rw [if_pos c] at h2 ⊢
    subst h2
    exact SqL.of (g _ (.head _))
  · rw [if_neg c] at h2 ⊢
    exact SqT.mono h2.2 s
instance {α : Type} {K : PySem.W.Frag} {r : Rp α} : FrzO (roSeq K r) (rSeq K r) := ⟨fun h => by
  obtain ⟨a, vs, h1, h2, h3⟩ := vw_S (Same.refl _) h
  exact ⟨a, vs, h1, h2, h3⟩⟩
theorem roSeq_l {α : Type} {K : PySem.W.Frag} {r : Rp α} {F : Hp} {a : Addr} {vs : List V} {xs : List α} (h : LR (r F) vs xs) : roSeq K r F (.ref a) (true, xs) [(a, HO.lst vs)] := ⟨a, vs, rfl, rfl, h⟩
theorem roSeq_t {α : Type} {K : PySem.W.Frag} {r : Rp α} {F : Hp} {a : Addr} {vs : List V} {xs : List α} (hs : SqT K F a vs) (h : LR (r F) vs xs) : roSeq K r F (.ref a) (false, xs) [] := ⟨a, vs, rfl, ⟨rfl, hs⟩, h⟩
instance {α : Type} [DecidableEq α] [DOk α] {K : PySem.W.Frag} {r : Rp α} [D : DatR K r] : DatR K (rSeq K r) := ⟨fun x => if x.1 = true then .list (x.2.map D.d) else .tuple (x.2.map D.d), fun {H v x} ⟨a, vs, h1, h2, h3⟩ => by
    obtain ⟨b, xs⟩ := x
    subst h1
    cases b with
    | true => exact .lst h2 (dpAll h3)
    | false => exact .tup h2 (dpAll h3),
  fun x y => by
    obtain ⟨b, xs⟩ := x
    obtain ⟨c, ys⟩ := y
    cases b <;> cases c
    · exact (eqvAll xs ys).trans (by simp)
    · exact (decide_eq_false fun e => by cases e).symm
    · exact (decide_eq_false fun e => by cases e).symm
    · exact (eqvAll xs ys).trans (by simp),
  fun x h => by
    obtain ⟨b, xs⟩ := x
    have h' : DOk.ok xs = true := (Bool.and_eq_true_iff.mp h).2
    cases b with
    | true => exact shpAll xs h'
    | false => exact shpAll xs h', D.n + 1, fun x => by
    obtain ⟨b, xs⟩ := x
    have := depAll (D := D) xs
    cases b <;> simp only [PyData.depth] <;> simp <;> simp only [PyData.depth] <;> omega⟩
def ItB (K : PySem.W.Frag) (b : Bool) (a : Addr) : It := if b = true then Itl K a else Itt K a
def iSeq (K : PySem.W.Frag) (tl : TE) : TI := fun σ H R => tl σ H fun x H1 => ∃ a b, x = .ref a ∧ (∃ xs, SqB K b H1 a xs) ∧ R (ItB K b a) H1
theorem pi_seq {X : Cx} {tg l : Expr} {tl : TE} (hl : PE X l tl) : PI X tg l (iSeq X.K tl) := by
  refine ⟨fun pins s σ H R I h => ?_⟩
  refine thn (hl.run pins s σ H _ I h) fun v s1 ⟨x, H1, I1, r1, q1⟩ => ?_
  obtain ⟨a, b, e, ⟨xs, hq⟩, q⟩ := q1
  subst e
  cases r1
  cases b with
  | true =>
    obtain ⟨its, rv, p, hz⟩ := I1.list (show SqL X.K H1 a xs from hq)
    refine wpAny_pyIter_list p.isList ?_
    refine ⟨s1.heap.objs.size, [s1.heap.objs.size], _, _, H1, rfl, I1.kept (t' := s1.toks) fun b o e => Heap.get?_push_of_some _ e, turn_list a _, ⟨_, Heap.get?_push_size _ rfl, rfl, rfl⟩, fun b hb => ?_, q⟩
    have e : b = s1.heap.objs.size := by simpa using hb
    subst e
    exact I1.fpOk (Nat.le_refl _) (I1.hok.fresh (Nat.le_refl _))
  | false =>
    obtain ⟨its, rv, p, hz⟩ := I1.tuple (show SqT X.K H1 a xs from hq)
    refine wpAny_pyIter_tuple (show s1.heap.IsTuple a its.toArray from p) ?_
    refine ⟨s1.heap.objs.size, [s1.heap.objs.size], _, _, H1, rfl, I1.kept (t' := s1.toks) fun b o e => Heap.get?_push_of_some _ e, turn_tuple a _, ⟨_, Heap.get?_push_size _ rfl, rfl, rfl⟩, fun b hb => ?_, q⟩
    have e : b = s1.heap.objs.size := by simpa using hb
    subst e
    exact I1.fpOk (Nat.le_refl _) (I1.hok.fresh (Nat.le_refl _))
theorem pi_seqK {X : Cx} (K : PySem.W.Frag) {tg l : Expr} {tl : TE} (hl : PE X l tl) (hK : X.K = K := by rfl) : PI X tg l (iSeq K tl) := by
  subst hK
  exact pi_seq hl
theorem for_seq {K : PySem.W.Frag} {b : Bool} {a : Addr} {xs : List V} {g : TG} {tb : TS} {D : Ends} {σ : L2.St} {H : Hp} (Pv : Nat → L2.St → Hp → Prop) (h0 : Pv 0 σ H) (hl : ∀ i σ H, i ≤ xs.length → Pv i σ H → SqB K b H a xs)
    (hs : ∀ i x σ H, xs[i]? = some x → Pv i σ H → g x σ H fun σ2 H2 => tb { D with nx := Pv (i + 1), ct := Pv (i + 1), bk := D.nx } σ2 H2) (hd : ∀ σ H, Pv xs.length σ H → D.nx σ H) :
    ∃ W : Nat → Nat → L2.St → Hp → Prop, (∃ m, W 0 m σ H) ∧ ∀ i m σ H, W i m σ H →
      ((ItB K b a).stop i H ∧ D.nx σ H) ∨ ((ItB K b a).go i H ∧ ∃ N : L2.St → Hp → Prop, (∀ σ' H', N σ' H' → ∃ m', m' < m ∧ W (i + 1) m' σ' H') ∧ ∀ x H', (ItB K b a).yld i H x H' → g x σ H' fun σ2 H2 => tb { D with nx := N, ct := N, bk := D.nx } σ2 H2) := by
  cases b with
  | true => exact for_list (K := K) (a := a) (xs := xs) Pv h0 hl hs hd
  | false => exact for_tup (K := K) (a := a) (xs := xs) Pv h0 hl hs hd
theorem lc_seq {K : PySem.W.Frag} {b : Bool} {a : Addr} {xs : List V} {g : TG} {tt : TT} {te : TE} {vs : List Nat} {σ : L2.St} {H1 : Hp} {D : Addr} {Qd : Hp → Prop} (Pv : Nat → Hp → Prop) (h0 : Pv 0 (upd H1 D (.lst []))) (hl : ∀ i H, i ≤ xs.length → Pv i H → SqB K b H a xs)
    (hs : ∀ i x H, xs[i]? = some x → Pv i H → g x (wipe σ vs) H fun σ2 H2 => wipe σ2 vs = wipe σ vs ∧ tt σ2 H2 fun b H3 =>
      if b = true then te σ2 H3 fun y H4 => ∃ acc, H4 D = some (.lst acc) ∧ acc.length < sizeLine ∧ Pv (i + 1) (upd H4 D (.lst (acc ++ [y]))) else Pv (i + 1) H3) (hd : ∀ H, Pv xs.length H → Qd H) :
    ∃ W : Nat → Nat → Hp → Prop, (∃ m, W 0 m (upd H1 D (.lst []))) ∧ ∀ i m H, W i m H →
      ((ItB K b a).stop i H ∧ Qd H) ∨ ((ItB K b a).go i H ∧ ∃ Nx : Hp → Prop, (∀ H', Nx H' → ∃ m', m' < m ∧ W (i + 1) m' H') ∧ ∀ x H', (ItB K b a).yld i H x H' → g x (wipe σ vs) H' fun σ2 H2 => wipe σ2 vs = wipe σ vs ∧ tt σ2 H2 fun b H3 =>
        if b = true then te σ2 H3 fun y H4 => ∃ acc, H4 D = some (.lst acc) ∧ acc.length < sizeLine ∧ Nx (upd H4 D (.lst (acc ++ [y]))) else Nx H3) := by
  cases b with
  | true => exact lc_list (K := K) (a := a) (xs := xs) Pv h0 hl hs hd
  | false => exact lc_tup (K := K) (a := a) (xs := xs) Pv h0 hl hs hd
/-- a subscript of either -/
def rIxB (K : PySem.W.Frag) : R2 := fun x y H Q => ∃ b, if b = true then rIxL K x y H Q else rIxT K x y H Q
theorem ix_seqK {X : Cx} (K : PySem.W.Frag) (hK : X.K = K := by rfl) : IxR X (rIxB K) := by
  subst hK
  intro value slice pins s σ H x y v u Q I rx ry h hs
  obtain ⟨b, h⟩ := h
  cases b with
  | true => exact ix_list value slice pins s σ H x y v u Q I rx ry h hs
  | false => exact ix_tup value slice pins s σ H x y v u Q I rx ry h hs
theorem rIxB_mk {K : PySem.W.Frag} {b : Bool} {x : V} {i : Int} {H : Hp} {Q : VK} {p : Addr} {xs : List V} {y : V} (e : x = .ref p) (h : SqB K b H p xs) (a : atI xs i = some y) (q : Q y H) : rIxB K x (V.int i) H Q := by
  cases b with
  | true => exact ⟨true, p, xs, i, y, e, rfl, h, a, q⟩
  | false => exact ⟨false, p, xs, i, y, e, rfl, h, a, q⟩
/-- type tests of either -/
theorem tyx_seq {K : PySem.W.Frag} {b : Bool} {H : Hp} {a : Addr} {xs : List V} (h : SqB K b H a xs) : TyX K H (.ref a) (.type (if b = true then "list" else "tuple")) := by
  cases b with
  | true => exact tyx_list h
  | false => exact tyx_tup h
theorem kit_seqL {K : PySem.W.Frag} (b : Bool) : PySem.W.kitOne K (.type (if b = true then "list" else "tuple")) (.type "list") = some b := by
  cases b with
  | true => exact kit_ty (by decide +kernel)
  | false => exact kit_ty (by decide +kernel)
theorem kit_seqT {K : PySem.W.Frag} (b : Bool) : PySem.W.kitOne K (.type (if b = true then "list" else "tuple")) (.type "tuple") = some (!b) := by
  cases b with
  | true => exact kit_ty (by decide +kernel)
  | false => exact kit_ty (by decide +kernel)
/-! ### an item taken out of a list -/
def msetI {α : Type} (xs : List α) (i : Int) (x : α) : List α := match ixN xs.length i with
  | some j => xs.set j x
  | none => xs
theorem LRO.openI {α : Type} {r : V → α → Own → Prop} {vs : List V} {xs : List α} {cs : Own} {i : Int} {x : α} (h : LRO r vs xs cs) (e : atI xs i = some x) :
    ∃ v c0 c1 c2, atI vs i = some v ∧ r v x c1 ∧ cs = c0 ++ (c1 ++ c2) ∧ ∀ x' c1', r v x' c1' → LRO r vs (msetI xs i x') (c0 ++ (c1' ++ c2)) := by
  unfold L2.atI at e
  cases q : ixN xs.length i with
  | none => rw [q] at e; cases e
  | some j =>
    rw [q] at e
    obtain ⟨v, c0, c1, c2, q1, q2, q3, q4⟩ := LRO.open_ (i := j) (x := x) h e
    refine ⟨v, c0, c1, c2, ?_, q2, q3, fun x' c1' g => ?_⟩
    · unfold L2.atI
      rw [h.length, q]
      exact q1
    · unfold msetI
      rw [q]
      exact q4 x' c1' g
theorem Sta.ovS0 {F0 F : Hp} {cs R : Own} {H : Hp} (S : Sta F cs H) (e : Same F0 F) (m : ∀ c ∈ R, c ∈ cs) : Same F0 (ov F0 R) := fun _ _ h => ov_F h fun a u q => e.free (S.own a u (m _ q)).2
theorem sqB_l {K : PySem.W.Frag} {H : Hp} {a : Addr} {xs : List V} (h : SqL K H a xs) : SqB K true H a xs := h
theorem sqB_t {K : PySem.W.Frag} {H : Hp} {a : Addr} {xs : List V} (h : SqT K H a xs) : SqB K false H a xs := h
theorem tyx_opt {α : Type} {r : Rp α} {T : String} {K : PySem.W.Frag} {F H : Hp} {v : V} {m : Option α} (h : rOpt r F v m) (hT : ∀ {x : α}, r F v x → TyX K H v (.type T)) : TyX K H v (.type (if m.isSome = true then T else "NoneType")) := by
  cases m with
  | none => obtain rfl := (show v = .non from h); exact .base .non
  | some y => exact hT (x := y) h
theorem kit_optY {K : PySem.W.Frag} {T c : String} {s : Bool} (h1 : kitB T c = some true) (h2 : kitB "NoneType" c = some false) : PySem.W.kitOne K (.type (if s = true then T else "NoneType")) (.type c) = some s := by
  cases s with
  | true => exact kit_ty h1
  | false => exact kit_ty h2
theorem kit_optN {K : PySem.W.Frag} {T c : String} {s : Bool} (h1 : kitB T c = some false) (h2 : kitB "NoneType" c = some false) : PySem.W.kitOne K (.type (if s = true then T else "NoneType")) (.type c) = some false := by
  cases s with
  | true => exact kit_ty h1
  | false => exact kit_ty h2
/-- None, or something with own parts -/
def roO {α : Type} (r : RO α) : RO (Option α) := fun F v x cs => match x with
  | none => v = .non ∧ cs = []
  | some y => r F v y cs
instance {α : Type} {r : RO α} [m : MonoO r] : MonoO (roO r) := ⟨fun {F F' v x cs} e h => by
  cases x with
  | none => exact h
  | some y => exact m.mono (x := y) e h⟩
theorem roO_none {α : Type} {r : RO α} {F : Hp} {v : V} {x : Option α} {cs : Own} (e : x = none) (h : roO r F v x cs) : v = .non ∧ cs = [] := by subst e; exact h
theorem roO_some {α : Type} {r : RO α} {F : Hp} {v : V} {x : Option α} {y : α} {cs : Own} (e : x = some y) (h : roO r F v x cs) : r F v y cs := by subst e; exact h
theorem vwO_none {α : Type} {r : RO α} {G F : Hp} {v : V} {x : Option α} (e : x = none) (h : vw (roO r) G F v x) : v = .non := by
  obtain ⟨cs, h, _⟩ := h
  exact (roO_none e h).1
theorem vwO_some {α : Type} {r : RO α} {G F : Hp} {v : V} {x : Option α} {y : α} (e : x = some y) (h : vw (roO r) G F v x) : vw r G F v y := by
  obtain ⟨cs, h, g⟩ := h
  exact ⟨cs, roO_some e h, g⟩
instance {α : Type} {ro : RO α} {r : Rp α} [m : FrzO ro r] : FrzO (roO ro) (rOpt r) := ⟨fun {F v x} h => by
  cases x with
  | none => exact vwO_none rfl h
  | some y => exact m.frz (x := y) (vwO_some rfl h)⟩
class NoNonO {α : Type} (r : RO α) : Prop where
  nn : ∀ {F : Hp} {x : α} {cs : Own}, ¬ r F .non x cs
instance {α : Type} {r : Rp α} : NoNonO (roM r) := ⟨fun ⟨_, _, h, _⟩ => by cases h⟩
theorem optO_isN {α : Type} {r : RO α} [n : NoNonO r] {F : Hp} {v : V} {x : Option α} {cs : Own} (h : roO r F v x cs) : decide (v = .non) = x.isNone := by
  cases x with
  | none => obtain rfl := (show v = .non from h.1); rfl
  | some y => exact decide_eq_false fun e => n.nn (F := F) (x := y) (cs := cs) (e ▸ h)
theorem optV_isN {α : Type} {r : RO α} [n : NoNonO r] {G F : Hp} {v : V} {x : Option α} (h : vw (roO r) G F v x) : decide (v = .non) = x.isNone := by
  obtain ⟨cs, h, _⟩ := h
  exact optO_isN h
theorem tyx_optV {α : Type} {r : RO α} {T : String} {K : PySem.W.Frag} {G F H : Hp} {v : V} {m : Option α} (h : vw (roO r) G F v m) (hT : ∀ {x : α}, vw r G F v x → TyX K H v (.type T)) : TyX K H v (.type (if m.isSome = true then T else "NoneType")) := by
  cases m with
  | none => obtain rfl := vwO_none rfl h; exact .base .non
  | some y => exact hT (x := y) (vwO_some rfl h)
theorem vwO_of {α : Type} {r : RO α} {G F : Hp} {v : V} {x : Option α} {cs : Own} (h : roO r F v x cs) (g : ∀ c ∈ cs, G c.1 = some c.2) : vw (roO r) G F v x := ⟨cs, h, g⟩
theorem LR.insI {α : Type} {r : V → α → Prop} {v : V} {x : α} (e : r v x) {vs : List V} {xs : List α} (j : Nat) (h : LR r vs xs) : LR r (vs.take j ++ [v] ++ vs.drop j) (xs.take j ++ [x] ++ xs.drop j) := by
  rw [List.append_assoc, List.append_assoc]
  exact LR.insertIdx e j h
theorem optE_some {α β : Type} {y : α} {a : β} {f : α → β} : optE (some y) a f = f y := rfl
theorem optE_none {α β : Type} {a : β} {f : α → β} : optE (none : Option α) a f = a := rfl

/-! ### dict comprehensions; turns that give pairs -/
def dcO {κ α β : Type} [DecidableEq κ] (f : α → Option (Option (κ × β))) : List (κ × β) → List α → Option (List (κ × β))
  | m, [] => some m
  | m, x :: t => (f x).bind fun y => dcO f (match y with | none => m | some p => mput m p.1 p.2) t
theorem dcI {κ α β : Type} [DecidableEq κ] {f : α → Option (Option (κ × β))} {m : List (κ × β)} {x : α} {t : List α} {r : List (κ × β)} {C : Prop} (k : ∀ y, f x = some y → dcO f (match y with | none => m | some p => mput m p.1 p.2) t = some r → C) : dcO f m (x :: t) = some r → C := fun h => by
  obtain ⟨y, e1, h⟩ := bnd (show ((f x).bind fun y => dcO f (match y with | none => m | some p => mput m p.1 p.2) t) = some r from h)
  exact k y e1 h
theorem mput_leI {κ α : Type} [DecidableEq κ] {m : List (κ × α)} {k : κ} {x : α} {i : Nat} (h : m.length ≤ i) : (mput m k x).length ≤ i + 1 := by
  unfold mput
  split
  · rw [List.length_map]; omega
  · rw [List.length_append]; show m.length + 1 ≤ i + 1; omega
/-- what a turn of a dict comprehension has to show -/
abbrev DcT (tt : TT) (tk tv : TE) (D : Addr) (vs : List Nat) (σ : L2.St) (N : Hp → Prop) : L2.St → Hp → Prop := fun σ2 H2 => wipe σ2 vs = wipe σ vs ∧ tt σ2 H2 fun b H3 =>
  if b = true then tk σ2 H3 fun y H4 => tv σ2 H4 fun z H5 => ∃ kvs k, y = kV k ∧ H5 D = some (.dK kvs) ∧ kvs.length < sizeLine ∧ N (upd H5 D (.dK (putK kvs k z))) else N H3
theorem dc_it {J : It} {n : Nat} {G : Hp → Prop} {Y : Nat → Hp → V → Hp → Prop} (w : L2.Walk J n G Y) {g : TG} {tt : TT} {tk tv : TE} {vs : List Nat} {σ : L2.St} {H1 : Hp} {D : Addr} {Qd : Hp → Prop} (Pv : Nat → Hp → Prop) (h0 : Pv 0 (upd H1 D (.dK []))) (hG : ∀ i H, i ≤ n → Pv i H → G H)
    (hs : ∀ i x H H', i < n → Pv i H → Y i H x H' → g x (wipe σ vs) H' (DcT tt tk tv D vs σ (Pv (i + 1)))) (hd : ∀ H, Pv n H → Qd H) :
    ∃ W : Nat → Nat → Hp → Prop, (∃ m, W 0 m (upd H1 D (.dK []))) ∧ ∀ i m H, W i m H →
      (J.stop i H ∧ Qd H) ∨ (J.go i H ∧ ∃ Nx : Hp → Prop, (∀ H', Nx H' → ∃ m', m' < m ∧ W (i + 1) m' H') ∧ ∀ x H', J.yld i H x H' → g x (wipe σ vs) H' (DcT tt tk tv D vs σ Nx)) := by
  refine ⟨fun i m H => m = n - i ∧ i ≤ n ∧ Pv i H, ⟨n, by simp, Nat.zero_le _, h0⟩, ?_⟩
  rintro i m H ⟨rfl, hi, p⟩
  have q := hG i H hi p
  by_cases hlt : i < n
  · exact .inr ⟨w.goes i H hlt q, Pv (i + 1), fun H' p' => ⟨n - (i + 1), by omega, rfl, hlt, p'⟩, fun x H' y => hs i x H H' hlt p (w.yields i H x H' hlt q y)⟩
  · have e : i = n := by omega
    subst e
    exact .inl ⟨w.stops H q, hd H p⟩
theorem dc_rng {lo : Int} {n : Nat} {g : TG} {tt : TT} {tk tv : TE} {vs : List Nat} {σ : L2.St} {H1 : Hp} {D : Addr} {Qd : Hp → Prop} (Pv : Nat → Hp → Prop) (h0 : Pv 0 (upd H1 D (.dK [])))
    (hs : ∀ i x H, (pyRange lo n)[i]? = some x → Pv i H → g (.int x) (wipe σ vs) H (DcT tt tk tv D vs σ (Pv (i + 1)))) (hd : ∀ H, Pv n H → Qd H) :
    ∃ W : Nat → Nat → Hp → Prop, (∃ m, W 0 m (upd H1 D (.dK []))) ∧ ∀ i m H, W i m H →
      ((Itr lo n).stop i H ∧ Qd H) ∨ ((Itr lo n).go i H ∧ ∃ Nx : Hp → Prop, (∀ H', Nx H' → ∃ m', m' < m ∧ W (i + 1) m' H') ∧ ∀ x H', (Itr lo n).yld i H x H' → g x (wipe σ vs) H' (DcT tt tk tv D vs σ Nx)) :=
  dc_it walk_range Pv h0 (fun _ _ _ _ => trivial) (fun i x H H' hi p y => by
    obtain ⟨rfl, rfl⟩ := y
    exact hs i _ _ (pyRange_get hi) p) hd
theorem dc_list {K : PySem.W.Frag} {a : Addr} {xs : List V} {g : TG} {tt : TT} {tk tv : TE} {vs : List Nat} {σ : L2.St} {H1 : Hp} {D : Addr} {Qd : Hp → Prop} (Pv : Nat → Hp → Prop) (h0 : Pv 0 (upd H1 D (.dK []))) (hl : ∀ i H, i ≤ xs.length → Pv i H → SqL K H a xs)
    (hs : ∀ i x H, xs[i]? = some x → Pv i H → g x (wipe σ vs) H (DcT tt tk tv D vs σ (Pv (i + 1)))) (hd : ∀ H, Pv xs.length H → Qd H) :
    ∃ W : Nat → Nat → Hp → Prop, (∃ m, W 0 m (upd H1 D (.dK []))) ∧ ∀ i m H, W i m H →
      ((Itl K a).stop i H ∧ Qd H) ∨ ((Itl K a).go i H ∧ ∃ Nx : Hp → Prop, (∀ H', Nx H' → ∃ m', m' < m ∧ W (i + 1) m' H') ∧ ∀ x H', (Itl K a).yld i H x H' → g x (wipe σ vs) H' (DcT tt tk tv D vs σ Nx)) :=
  dc_it walk_list Pv h0 hl (fun i x H H' hi p y => by
    obtain ⟨rfl, e⟩ := y
    exact hs i _ _ e p) hd
theorem dc_keys {d : Addr} {od : Obj} {kvs : List (Key × V)} {g : TG} {tt : TT} {tk tv : TE} {vs : List Nat} {σ : L2.St} {H1 : Hp} {D : Addr} {Qd : Hp → Prop} (Pv : Nat → Hp → Prop) (h0 : Pv 0 (upd H1 D (.dK []))) (hl : ∀ i H, i ≤ kvs.length → Pv i H → H d = some (.frz od (.dK kvs)))
    (hs : ∀ i x H, (kvs.map fun kv => kV kv.1)[i]? = some x → Pv i H → g x (wipe σ vs) H (DcT tt tk tv D vs σ (Pv (i + 1)))) (hd : ∀ H, Pv (kvs.map fun kv => kV kv.1).length H → Qd H) :
    ∃ W : Nat → Nat → Hp → Prop, (∃ m, W 0 m (upd H1 D (.dK []))) ∧ ∀ i m H, W i m H →
      ((Itk d od kvs).stop i H ∧ Qd H) ∨ ((Itk d od kvs).go i H ∧ ∃ Nx : Hp → Prop, (∀ H', Nx H' → ∃ m', m' < m ∧ W (i + 1) m' H') ∧ ∀ x H', (Itk d od kvs).yld i H x H' → g x (wipe σ vs) H' (DcT tt tk tv D vs σ Nx)) :=
  dc_it walk_keys Pv h0 hl (fun i x H H' hi p y => by
    obtain ⟨rfl, k, v, e1, rfl⟩ := y
    exact hs i _ _ (by rw [List.getElem?_map, e1]; rfl) p) (fun H p => hd H (by rw [List.length_map]; exact p))
/-- pairs: two lists of values that hold what the turns give -/
structure PrOk (n : Nat) (X Y : Nat → Option V) (xs ys : List V) : Prop where
  x : ∀ i u, i < n → X i = some u → xs[i]? = some u
  y : ∀ i u, i < n → Y i = some u → ys[i]? = some u
theorem dc_pr {J : It} {n : Nat} {G : Hp → Prop} {X Y : Nat → Option V} {xs ys : List V} (w : L2.Walk J n G (YPair X Y)) (o : PrOk n X Y xs ys) {g : TG} {tt : TT} {tk tv : TE} {vs : List Nat} {σ : L2.St} {H1 : Hp} {D : Addr} {Qd : Hp → Prop} (Pv : Nat → Hp → Prop) (h0 : Pv 0 (upd H1 D (.dK []))) (hl : ∀ i H, i ≤ n → Pv i H → G H)
    (hs : ∀ i u v T H, xs[i]? = some u → ys[i]? = some v → Pv i H → H T = none → g (.ref T) (wipe σ vs) (upd H T (.tup [u, v])) (DcT tt tk tv D vs σ (Pv (i + 1)))) (hd : ∀ H, Pv n H → Qd H) :
    ∃ W : Nat → Nat → Hp → Prop, (∃ m, W 0 m (upd H1 D (.dK []))) ∧ ∀ i m H, W i m H →
      (J.stop i H ∧ Qd H) ∨ (J.go i H ∧ ∃ Nx : Hp → Prop, (∀ H', Nx H' → ∃ m', m' < m ∧ W (i + 1) m' H') ∧ ∀ x H', J.yld i H x H' → g x (wipe σ vs) H' (DcT tt tk tv D vs σ Nx)) :=
  dc_it w Pv h0 hl (fun i x H H' hi p y => by
    obtain ⟨T, u, v, rfl, hT, rfl, e1, e2⟩ := y
    exact hs i u v T H (o.x i u hi e1) (o.y i v hi e2) p hT) hd
theorem lc_pr {J : It} {n : Nat} {G : Hp → Prop} {X Y : Nat → Option V} {xs ys : List V} (w : L2.Walk J n G (YPair X Y)) (o : PrOk n X Y xs ys) {g : TG} {tt : TT} {te : TE} {vs : List Nat} {σ : L2.St} {H1 : Hp} {D : Addr} {Qd : Hp → Prop} (Pv : Nat → Hp → Prop) (h0 : Pv 0 (upd H1 D (.lst []))) (hl : ∀ i H, i ≤ n → Pv i H → G H)
    (hs : ∀ i u v T H, xs[i]? = some u → ys[i]? = some v → Pv i H → H T = none → g (.ref T) (wipe σ vs) (upd H T (.tup [u, v])) fun σ2 H2 => wipe σ2 vs = wipe σ vs ∧ tt σ2 H2 fun b H3 =>
      if b = true then te σ2 H3 fun y H4 => ∃ acc, H4 D = some (.lst acc) ∧ acc.length < sizeLine ∧ Pv (i + 1) (upd H4 D (.lst (acc ++ [y]))) else Pv (i + 1) H3) (hd : ∀ H, Pv n H → Qd H) :
    ∃ W : Nat → Nat → Hp → Prop, (∃ m, W 0 m (upd H1 D (.lst []))) ∧ ∀ i m H, W i m H →
      (J.stop i H ∧ Qd H) ∨ (J.go i H ∧ ∃ Nx : Hp → Prop, (∀ H', Nx H' → ∃ m', m' < m ∧ W (i + 1) m' H') ∧ ∀ x H', J.yld i H x H' → g x (wipe σ vs) H' fun σ2 H2 => wipe σ2 vs = wipe σ vs ∧ tt σ2 H2 fun b H3 =>
        if b = true then te σ2 H3 fun y H4 => ∃ acc, H4 D = some (.lst acc) ∧ acc.length < sizeLine ∧ Nx (upd H4 D (.lst (acc ++ [y]))) else Nx H3) :=
  lc_it w Pv h0 hl (fun i x H H' hi p y => by
    obtain ⟨T, u, v, rfl, hT, rfl, e1, e2⟩ := y
    exact hs i u v T H (o.x i u hi e1) (o.y i v hi e2) p hT) hd
theorem for_pr {J : It} {n : Nat} {G : Hp → Prop} {X Y : Nat → Option V} {xs ys : List V} (w : L2.Walk J n G (YPair X Y)) (o : PrOk n X Y xs ys) {g : TG} {tb : TS} {D : Ends} {σ : L2.St} {H : Hp} (Pv : Nat → L2.St → Hp → Prop) (h0 : Pv 0 σ H) (hl : ∀ i σ H, i ≤ n → Pv i σ H → G H)
    (hs : ∀ i u v T σ H, xs[i]? = some u → ys[i]? = some v → Pv i σ H → H T = none → g (.ref T) σ (upd H T (.tup [u, v])) fun σ2 H2 => tb { D with nx := Pv (i + 1), ct := Pv (i + 1), bk := D.nx } σ2 H2) (hd : ∀ σ H, Pv n σ H → D.nx σ H) :
    ∃ W : Nat → Nat → L2.St → Hp → Prop, (∃ m, W 0 m σ H) ∧ ∀ i m σ H, W i m σ H →
      (J.stop i H ∧ D.nx σ H) ∨ (J.go i H ∧ ∃ N : L2.St → Hp → Prop, (∀ σ' H', N σ' H' → ∃ m', m' < m ∧ W (i + 1) m' σ' H') ∧ ∀ x H', J.yld i H x H' → g x σ H' fun σ2 H2 => tb { D with nx := N, ct := N, bk := D.nx } σ2 H2) :=
  for_it w Pv h0 hl (fun i x σ H H' hi p y => by
    obtain ⟨T, u, v, rfl, hT, rfl, e1, e2⟩ := y
    exact hs i u v T σ H (o.x i u hi e1) (o.y i v hi e2) p hT) hd
theorem LR.atV {α : Type} {r : V → α → Prop} : ∀ {vs : List V} {xs : List α} {i : Nat} {v : V}, LR r vs xs → vs[i]? = some v → ∃ x, xs[i]? = some x ∧ r v x := LR.getV
theorem zget2 {α β : Type} {r : V → α → Prop} {q : V → β → Prop} {xs ys : List V} {m1 : List α} {m2 : List β} {i : Nat} {u v : V} (h1 : LR r xs m1) (h2 : LR q ys m2) (e1 : xs[i]? = some u) (e2 : ys[i]? = some v) : ∃ x, (m1.zip m2)[i]? = some x ∧ r u x.1 ∧ q v x.2 := by
  obtain ⟨x, ex, rx⟩ := LR.getV h1 e1
  obtain ⟨y, ey, ry⟩ := LR.getV h2 e2
  exact ⟨(x, y), by rw [List.getElem?_zip_eq_some]; exact ⟨ex, ey⟩, rx, ry⟩
theorem zdrop {α β : Type} {r : V → α → Prop} {q : V → β → Prop} {xs ys : List V} {m1 : List α} {m2 : List β} {n : Nat} (h1 : LR r xs m1) (h2 : LR q ys m2) (e : n = min xs.length ys.length) : (m1.zip m2).drop n = [] := by
  rw [List.drop_eq_nil_iff, List.length_zip, e, h1.length, h2.length]
  exact Nat.le_refl _
theorem prZip {xs ys : List V} {n : Nat} : PrOk n (fun i => xs[i]?) (fun i => ys[i]?) xs ys := ⟨fun _ _ _ h => h, fun _ _ _ h => h⟩
theorem prEnum {ys : List V} : PrOk ys.length (fun i => some (.int (i : Nat))) (fun i => ys[i]?) ((pyRange 0 ys.length).map V.int) ys := ⟨fun i u hi h => by
  obtain rfl := Option.some.inj h
  rw [List.getElem?_map, pyRange_get hi]
  show some (V.int (0 + (i : Int))) = _
  rw [Int.zero_add], fun _ _ _ h => h⟩
theorem LR.ints {F : Hp} : ∀ xs : List Int, LR (rInt F) (xs.map V.int) xs
  | [] => trivial
  | _ :: t => ⟨rfl, LR.ints t⟩
theorem KR.vals {κ ν α : Type} {f : κ → ν} {r : V → α → Prop} : ∀ {ps : List (ν × V)} {qs : List (κ × α)}, KR f r ps qs → LR r (ps.map Prod.snd) (qs.map Prod.snd)
  | [], [], _ => trivial
  | _ :: _, _ :: _, h => ⟨h.1.2, KR.vals h.2⟩
  | [], _ :: _, h => h.elim
  | _ :: _, [], h => h.elim
/-- a tuple as a target within a comprehension -/
theorem pg_tupK {X : Cx} {es : List Expr} {k : Nat} {t : TGs} {pos : Pos} (K : PySem.W.Frag) (n : Nat) (hc : X.calm = true) (h : PGs X es t) (hK : X.K = K := by rfl)
    (hn : (assignEach es X.env).length = n := by rfl) (hst : (assignEach es X.env).findIdx? (·.1) = none := by rfl) : PG X (.Tuple es k pos) (gTup K n t) := by
  subst hK
  exact pg_tup hc h hn hst
instance {α β : Type} [DecidableEq α] [DOk α] [DecidableEq β] [DOk β] {K : PySem.W.Frag} {r : Rp α} {s : Rp β} [D : DatR K r] [E : DatR K s] : DatR K (rT2 K r s) :=
  ⟨fun p => .tuple [D.d p.1, E.d p.2], fun {H v x} ⟨a, u, w, h1, h2, h3, h4⟩ => by rw [h1]; exact .tup h2 (.cons (D.dp h3) (.cons (E.dp h4) .nil)),
  fun x y => by
    obtain ⟨x1, x2⟩ := x
    obtain ⟨y1, y2⟩ := y
    show (PyData.eqv (D.d x1) (D.d y1) && (PyData.eqv (E.d x2) (E.d y2) && true)) = _
    rw [D.eqv, E.eqv]
    by_cases e : x1 = y1 <;> by_cases e2 : x2 = y2 <;> simp [e, e2],
  fun x h => by
    have h' := Bool.and_eq_true_iff.mp (show (DOk.ok x.1 && DOk.ok x.2) = true from h)
    show (PyData.canLay0 (D.d x.1) && (PyData.canLay0 (E.d x.2) && true)) = true
    rw [D.shp x.1 h'.1, E.shp x.2 h'.2]; rfl,
  D.n + E.n + 1, fun x => by
    have h1 := D.dep x.1
    have h2 := E.dep x.2
    simp only [PyData.depth, PyData.depthAll]
    omega⟩
end G

/-! zip(dict, list): the dict's keys with the list's items, the two of one length. -/
namespace G
open PySem PySem.Spec PyProof.Rows L2 RZ
open PySem.Sem (wp)
section
variable {prog : Program} {w : World} {A : Around} {E : Value → Shared → Prop} {s : Shared}
theorem nextOf_key_item {it d : Addr} {i ep : Nat} {kvs : List (Key × Value)} {k : Key} {x : Value} {Q : Value → Shared → Prop} (hit : s.heap.IsKeyIter it d i kvs.length ep) (hm : s.heap.DictAt (mixKind prog w) d kvs ep) (hx : kvs[i]? = some (k, x))
    (hQ : ∀ key h', (mixKind prog w).is k key = true → h'.IsKeyIter it d (i + 1) kvs.length ep → Heap.SameBut it s.heap h' → Q key { s with heap := h' }) :
    wpAny (model prog w) A (Builtin.SmallTypes.nextOf (.ref it)) Q E s := by
  unfold Builtin.SmallTypes.nextOf
  exact wpAny_bind (PySem.W.kdk_special hit hm hx fun key h' hk hit' sb => wpAny_pure (hQ key h' hk hit' sb))
theorem nextOf_key_end {it d : Addr} {i n ep : Nat} {od : Obj} {es : Array DictEntry} {Q : Value → Shared → Prop} (hh : A.handled = none) (hit : s.heap.IsKeyIter it d i n ep) (hod : s.heap.get? d = some od) (hdd : od.data = .dict es ep)
    (hsz : es.size = n) (hge : n ≤ i) (hE : ∀ h' e, Heap.ExtBut it s.heap h' → (∃ o, h'.get? e = some o ∧ o.cls = .type "StopIteration") → E (.ref e) { s with heap := h' }) :
    wpAny (model prog w) A (Builtin.SmallTypes.nextOf (.ref it)) Q E s := by
  obtain ⟨o, ho, hc, hd⟩ := id hit
  unfold Builtin.SmallTypes.nextOf
  refine wpAny_bind (wpAny_callSpecial?_slot (name := Str.ofString "__next__") hit.typeIs F.slot_dict_keyiterator_next
    (wpAny_call_entry F.slot_dict_keyiterator_next hit.typeIs F.entry_dict_keyiterator_next ?_ (F.args_dict_keyiterator_next_1 _)))
  refine wpAny_bind (wpAny_pure ?_)
  refine wpAny_bind ?_
  refine wpAny_bind ?_
  first | refine wpAny_bind (wpAny_typeNameOfWhole_keyiter hit.typeIs (wpAny_pure ?_)) | refine wpAny_bind (wpAny_typeNameOf_keyiter hit.typeIs (wpAny_pure ?_))
  refine wpAny_bind (wpAny_fieldsOf ho hd ?_)
  have hown : Builtin.Dict_items.ownsTuple "dict_keyiterator" = false := by decide
  simp only [hown, Bool.false_eq_true, if_false]
  show wpAny _ _ (if (Value.ref d == Value.none) = true then _ else _) _ _ s
  rw [if_neg (show ¬ ((Value.ref d == Value.none) = true) from Bool.false_ne_true)]
  refine wpAny_bind (wpAny_pure ?_)
  refine wpAny_bind (wpAny_dictEntries hod hdd ?_)
  rw [if_neg (by rw [hsz]; simp)]
  refine wpAny_bind (wpAny_pure ?_)
  refine wpAny_bind (wpAny_dictEpoch hod hdd ?_)
  rw [if_neg (by simp)]
  refine wpAny_pure ?_
  have hge' : es.size ≤ i := by rw [hsz]; exact hge
  simp only [show ¬ ((i : Int) < 0) from by omega, if_false, Int.toNat_natCast, Array.getElem?_eq_none hge']
  refine wpAny_bind ?_
  first | refine wpAny_bind (wpAny_typeNameOfWhole_keyiter hit.typeIs (wpAny_pure ?_)) | refine wpAny_bind (wpAny_typeNameOf_keyiter hit.typeIs (wpAny_pure ?_))
  show wpAny _ _ (setField (.ref it) 0 .none >>= _) _ _ s
  refine wpAny_bind (wpAny_setField ho hd (by simp) ?_)
  show wpAny _ _ (newExc (.type "StopIteration") [] >>= _) _ _ _
  refine wpAny_bind ?_
  simp only [newExc, newTuple]
  refine wpAny_bind (wpAny_newObj_type ?_ (by size_fits))
  refine wpAny_bind (m := firstArgMember _ _) (wpAny_of_eq (a := Value.none) (by first | rfl | (simp only [firstArgMember]; rfl)) ?_)
  refine wpAny_newObj_type ?_ (by size_fits)
  simp only [raiseNew]
  refine wpAny_bind (wpAny_handled ?_)
  first | rw [show A.in1.handled = none from hh] | rw [hh]
  refine wpAny_bind (wpAny_pure (wpAny_throw ?_))
  exact hE _ _ (((Heap.SameBut.update ..).extBut.push _).push _) ⟨_, Heap.get?_push_size _ rfl, rfl⟩

/-- the state of the zip: the key's iterator first, the list's second -/
def ZS (h : Heap) (z TI TO i1 i2 d l n ep i : Nat) : Prop := IsZip h z TI TO .none ∧ IsPair h TI (.ref i1) (.ref i2) ∧ (∃ x y, IsPair h TO x y) ∧ h.IsKeyIter i1 d i n ep ∧ h.IsListIter i2 l i
theorem zipD_next_item {z TI TO i1 i2 d l i ep : Nat} {kvs : List (Key × Value)} {ys : Array Value} {k : Key} {x y : Value} {Q : Value → Shared → Prop} (D : ZipApart z TI TO i1 i2 d l)
    (hz : ZS s.heap z TI TO i1 i2 d l kvs.length ep i) (hm : s.heap.DictAt (mixKind prog w) d kvs ep) (hl : s.heap.IsList l ys) (hx : kvs[i]? = some (k, x)) (hy : ys[i]? = some y)
    (hQ : ∀ key h', (mixKind prog w).is k key = true → IsZip h' z TI TO (rawInt s.heap.objs.size) → IsPair h' TO key y → h'.IsKeyIter i1 d (i + 1) kvs.length ep → h'.IsListIter i2 l (i + 1) → IsPair h' s.heap.objs.size key y → h'.objs.size = s.heap.objs.size + 1 →
      (∀ c o, c ≠ z → c ≠ TO → c ≠ i1 → c ≠ i2 → s.heap.get? c = some o → h'.get? c = some o) → Q (.ref s.heap.objs.size) { s with heap := h' }) :
    wpAny (model prog w) A (Builtin.«zip.__next__» ⟨[.ref z], []⟩) (fun fin s' => ∃ v, fin = .done (.ret v) ∧ Q v s') E s := by
  obtain ⟨hz, hTI, ⟨a, b, hTO⟩, h1, h2⟩ := hz
  show wpAny _ _ (field (.ref z) 2 >>= _) _ _ _
  refine wpAny_bind (wpAny_field hz rfl (x := .bool false) rfl ?_)
  show wpAny _ _ (field (.ref z) 3 >>= _) _ _ _
  refine wpAny_bind (wpAny_field hz rfl (x := .ref TI) rfl ?_)
  refine wpAny_bind (wpAny_seqItems hTI rfl ?_)
  show wpAny _ _ (Builtin.SmallTypes.ownedTupleIsFree (.ref z) >>= _) _ _ _
  refine wpAny_bind ?_
  unfold Builtin.SmallTypes.ownedTupleIsFree
  refine wpAny_bind (wpAny_field hz rfl (x := .none) rfl (wpAny_pure ?_))
  simp only [if_true]
  refine wpAny_bind (wpAny_rule ?_)
  refine wpAny_bind (wpAny_field hz rfl (x := .ref TO) rfl ?_)
  refine wpAny_bind (wpAny_setField_rec hz (by simp) fun g1 z1 s1 => ?_)
  replace z1 : IsZip g1 z TI TO .ellipsis := z1
  refine wpAny_bind ?_
  simp only [List.zipIdx_cons, List.zipIdx_nil, List.forIn_cons, List.forIn_nil]
  refine wpAny_bind (wpAny_bind (wpAny_onRaise ?_))
  show wpAny _ _ (Builtin.SmallTypes.nextOf (.ref i1) >>= _) _ _ _
  refine wpAny_bind (nextOf_key_item (h1.extBut s1.extBut D.i1z) (hm.extBut s1.extBut D.l1z) hx fun key g2 hkey k2 s2 => wpAny_pure ?_)
  have t2 : IsPair g2 TO a b := s2.extBut _ _ D.TOi1 (s1.extBut _ _ D.TOz hTO)
  refine wpAny_bind (wpAny_seqItems t2 rfl ?_)
  refine wpAny_bind (wpAny_updateSeq_pair t2 fun g3 t3 s3 => ?_)
  replace t3 : IsPair g3 TO key b := t3
  refine wpAny_bind (wpAny_letGo (wpAny_pure ?_))
  refine wpAny_bind (wpAny_bind (wpAny_onRaise ?_))
  show wpAny _ _ (Builtin.SmallTypes.nextOf (.ref i2) >>= _) _ _ _
  refine wpAny_bind (wpAny_nextOf_list_item (((h2.extBut s1.extBut D.i2z).extBut s2.extBut D.i12.symm).extBut s3.extBut D.TOi2.symm)
    (((hl.extBut s1.extBut D.l2z).extBut s2.extBut D.l2i1).extBut s3.extBut D.l2TO) hy fun g4 k4 s4 => wpAny_pure ?_)
  have t4 : IsPair g4 TO key b := s4.extBut _ _ D.TOi2 t3
  refine wpAny_bind (wpAny_seqItems t4 rfl ?_)
  refine wpAny_bind (wpAny_updateSeq_pair t4 fun g5 t5 s5 => ?_)
  replace t5 : IsPair g5 TO key y := t5
  refine wpAny_bind (wpAny_letGo (wpAny_pure (wpAny_pure ?_)))
  refine wpAny_bind (wpAny_seqItems t5 rfl ?_)
  refine wpAny_bind (wpAny_newTuple ?_)
  have hsz : g5.objs.size = s.heap.objs.size := by rw [s5.1, s4.1, s3.1, s2.1, s1.1]
  have z5 : IsZip g5 z TI TO .ellipsis := s5.extBut _ _ D.TOz.symm (s4.extBut _ _ D.i2z.symm (s3.extBut _ _ D.TOz.symm (s2.extBut _ _ D.i1z.symm z1)))
  have hk : ∀ c o, c ≠ z → c ≠ TO → c ≠ i1 → c ≠ i2 → s.heap.get? c = some o → g5.get? c = some o := fun c o c1 c2 c3 c4 e =>
    s5.extBut _ _ c2 (s4.extBut _ _ c4 (s3.extBut _ _ c2 (s2.extBut _ _ c3 (s1.extBut _ _ c1 e))))
  have k5 : g5.IsKeyIter i1 d (i + 1) kvs.length ep := ((k2.extBut s3.extBut D.TOi1.symm).extBut s4.extBut D.i12).extBut s5.extBut D.TOi1.symm
  have j5 : g5.IsListIter i2 l (i + 1) := k4.extBut s5.extBut D.TOi2.symm
  have hzlt : z < g5.objs.size := Heap.lt_size z5
  show wpAny _ _ (Builtin.SmallTypes.ownedTupleHandOut (.ref z) (.ref g5.objs.size) >>= _) _ _ _
  refine wpAny_bind ?_
  unfold Builtin.SmallTypes.ownedTupleHandOut
  have z6 : IsZip (g5.push { cls := .type "tuple", data := .seq #[key, y] }) z TI TO .ellipsis := Heap.get?_push_of_some _ z5
  refine wpAny_bind (wpAny_setField_rec z6 (by simp) fun g7 z7 s7 => ?_)
  replace z7 : IsZip g7 z TI TO (rawInt g5.objs.size) := z7
  refine wpAny_setField_rec z7 (by simp) fun g8 z8 s8 => ?_
  replace z8 : IsZip g8 z TI TO (rawInt g5.objs.size) := z8
  have up : ∀ c o, c ≠ z → g5.get? c = some o → g8.get? c = some o := fun c o c1 e => s8.extBut _ _ c1 (s7.extBut _ _ c1 (Heap.get?_push_of_some _ e))
  have T8 : IsPair g8 g5.objs.size key y := s8.extBut _ _ (Nat.ne_of_gt hzlt) (s7.extBut _ _ (Nat.ne_of_gt hzlt) (Heap.get?_push_size _ rfl))
  have n8 : g8.objs.size = g5.objs.size + 1 := by rw [s8.1, s7.1, Heap.size_push]
  rw [hsz] at z8 T8 n8
  refine wpAny_pure ⟨_, rfl, ?_⟩
  show Q (.ref g5.objs.size) _
  rw [hsz]
  exact hQ key g8 hkey z8 (up _ _ D.TOz t5) (k5.at fun o e => up _ o D.i1z e) (j5.at fun o e => up _ o D.i2z e) T8 n8 fun c o c1 c2 c3 c4 e => up c o c1 (hk c o c1 c2 c3 c4 e)
theorem zipD_next_end {z TI TO i1 i2 d l i n ep : Nat} {od : Obj} {es : Array DictEntry} {Q : Fin → Shared → Prop} (hh : A.handled = none) (D : ZipApart z TI TO i1 i2 d l)
    (hz : ZS s.heap z TI TO i1 i2 d l n ep i) (hod : s.heap.get? d = some od) (hdd : od.data = .dict es ep) (hsz : es.size = n) (hge : n ≤ i)
    (hE : ∀ h' e, (∀ c o, c ≠ z → c ≠ TO → c ≠ i1 → c ≠ i2 → s.heap.get? c = some o → h'.get? c = some o) → (∃ o, h'.get? e = some o ∧ o.cls = .type "StopIteration") → E (.ref e) { s with heap := h' }) :
    wpAny (model prog w) A (Builtin.«zip.__next__» ⟨[.ref z], []⟩) Q E s := by
  obtain ⟨hz, hTI, ⟨a, b, hTO⟩, h1, h2⟩ := hz
  show wpAny _ _ (field (.ref z) 2 >>= _) _ _ _
  refine wpAny_bind (wpAny_field hz rfl (x := .bool false) rfl ?_)
  show wpAny _ _ (field (.ref z) 3 >>= _) _ _ _
  refine wpAny_bind (wpAny_field hz rfl (x := .ref TI) rfl ?_)
  refine wpAny_bind (wpAny_seqItems hTI rfl ?_)
  show wpAny _ _ (Builtin.SmallTypes.ownedTupleIsFree (.ref z) >>= _) _ _ _
  refine wpAny_bind ?_
  unfold Builtin.SmallTypes.ownedTupleIsFree
  refine wpAny_bind (wpAny_field hz rfl (x := .none) rfl (wpAny_pure ?_))
  simp only [if_true]
  refine wpAny_bind (wpAny_rule ?_)
  refine wpAny_bind (wpAny_field hz rfl (x := .ref TO) rfl ?_)
  refine wpAny_bind (wpAny_setField_rec hz (by simp) fun g1 z1 s1 => ?_)
  replace z1 : IsZip g1 z TI TO .ellipsis := z1
  refine wpAny_bind ?_
  simp only [List.zipIdx_cons, List.zipIdx_nil, List.forIn_cons, List.forIn_nil]
  refine wpAny_bind (wpAny_bind (wpAny_onRaise ?_))
  show wpAny _ _ (Builtin.SmallTypes.nextOf (.ref i1) >>= _) _ _ _
  refine wpAny_bind (nextOf_key_end hh (h1.extBut s1.extBut D.i1z) (s1.extBut _ _ D.l1z hod) hdd hsz hge fun g2 e s2 he => ?_)
  obtain ⟨oe, hoe, hce⟩ := he
  have z2 : IsZip g2 z TI TO .ellipsis := s2 _ _ D.i1z.symm z1
  have hez : e ≠ z := fun x => by subst x; rw [z2] at hoe; cases hoe; simp at hce
  refine wpAny_setField_rec z2 (by simp) fun g3 _ s3 => hE g3 e (fun c o c1 _ c3 _ x => s3.extBut _ _ c1 (s2 _ _ c3 (s1.extBut _ _ c1 x))) ⟨oe, s3.extBut _ _ hez hoe, hce⟩
theorem pyNext_zipD_item {z TI TO i1 i2 d l i ep : Nat} {kvs : List (Key × Value)} {ys : Array Value} {k : Key} {x y : Value} {Q : Option Value → Shared → Prop} (D : ZipApart z TI TO i1 i2 d l)
    (hz : ZS s.heap z TI TO i1 i2 d l kvs.length ep i) (hm : s.heap.DictAt (mixKind prog w) d kvs ep) (hl : s.heap.IsList l ys) (hx : kvs[i]? = some (k, x)) (hy : ys[i]? = some y)
    (hQ : ∀ key h', (mixKind prog w).is k key = true → IsZip h' z TI TO (rawInt s.heap.objs.size) → IsPair h' TO key y → h'.IsKeyIter i1 d (i + 1) kvs.length ep → h'.IsListIter i2 l (i + 1) → IsPair h' s.heap.objs.size key y → h'.objs.size = s.heap.objs.size + 1 →
      (∀ c o, c ≠ z → c ≠ TO → c ≠ i1 → c ≠ i2 → s.heap.get? c = some o → h'.get? c = some o) → Q (some (.ref s.heap.objs.size)) { s with heap := h' }) :
    wpAny (model prog w) A (pyNext (.ref z)) Q E s := by
  have hT : s.TypeIs (.ref z) "zip" := ⟨_, hz.1, rfl⟩
  unfold pyNext
  exact wpAny_bind (wpAny_attempt (wpAny_callSpecial?_slot (name := Str.ofString "__next__") hT F.slot_zip_next
    (wpAny_call_entry F.slot_zip_next hT F.entry_zip_next
      (zipD_next_item D hz hm hl hx hy fun key h' a0 a1 a2 a3 a4 a5 a6 a7 => wpAny_pure (hQ key h' a0 a1 a2 a3 a4 a5 a6 a7)) (F.args_zip_next_1 _))))
theorem pyNext_zipD_end {z TI TO i1 i2 d l i n ep : Nat} {od : Obj} {es : Array DictEntry} {Q : Option Value → Shared → Prop} (hh : A.handled = none) (D : ZipApart z TI TO i1 i2 d l)
    (hz : ZS s.heap z TI TO i1 i2 d l n ep i) (hod : s.heap.get? d = some od) (hdd : od.data = .dict es ep) (hsz : es.size = n) (hge : n ≤ i)
    (hQ : ∀ h', (∀ c o, c ≠ z → c ≠ TO → c ≠ i1 → c ≠ i2 → s.heap.get? c = some o → h'.get? c = some o) → Q none { s with heap := h' }) : wpAny (model prog w) A (pyNext (.ref z)) Q E s := by
  have hT : s.TypeIs (.ref z) "zip" := ⟨_, hz.1, rfl⟩
  unfold pyNext
  refine wpAny_bind (wpAny_attempt (wpAny_callSpecial?_slot (name := Str.ofString "__next__") hT F.slot_zip_next
    (wpAny_call_entry F.slot_zip_next hT F.entry_zip_next (zipD_next_end hh D hz hod hdd hsz hge fun h' e hk he => ?_) (F.args_zip_next_1 _))))
  obtain ⟨o, ho, hc⟩ := he
  refine wpAny_bind (wpAny_isInstance (T := "StopIteration") (b := true) ⟨o, ho, hc⟩ isSubtype_stop ?_)
  exact wpAny_pure (hQ _ hk)
end
abbrev zdH1 (h : Heap) (d n ep : Nat) : Heap := h.push { cls := .type "dict_keyiterator", data := .fields #[.ref d, .int 0 0, .int n 0, .int ep 0] }
abbrev zdH2 (h : Heap) (d n ep l : Nat) : Heap := (zdH1 h d n ep).push { cls := .type "list_iterator", data := .fields #[.ref l, .int 0 0] }
abbrev zdH3 (h : Heap) (d n ep l : Nat) : Heap := (zdH2 h d n ep l).push { cls := .type "tuple", data := .seq #[.ref h.objs.size, .ref (zdH1 h d n ep).objs.size] }
abbrev zdH4 (h : Heap) (d n ep l : Nat) : Heap := (zdH3 h d n ep l).push { cls := .type "tuple", data := .seq #[.none, .none] }
abbrev zdH5 (h : Heap) (d n ep l : Nat) : Heap := (zdH4 h d n ep l).push { cls := .type "zip", data := .fields #[.none, .bool false, .bool false, .ref (zdH2 h d n ep l).objs.size, .ref (zdH3 h d n ep l).objs.size] }
theorem meets_zipD_new (d l : Addr) (o : Obj) (es : Array DictEntry) (ep : Nat) (ys : Array Value) (hd : (d == sysModules) = false) (hc : o.ExactDict) (hdat : o.data = .dict es ep) :
    Meets (Builtin.«zip.__new__» ⟨[.type "zip", .ref d, .ref l], []⟩) (fun _ R s => s.heap.get? d = some o ∧ s.heap.IsList l ys ∧
      R (.ok (.ret (.ref (zdH4 s.heap d es.size ep l).objs.size))) { s with heap := zdH5 s.heap d es.size ep l }) :=
  .of_wp fun prog w A R s h => by
    obtain ⟨hp, g, dd, tk, os⟩ := s; obtain ⟨hl1, hl2, h⟩ := h
    have hsub := sub_zip
    have hL1 : Heap.get? (Shared.heap ⟨hp, g, dd, tk, os⟩) d = some o := hl1
    have hL2 : Heap.IsList (Shared.heap ⟨hp.push { cls := .type "dict_keyiterator", data := .fields #[.ref d, .int 0 0, .int es.size 0, .int ep 0] }, g, dd, tk, os⟩) l ys := Heap.IsList.push hl2 _
    wp_walk using L2.iter_keys hd hL1 hc hdat, wpAny_pyIter_list hL2
    exact ⟨_, rfl, h⟩
section
variable {prog : Program} {w : World} {A : Around} {E : Value → Shared → Prop} {s : Shared}
theorem call_zipD {d l : Addr} {o : Obj} {es : Array DictEntry} {ep : Nat} {ys : Array Value} {Q : Value → Shared → Prop} (hd : (d == sysModules) = false) (ho : s.heap.get? d = some o) (hc : o.ExactDict) (hdat : o.data = .dict es ep) (hl2 : s.heap.IsList l ys)
    (h : ∀ h', ZS h' (s.heap.objs.size + 4) (s.heap.objs.size + 2) (s.heap.objs.size + 3) s.heap.objs.size (s.heap.objs.size + 1) d l es.size ep 0 → 
      (∀ c o, s.heap.get? c = some o → h'.get? c = some o) → Q (.ref (s.heap.objs.size + 4)) { s with heap := h' }) :
    wpAny (model prog w) A (call (.type "zip") [.ref d, .ref l]) Q E s := by
  refine callType_new F.called_zip (by decide) (F.typeCall_zip_2 _ _) (F.newCall_zip_2 _ _) (fun obj => F.args_object_init_3 obj _ _) F.entry_zip_new
    (meets_zipD_new d l o es ep ys hd hc hdat) ⟨ho, hl2, ?_⟩
  have z1 : (zdH1 s.heap d es.size ep).objs.size = s.heap.objs.size + 1 := Heap.size_push ..
  have z2 : (zdH2 s.heap d es.size ep l).objs.size = s.heap.objs.size + 2 := by rw [Heap.size_push, z1]
  have z3 : (zdH3 s.heap d es.size ep l).objs.size = s.heap.objs.size + 3 := by rw [Heap.size_push, z2]
  have z4 : (zdH4 s.heap d es.size ep l).objs.size = s.heap.objs.size + 4 := by rw [Heap.size_push, z3]
  have g5 : (zdH5 s.heap d es.size ep l).get? (zdH4 s.heap d es.size ep l).objs.size = some _ := Heap.get?_push_size _ rfl
  have g4 : (zdH5 s.heap d es.size ep l).get? (zdH3 s.heap d es.size ep l).objs.size = some _ := Heap.get?_push_of_some _ (Heap.get?_push_size _ rfl)
  have g3 : (zdH5 s.heap d es.size ep l).get? (zdH2 s.heap d es.size ep l).objs.size = some _ := Heap.get?_push_of_some _ (Heap.get?_push_of_some _ (Heap.get?_push_size _ rfl))
  have g2 : (zdH5 s.heap d es.size ep l).get? (zdH1 s.heap d es.size ep).objs.size = some _ := Heap.get?_push_of_some _ (Heap.get?_push_of_some _ (Heap.get?_push_of_some _ (Heap.get?_push_size _ rfl)))
  have g1 : (zdH5 s.heap d es.size ep l).get? s.heap.objs.size = some _ := Heap.get?_push_of_some _ (Heap.get?_push_of_some _ (Heap.get?_push_of_some _ (Heap.get?_push_of_some _ (Heap.get?_push_size _ rfl))))
  show _ ∧ _
  rw [z2, z3, z4] at g5
  rw [z1, z2] at g3
  rw [z3] at g4
  rw [z1] at g2
  rw [z4]
  exact ⟨⟨_, g5, rfl⟩, h _ ⟨g5, g3, ⟨_, _, g4⟩, ⟨_, g1, rfl, rfl⟩, ⟨_, g2, rfl, rfl⟩⟩ fun c o x =>
    Heap.get?_push_of_some _ (Heap.get?_push_of_some _ (Heap.get?_push_of_some _ (Heap.get?_push_of_some _ (Heap.get?_push_of_some _ x))))⟩
end
/-- the keys of the dict at d (locked) with the items of the list at b -/
def Itzd (K : PySem.W.Frag) (d : Addr) (o : Obj) (kvs : List (Key × V)) (b : Addr) : It :=
  ⟨fun i H => H d = some (.frz o (.dK kvs)) ∧ i < kvs.length ∧ ∃ (ys : List V) (y : V), SqL K H b ys ∧ ys[i]? = some y,
    fun i H v H' => ∃ T k x y, v = .ref T ∧ H T = none ∧ H' = upd H T (.tup [kV k, y]) ∧ kvs[i]? = some (k, x) ∧ ∀ ys, SqL K H b ys → ys[i]? = some y,
    fun i H => H d = some (.frz o (.dK kvs)) ∧ kvs.length ≤ i⟩
theorem turn_zipD {P : Program} {w : World} {K : PySem.W.Frag} {elts : List Expr} {kk : Nat} {tpos : Pos} {d b z TI TO i1 i2 : Addr} {o : Obj} {es : Array DictEntry} {ep : Nat} {kvs : List (Key × V)} (hod : o.data = .dict es ep) (D : ZipApart z TI TO i1 i2 d b) :
    Turn P w K (.Tuple elts kk tpos) (Itzd K d o kvs b) [z, TI, TO, i1, i2] z (fun i h => ZS h z TI TO i1 i2 d b kvs.length ep i) where
  mem := by simp
  obj := fun i h st c hc => by
    obtain ⟨hz, hTI, ⟨x, y, hTO⟩, ⟨o1, e1, _, d1⟩, ⟨o2, e2, _, d2⟩⟩ := st
    have e' : c = z ∨ c = TI ∨ c = TO ∨ c = i1 ∨ c = i2 := by simpa using hc
    rcases e' with q | q | q | q | q
    · rw [q]; exact ⟨_, hz, fun v q => nomatch q⟩
    · rw [q]; exact ⟨_, hTI, fun v q => nomatch q⟩
    · rw [q]; exact ⟨_, hTO, fun v q => nomatch q⟩
    · rw [q]; exact ⟨o1, e1, fun v q => by rw [d1] at q; cases q⟩
    · rw [q]; exact ⟨o2, e2, fun v q => by rw [d2] at q; cases q⟩
  keep := fun i h h' st k => by
    obtain ⟨hz, hTI, ⟨x, y, hTO⟩, h1, h2⟩ := st
    exact ⟨k z (by simp) _ hz, k TI (by simp) _ hTI, ⟨x, y, k TO (by simp) _ hTO⟩, h1.at fun o q => k i1 (by simp) o q, h2.at fun o q => k i2 (by simp) o q⟩
  item := by
    intro X hP hw hK hc i pins s σ H E I hf st hg
    subst hP hw hK
    obtain ⟨hd, hi, ys, y, hqy, hy⟩ := hg
    obtain ⟨hs, hgd, hx, es', ep', vs, hdt, hsz, kv, hm⟩ := I.frzK hd
    obtain ⟨rfl, rfl⟩ := dict_ep hod hdt
    obtain ⟨⟨k, v⟩, hkv⟩ : ∃ p, kvs[i]? = some p := ⟨kvs[i], List.getElem?_eq_getElem hi⟩
    obtain ⟨u, hu, ru⟩ := kv_get kv hkv
    have hl : kvs.length = vs.length := Paired.length kv
    obtain ⟨its2, rv2, p2, _⟩ := I.list hqy
    obtain ⟨u2, hu2, ru2⟩ := rv2.get hy
    have hzl : z < s.heap.objs.size := Heap.lt_size st.1
    have hTIs := st.2.1
    rw [hl] at st
    refine pyNext_zipD_item D st hm p2.isList hu (y := u2) (by simpa using hu2) fun key h' hkey z' TO' h1' h2' hT hsz' hk => ?_
    refine ⟨_, rfl, wpAny_letOwnedTupleGo_zip (s := { s with heap := h' }) z' fun h'' z'' sb => ?_⟩
    have hT2 : h''.get? s.heap.objs.size = some { cls := .type "tuple", data := .seq #[key, u2] } := (sb.2 _ (Nat.ne_of_gt hzl)).trans hT
    have new : ObjOk X.prog X.w (upd H s.heap.objs.size (.tup [kV k, y])) h'' s.heap.objs.size (.tup [kV k, y]) :=
      ⟨by show 2 ≤ sizeLine; decide, [key, u2], .cons (relV_key (show keyIs k key = true from hkey)) (.cons ru2 .nil), ⟨_, hT2, rfl, _, rfl⟩⟩
    have I1 : Inv X pins σ (upd H s.heap.objs.size (.tup [kV k, y])) { s with heap := h'' } :=
      I.turnedNew (t' := s.toks) (ch := [z, TI, TO, i1, i2]) (fun c o hb q => (sb.2 c (fun q' => hb (by simp [q']))).trans (hk c o (fun q' => hb (by simp [q'])) (fun q' => hb (by simp [q'])) (fun q' => hb (by simp [q'])) (fun q' => hb (by simp [q'])) q)) hf (Nat.le_refl _) new
    refine ⟨.ref s.heap.objs.size, _, I1, rfl, ⟨_, k, v, y, rfl, I.hok.fresh (Nat.le_refl _), rfl, hkv, fun l hl => by rw [I.list_inj hl hqy]; exact hy⟩, ⟨z'', ?_, ⟨key, u2, ?_⟩, ?_, ?_⟩, fun c hcm => ?_⟩
    · exact (sb.2 _ D.TIz).trans (hk _ _ D.TIz D.TITO D.TIi1 D.TIi2 hTIs)
    · exact (sb.2 _ D.TOz).trans TO'
    · rw [hl]; exact h1'.at fun o q => (sb.2 _ D.i1z).trans q
    · exact h2'.at fun o q => (sb.2 _ D.i2z).trans q
    · have hlt : c < s.heap.objs.size := by
        obtain ⟨hz, hTI, ⟨_, _, hTO⟩, ⟨_, e1, _⟩, ⟨_, e2, _⟩⟩ := st
        have e' : c = z ∨ c = TI ∨ c = TO ∨ c = i1 ∨ c = i2 := by simpa using hcm
        rcases e' with q | q | q | q | q
        · rw [q]; exact hzl
        · rw [q]; exact Heap.lt_size hTI
        · rw [q]; exact Heap.lt_size hTO
        · rw [q]; exact Heap.lt_size e1
        · rw [q]; exact Heap.lt_size e2
      rw [upd_ne (Nat.ne_of_lt hlt)]
      exact (hf c hcm).1
  done := by
    intro X hP hw hK hc i pins s σ H E I hf st hg
    subst hP hw hK
    obtain ⟨hd, hi⟩ := hg
    obtain ⟨hs, hgd, hx, es', ep', vs, hdt, hsz, kv, hm⟩ := I.frzK hd
    obtain ⟨rfl, rfl⟩ := dict_ep hod hdt
    exact pyNext_zipD_end (I.ok.hd hc) D st hgd hdt hsz hi fun h' hk => ⟨rfl, I.turnedL (t' := s.toks) (ch := [z, TI, TO, i1, i2]) (fun c o hb q =>
      hk c o (fun q' => hb (by simp [q'])) (fun q' => hb (by simp [q'])) (fun q' => hb (by simp [q'])) (fun q' => hb (by simp [q'])) q) hf⟩
  self := fun A i s Q E st h => wpAny_pyIter_zip st.1 h
def iZipD (K : PySem.W.Frag) (ta : TA) : TI := fun σ H R => ta σ H fun vs H1 => ∃ d b o kvs ys, vs = [.ref d, .ref b] ∧ H1 d = some (.frz o (.dK kvs)) ∧ SqL K H1 b ys ∧ R (Itzd K d o kvs b) H1
theorem pi_zipD {X : Cx} {e e2 : Expr} {ta : TA} {p pos tpos : Pos} {elts : List Expr} {kk : Nat} (hg : Gl X "zip") (hm : X.mg "zip" = none) (ha : PA X [e, e2] ta)
    (hs : starEach [e, e2] X.env = (false, eval e X.env) :: starEach [e2] X.env := by rfl) (hpl : (backTo pos (starEach [e2] X.env)).any (·.1) = false := by rfl) :
    PI X (.Tuple elts kk tpos) (.Call (.Name "zip" p) [e, e2] [] pos) (iZipD X.K ta) := by
  refine ⟨fun pins s σ H R I h => ?_⟩
  refine Call_ (ld_blt I hg hm PyProof.Rows.boot_zip (PyProof.Rows.callWith_type1 (thn (ha.run pos pins s σ H _ I h) fun us s1 ⟨vs, H1, I1, r1, q1⟩ => ?_) hs hpl))
  obtain ⟨d, b, o, kvs, ys, ex, hd, hqy, q⟩ := q1
  subst ex
  cases r1 with
  | cons r rr =>
    cases rr with
    | cons r' rr =>
      cases rr
      cases r
      cases r'
      have fresh5 : ∀ c, c ∈ [s1.heap.objs.size + 4, s1.heap.objs.size + 2, s1.heap.objs.size + 3, s1.heap.objs.size, s1.heap.objs.size + 1] → FpOk X pins H1 c := fun c hcm => by
        have e' : c = s1.heap.objs.size + 4 ∨ c = s1.heap.objs.size + 2 ∨ c = s1.heap.objs.size + 3 ∨ c = s1.heap.objs.size ∨ c = s1.heap.objs.size + 1 := by simpa using hcm
        have hle : s1.heap.objs.size ≤ c := by
          rcases e' with z | z | z | z | z
          · rw [z]; exact Nat.le_add_right _ _
          · rw [z]; exact Nat.le_add_right _ _
          · rw [z]; exact Nat.le_add_right _ _
          · rw [z]; exact Nat.le_refl _
          · rw [z]; exact Nat.le_add_right _ _
        exact I1.fpOk hle (I1.hok.fresh hle)
      obtain ⟨hs', hgd, hx, es, ep, vs, hdt, hsz, kv, hmm⟩ := I1.frzK hd
      obtain ⟨its2, rv2, p2, _⟩ := I1.list hqy
      refine call_zipD hs' hgd hx hdt p2.isList fun h' hz hk => wpAny_pyIter_zip hz.1 ?_
      have I2 : Inv X pins σ H1 { s1 with heap := h' } := I1.kept (t' := s1.toks) hk
      rw [hsz] at hz
      exact ⟨s1.heap.objs.size + 4, [s1.heap.objs.size + 4, s1.heap.objs.size + 2, s1.heap.objs.size + 3, s1.heap.objs.size, s1.heap.objs.size + 1], _, _, H1, rfl, I2, turn_zipD hdt (PySem.W.ktu_apart s1.heap.objs.size d b (Heap.lt_size hgd) p2.lt), hz, fresh5, q⟩
theorem walk_zipD {K : PySem.W.Frag} {d b : Addr} {o : Obj} {kvs : List (Key × V)} {ys : List V} (e : kvs.length = ys.length) : L2.Walk (Itzd K d o kvs b) kvs.length (fun H => H d = some (.frz o (.dK kvs)) ∧ SqL K H b ys) (YPair (fun i => kvs[i]?.map fun kv => kV kv.1) (fun i => ys[i]?)) := by
  refine ⟨fun i H hi q => ⟨q.1, hi, ys, ys[i], q.2, by simp⟩, fun _ q => ⟨q.1, Nat.le_refl _⟩, fun i H v H' _ q y => ?_⟩
  obtain ⟨T, k, x, z, h1, h2, h3, h4, h5⟩ := y
  exact ⟨T, kV k, z, h1, h2, h3, by show (kvs[i]?.map fun kv => kV kv.1) = _; rw [h4]; rfl, h5 ys q.2⟩
theorem prZipD {kvs : List (Key × V)} {ys : List V} {n : Nat} : PrOk n (fun i => kvs[i]?.map fun kv => kV kv.1) (fun i => ys[i]?) (kvs.map fun kv => kV kv.1) ys := ⟨fun i u _ h => by rw [List.getElem?_map]; exact h, fun _ _ _ h => h⟩
theorem zipD_len {κ α β : Type} {f : κ → Key} {r : V → α → Prop} {q : V → β → Prop} {kvs : List (Key × V)} {m : List (κ × α)} {ys : List V} {m2 : List β} (h1 : KR f r kvs m) (h2 : LR q ys m2) (e : decide (m.length = m2.length) = true) : kvs.length = ys.length := by
  rw [h1.length, h2.length]; exact of_decide_eq_true e
end G

namespace G
open PySem PySem.Spec PyProof.Rows L2

structure M_Gates where
  rows : (List (List Key))
  known : (List ((List Key) × Int))

structure M_Plan where
  side : Str
  gates : M_Gates
  table : (List (Int × Int))

def m_law_seed_l1 : List Int → Int → Option Int
  | [], st1 => some st1
  | x24 :: t, st1 =>
    m_law_seed_l1 t ((((st1 * (69621 : Int)) + (x24 % (2147483647 : Int))) + (7 : Int)) % (2147483647 : Int))
def m_law_seed (x_script0 : (List Int)) : Option Int :=
  (m_law_seed_l1 x_script0 (1 : Int)).bind fun st1 =>
  some st1

def m_law_take (x_script0 : (List Int)) (x_source0 : (List Int)) (x_size0 : Int) : Option (Int × (List Int)) :=
  (((atI x_source0 (0 : Int)).bind fun y10 =>
      if (decide (y10 = (0 : Int))) = true then ((atI x_source0 (1 : Int)).bind fun y16 =>
      some (decide (y16 < (x_script0.length : Int)))) else (some false)).bind fun b8 =>
    if b8 = true then
      ((atI x_source0 (1 : Int)).bind fun y24 =>
      (atI x_script0 y24).bind fun y29 =>
      (ixN x_source0.length (0 : Int)).bind fun j34 =>
      (atI (x_source0.set j34 (if y29 < 0 then -y29 else y29)) (1 : Int)).bind fun y38 =>
      (ixN (x_source0.set j34 (if y29 < 0 then -y29 else y29)).length (1 : Int)).bind fun j43 =>
      some ((x_source0.set j34 (if y29 < 0 then -y29 else y29)).set j43 (y38 + (1 : Int))))
    else
      (some x_source0)).bind fun y6 =>
  (atI y6 (0 : Int)).bind fun y49 =>
  if (decide (y49 > (0 : Int))) = true then
    ((atI y6 (0 : Int)).bind fun y57 =>
    (grd (divOk x_size0)).bind fun _ =>
    (atI y6 (0 : Int)).bind fun y65 =>
    (grd (divOk x_size0)).bind fun _ =>
    (ixN y6.length (0 : Int)).bind fun j71 =>
    some ((y57 % x_size0), (y6.set j71 (y65 / x_size0))))
  else
    ((atI y6 (2 : Int)).bind fun y77 =>
    (ixN y6.length (2 : Int)).bind fun j82 =>
    (atI (y6.set j82 (((y77 * (48271 : Int)) + (12345 : Int)) % (2147483647 : Int))) (2 : Int)).bind fun y86 =>
    (grd (divOk x_size0)).bind fun _ =>
    some (((y86 / (1009 : Int)) % x_size0), (y6.set j82 (((y77 * (48271 : Int)) + (12345 : Int)) % (2147483647 : Int)))))

def m_law_order_l1 (x_script0 : (List Int)) : Nat → ((List (Int × Str)) × (List Int) × (List Int)) → Option ((List (Int × Str)) × (List Int) × (List Int))
  | 0, _ => none
  | t + 1, st1 =>
    if (!decide (st1.2.1 = ([] : (List Int)))) = true then
      ((m_law_take x_script0 st1.2.2 (st1.2.1.length : Int)).bind fun y64 =>
      (grd (rngOk y64.1)).bind fun _ =>
      (ixN st1.2.1.length y64.1).bind fun j74 =>
      (st1.2.1[j74]?).bind fun y76 =>
      (m_law_take x_script0 y64.2 (2 : Int)).bind fun y88 =>
      (atI ([("some" : Str), ("all" : Str)] : (List Str)) y88.1).bind fun y97 =>
      (grd (decide (st1.1.length < 16777216))).bind fun _ =>
      m_law_order_l1 x_script0 t ((st1.1 ++ [(y76, y97)]), (st1.2.1.eraseIdx j74), y88.2))
    else
      some (st1.1, st1.2.1, st1.2.2)
def m_law_order (x_script0 : (List Int)) (x_source0 : (List Int)) : Option ((List (Int × Str)) × (List Int)) :=
  (m_law_take x_script0 x_source0 (8 : Int)).bind fun y3 =>
  ((m_law_take x_script0 y3.2 (8 : Int)).bind fun y19 =>
    if (decide (y19.1 = (5 : Int))) = true then
      (some ((y3.1 + (12 : Int)), y19.2))
    else
      (some (y3.1, y19.2))).bind fun y17 =>
  (grd (rgOk (1 : Int) (y17.1 + (1 : Int)))).bind fun _ =>
  (m_law_order_l1 x_script0 fuel (([] : (List (Int × Str))), (pyRange (1 : Int) ((y17.1 + (1 : Int)) - (1 : Int)).toNat), y17.2)).bind fun st1 =>
  some (st1.1, st1.2.2)

def m_Gates_init  : M_Gates :=
  (M_Gates.mk ([([Sum.inr ("no" : Str)] : List Key)] : (List (List Key))) ([] : (List ((List Key) × Int))))

def m_law_row_l1 (x_rows0 : (List (List Key))) (x_row0 : (List Key)) : List Int → Unit → Option (Flw Unit (Int × (List (List Key))))
  | [], st1 => some (.done st1)
  | x23 :: t, st1 =>
    (atI x_rows0 x23).bind fun y25 =>
    (grd (DOk.ok y25)).bind fun _ =>
    (grd (DOk.ok x_row0)).bind fun _ =>
    if (decide (y25 = x_row0)) = true then
      (some (.ret (((2 : Int) * x23), x_rows0)))
    else
      (m_law_row_l1 x_rows0 x_row0 t ())
def m_law_row (x_rows0 : (List (List Key))) (x_row0 : (List Key)) : Option (Int × (List (List Key))) :=
  (grd (rngOk (x_rows0.length : Int))).bind fun _ =>
  (m_law_row_l1 x_rows0 x_row0 (pyRange 0 (x_rows0.length : Int).toNat) ()).bind fun y3 =>
  match y3 with
  | .ret r => some r
  | .done st1 =>
  (grd (decide (x_rows0.length < 16777216))).bind fun _ =>
  some ((((2 : Int) * ((x_rows0 ++ [x_row0]).length : Int)) - (2 : Int)), (x_rows0 ++ [x_row0]))

def m_Gates_edge_of (x_self0 : M_Gates) (x_row0 : (List Key)) : Option (Int × M_Gates) :=
  (if (!(mget x_self0.known x_row0).isSome) = true then
      ((grd (decide (x_self0.known.length < 16777216))).bind fun _ =>
      (grd (decide (x_self0.rows.length < 16777216))).bind fun _ =>
      some (M_Gates.mk (x_self0.rows ++ [x_row0]) (mput x_self0.known x_row0 ((2 : Int) * (x_self0.rows.length : Int)))))
    else
      (some (M_Gates.mk x_self0.rows x_self0.known))).bind fun y10 =>
  (mget y10.known x_row0).bind fun y21 =>
  some (y21, (M_Gates.mk y10.rows y10.known))

def m_Gates_leaf (x_self0 : M_Gates) (x_letter0 : Int) : Option (Int × M_Gates) :=
  (m_Gates_edge_of (M_Gates.mk x_self0.rows x_self0.known) ([Sum.inr ("letter" : Str), Sum.inl x_letter0] : List Key)).bind fun y7 =>
  some (y7.1, (M_Gates.mk y7.2.rows y7.2.known))

def m_law_opposite (x_edge0 : Int) : Int :=
  if (decide ((x_edge0 % (2 : Int)) = (0 : Int))) = true then
    ((x_edge0 + (1 : Int)))
  else
    ((x_edge0 - (1 : Int)))

def m_law_both (x_rows0 : (List (List Key))) (x_a0 : Int) (x_b0 : Int) : Option (Int × (List (List Key))) :=
  if ((decide (x_a0 = (0 : Int))) || ((decide (x_b0 = (0 : Int))) || (decide (x_a0 = (m_law_opposite x_b0))))) = true then
    (some ((0 : Int), x_rows0))
  else
    (if (decide (x_a0 = (1 : Int))) = true then
      (some (x_b0, x_rows0))
    else
      (if ((decide (x_b0 = (1 : Int))) || (decide (x_a0 = x_b0))) = true then
        (some (x_a0, x_rows0))
      else
        ((m_law_row x_rows0 ([Sum.inr ("both" : Str), Sum.inl (if x_b0 < x_a0 then x_b0 else x_a0), Sum.inl (if x_b0 > x_a0 then x_b0 else x_a0)] : List Key)).bind fun y19 =>
        some (y19.1, y19.2))))

def m_opposite (x_edge0 : Int) : Int :=
  (Builtin.bitXor x_edge0 (1 : Int))

def m_Gates_both (x_self0 : M_Gates) (x_a0 : Int) (x_b0 : Int) : Option (Int × M_Gates) :=
  if ((decide ((if x_b0 < x_a0 then x_b0 else x_a0) = (0 : Int))) || (decide ((if x_b0 < x_a0 then x_b0 else x_a0) = (m_opposite (if x_b0 > x_a0 then x_b0 else x_a0))))) = true then
    (some ((0 : Int), (M_Gates.mk x_self0.rows x_self0.known)))
  else
    (if ((decide ((if x_b0 < x_a0 then x_b0 else x_a0) = (1 : Int))) || (decide ((if x_b0 < x_a0 then x_b0 else x_a0) = (if x_b0 > x_a0 then x_b0 else x_a0)))) = true then
      (some ((if x_b0 > x_a0 then x_b0 else x_a0), (M_Gates.mk x_self0.rows x_self0.known)))
    else
      ((m_Gates_edge_of (M_Gates.mk x_self0.rows x_self0.known) ([Sum.inr ("both" : Str), Sum.inl (if x_b0 < x_a0 then x_b0 else x_a0), Sum.inl (if x_b0 > x_a0 then x_b0 else x_a0)] : List Key)).bind fun y19 =>
      some (y19.1, (M_Gates.mk y19.2.rows y19.2.known))))

def m_law_both_of (x_gates0 : M_Gates) (x_rows0 : (List (List Key))) (x_a0 : Int) (x_b0 : Int) : Option (Int × M_Gates × (List (List Key))) :=
  (m_law_both x_rows0 x_a0 x_b0).bind fun y4 =>
  (m_Gates_both (M_Gates.mk x_gates0.rows x_gates0.known) x_a0 x_b0).bind fun y16 =>
  if (!decide (y16.1 = y4.1)) = true then
    (some ((0 : Int), (M_Gates.mk y16.2.rows y16.2.known), y4.2))
  else
    (some (y4.1, (M_Gates.mk y16.2.rows y16.2.known), y4.2))

def m_law_edge_l1 : List Int → ((List Int) × M_Gates × (List (List Key))) → Option ((List Int) × M_Gates × (List (List Key)))
  | [], st1 => some st1
  | x62 :: t, st1 =>
    (m_law_row st1.2.2 ([Sum.inr ("letter" : Str), Sum.inl x62] : List Key)).bind fun y75 =>
    (m_Gates_leaf (M_Gates.mk st1.2.1.rows st1.2.1.known) x62).bind fun y87 =>
    (grd (decide (st1.1.length < 16777216))).bind fun _ =>
    (grd (decide ((st1.1 ++ [y75.1]).length < 16777216))).bind fun _ =>
    m_law_edge_l1 t (((st1.1 ++ [y75.1]) ++ [(m_law_opposite y75.1)]), (M_Gates.mk y87.2.rows y87.2.known), y75.2)
def m_law_edge_l2 (x_script0 : (List Int)) (st1 : ((List Int) × M_Gates × (List (List Key)))) : List Int → (Int × (List Int) × M_Gates × (List (List Key))) → Option (Int × (List Int) × M_Gates × (List (List Key)))
  | [], st2 => some st2
  | x191 :: t, st2 =>
    (m_law_take x_script0 st2.2.1 (st1.1.length : Int)).bind fun y195 =>
    (atI st1.1 y195.1).bind fun y204 =>
    (m_law_both_of (M_Gates.mk st2.2.2.1.rows st2.2.2.1.known) st2.2.2.2 st2.1 y204).bind fun y212 =>
    (m_law_take x_script0 y195.2 (2 : Int)).bind fun y228 =>
    if (decide (y228.1 = (1 : Int))) = true then
      (m_law_edge_l2 x_script0 st1 t ((m_law_opposite y212.1), y228.2, (M_Gates.mk y212.2.1.rows y212.2.1.known), y212.2.2))
    else
      (m_law_edge_l2 x_script0 st1 t (y212.1, y228.2, (M_Gates.mk y212.2.1.rows y212.2.1.known), y212.2.2))
def m_law_edge (x_script0 : (List Int)) (x_source0 : (List Int)) (x_gates0 : M_Gates) (x_rows0 : (List (List Key))) (x_ahead0 : (List Int)) : Option (Int × (List Int) × M_Gates × (List (List Key))) :=
  (m_law_edge_l1 x_ahead0 (([(0 : Int), (1 : Int)] : (List Int)), (M_Gates.mk x_gates0.rows x_gates0.known), x_rows0)).bind fun st1 =>
  (m_law_take x_script0 x_source0 (st1.1.length : Int)).bind fun y112 =>
  (atI st1.1 y112.1).bind fun y121 =>
  (m_law_take x_script0 y112.2 (4 : Int)).bind fun y131 =>
  (grd (rngOk y131.1)).bind fun _ =>
  (m_law_edge_l2 x_script0 st1 (pyRange 0 y131.1.toNat) (y121, y131.2, (M_Gates.mk st1.2.1.rows st1.2.1.known), st1.2.2)).bind fun st2 =>
  some (st2.1, st2.2.1, (M_Gates.mk st2.2.2.1.rows st2.2.2.1.known), st2.2.2.2)

def m_Plan_init (x_side0 : Str) (x_gates0 : M_Gates) (x_table0 : (List (Int × Int))) : Option M_Plan :=
  (grd (decide ((sortI (x_table0.map fun (q : Int × Int) => q.1)).length < 16777216))).bind fun _ =>
  (dcO (fun x18 => (mget x_table0 x18).bind fun y37 =>
        some (some (x18, y37))) ([] : (List (Int × Int))) (sortI (x_table0.map fun (q : Int × Int) => q.1))).bind fun y43 =>
  some (M_Plan.mk x_side0 (M_Gates.mk x_gates0.rows x_gates0.known) y43)

def m_other (x_side0 : Str) : Str :=
  if (decide (x_side0 = ("some" : Str))) = true then
    (("all" : Str))
  else
    (("some" : Str))

def m_Gates_cone_l1 (x_self0 : M_Gates) : Nat → ((List Int) × (List (Int × Bool))) → Option ((List Int) × (List (Int × Bool)))
  | 0, _ => none
  | t + 1, st1 =>
    if (!st1.1.isEmpty) = true then
      ((st1.1.getLast?).bind fun y50 =>
      if ((decide (y50 > (0 : Int))) && (!(mget st1.2 y50).isSome)) = true then
        ((grd (decide (st1.2.length < 16777216))).bind fun _ =>
        (atI x_self0.rows y50).bind fun y66 =>
        (kStr y66 (0 : Int)).bind fun y73 =>
        if (decide (y73 = ("both" : Str))) = true then
          ((kInt y66 (1 : Int)).bind fun y78 =>
          (grd (decide (st1.1.dropLast.length < 16777216))).bind fun _ =>
          (kInt y66 (2 : Int)).bind fun y83 =>
          (grd (decide ((st1.1.dropLast ++ [(y78 / (2 : Int))]).length < 16777216))).bind fun _ =>
          m_Gates_cone_l1 x_self0 t (((st1.1.dropLast ++ [(y78 / (2 : Int))]) ++ [(y83 / (2 : Int))]), (mput st1.2 y50 true)))
        else
          (m_Gates_cone_l1 x_self0 t (st1.1.dropLast, (mput st1.2 y50 true))))
      else
        (m_Gates_cone_l1 x_self0 t (st1.1.dropLast, st1.2)))
    else
      some (st1.1, st1.2)
def m_Gates_cone (x_self0 : M_Gates) (x_edges0 : (List Int)) : Option (List Int) :=
  (grd (decide (x_edges0.length < 16777216))).bind fun _ =>
  (m_Gates_cone_l1 x_self0 fuel ((x_edges0.map fun x13 => (x13 / (2 : Int))), ([] : (List (Int × Bool))))).bind fun st1 =>
  some (sortI (st1.2.map fun (q : Int × Bool) => q.1))

def m_Gates_hangs_on (x_self0 : M_Gates) (x_edge0 : Int) : Option (List Int) :=
  (m_Gates_cone x_self0 ([x_edge0] : (List Int))).bind fun y5 =>
  (grd (decide (y5.length < 16777216))).bind fun _ =>
  (lcO (fun x19 => (atI x_self0.rows x19).bind fun y38 =>
        (kStr y38 (0 : Int)).bind fun y45 =>
        if (decide (y45 = ("letter" : Str))) = true then ((atI x_self0.rows x19).bind fun y48 =>
        (kInt y48 (1 : Int)).bind fun y55 =>
        some (some y55)) else some none) y5).bind fun y58 =>
  some (sortI y58)

def m_Plan_misfit_l2 (x54 : (Int × Str)) (st1 : ((List (Int × Bool)) × (List (Int × Bool)))) : List Int → Unit → Option (Flw Unit (Option Int))
  | [], st2 => some (.done st2)
  | x111 :: t, st2 =>
    if (!(mget st1.2 x111).isSome) = true then
      (some (.ret (some x54.1)))
    else
      (m_Plan_misfit_l2 x54 st1 t ())
def m_Plan_misfit_l1 (x_self0 : M_Plan) : List (Int × Str) → ((List (Int × Bool)) × (List (Int × Bool))) → Option (Flw ((List (Int × Bool)) × (List (Int × Bool))) (Option Int))
  | [], st1 => some (.done st1)
  | x54 :: t, st1 =>
    if (decide (x54.2 = (m_other x_self0.side))) = true then
      ((grd (decide (st1.2.length < 16777216))).bind fun _ =>
      m_Plan_misfit_l1 x_self0 t (st1.1, (mput st1.2 x54.1 true)))
    else
      ((grd (decide (st1.1.length < 16777216))).bind fun _ =>
      if (!(mget x_self0.table x54.1).isSome) = true then
        (some (.ret (some x54.1)))
      else
        ((mget x_self0.table x54.1).bind fun y80 =>
        (m_Gates_hangs_on (M_Gates.mk x_self0.gates.rows x_self0.gates.known) y80).bind fun y85 =>
        (m_Plan_misfit_l2 x54 st1 y85 ()).bind fun y77 =>
        match y77 with
        | .ret r => some (.ret r)
        | .done st2 =>
        m_Plan_misfit_l1 x_self0 t ((mput st1.1 x54.1 true), st1.2)))
def m_Plan_misfit_l3 (st1 : ((List (Int × Bool)) × (List (Int × Bool)))) : List Int → Unit → Option (Flw Unit (Option Int))
  | [], st3 => some (.done st3)
  | x141 :: t, st3 =>
    if (!(mget st1.1 x141).isSome) = true then
      (some (.ret (some x141)))
    else
      (m_Plan_misfit_l3 st1 t ())
def m_Plan_misfit (x_self0 : M_Plan) (x_order0 : (List (Int × Str))) : Option (Option Int) :=
  (m_Plan_misfit_l1 x_self0 x_order0 (([] : (List (Int × Bool))), ([] : (List (Int × Bool))))).bind fun y15 =>
  match y15 with
  | .ret r => some r
  | .done st1 =>
  (m_Plan_misfit_l3 st1 (x_self0.table.map fun (q : Int × Int) => q.1) ()).bind fun y120 =>
  match y120 with
  | .ret r => some r
  | .done st3 =>
  some none

def m_law_fault (x_script0 : (List Int)) (x_source0 : (List Int)) (x_gates0 : M_Gates) (x_rows0 : (List (List Key))) (x_order0 : (List (Int × Str))) (x_side0 : Str) (x_table0 : (List (Int × Int))) : Option ((List Int) × M_Gates × (List (List Key)) × (List (Int × Int))) :=
  (grd (decide (x_order0.length < 16777216))).bind fun _ =>
  ((if (!decide (((x_order0.filter fun x7 => (decide (x7.2 = x_side0))).map fun x7 => x7.1) = ([] : (List Int)))) = true then ((m_law_take x_script0 x_source0 (2 : Int)).bind fun y74 =>
      some ((decide (y74.1 = (1 : Int))), y74.2)) else (some (false, x_source0))).bind fun b61 =>
    if b61.1 = true then
      ((m_law_take x_script0 b61.2 (((x_order0.filter fun x7 => (decide (x7.2 = x_side0))).map fun x7 => x7.1).length : Int)).bind fun y91 =>
      (atI ((x_order0.filter fun x7 => (decide (x7.2 = x_side0))).map fun x7 => x7.1) y91.1).bind fun y100 =>
      (m_law_take x_script0 y91.2 (5 : Int)).bind fun y107 =>
      (grd (rngOk (x_order0.length : Int))).bind fun _ =>
      (grd (decide ((pyRange 0 (x_order0.length : Int).toNat).length < 16777216))).bind fun _ =>
      (lcO (fun x123 => (atI x_order0 x123).bind fun y142 =>
            if (decide (y142.1 = y100)) = true then (some (some x123)) else some none) (pyRange 0 (x_order0.length : Int).toNat)).bind fun y155 =>
      (atI y155 (0 : Int)).bind fun y159 =>
      (grd (decide ((cutL x_order0 (some (y159 + (1 : Int))) none).length < 16777216))).bind fun _ =>
      (if (decide (y107.1 = (1 : Int))) = true then
          ((m_law_take x_script0 y107.2 (((x_order0.filter fun x7 => (decide (x7.2 = x_side0))).map fun x7 => x7.1).length : Int)).bind fun y210 =>
          (atI ((x_order0.filter fun x7 => (decide (x7.2 = x_side0))).map fun x7 => x7.1) y210.1).bind fun y219 =>
          some (y219, y210.2))
        else
          (some (y100, y107.2))).bind fun y206 =>
      ((if (decide (y107.1 = (2 : Int))) = true then (some (!decide (((cutL x_order0 (some (y159 + (1 : Int))) none).map fun x172 => x172.1) = ([] : (List Int))))) else (some false)).bind fun b232 =>
        if b232 = true then
          ((m_law_take x_script0 y206.2 (((cutL x_order0 (some (y159 + (1 : Int))) none).map fun x172 => x172.1).length : Int)).bind fun y247 =>
          (atI ((cutL x_order0 (some (y159 + (1 : Int))) none).map fun x172 => x172.1) y247.1).bind fun y256 =>
          some (y256, y247.2))
        else
          (some (y206.1, y206.2))).bind fun y230 =>
      (if (decide (y107.1 = (3 : Int))) = true then
          ((m_law_take x_script0 y230.2 (3 : Int)).bind fun y271 =>
          some (((500 : Int) + y271.1), y271.2))
        else
          (some (y230.1, y230.2))).bind fun y267 =>
      if (decide (y107.1 = (4 : Int))) = true then
        ((mget x_table0 y100).bind fun y282 =>
        some (y267.2, (M_Gates.mk x_gates0.rows x_gates0.known), x_rows0, (mdrop x_table0 y100)))
      else
        ((m_law_row x_rows0 ([Sum.inr ("letter" : Str), Sum.inl y267.1] : List Key)).bind fun y299 =>
        (m_Gates_leaf (M_Gates.mk x_gates0.rows x_gates0.known) y267.1).bind fun y311 =>
        (m_law_row y299.2 ([Sum.inr ("letter" : Str), Sum.inl (600 : Int)] : List Key)).bind fun y333 =>
        (m_Gates_leaf (M_Gates.mk y311.2.rows y311.2.known) (600 : Int)).bind fun y345 =>
        ((m_law_take x_script0 y267.2 (2 : Int)).bind fun y374 =>
          if (decide (y374.1 = (1 : Int))) = true then
            ((m_law_both_of (M_Gates.mk y345.2.rows y345.2.known) y333.2 (m_law_opposite y299.1) y333.1).bind fun y385 =>
            some (y385.1, (M_Gates.mk y385.2.1.rows y385.2.1.known), y385.2.2, y374.2))
          else
            (some (y299.1, (M_Gates.mk y345.2.rows y345.2.known), y333.2, y374.2))).bind fun y371 =>
        (grd (decide (x_table0.length < 16777216))).bind fun _ =>
        some (y371.2.2.2, (M_Gates.mk y371.2.1.rows y371.2.1.known), y371.2.2.1, (mput x_table0 y100 y371.1))))
    else
      (some (b61.2, (M_Gates.mk x_gates0.rows x_gates0.known), x_rows0, x_table0))).bind fun y59 =>
  (m_law_take x_script0 y59.1 (4 : Int)).bind fun y407 =>
  if (decide (y407.1 = (3 : Int))) = true then
    ((m_law_take x_script0 y407.2 (3 : Int)).bind fun y419 =>
    (grd (decide (y59.2.2.2.length < 16777216))).bind fun _ =>
    (grd (DOk.ok x_order0)).bind fun _ =>
    (grd (DOk.ok ([] : (List (Int × Str))))).bind fun _ =>
    if (!decide (x_order0 = ([] : (List (Int × Str))))) = true then
      ((m_law_take x_script0 y419.2 (x_order0.length : Int)).bind fun y439 =>
      (atI x_order0 y439.1).bind fun y448 =>
      (grd (decide ((mput y59.2.2.2 ((900 : Int) - y419.1) (1 : Int)).length < 16777216))).bind fun _ =>
      some (y439.2, (M_Gates.mk y59.2.1.rows y59.2.1.known), y59.2.2.1, (mput (mput y59.2.2.2 ((900 : Int) - y419.1) (1 : Int)) y448.1 (0 : Int))))
    else
      (some (y419.2, (M_Gates.mk y59.2.1.rows y59.2.1.known), y59.2.2.1, (mput y59.2.2.2 ((900 : Int) - y419.1) (1 : Int)))))
  else
    (some (y407.2, (M_Gates.mk y59.2.1.rows y59.2.1.known), y59.2.2.1, y59.2.2.2))

def m_law_reached_l1 : List Int → (List Bool) → Option (List Bool)
  | [], st1 => some st1
  | x57 :: t, st1 =>
    (ixN st1.length (x57 / (2 : Int))).bind fun j61 =>
    m_law_reached_l1 t (st1.set j61 true)
def m_law_reached_l2 (x_rows0 : (List (List Key))) : List Int → (List Bool) → Option (List Bool)
  | [], st2 => some st2
  | x93 :: t, st2 =>
    ((atI st2 x93).bind fun y97 =>
      if y97 = true then ((atI x_rows0 x93).bind fun y103 =>
      (kStr y103 (0 : Int)).bind fun y110 =>
      some (decide (y110 = ("both" : Str)))) else (some false)).bind fun b95 =>
    if b95 = true then
      ((atI x_rows0 x93).bind fun y115 =>
      (kInt y115 (1 : Int)).bind fun y122 =>
      (ixN st2.length (y122 / (2 : Int))).bind fun j124 =>
      (atI x_rows0 x93).bind fun y128 =>
      (kInt y128 (2 : Int)).bind fun y135 =>
      (ixN (st2.set j124 true).length (y135 / (2 : Int))).bind fun j137 =>
      m_law_reached_l2 x_rows0 t ((st2.set j124 true).set j137 true))
    else
      (m_law_reached_l2 x_rows0 t st2)
def m_law_reached (x_rows0 : (List (List Key))) (x_edges0 : (List Int)) : Option (List Int) :=
  (grd (decide (x_rows0.length < 16777216))).bind fun _ =>
  (m_law_reached_l1 x_edges0 (x_rows0.map fun x7 => false)).bind fun st1 =>
  (grd (rng2Ok ((x_rows0.length : Int) - (1 : Int)) (0 : Int))).bind fun _ =>
  (m_law_reached_l2 x_rows0 (pyRangeC ((x_rows0.length : Int) - (1 : Int)) (-1) (((x_rows0.length : Int) - (1 : Int)) - (0 : Int)).toNat) st1).bind fun st2 =>
  (grd (rng2Ok (1 : Int) (x_rows0.length : Int))).bind fun _ =>
  (grd (decide ((pyRange (1 : Int) ((x_rows0.length : Int) - (1 : Int)).toNat).length < 16777216))).bind fun _ =>
  (lcO (fun x146 => (atI st2 x146).bind fun y165 =>
        if y165 = true then (some (some x146)) else some none) (pyRange (1 : Int) ((x_rows0.length : Int) - (1 : Int)).toNat)).bind fun y172 =>
  some y172

def m_law_misfit_l2 (x_rows0 : (List (List Key))) (x54 : (Int × Str)) (st1 : ((List Int) × (List Int))) : List Int → Unit → Option (Flw Unit (Option Int))
  | [], st2 => some (.done st2)
  | x115 :: t, st2 =>
    ((atI x_rows0 x115).bind fun y121 =>
      (kStr y121 (0 : Int)).bind fun y128 =>
      if (decide (y128 = ("letter" : Str))) = true then ((atI x_rows0 x115).bind fun y131 =>
      (kInt y131 (1 : Int)).bind fun y138 =>
      some (!decide (y138 ∈ st1.2))) else (some false)).bind fun b119 =>
    if b119 = true then
      (some (.ret (some x54.1)))
    else
      (m_law_misfit_l2 x_rows0 x54 st1 t ())
def m_law_misfit_l1 (x_rows0 : (List (List Key))) (x_side0 : Str) (x_table0 : (List (Int × Int))) : List (Int × Str) → ((List Int) × (List Int)) → Option (Flw ((List Int) × (List Int)) (Option Int))
  | [], st1 => some (.done st1)
  | x54 :: t, st1 =>
    if (!decide (x54.2 = x_side0)) = true then
      ((grd (decide (st1.2.length < 16777216))).bind fun _ =>
      m_law_misfit_l1 x_rows0 x_side0 x_table0 t (st1.1, (st1.2 ++ [x54.1])))
    else
      ((grd (decide (st1.1.length < 16777216))).bind fun _ =>
      if (!(mget x_table0 x54.1).isSome) = true then
        (some (.ret (some x54.1)))
      else
        ((mget x_table0 x54.1).bind fun y80 =>
        (m_law_reached x_rows0 ([y80] : (List Int))).bind fun y89 =>
        (m_law_misfit_l2 x_rows0 x54 st1 y89 ()).bind fun y77 =>
        match y77 with
        | .ret r => some (.ret r)
        | .done st2 =>
        m_law_misfit_l1 x_rows0 x_side0 x_table0 t ((st1.1 ++ [x54.1]), st1.2)))
def m_law_misfit_l3 (st1 : ((List Int) × (List Int))) : List Int → Unit → Option (Flw Unit (Option Int))
  | [], st3 => some (.done st3)
  | x199 :: t, st3 =>
    if (!decide (x199 ∈ st1.1)) = true then
      (some (.ret (some x199)))
    else
      (m_law_misfit_l3 st1 t ())
def m_law_misfit (x_rows0 : (List (List Key))) (x_order0 : (List (Int × Str))) (x_side0 : Str) (x_table0 : (List (Int × Int))) : Option (Option Int) :=
  (m_law_misfit_l1 x_rows0 x_side0 x_table0 x_order0 (([] : (List Int)), ([] : (List Int)))).bind fun y15 =>
  match y15 with
  | .ret r => some r
  | .done st1 =>
  (grd (decide ((x_table0.map fun (q : Int × Int) => q.1).length < 16777216))).bind fun _ =>
  (m_law_misfit_l3 st1 (sortI ((x_table0.map fun (q : Int × Int) => q.1).map fun x154 => x154)) ()).bind fun y145 =>
  match y145 with
  | .ret r => some r
  | .done st3 =>
  some none

def m_Gates_gate_rows (x_self0 : M_Gates) (x_edges0 : (List Int)) : Option (List Int) :=
  (m_Gates_cone x_self0 x_edges0).bind fun y1 =>
  (grd (decide (y1.length < 16777216))).bind fun _ =>
  (lcO (fun x15 => (atI x_self0.rows x15).bind fun y34 =>
        (kStr y34 (0 : Int)).bind fun y41 =>
        if (decide (y41 = ("both" : Str))) = true then (some (some x15)) else some none) y1).bind fun y45 =>
  some y45

def m_Plan_edges (x_self0 : M_Plan) : Option (List Int) :=
  (grd (decide ((x_self0.table.map fun (q : Int × Int) => q.1).length < 16777216))).bind fun _ =>
  (lcO (fun x7 => (mget x_self0.table x7).bind fun y26 =>
        some (some y26)) (x_self0.table.map fun (q : Int × Int) => q.1)).bind fun y32 =>
  some y32

def m_Plan_gate_count (x_self0 : M_Plan) : Option Int :=
  (m_Plan_edges (M_Plan.mk x_self0.side (M_Gates.mk x_self0.gates.rows x_self0.gates.known) x_self0.table)).bind fun y1 =>
  (m_Gates_gate_rows (M_Gates.mk x_self0.gates.rows x_self0.gates.known) y1).bind fun y11 =>
  some (y11.length : Int)

def m_Gates_worths_l1 (x_self0 : M_Gates) (x_choices0 : (List (Int × Bool))) : List Int → (List (Int × Bool)) → Option (List (Int × Bool))
  | [], st1 => some st1
  | x58 :: t, st1 =>
    (atI x_self0.rows x58).bind fun y64 =>
    (kStr y64 (0 : Int)).bind fun y71 =>
    if (decide (y71 = ("letter" : Str))) = true then
      ((kInt y64 (1 : Int)).bind fun y74 =>
      (mget x_choices0 y74).bind fun y76 =>
      (grd (decide (st1.length < 16777216))).bind fun _ =>
      m_Gates_worths_l1 x_self0 x_choices0 t (mput st1 x58 y76))
    else
      ((kInt y64 (1 : Int)).bind fun y86 =>
      (mget st1 (y86 / (2 : Int))).bind fun y88 =>
      (kInt y64 (1 : Int)).bind fun y93 =>
      (kInt y64 (2 : Int)).bind fun y97 =>
      (mget st1 (y97 / (2 : Int))).bind fun y99 =>
      (kInt y64 (2 : Int)).bind fun y104 =>
      (grd (decide (st1.length < 16777216))).bind fun _ =>
      m_Gates_worths_l1 x_self0 x_choices0 t (mput st1 x58 ((!decide (y88 = (decide ((Builtin.bitAnd y93 (1 : Int)) = (1 : Int))))) && (!decide (y99 = (decide ((Builtin.bitAnd y104 (1 : Int)) = (1 : Int))))))))
def m_Gates_worths (x_self0 : M_Gates) (x_edges0 : (List Int)) (x_choices0 : (List (Int × Bool))) : Option (List Bool) :=
  (m_Gates_cone x_self0 x_edges0).bind fun y14 =>
  (m_Gates_worths_l1 x_self0 x_choices0 y14 ([(0, false)] : (List (Int × Bool)))).bind fun st1 =>
  (grd (decide (x_edges0.length < 16777216))).bind fun _ =>
  (lcO (fun x114 => (mget st1 (x114 / (2 : Int))).bind fun y133 =>
        some (some (!decide (y133 = (decide ((Builtin.bitAnd x114 (1 : Int)) = (1 : Int))))))) x_edges0).bind fun y139 =>
  some y139

def m_Plan_answers (x_self0 : M_Plan) (x_given0 : (List (Int × Bool))) : Option (List (Int × Bool)) :=
  (m_Plan_edges (M_Plan.mk x_self0.side (M_Gates.mk x_self0.gates.rows x_self0.gates.known) x_self0.table)).bind fun y3 =>
  (m_Gates_worths (M_Gates.mk x_self0.gates.rows x_self0.gates.known) y3 x_given0).bind fun y13 =>
  (grd (decide (x_self0.table.length = y13.length))).bind fun _ =>
  (grd (decide ((((x_self0.table.map fun (q : Int × Int) => q.1)).zip y13).length < 16777216))).bind fun _ =>
  (dcO (fun x33 => some (some (x33.1, x33.2))) ([] : (List (Int × Bool))) (((x_self0.table.map fun (q : Int × Int) => q.1)).zip y13)).bind fun y62 =>
  some y62

def m_law_value (x_truths0 : (List Bool)) (x_edge0 : Int) : Option Bool :=
  (atI x_truths0 (x_edge0 / (2 : Int))).bind fun y1 =>
  some (!decide (y1 = (decide ((x_edge0 % (2 : Int)) = (1 : Int)))))

def m_law_truths_l1 (x_rows0 : (List (List Key))) (x_choices0 : (List (Int × Bool))) : List Int → (List Bool) → Option (List Bool)
  | [], st1 => some st1
  | x39 :: t, st1 =>
    (atI x_rows0 x39).bind fun y43 =>
    (kStr y43 (0 : Int)).bind fun y50 =>
    if (decide (y50 = ("letter" : Str))) = true then
      ((kInt y43 (1 : Int)).bind fun y53 =>
      (grd (decide (st1.length < 16777216))).bind fun _ =>
      m_law_truths_l1 x_rows0 x_choices0 t (st1 ++ [((mget x_choices0 y53).getD false)]))
    else
      (((kInt y43 (1 : Int)).bind fun y60 =>
        (m_law_value st1 y60).bind fun y62 =>
        if y62 = true then ((kInt y43 (2 : Int)).bind fun y65 =>
        (m_law_value st1 y65).bind fun y67 =>
        some y67) else (some false)).bind fun b58 =>
      (grd (decide (st1.length < 16777216))).bind fun _ =>
      m_law_truths_l1 x_rows0 x_choices0 t (st1 ++ [b58]))
def m_law_truths (x_rows0 : (List (List Key))) (x_choices0 : (List (Int × Bool))) : Option (List Bool) :=
  (grd (rng2Ok (1 : Int) (x_rows0.length : Int))).bind fun _ =>
  (m_law_truths_l1 x_rows0 x_choices0 (pyRange (1 : Int) ((x_rows0.length : Int) - (1 : Int)).toNat) ([false] : (List Bool))).bind fun st1 =>
  some st1

def m_law_answers_l1 (x_table0 : (List (Int × Int))) (y8 : (List (Int × Bool))) (y24 : (List Bool)) : List Int → Unit → Option (Flw Unit Bool)
  | [], st1 => some (.done st1)
  | x57 :: t, st1 =>
    (if (!(mget y8 x57).isSome) = true then (some true) else ((mget y8 x57).bind fun y66 =>
      some false)).bind fun b63 =>
    if b63 = true then
      (some (.ret false))
    else
      ((mget y8 x57).bind fun y74 =>
      (mget x_table0 x57).bind fun y79 =>
      (m_law_value y24 y79).bind fun y84 =>
      if (!decide (y74 = y84)) = true then
        (some (.ret false))
      else
        (m_law_answers_l1 x_table0 y8 y24 t ()))
def m_law_answers (x_plan0 : M_Plan) (x_rows0 : (List (List Key))) (x_table0 : (List (Int × Int))) (x_given0 : (List (Int × Bool))) : Option Bool :=
  (m_Plan_answers (M_Plan.mk x_plan0.side (M_Gates.mk x_plan0.gates.rows x_plan0.gates.known) x_plan0.table) x_given0).bind fun y8 =>
  if (!decide ((y8.length : Int) = (x_table0.length : Int))) = true then
    (some false)
  else
    ((m_law_truths x_rows0 x_given0).bind fun y24 =>
    (m_law_answers_l1 x_table0 y8 y24 (x_table0.map fun (q : Int × Int) => q.1) ()).bind fun y36 =>
    match y36 with
    | .ret r => some r
    | .done st1 =>
    some true)

def m_law_l1 (x_script0 : (List Int)) (y39 : Str) : List (Int × Str) → ((List Int) × (List (Int × Int)) × (List (List Key)) × M_Gates × (List Int)) → Option ((List Int) × (List (Int × Int)) × (List (List Key)) × M_Gates × (List Int))
  | [], st1 => some st1
  | x156 :: t, st1 =>
    if (decide (x156.2 = y39)) = true then
      ((m_law_edge x_script0 st1.2.2.2.2 (M_Gates.mk st1.2.2.2.1.rows st1.2.2.2.1.known) st1.2.2.1 st1.1).bind fun y168 =>
      (grd (decide (st1.2.1.length < 16777216))).bind fun _ =>
      m_law_l1 x_script0 y39 t (st1.1, (mput st1.2.1 x156.1 y168.1), y168.2.2.2, (M_Gates.mk y168.2.2.1.rows y168.2.2.1.known), y168.2.1))
    else
      ((grd (decide (st1.1.length < 16777216))).bind fun _ =>
      m_law_l1 x_script0 y39 t ((st1.1 ++ [x156.1]), st1.2.1, st1.2.2.1, (M_Gates.mk st1.2.2.2.1.rows st1.2.2.2.1.known), st1.2.2.2.2))
def m_law_l2 (x_script0 : (List Int)) (y39 : Str) : List (Int × Str) → ((List (Int × Bool)) × (List Int)) → Option ((List (Int × Bool)) × (List Int))
  | [], st2 => some st2
  | x483 :: t, st2 =>
    if (!decide (x483.2 = y39)) = true then
      ((m_law_take x_script0 st2.2 (2 : Int)).bind fun y495 =>
      (grd (decide (st2.1.length < 16777216))).bind fun _ =>
      m_law_l2 x_script0 y39 t ((mput st2.1 x483.1 (decide (y495.1 = (1 : Int)))), y495.2))
    else
      (m_law_l2 x_script0 y39 t (st2.1, st2.2))
def m_law_l3 : List Int → (List (Int × Bool)) → Option (List (Int × Bool))
  | [], st3 => some st3
  | x550 :: t, st3 =>
    (mget st3 x550).bind fun y554 =>
    (grd (decide (st3.length < 16777216))).bind fun _ =>
    m_law_l3 t (mput st3 x550 (!y554))
def m_law (x_script0 : (List Int)) : Option Bool :=
  (m_law_seed x_script0).bind fun y3 =>
  (m_law_order x_script0 ([(0 : Int), (0 : Int), y3] : (List Int))).bind fun y11 =>
  (m_law_take x_script0 y11.2 (2 : Int)).bind fun y30 =>
  (atI ([("some" : Str), ("all" : Str)] : (List Str)) y30.1).bind fun y39 =>
  (m_law_l1 x_script0 y39 y11.1 (([] : (List Int)), ([] : (List (Int × Int))), ([([Sum.inr ("no" : Str)] : List Key)] : (List (List Key))), (M_Gates.mk ((m_Gates_init).rows) ((m_Gates_init).known)), y30.2)).bind fun st1 =>
  (m_Plan_init y39 (M_Gates.mk st1.2.2.2.1.rows st1.2.2.2.1.known) st1.2.1).bind fun y203 =>
  (m_Plan_misfit (M_Plan.mk y203.side (M_Gates.mk st1.2.2.2.1.rows st1.2.2.2.1.known) y203.table) y11.1).bind fun y218 =>
  if (!(y218).isNone) = true then
    (none)
  else
    ((m_law_fault x_script0 st1.2.2.2.2 (M_Gates.mk st1.2.2.2.1.rows st1.2.2.2.1.known) st1.2.2.1 y11.1 y39 st1.2.1).bind fun y231 =>
    (m_Plan_init y39 (M_Gates.mk y231.2.1.rows y231.2.1.known) y231.2.2.2).bind fun y267 =>
    (grd (decide (y231.2.2.2.length < 16777216))).bind fun _ =>
    (if (!decide (y267.side = y39)) = true then (some true) else ((grd (dictEq y267.table y231.2.2.2)).bind fun _ =>
      (grd (DOk.ok y231.2.1.rows)).bind fun _ =>
      (grd (DOk.ok y231.2.2.1)).bind fun _ =>
      if (!decide (y231.2.1.rows = y231.2.2.1)) = true then (some true) else ((grd (DOk.ok y231.2.1.rows)).bind fun _ =>
      (grd (DOk.ok y231.2.2.1)).bind fun _ =>
      some (!decide (y231.2.1.rows = y231.2.2.1))))).bind fun b284 =>
    if b284 = true then
      (none)
    else
      ((m_law_misfit y231.2.2.1 y11.1 y39 y231.2.2.2).bind fun y297 =>
      (m_Plan_misfit (M_Plan.mk y267.side (M_Gates.mk y231.2.1.rows y231.2.1.known) y267.table) y11.1).bind fun y313 =>
      if (((y297).isNone) && (!(y313).isNone)) = true then
        (none)
      else
        ((if (!(y297).isNone) = true then ((if (!(y313).isSome) = true then (some true) else ((y313).bind fun z334 =>
            (y297).bind fun z337 =>
            some (!decide (z334 = z337)))).bind fun b331 =>
          some b331) else (some false)).bind fun b328 =>
        if b328 = true then
          (none)
        else
          ((m_Plan_gate_count (M_Plan.mk y267.side (M_Gates.mk y231.2.1.rows y231.2.1.known) y267.table)).bind fun y343 =>
          (grd (decide ((y231.2.2.2.map fun (q : Int × Int) => q.1).length < 16777216))).bind fun _ =>
          (lcO (fun x358 => (mget y231.2.2.2 x358).bind fun y377 =>
                some (some y377)) (y231.2.2.2.map fun (q : Int × Int) => q.1)).bind fun y383 =>
          (m_law_reached y231.2.2.1 y383).bind fun y386 =>
          (grd (decide (y386.length < 16777216))).bind fun _ =>
          (lcO (fun x400 => (atI y231.2.2.1 x400).bind fun y419 =>
                (kStr y419 (0 : Int)).bind fun y426 =>
                if (decide (y426 = ("both" : Str))) = true then (some (some x400)) else some none) y386).bind fun y430 =>
          if (!decide (y343 = (y430.length : Int))) = true then
            (none)
          else
            (optE (y297) ((m_law_l2 x_script0 y39 y11.1 (([] : (List (Int × Bool))), y231.1)).bind fun st2 =>
              (m_law_answers (M_Plan.mk y267.side (M_Gates.mk y231.2.1.rows y231.2.1.known) y267.table) y231.2.2.1 y231.2.2.2 st2.1).bind fun y511 =>
              if (!y511) = true then
                (none)
              else
                ((m_law_l3 (st2.1.map fun (q : Int × Bool) => q.1) st2.1).bind fun st3 =>
                (m_law_answers (M_Plan.mk y267.side (M_Gates.mk y231.2.1.rows y231.2.1.known) y267.table) y231.2.2.1 y231.2.2.2 st3).bind fun y563 =>
                some y563)) (fun z439 =>
              some true))))))
end G

namespace G
open PySem PySem.Spec PyProof.Rows L2

theorem atI_lt {α : Type} {xs : List α} {i : Int} (h0 : 0 ≤ i) (h1 : i < xs.length) : ∃ x, atI xs i = some x ∧ x ∈ xs ∧ xs[i.toNat]? = some x := by
  have hl : i.toNat < xs.length := by omega
  refine ⟨xs[i.toNat], ?_, List.getElem_mem hl, by simp [hl]⟩
  have e := atI_nat (xs := xs) (j := i.toNat) (v := xs[i.toNat]) (by simp [hl])
  have e2 : ((i.toNat : Nat) : Int) = i := by omega
  rw [e2] at e
  exact e

theorem grd_t {b : Bool} {β : Type} {f : Unit → Option β} (h : b = true) : (grd b).bind f = f () := by subst h; rfl

theorem bs {α β : Type} {m : Option α} {x : α} {f : α → Option β} (h : m = some x) : m.bind f = f x := by rw [h, Option.bind_some]

theorem divOk_t {j : Int} (h : 0 < j) (h2 : j < 1073741824) : divOk j = true := decide_eq_true ⟨h, h2⟩

theorem rngOk_t {j : Int} (h0 : 0 ≤ j) (h1 : j < 16777216) : rngOk j = true := decide_eq_true ⟨by omega, by omega⟩

theorem rngOk_len {n : Nat} (h : n < 16777216) : rngOk (n : Int) = true := decide_eq_true ⟨by omega, by omega⟩

theorem mget_put_new {κ α : Type} [DecidableEq κ] {xs : List (κ × α)} {k : κ} {x : α} (h : mget xs k = none) : mput xs k x = xs ++ [(k, x)] := by
  unfold mput
  rw [if_neg]
  intro c
  obtain ⟨p, hp, e⟩ := List.any_eq_true.mp c
  unfold mget at h
  rw [Option.map_eq_none_iff, List.find?_eq_none] at h
  exact h p hp e

theorem mget_snoc {κ α : Type} [DecidableEq κ] {xs : List (κ × α)} {k j : κ} {x : α} : mget (xs ++ [(k, x)]) j = match mget xs j with
    | some y => some y
    | none => if k = j then some x else none := by
  unfold mget
  rw [List.find?_append]
  cases xs.find? fun p => decide (p.1 = j) with
  | some p => simp
  | none =>
    by_cases c : k = j
    · simp [List.find?_cons, c]
    · simp [List.find?_cons, c]

/-! ## lists, dicts: plain facts -/
theorem nodup_sub : ∀ {l r : List Int}, l.Nodup → (∀ x ∈ l, x ∈ r) → l.length ≤ r.length
  | [], r, _, _ => Nat.zero_le _
  | x :: l, r, h, s => by
    have hx := s x (.head _)
    have h2 := nodup_sub (l := l) (r := r.erase x) (List.nodup_cons.mp h).2 fun y hy =>
      (List.mem_erase_of_ne (by rintro rfl; exact (List.nodup_cons.mp h).1 hy)).mpr (s y (.tail _ hy))
    rw [List.length_erase_of_mem hx] at h2
    have := List.length_pos_of_mem hx
    simp; omega
theorem strict_nodup {xs : List Int} (h : xs.Pairwise (· < ·)) : xs.Nodup := h.imp fun {a b} h => by omega
theorem strict_uniq {xs ys : List Int} (h1 : xs.Pairwise (· < ·)) (h2 : ys.Pairwise (· < ·)) (h : ∀ x, x ∈ xs ↔ x ∈ ys) : xs = ys :=
  sorted_uniq ((List.perm_ext_iff_of_nodup (strict_nodup h1) (strict_nodup h2)).mpr h) (h1.imp fun {a b} h => by omega) (h2.imp fun {a b} h => by omega)
theorem sortI_strict {xs : List Int} (h : xs.Nodup) : (sortI xs).Pairwise (· < ·) := by
  have h1 := sortI_sorted xs
  have h2 : (sortI xs).Nodup := (sortI_perm xs).nodup_iff.mpr h
  exact (List.Pairwise.and h1 h2).imp fun {a b} h => by have := h.1; have := h.2; omega
theorem mem_sortI {xs : List Int} {x : Int} : x ∈ sortI xs ↔ x ∈ xs := (sortI_perm xs).mem_iff
theorem atI_mem {α : Type} {xs : List α} {i : Int} {x : α} (h : atI xs i = some x) : x ∈ xs := by
  unfold atI at h
  cases e : ixN xs.length i with
  | none => rw [e] at h; cases h
  | some j =>
    rw [e] at h
    exact List.mem_of_getElem? h
theorem atI_of {α : Type} {xs : List α} {i : Int} (h0 : 0 ≤ i) : atI xs i = xs[i.toNat]? := by
  unfold atI ixN
  rw [if_pos h0]
  by_cases c : i < xs.length
  · rw [if_pos c]; rfl
  · rw [if_neg c, List.getElem?_eq_none (by omega)]; rfl
theorem atI_app {α : Type} {xs ys : List α} {i : Int} (h0 : 0 ≤ i) (h1 : i < xs.length) : atI (xs ++ ys) i = atI xs i := by
  rw [atI_of h0, atI_of h0, List.getElem?_append_left (by omega)]
theorem atI_last {α : Type} {xs : List α} {x : α} : atI (xs ++ [x]) (xs.length : Int) = some x := by
  rw [atI_of (by omega)]
  simp
theorem atI_bound {α : Type} {xs : List α} {i : Int} {x : α} (h0 : 0 ≤ i) (h : atI xs i = some x) : i < xs.length := by
  rw [atI_of h0] at h
  have := (List.getElem?_eq_some_iff.mp h).1
  omega
theorem ixN_of {n : Nat} {i : Int} (h0 : 0 ≤ i) (h1 : i < n) : ixN n i = some i.toNat := by unfold ixN; rw [if_pos h0, if_pos h1]
theorem atI_set {α : Type} {xs : List α} {i j : Int} {x : α} (h0 : 0 ≤ i) (h1 : i < xs.length) (hj : 0 ≤ j) : atI (xs.set i.toNat x) j = if i = j then some x else atI xs j := by
  rw [atI_of hj, atI_of hj, List.getElem?_set]
  by_cases c : i = j
  · subst c; rw [if_pos rfl, if_pos rfl, if_pos (by omega)]
  · rw [if_neg (by omega), if_neg c]
theorem mem_pyRange {lo : Int} {n : Nat} {x : Int} : x ∈ pyRange lo n ↔ lo ≤ x ∧ x < lo + n := by
  unfold pyRange
  rw [List.mem_map]
  constructor
  · rintro ⟨i, hi, rfl⟩
    have := List.mem_range.mp hi
    omega
  · rintro ⟨h1, h2⟩
    exact ⟨(x - lo).toNat, List.mem_range.mpr (by omega), by omega⟩
theorem pyRange_strict {lo : Int} {n : Nat} : (pyRange lo n).Pairwise (· < ·) := by
  unfold pyRange
  rw [List.pairwise_map]
  exact List.pairwise_lt_range.imp fun {a b} h => by omega
/-! dicts -/
section
variable {κ α : Type} [DecidableEq κ]
theorem mget_cons (p : κ × α) (xs : List (κ × α)) (k : κ) : mget (p :: xs) k = if p.1 = k then some p.2 else mget xs k := by
  unfold mget
  by_cases c : p.1 = k
  · rw [List.find?_cons_of_pos (by simpa using c), if_pos c]; rfl
  · rw [List.find?_cons_of_neg (by simpa using c), if_neg c]
theorem mget_map {xs : List (κ × α)} {k j : κ} {x : α} : mget (xs.map fun p => if p.1 = k then (p.1, x) else p) j = if k = j then (mget xs j).map (fun _ => x) else mget xs j := by
  induction xs with
  | nil => by_cases c : k = j <;> simp [c, mget]
  | cons p xs ih =>
    rw [List.map_cons, mget_cons, mget_cons, ih]
    by_cases c1 : p.1 = k
    · by_cases c : k = j
      · subst c; simp [c1]
      · have : ¬ p.1 = j := fun h => c (c1.symm.trans h)
        simp [c1, c]
    · by_cases c : k = j
      · subst c; simp [c1]
      · simp [c1, c]
theorem mget_none {xs : List (κ × α)} {k : κ} : mget xs k = none ↔ k ∉ xs.map (·.1) := by
  induction xs with
  | nil => simp [mget]
  | cons p xs ih =>
    rw [mget_cons]
    by_cases c : p.1 = k
    · simp [c]
    · rw [if_neg c, ih]
      simp only [List.map_cons, List.mem_cons, not_or]
      exact ⟨fun h => ⟨fun e => c e.symm, h⟩, fun h => h.2⟩
theorem mget_put {xs : List (κ × α)} {k j : κ} {x : α} : mget (mput xs k x) j = if k = j then some x else mget xs j := by
  cases e : mget xs k with
  | none =>
    rw [mget_put_new e, mget_snoc]
    by_cases c : k = j
    · subst c; simp [e]
    · rw [if_neg c, if_neg c]
      cases mget xs j <;> rfl
  | some y =>
    have hm : k ∈ xs.map (·.1) := Classical.byContradiction fun h => by rw [mget_none.mpr h] at e; cases e
    obtain ⟨p, hp, e2⟩ := List.mem_map.mp hm
    unfold mput
    rw [if_pos (List.any_eq_true.mpr ⟨p, hp, decide_eq_true e2⟩), mget_map]
    by_cases c : k = j
    · subst c; rw [if_pos rfl, if_pos rfl, e]; rfl
    · rw [if_neg c, if_neg c]
theorem mput_len {xs : List (κ × α)} {k : κ} {x : α} : (mput xs k x).length ≤ xs.length + 1 := by
  unfold mput
  split <;> simp
theorem mput_len_ge {xs : List (κ × α)} {k : κ} {x : α} : xs.length ≤ (mput xs k x).length := by
  unfold mput
  split <;> simp
end
theorem lcO_congr {α β : Type} {f g : α → Option (Option β)} : ∀ {xs : List α}, (∀ x ∈ xs, f x = g x) → lcO f xs = lcO g xs
  | [], _ => rfl
  | x :: t, h => by
    show ((f x).bind fun y => (lcO f t).bind fun r => some (match y with | none => r | some b => b :: r)) = _
    rw [h x (.head _), lcO_congr fun y hy => h y (.tail _ hy)]
    rfl

theorem rng2Ok_t {i j : Int} (h1 : -16777216 < i) (h2 : i < 16777216) (h3 : -16777216 < j) (h4 : j < 16777216) : rng2Ok i j = true := by
  unfold rng2Ok
  simp
  omega

theorem pyRangeC_succ (lo c : Int) (n : Nat) : pyRangeC lo c (n + 1) = lo :: pyRangeC (lo + c) c n := by
  unfold pyRangeC
  rw [List.range_succ_eq_map, List.map_cons, List.map_map]
  congr 1
  · simp
  · apply List.map_congr_left
    intro i _
    simp only [Function.comp]
    rw [Nat.succ_eq_add_one, Int.natCast_add, Int.add_mul, Int.add_assoc, Int.add_comm ((i : Int) * c)]
    simp

theorem lcO_some {α β : Type} {f : α → Option (Option β)} : ∀ {xs : List α}, (∀ x ∈ xs, ∃ y, f x = some y) → ∃ r, lcO f xs = some r ∧ r.length ≤ xs.length
  | [], _ => ⟨[], rfl, Nat.le_refl _⟩
  | x :: t, h => by
    obtain ⟨y, hy⟩ := h x (.head _)
    obtain ⟨r, e, hl⟩ := lcO_some (f := f) fun z hz => h z (.tail _ hz)
    have e2 : lcO f (x :: t) = ((f x).bind fun y => (lcO f t).bind fun r => some (match y with | none => r | some b => b :: r)) := rfl
    rw [e2, bs hy, bs e]
    refine ⟨_, rfl, ?_⟩
    cases y with
    | none => simp; omega
    | some b => simp; exact hl

theorem sortI_len (xs : List Int) : (sortI xs).length = xs.length := (sortI_perm xs).length_eq
end G

namespace G
open PySem PySem.Spec PyProof.Rows L2

/-! ## the draws -/
theorem seed_l1 : ∀ (ns : List Int) (s : Int), 0 ≤ s → ∃ y, m_law_seed_l1 ns s = some y ∧ 0 ≤ y
  | [], s, h => ⟨s, rfl, h⟩
  | n :: ns, s, h => by
    rw [m_law_seed_l1]
    exact seed_l1 ns _ (by omega)
theorem seed_ok (ns : List Int) : ∃ y, m_law_seed ns = some y ∧ 0 ≤ y := by
  obtain ⟨y, h1, h2⟩ := seed_l1 ns 1 (by decide)
  exact ⟨y, by simp [m_law_seed, h1], h2⟩
/-- the drawing state -/
def Src (l : List Int) : Prop := ∃ p q s : Int, l = [p, q, s] ∧ 0 ≤ p ∧ 0 ≤ q ∧ 0 ≤ s
theorem at0 (p q s : Int) : atI [p, q, s] 0 = some p := rfl
theorem at1 (p q s : Int) : atI [p, q, s] 1 = some q := rfl
theorem at2 (p q s : Int) : atI [p, q, s] 2 = some s := rfl
theorem ix0 (p q s : Int) : ixN [p, q, s].length 0 = some 0 := rfl
theorem ix1 (p q s : Int) : ixN [p, q, s].length 1 = some 1 := rfl
theorem ix2 (p q s : Int) : ixN [p, q, s].length 2 = some 2 := rfl
theorem take_ok (ns src : List Int) (size : Int) (h : Src src) (h0 : 0 < size) (h1 : size < 1073741824) :
    ∃ d src', m_law_take ns src size = some (d, src') ∧ 0 ≤ d ∧ d < size ∧ Src src' := by
  obtain ⟨p, q, s, rfl, hp, hq, hs⟩ := h
  have last : ∀ p q s : Int, 0 ≤ p → 0 ≤ q → 0 ≤ s → ∃ d src', ((atI [p, q, s] (0 : Int)).bind fun y45 =>
      if (decide (y45 > (0 : Int))) = true then
        ((atI [p, q, s] (0 : Int)).bind fun y51 => (grd (divOk size)).bind fun _ => (atI [p, q, s] (0 : Int)).bind fun y57 =>
        (grd (divOk size)).bind fun _ => (ixN [p, q, s].length (0 : Int)).bind fun j63 => some ((y51 % size), ([p, q, s].set j63 (y57 / size))))
      else
        ((atI [p, q, s] (2 : Int)).bind fun y67 => (ixN [p, q, s].length (2 : Int)).bind fun j72 =>
        (atI ([p, q, s].set j72 (((y67 * (48271 : Int)) + (12345 : Int)) % (2147483647 : Int))) (2 : Int)).bind fun y76 =>
        (grd (divOk size)).bind fun _ => some (((y76 / (1009 : Int)) % size), ([p, q, s].set j72 (((y67 * (48271 : Int)) + (12345 : Int)) % (2147483647 : Int)))))) = some (d, src') ∧ 0 ≤ d ∧ d < size ∧ Src src' := by
    intro p q s hp hq hs
    rw [at0]
    simp only [Option.bind_some]
    by_cases c : p > 0
    · rw [if_pos (decide_eq_true c)]
      simp only [at0, ix0, Option.bind_some, grd_t (divOk_t h0 h1)]
      exact ⟨_, _, rfl, Int.emod_nonneg _ (by omega), Int.emod_lt_of_pos _ h0, p / size, q, s, rfl, Int.ediv_nonneg hp (by omega), hq, hs⟩
    · rw [if_neg (by simpa using c), at2, ix2]
      simp only [Option.bind_some]
      show ∃ d src', ((atI [p, q, (s * 48271 + 12345) % 2147483647] (2 : Int)).bind fun y76 => _) = _ ∧ _
      rw [at2]
      simp only [Option.bind_some, grd_t (divOk_t h0 h1)]
      exact ⟨_, _, rfl, Int.emod_nonneg _ (by omega), Int.emod_lt_of_pos _ h0, p, q, (s * 48271 + 12345) % 2147483647, rfl, hp, hq, by omega⟩
  unfold m_law_take
  rw [at0, at1]
  simp only [Option.bind_some]
  by_cases c : p = 0 ∧ q < ns.length
  · obtain ⟨c1, c2⟩ := c
    rw [if_pos (decide_eq_true c1)]
    simp only [Option.bind_some]
    rw [if_pos (decide_eq_true c2)]
    obtain ⟨x, hx, _⟩ := atI_lt hq c2
    rw [hx, ix0]
    simp only [Option.bind_some]
    show ∃ d src', ((((atI [if x < 0 then -x else x, q, s] (1 : Int)).bind fun y36 => (ixN [if x < 0 then -x else x, q, s].length (1 : Int)).bind fun j41 => some ([if x < 0 then -x else x, q, s].set j41 (y36 + (1 : Int)))).bind _)) = _ ∧ _
    rw [at1, ix1]
    simp only [Option.bind_some]
    exact last (if x < 0 then -x else x) (q + 1) s (by split <;> omega) (by omega) hs
  · by_cases c1 : p = 0
    · rw [if_pos (decide_eq_true c1)]
      simp only [Option.bind_some]
      rw [if_neg (by simp; omega)]
      exact last p q s hp hq hs
    · rw [if_neg (by simpa using c1)]
      simp only [Option.bind_some]
      rw [if_neg (by simp)]
      exact last p q s hp hq hs

end G

namespace G
open PySem PySem.Spec PyProof.Rows L2

/-! ## edges, rows -/
theorem opp_eq (e : Int) : m_opposite e = m_law_opposite e := by
  unfold m_opposite m_law_opposite
  rw [bitXor_and, bitAnd_m1]
  by_cases c : e % 2 = 0
  · rw [if_pos (decide_eq_true c)]; omega
  · rw [if_neg (by simpa using c)]; omega
theorem opp_nn {e : Int} (h : 0 ≤ e) : 0 ≤ m_law_opposite e := by
  unfold m_law_opposite
  by_cases c : e % 2 = 0
  · rw [if_pos (decide_eq_true c)]; omega
  · rw [if_neg (by simpa using c)]; omega
theorem opp_iff (a b : Int) : a = m_law_opposite b ↔ (b % 2 = 0 ∧ a = b + 1) ∨ (b % 2 = 1 ∧ a = b - 1) := by
  unfold m_law_opposite
  by_cases c : b % 2 = 0
  · rw [if_pos (decide_eq_true c)]; omega
  · rw [if_neg (by simpa using c)]; omega

/-- the place of a row -/
def fnd (row : List Key) : List (List Key) → Option Nat
  | [] => none
  | r :: rs => if r = row then some 0 else (fnd row rs).map (· + 1)
theorem fnd_lt {row : List Key} : ∀ {rs : List (List Key)} {k : Nat}, fnd row rs = some k → k < rs.length
  | r :: rs, k, h => by
    unfold fnd at h
    by_cases c : r = row
    · rw [if_pos c] at h; cases h; simp
    · rw [if_neg c] at h
      cases e : fnd row rs with
      | none => rw [e] at h; cases h
      | some j =>
        rw [e] at h
        cases h
        have := fnd_lt e
        simp; omega
theorem fnd_snoc {row x : List Key} : ∀ {rs : List (List Key)}, fnd row (rs ++ [x]) = match fnd row rs with
    | some k => some k
    | none => if x = row then some rs.length else none
  | [] => by
    show (if x = row then some 0 else none) = _
    rfl
  | r :: rs => by
    show (if r = row then some 0 else (fnd row (rs ++ [x])).map (· + 1)) = _
    rw [fnd_snoc (rs := rs)]
    show _ = match (if r = row then some 0 else (fnd row rs).map (· + 1)) with
      | some k => some k
      | none => if x = row then some (r :: rs).length else none
    by_cases c : r = row
    · simp [c]
    · rw [if_neg c, if_neg c]
      cases fnd row rs with
      | none =>
        by_cases c2 : x = row
        · simp [c2]
        · simp [c2]
      | some k => simp
def okRow (r : List Key) : Prop := DOk.ok r = true
/-- the linear search -/
theorem row_l1 (rows : List (List Key)) (row : List Key) (ho : ∀ r ∈ rows, okRow r) (hr : okRow row) : ∀ (n i : Nat), i + n = rows.length →
    m_law_row_l1 rows row ((List.range' i n).map fun (j : Nat) => (0 : Int) + (j : Int)) () = match fnd row (rows.drop i) with
      | some k => some (Flw.ret (2 * ((i + k : Nat) : Int), rows))
      | none => some (Flw.done ())
  | 0, i, h => by
    rw [List.drop_eq_nil_of_le (by omega)]
    rfl
  | n + 1, i, h => by
    have hl : i < rows.length := by omega
    rw [List.range'_succ, List.map_cons, m_law_row_l1]
    have e : atI rows ((0 : Int) + (i : Int)) = some rows[i] := by
      rw [Int.zero_add]
      exact atI_nat (by simp [hl])
    rw [e, List.drop_eq_getElem_cons hl]
    simp only [Option.bind_some]
    rw [grd_t (ho _ (List.getElem_mem hl)), grd_t hr]
    show _ = match (if rows[i] = row then some 0 else (fnd row (rows.drop (i + 1))).map (· + 1)) with
      | some k => some (Flw.ret (2 * ((i + k : Nat) : Int), rows))
      | none => some (Flw.done ())
    by_cases c : rows[i] = row
    · rw [if_pos (decide_eq_true c), if_pos c]
      simp
    · rw [if_neg (by simpa using c), if_neg c, row_l1 rows row ho hr n (i + 1) (by omega)]
      cases fnd row (rows.drop (i + 1)) with
      | none => rfl
      | some k =>
        show some (Flw.ret (2 * ((i + 1 + k : Nat) : Int), rows)) = some (Flw.ret (2 * ((i + (k + 1) : Nat) : Int), rows))
        rw [show i + 1 + k = i + (k + 1) by omega]
theorem law_row (rows : List (List Key)) (row : List Key) (ho : ∀ r ∈ rows, okRow r) (hr : okRow row) (hl : rows.length < 16777216) :
    m_law_row rows row = some (match fnd row rows with
      | some k => (2 * (k : Int), rows)
      | none => (2 * (rows.length : Int), rows ++ [row])) := by
  unfold m_law_row
  rw [grd_t (rngOk_len hl)]
  have e : pyRange 0 ((rows.length : Int)).toNat = (List.range' 0 rows.length).map fun (j : Nat) => (0 : Int) + (j : Int) := by
    unfold pyRange
    rw [List.range_eq_range']
    rfl
  rw [e, row_l1 rows row ho hr rows.length 0 (by omega), List.drop_zero]
  cases fnd row rows with
  | some k => simp
  | none =>
    simp only [Option.bind_some]
    rw [grd_t (decide_eq_true hl)]
    simp
    omega

/-! ## the two tables -/
/-- the program's table tells the same places as a search in the rows -/
structure Sim (G : M_Gates) (rows : List (List Key)) : Prop where
  eqr : G.rows = rows
  ok : ∀ r ∈ rows, okRow r
  first : ∃ rs, rows = [Sum.inr ("no" : Str)] :: rs
  len : G.known.length + 1 = rows.length
  look : ∀ row : List Key, row ≠ [Sum.inr ("no" : Str)] → mget G.known row = (fnd row rows).map fun k => 2 * (k : Int)
theorem edge_of_hit {G : M_Gates} {row : List Key} {e : Int} (q : mget G.known row = some e) : m_Gates_edge_of G row = some (e, G) := by
  unfold m_Gates_edge_of
  rw [q, if_neg (by simp)]
  simp only [Option.bind_some]
  rw [q]
  rfl
theorem edge_of {G : M_Gates} {rows : List (List Key)} (S : Sim G rows) (row : List Key) (hr : okRow row) (hn : row ≠ [Sum.inr ("no" : Str)]) (hl : rows.length < 16777216) :
    ∃ e rows' G', m_law_row rows row = some (e, rows') ∧ m_Gates_edge_of G row = some (e, G') ∧ Sim G' rows' ∧ 0 ≤ e ∧ rows.length ≤ rows'.length ∧ rows'.length ≤ rows.length + 1 ∧
      m_Gates_edge_of G' row = some (e, G') := by
  rw [law_row rows row S.ok hr hl]
  have q := S.look row hn
  cases c : fnd row rows with
  | some k =>
    rw [c] at q
    have e : m_Gates_edge_of G row = some (2 * (k : Int), G) := edge_of_hit q
    exact ⟨_, rows, G, rfl, e, S, by omega, Nat.le_refl _, Nat.le_succ _, e⟩
  | none =>
    rw [c] at q
    have q0 : mget G.known row = none := q
    have hk : G.known.length < 16777216 := by have := S.len; omega
    have hk2 : G.rows.length < 16777216 := by rw [S.eqr]; exact hl
    refine ⟨_, rows ++ [row], ⟨G.rows ++ [row], G.known ++ [(row, 2 * (G.rows.length : Int))]⟩, rfl, ?_, ?_, by omega, by simp, by simp, ?_⟩
    · unfold m_Gates_edge_of
      rw [q0]
      simp only [Option.isSome_none, Bool.not_false, if_pos]
      rw [grd_t (decide_eq_true hk), grd_t (decide_eq_true hk2), mget_put_new q0]
      simp only [Option.bind_some]
      rw [mget_snoc, q0]
      simp [S.eqr]
    · refine ⟨by simp [S.eqr], fun r h => ?_, ?_, by have := S.len; simp; omega, fun r hr2 => ?_⟩
      · rcases List.mem_append.mp h with h | h
        · exact S.ok r h
        · rw [List.mem_singleton.mp h]; exact hr
      · obtain ⟨rs, e⟩ := S.first
        exact ⟨rs ++ [row], by rw [e]; rfl⟩
      · show mget (G.known ++ [(row, 2 * (G.rows.length : Int))]) r = _
        rw [mget_snoc, S.look r hr2, fnd_snoc]
        cases fnd r rows with
        | some k => rfl
        | none =>
          by_cases c2 : row = r
          · simp [c2, S.eqr]
          · simp [c2]
    · refine edge_of_hit ?_
      show mget (G.known ++ [(row, 2 * (G.rows.length : Int))]) row = _
      rw [mget_snoc, q0]; simp [S.eqr]
theorem ok_letter (n : Int) : okRow [Sum.inr ("letter" : Str), Sum.inl n] := by
  show ([Sum.inr ("letter" : Str), Sum.inl n] : List Key).all DOk.ok = true
  simp only [List.all_cons, List.all_nil, Bool.and_true, Bool.and_eq_true]
  exact ⟨by decide +kernel, rfl⟩
theorem ok_both (a b : Int) : okRow [Sum.inr ("both" : Str), Sum.inl a, Sum.inl b] := by
  show ([Sum.inr ("both" : Str), Sum.inl a, Sum.inl b] : List Key).all DOk.ok = true
  simp only [List.all_cons, List.all_nil, Bool.and_true, Bool.and_eq_true]
  exact ⟨by decide +kernel, rfl, rfl⟩
theorem leaf_sim {G : M_Gates} {rows : List (List Key)} (S : Sim G rows) (n : Int) (hl : rows.length < 16777216) :
    ∃ e rows' G', m_law_row rows [Sum.inr ("letter" : Str), Sum.inl n] = some (e, rows') ∧ m_Gates_leaf G n = some (e, G') ∧ Sim G' rows' ∧ 0 ≤ e ∧ rows'.length ≤ rows.length + 1 := by
  obtain ⟨e, rows', G', h1, h2, h3, h4, _, h5, _⟩ := edge_of S [Sum.inr ("letter" : Str), Sum.inl n] (ok_letter n) (by intro h; cases h) hl
  refine ⟨e, rows', G', h1, ?_, h3, h4, h5⟩
  unfold m_Gates_leaf
  rw [h2]
  rfl
/-- what a call must show: the same edge from both, the tables stay alike -/
def Call (n : Nat) (rows : List (List Key)) (x : Option (Int × List (List Key))) (y : Option (Int × M_Gates)) : Prop :=
  ∃ e rows' G', x = some (e, rows') ∧ y = some (e, G') ∧ Sim G' rows' ∧ 0 ≤ e ∧ rows'.length ≤ rows.length + n
theorem gboth {G : M_Gates} {a b lo hi : Int} (hlo : (if b < a then b else a) = lo) (hhi : (if b > a then b else a) = hi) :
    m_Gates_both G a b = if lo = 0 ∨ lo = m_law_opposite hi then some (0, G) else if lo = 1 ∨ lo = hi then some (hi, G) else m_Gates_edge_of G [Sum.inr ("both" : Str), Sum.inl lo, Sum.inl hi] := by
  unfold m_Gates_both
  rw [hlo, hhi, opp_eq]
  by_cases c : lo = 0 ∨ lo = m_law_opposite hi
  · rw [if_pos c, if_pos (by simpa using c)]
  · rw [if_neg c, if_neg (by simpa using c)]
    by_cases d : lo = 1 ∨ lo = hi
    · rw [if_pos d, if_pos (by simpa using d)]
    · rw [if_neg d, if_neg (by simpa using d)]
      show (m_Gates_edge_of G _).bind _ = _
      cases m_Gates_edge_of G [Sum.inr ("both" : Str), Sum.inl lo, Sum.inl hi] <;> rfl
theorem both_comm (G : M_Gates) (a b : Int) : m_Gates_both G b a = m_Gates_both G a b := by
  rw [gboth (G := G) (a := a) (b := b) rfl rfl, gboth (G := G) (a := b) (b := a) (lo := if b < a then b else a) (hi := if b > a then b else a)]
  · split <;> split <;> omega
  · split <;> split <;> omega
theorem both_sim {G : M_Gates} {rows : List (List Key)} (S : Sim G rows) {a b : Int} (ha : 0 ≤ a) (hb : 0 ≤ b) (hl : rows.length < 16777216) :
    ∃ e rows' G', m_law_both rows a b = some (e, rows') ∧ m_Gates_both G a b = some (e, G') ∧ Sim G' rows' ∧ 0 ≤ e ∧ rows'.length ≤ rows.length + 1 ∧ m_Gates_both G' b a = some (e, G') := by
  generalize hlo : (if b < a then b else a) = lo
  generalize hhi : (if b > a then b else a) = hi
  have hlo' : lo = if b < a then b else a := hlo.symm
  have hhi' : hi = if b > a then b else a := hhi.symm
  have k0 : (a = 0 ∨ b = 0 ∨ a = m_law_opposite b) ↔ (lo = 0 ∨ lo = m_law_opposite hi) := by
    rw [opp_iff, opp_iff, hlo', hhi']
    split <;> split <;> omega
  by_cases c : a = 0 ∨ b = 0 ∨ a = m_law_opposite b
  · have e1 : m_Gates_both G a b = some (0, G) := by rw [gboth hlo hhi, if_pos (k0.mp c)]
    refine ⟨0, rows, G, ?_, e1, S, by omega, Nat.le_succ _, (both_comm G a b).trans e1⟩
    unfold m_law_both
    rw [if_pos (by simpa using c)]
  · have c2 := fun h => c (k0.mpr h)
    have h0 : ¬ a = 0 := fun h => c (.inl h)
    have h1 : ¬ b = 0 := fun h => c (.inr (.inl h))
    have k1 : (a = 1 ∨ b = 1 ∨ a = b) ↔ (lo = 1 ∨ lo = hi) := by
      rw [hlo', hhi']
      split <;> split <;> omega
    by_cases d : a = 1 ∨ b = 1 ∨ a = b
    · have e1 : m_Gates_both G a b = some (hi, G) := by rw [gboth hlo hhi, if_neg c2, if_pos (k1.mp d)]
      refine ⟨hi, rows, G, ?_, e1, S, by rw [hhi']; split <;> omega, Nat.le_succ _, (both_comm G a b).trans e1⟩
      unfold m_law_both
      rw [if_neg (by simpa using c)]
      by_cases d3 : a = 1
      · rw [if_pos (decide_eq_true d3)]
        have e : b = hi := by rw [hhi']; split <;> omega
        rw [← e]
      · rw [if_neg (by simpa using d3), if_pos (by simp; omega)]
        have e : a = hi := by rw [hhi']; split <;> omega
        rw [← e]
    · have d2 := fun h => d (k1.mpr h)
      obtain ⟨e, rows', G', h1, h2, h3, h4, _, h5, h6⟩ := edge_of S [Sum.inr ("both" : Str), Sum.inl lo, Sum.inl hi] (ok_both lo hi) (by intro h; cases h) hl
      refine ⟨e, rows', G', ?_, by rw [gboth hlo hhi, if_neg c2, if_neg d2, h2], h3, h4, h5, by rw [both_comm, gboth hlo hhi, if_neg c2, if_neg d2, h6]⟩
      unfold m_law_both
      rw [if_neg (by simpa using c), if_neg (by simp; omega), if_neg (by simp; omega)]
      have e1 : (if a < b then a else b) = lo := by rw [hlo']; split <;> split <;> omega
      have e2 : (if a > b then a else b) = hi := by rw [hhi']; split <;> split <;> omega
      rw [hlo, hhi, h1]
      rfl
theorem both_call {G : M_Gates} {rows : List (List Key)} (S : Sim G rows) {a b : Int} (ha : 0 ≤ a) (hb : 0 ≤ b) (hl : rows.length < 16777216) :
    Call 1 rows (m_law_both rows a b) (m_Gates_both G a b) := by
  obtain ⟨e, rows', G', h1, h2, h3, h4, h5, _⟩ := both_sim S ha hb hl
  exact ⟨e, rows', G', h1, h2, h3, h4, h5⟩
theorem ok_no : okRow [Sum.inr ("no" : Str)] := by
  show ([Sum.inr ("no" : Str)] : List Key).all DOk.ok = true
  simp only [List.all_cons, List.all_nil, Bool.and_true]
  decide +kernel
theorem sim_init : Sim m_Gates_init [[Sum.inr ("no" : Str)]] where
  eqr := rfl
  ok := fun r h => by rw [List.mem_singleton.mp h]; exact ok_no
  first := ⟨[], rfl⟩
  len := rfl
  look := fun row h => by
    show (none : Option Int) = _
    unfold fnd
    rw [if_neg (fun q => h q.symm)]
    rfl
end G

namespace G
open PySem PySem.Spec PyProof.Rows L2

/-! ## rows of gates -/
abbrev lrow (n : Int) : List Key := [Sum.inr ("letter" : Str), Sum.inl n]
abbrev brow (a b : Int) : List Key := [Sum.inr ("both" : Str), Sum.inl a, Sum.inl b]
theorem l_ne_b : decide (("letter" : Str) = ("both" : Str)) = false := by decide +kernel
theorem b_ne_l : decide (("both" : Str) = ("letter" : Str)) = false := by decide +kernel
theorem lrow0 (n : Int) : kStr (lrow n) 0 = some ("letter" : Str) := rfl
theorem lrow1 (n : Int) : kInt (lrow n) 1 = some n := rfl
theorem brow0 (a b : Int) : kStr (brow a b) 0 = some ("both" : Str) := rfl
theorem brow1 (a b : Int) : kInt (brow a b) 1 = some a := rfl
theorem brow2 (a b : Int) : kInt (brow a b) 2 = some b := rfl
theorem brow_inj {a b c d : Int} (h : brow a b = brow c d) : a = c ∧ b = d := by
  have h1 := congrArg (fun r => kInt r 1) h
  have h2 := congrArg (fun r => kInt r 2) h
  exact ⟨Option.some.inj h1, Option.some.inj h2⟩
theorem l_not_b {n a b : Int} (h : lrow n = brow a b) : False := by
  have := congrArg List.length h
  simp at this
/-- every row behind the first is a letter or a gate of earlier rows -/
def RowAt (P : Int → Prop) (k : Int) (r : List Key) : Prop := (∃ n, P n ∧ r = lrow n) ∨ ∃ a b, 0 ≤ a ∧ 0 ≤ b ∧ a / 2 < k ∧ b / 2 < k ∧ r = brow a b
structure Wf (P : Int → Prop) (rows : List (List Key)) : Prop where
  pos : 0 < rows.length
  at_ : ∀ k : Int, 0 < k → k < rows.length → ∃ r, atI rows k = some r ∧ RowAt P k r
/-- reached from the roots -/
inductive Rch (rows : List (List Key)) (roots : List Int) : Int → Prop
  | root {e : Int} : e ∈ roots → Rch rows roots (e / 2)
  | lo {k a b : Int} : Rch rows roots k → 0 < k → atI rows k = some (brow a b) → Rch rows roots (a / 2)
  | hi {k a b : Int} : Rch rows roots k → 0 < k → atI rows k = some (brow a b) → Rch rows roots (b / 2)
def Edge (rows : List (List Key)) (e : Int) : Prop := 0 ≤ e ∧ e / 2 < rows.length
section
variable {P : Int → Prop} {rows : List (List Key)} {roots : List Int}
theorem Wf.both (w : Wf P rows) {k a b : Int} (h0 : 0 < k) (h : atI rows k = some (brow a b)) : 0 ≤ a ∧ 0 ≤ b ∧ a / 2 < k ∧ b / 2 < k := by
  obtain ⟨r, h1, h2⟩ := w.at_ k h0 (atI_bound (by omega) h)
  rw [h] at h1
  obtain rfl := Option.some.inj h1
  rcases h2 with ⟨n, _, e⟩ | ⟨c, d, g1, g2, g3, g4, e⟩
  · exact (l_not_b e.symm).elim
  · obtain ⟨rfl, rfl⟩ := brow_inj e
    exact ⟨g1, g2, g3, g4⟩
theorem Rch.bound (w : Wf P rows) (hr : ∀ e ∈ roots, Edge rows e) {k : Int} (h : Rch rows roots k) : 0 ≤ k ∧ k < rows.length := by
  induction h with
  | root h => have := hr _ h; exact ⟨Int.ediv_nonneg this.1 (by omega), this.2⟩
  | lo h h0 e ih => have := w.both h0 e; omega
  | hi h h0 e ih => have := w.both h0 e; omega
/-- the cone's word: ascending, the reached rows but the first -/
def IsCone (rows : List (List Key)) (roots : List Int) (c : List Int) : Prop := c.Pairwise (· < ·) ∧ ∀ x, x ∈ c ↔ Rch rows roots x ∧ 0 < x
theorem IsCone.uniq {c d : List Int} (h : IsCone rows roots c) (g : IsCone rows roots d) : c = d := strict_uniq h.1 g.1 fun x => (h.2 x).trans (g.2 x).symm
theorem IsCone.lo {c : List Int} (w : Wf P rows) (h : IsCone rows roots c) {k a b : Int} (hk : k ∈ c) (e : atI rows k = some (brow a b)) : (a / 2 = 0 ∨ a / 2 ∈ c) ∧ (b / 2 = 0 ∨ b / 2 ∈ c) ∧ a / 2 < k ∧ b / 2 < k ∧ 0 ≤ a ∧ 0 ≤ b := by
  have h1 := (h.2 k).mp hk
  have h2 := w.both h1.2 e
  refine ⟨?_, ?_, h2.2.2.1, h2.2.2.2, h2.1, h2.2.1⟩
  · by_cases c0 : a / 2 = 0
    · exact .inl c0
    · exact .inr ((h.2 _).mpr ⟨.lo h1.1 h1.2 e, by omega⟩)
  · by_cases c0 : b / 2 = 0
    · exact .inl c0
    · exact .inr ((h.2 _).mpr ⟨.hi h1.1 h1.2 e, by omega⟩)
theorem IsCone.root {c : List Int} (hr : ∀ e ∈ roots, Edge rows e) (h : IsCone rows roots c) {e : Int} (he : e ∈ roots) : e / 2 = 0 ∨ e / 2 ∈ c := by
  by_cases c0 : e / 2 = 0
  · exact .inl c0
  · exact .inr ((h.2 _).mpr ⟨.root he, by have := (hr e he).1; omega⟩)
theorem IsCone.row {c : List Int} (w : Wf P rows) (hr : ∀ e ∈ roots, Edge rows e) (h : IsCone rows roots c) {k : Int} (hk : k ∈ c) : 0 < k ∧ k < rows.length ∧ ∃ r, atI rows k = some r ∧ RowAt P k r := by
  have h1 := (h.2 k).mp hk
  have h2 := h1.1.bound w hr
  exact ⟨h1.2, h2.2, w.at_ k h1.2 h2.2⟩
theorem IsCone.len {c : List Int} (w : Wf P rows) (hr : ∀ e ∈ roots, Edge rows e) (h : IsCone rows roots c) : c.length < rows.length := by
  have := nodup_sub (r := pyRange 1 (rows.length - 1)) (strict_nodup h.1) fun x hx => by
    have := IsCone.row w hr h hx
    exact mem_pyRange.mpr (by omega)
  rw [pyRange_len] at this
  have := w.pos
  omega
/-- where an edge's row stands while the stack is worked off -/
def Good (todo : List Int) (seen : List (Int × Bool)) (x : Int) : Prop := x = 0 ∨ x ∈ seen.map (·.1) ∨ x ∈ todo
structure DInv (rows : List (List Key)) (roots : List Int) (todo : List Int) (seen : List (Int × Bool)) : Prop where
  t : ∀ x ∈ todo, Rch rows roots x
  s : ∀ x ∈ seen.map (·.1), Rch rows roots x ∧ 0 < x
  n : (seen.map (·.1)).Nodup
  r : ∀ e ∈ roots, Good todo seen (e / 2)
  c : ∀ k ∈ seen.map (·.1), ∀ a b, atI rows k = some (brow a b) → Good todo seen (a / 2) ∧ Good todo seen (b / 2)
theorem DInv.len (w : Wf P rows) (hr : ∀ e ∈ roots, Edge rows e) {todo : List Int} {seen : List (Int × Bool)} (I : DInv rows roots todo seen) : seen.length < rows.length := by
  have := nodup_sub (r := pyRange 1 (rows.length - 1)) I.n fun x hx => by
    have h := I.s x hx
    have := h.1.bound w hr
    exact mem_pyRange.mpr (by omega)
  rw [pyRange_len, List.length_map] at this
  have := w.pos
  omega
theorem cone_l1 (G : M_Gates) (w : Wf P G.rows) (hr : ∀ e ∈ roots, Edge G.rows e) (M : Nat) (hM : M < 16777216) (hn : G.rows.length < 16777216) : ∀ (fl : Nat) (todo : List Int) (seen : List (Int × Bool)),
    DInv G.rows roots todo seen → todo.length + 2 * (G.rows.length - seen.length) ≤ M → todo.length + 2 * (G.rows.length - seen.length) < fl →
    ∃ seen', m_Gates_cone_l1 G fl (todo, seen) = some ([], seen') ∧ DInv G.rows roots [] seen'
  | 0, todo, seen, I, h1, h2 => absurd h2 (Nat.not_lt_zero _)
  | fl + 1, todo, seen, I, h1, h2 => by
    rw [m_Gates_cone_l1]
    rcases List.eq_nil_or_concat todo with rfl | ⟨td, k, rfl⟩
    · exact ⟨seen, rfl, I⟩
    · rw [List.concat_eq_append] at *
      dsimp only
      have hsl := I.len w hr
      rw [if_pos (by simp), bs (x := k) (List.getLast?_concat ..), List.dropLast_concat]
      have hk := I.t k (by simp)
      have hkb := hk.bound w hr
      have hl : (td ++ [k]).length = td.length + 1 := by simp
      by_cases c : k > 0 ∧ mget seen k = none
      · obtain ⟨c1, c2⟩ := c
        rw [if_pos (by simp [c1, c2]), grd_t (decide_eq_true (by have := w.pos; omega)), mget_put_new c2]
        obtain ⟨row, e1, e2⟩ := w.at_ k c1 hkb.2
        rw [bs e1]
        have hk0 := mget_none.mp c2
        have keep : ∀ (more : List Int) x, Good (td ++ [k]) seen x → Good (td ++ more) (seen ++ [(k, true)]) x := by
          intro more x hx
          rcases hx with h | h | h
          · exact .inl h
          · exact .inr (.inl (by simp only [List.map_append, List.mem_append]; exact .inl h))
          · rcases List.mem_append.mp h with h | h
            · exact .inr (.inr (List.mem_append.mpr (.inl h)))
            · exact .inr (.inl (by simp only [List.map_append, List.mem_append]; exact .inr (by simpa using h)))
        have nd : ((seen ++ [(k, true)]).map (·.1)).Nodup := by
          rw [List.map_append]
          refine List.nodup_append.mpr ⟨I.n, by simp, fun a ha b hb => ?_⟩
          have : b = k := by simpa using hb
          subst this
          rintro rfl
          exact hk0 ha
        have sR : ∀ x ∈ (seen ++ [(k, true)]).map (·.1), Rch G.rows roots x ∧ 0 < x := by
          intro x hx
          rw [List.map_append] at hx
          rcases List.mem_append.mp hx with h | h
          · exact I.s x h
          · have : x = k := by simpa using h
            subst this
            exact ⟨hk, c1⟩
        rcases e2 with ⟨n, _, rfl⟩ | ⟨a, b, _, _, _, _, rfl⟩
        · rw [bs (lrow0 n), if_neg (by rw [l_ne_b]; simp)]
          have kp := keep []
          rw [List.append_nil] at kp
          refine cone_l1 G w hr M hM hn fl td (seen ++ [(k, true)]) ⟨fun x hx => I.t x (by simp [hx]), sR, nd, fun e he => kp _ (I.r e he), ?_⟩ (by simp; omega) (by simp; omega)
          intro k' hk' a b e
          rw [List.map_append] at hk'
          rcases List.mem_append.mp hk' with h | h
          · have := I.c k' h a b e
            exact ⟨kp _ this.1, kp _ this.2⟩
          · have : k' = k := by simpa using h
            subst this
            rw [e1] at e
            exact (l_not_b (Option.some.inj e)).elim
        · rw [bs (brow0 a b), if_pos (by simp), bs (brow1 a b), grd_t (decide_eq_true (by omega)), bs (brow2 a b), grd_t (decide_eq_true (by simp; omega)), List.append_assoc]
          have kp := keep ([a / 2] ++ [b / 2])
          refine cone_l1 G w hr M hM hn fl _ (seen ++ [(k, true)]) ⟨?_, sR, nd, fun e he => kp _ (I.r e he), ?_⟩ (by simp; omega) (by simp; omega)
          · intro x hx
            rcases List.mem_append.mp hx with h | h
            · exact I.t x (by simp [h])
            · have : x = a / 2 ∨ x = b / 2 := by simpa using h
              rcases this with rfl | rfl
              · exact .lo hk c1 e1
              · exact .hi hk c1 e1
          · intro k' hk' a' b' e
            rw [List.map_append] at hk'
            rcases List.mem_append.mp hk' with h | h
            · have := I.c k' h a' b' e
              exact ⟨kp _ this.1, kp _ this.2⟩
            · have : k' = k := by simpa using h
              subst this
              rw [e1] at e
              obtain ⟨rfl, rfl⟩ := brow_inj (Option.some.inj e)
              exact ⟨.inr (.inr (by simp)), .inr (.inr (by simp))⟩
      · have kz : k = 0 ∨ k ∈ seen.map (·.1) := by
          by_cases c0 : k = 0
          · exact .inl c0
          · refine .inr (Classical.byContradiction fun h => c ⟨by omega, mget_none.mpr h⟩)
        rw [if_neg (by
          intro h
          simp only [Bool.and_eq_true, decide_eq_true_eq, Bool.not_eq_true', Option.isSome_eq_false_iff, Option.isNone_iff_eq_none] at h
          exact c h)]
        have kp : ∀ x, Good (td ++ [k]) seen x → Good td seen x := by
          intro x hx
          rcases hx with h | h | h
          · exact .inl h
          · exact .inr (.inl h)
          · rcases List.mem_append.mp h with h | h
            · exact .inr (.inr h)
            · have : x = k := by simpa using h
              subst this
              exact kz.elim .inl fun h => .inr (.inl h)
        exact cone_l1 G w hr M hM hn fl td seen ⟨fun x hx => I.t x (by simp [hx]), I.s, I.n, fun e he => kp _ (I.r e he), fun k' hk' a b e => ⟨kp _ (I.c k' hk' a b e).1, kp _ (I.c k' hk' a b e).2⟩⟩ (by omega) (by omega)
theorem cone_ok (G : M_Gates) (w : Wf P G.rows) (hr : ∀ e ∈ roots, Edge G.rows e) (hl : roots.length + 2 * G.rows.length < 16777216) : ∃ c, m_Gates_cone G roots = some c ∧ IsCone G.rows roots c := by
  unfold m_Gates_cone
  rw [grd_t (decide_eq_true (by omega))]
  have I0 : DInv G.rows roots (roots.map fun x => x / 2) [] := ⟨fun x hx => by obtain ⟨e, he, rfl⟩ := List.mem_map.mp hx; exact .root he, by simp, by simp, fun e he => .inr (.inr (List.mem_map.mpr ⟨e, he, rfl⟩)), by simp⟩
  obtain ⟨seen, h1, I⟩ := cone_l1 G w hr (roots.length + 2 * G.rows.length) hl (by omega) fuel _ _ I0 (by simp) (by simp [fuel]; omega)
  · rw [bs h1]
    refine ⟨_, rfl, sortI_strict I.n, fun x => mem_sortI.trans ⟨I.s x, ?_⟩⟩
    have all : ∀ y, Rch G.rows roots y → y = 0 ∨ y ∈ seen.map (·.1) := by
      intro y hy
      induction hy with
      | root h => exact (I.r _ h).elim .inl fun h => h.elim .inr fun h => by cases h
      | lo h h0 e ih => exact (I.c _ (ih.resolve_left (by omega)) _ _ e).1.elim .inl fun h => h.elim .inr fun h => by cases h
      | hi h h0 e ih => exact (I.c _ (ih.resolve_left (by omega)) _ _ e).2.elim .inl fun h => h.elim .inr fun h => by cases h
    rintro ⟨h, h0⟩
    exact (all x h).resolve_left (by omega)
end
end G

namespace G
open PySem PySem.Spec PyProof.Rows L2

/-! ## the backward sweep -/
section
variable {P : Int → Prop} {rows : List (List Key)} {roots : List Int}
theorem reached_l1 (n : Nat) : ∀ (es : List Int) (F : List Bool), F.length = n → (∀ e ∈ es, 0 ≤ e ∧ e / 2 < n) →
    ∃ F', m_law_reached_l1 es F = some F' ∧ F'.length = n ∧ ∀ j : Int, 0 ≤ j → (atI F' j = some true ↔ atI F j = some true ∨ ∃ e ∈ es, e / 2 = j)
  | [], F, h, _ => ⟨F, rfl, h, fun j _ => by simp⟩
  | e :: es, F, h, he => by
    have h0 := he e (.head _)
    have hd : 0 ≤ e / 2 := Int.ediv_nonneg h0.1 (by omega)
    rw [m_law_reached_l1, bs (ixN_of hd (by omega))]
    obtain ⟨F', g1, g2, g3⟩ := reached_l1 n es (F.set (e / 2).toNat true) (by simp [h]) fun x hx => he x (.tail _ hx)
    refine ⟨F', g1, g2, fun j hj => (g3 j hj).trans ?_⟩
    rw [atI_set hd (by omega) hj]
    by_cases c : e / 2 = j
    · simp [c]
    · rw [if_neg c]
      simp [c]
structure RInv (rows : List (List Key)) (roots : List Int) (m : Int) (F : List Bool) : Prop where
  n : F.length = rows.length
  a : ∀ j : Int, 0 ≤ j → atI F j = some true → Rch rows roots j
  b : ∀ e ∈ roots, atI F (e / 2) = some true
  c : ∀ k : Int, m < k → 0 < k → atI F k = some true → ∀ a b, atI rows k = some (brow a b) → atI F (a / 2) = some true ∧ atI F (b / 2) = some true
theorem reached_l2 (w : Wf P rows) (hr : ∀ e ∈ roots, Edge rows e) : ∀ (m : Nat) (F : List Bool), m < rows.length → RInv rows roots m F →
    ∃ F', m_law_reached_l2 rows (pyRangeC (m : Int) (-1) m) F = some F' ∧ RInv rows roots 0 F'
  | 0, F, _, I => ⟨F, rfl, I⟩
  | m + 1, F, hm, I => by
    rw [pyRangeC_succ, m_law_reached_l2]
    have e0 : ((m + 1 : Nat) : Int) + -1 = (m : Int) := by omega
    rw [e0]
    have hF := I.n
    obtain ⟨f, hf⟩ : ∃ f, atI F ((m + 1 : Nat) : Int) = some f := by
      obtain ⟨x, h, _⟩ := atI_lt (xs := F) (i := ((m + 1 : Nat) : Int)) (by omega) (by omega)
      exact ⟨x, h⟩
    obtain ⟨row, e1, e2⟩ := w.at_ ((m + 1 : Nat) : Int) (by omega) (by omega)
    have down : ∀ F, (∀ k : Int, ((m + 1 : Nat) : Int) < k → 0 < k → atI F k = some true → ∀ a b, atI rows k = some (brow a b) → atI F (a / 2) = some true ∧ atI F (b / 2) = some true) →
        (atI F ((m + 1 : Nat) : Int) = some true → ∀ a b, atI rows ((m + 1 : Nat) : Int) = some (brow a b) → atI F (a / 2) = some true ∧ atI F (b / 2) = some true) →
        ∀ k : Int, (m : Int) < k → 0 < k → atI F k = some true → ∀ a b, atI rows k = some (brow a b) → atI F (a / 2) = some true ∧ atI F (b / 2) = some true := by
      intro F h1 h2 k hk h0 hv a b e
      by_cases c : k = ((m + 1 : Nat) : Int)
      · subst c; exact h2 hv a b e
      · exact h1 k (by omega) h0 hv a b e
    cases f with
    | false =>
      rw [bs (x := false) (by rw [bs hf, if_neg (by simp)]), if_neg (by simp)]
      exact reached_l2 w hr m F (by omega) ⟨I.n, I.a, I.b, down F I.c (by rw [hf]; intro h; cases h)⟩
    | true =>
      rcases e2 with ⟨n, _, rfl⟩ | ⟨a, b, ha, hb, hak, hbk, rfl⟩
      · rw [bs (x := false) (by rw [bs hf, if_pos rfl, bs e1, bs (lrow0 n), l_ne_b]), if_neg (by simp)]
        exact reached_l2 w hr m F (by omega) ⟨I.n, I.a, I.b, down F I.c (by rw [e1]; intro _ a b h; exact (l_not_b (Option.some.inj h)).elim)⟩
      · have ha2 : 0 ≤ a / 2 := Int.ediv_nonneg ha (by omega)
        have hb2 : 0 ≤ b / 2 := Int.ediv_nonneg hb (by omega)
        rw [bs (x := true) (by rw [bs hf, if_pos rfl, bs e1, bs (brow0 a b)]; simp), if_pos rfl, bs e1, bs (brow1 a b), bs (ixN_of ha2 (by omega)), bs e1, bs (brow2 a b), bs (ixN_of hb2 (by simp; omega))]
        have at2 : ∀ j : Int, 0 ≤ j → atI ((F.set (a / 2).toNat true).set (b / 2).toNat true) j = if b / 2 = j then some true else if a / 2 = j then some true else atI F j := by
          intro j hj
          rw [atI_set hb2 (by simp; omega) hj, atI_set ha2 (by omega) hj]
        have mono : ∀ j : Int, 0 ≤ j → atI F j = some true → atI ((F.set (a / 2).toNat true).set (b / 2).toNat true) j = some true := by
          intro j hj h
          rw [at2 j hj]
          split
          · rfl
          · split
            · rfl
            · exact h
        have hR := I.a _ (by omega) hf
        refine reached_l2 w hr m _ (by omega) ⟨by simp [I.n], ?_, ?_, down _ ?_ ?_⟩
        · intro j hj h
          rw [at2 j hj] at h
          by_cases c1 : b / 2 = j
          · subst c1; exact .hi hR (by omega) e1
          · rw [if_neg c1] at h
            by_cases c2 : a / 2 = j
            · subst c2; exact .lo hR (by omega) e1
            · rw [if_neg c2] at h
              exact I.a j hj h
        · intro e he
          exact mono _ (Int.ediv_nonneg (hr e he).1 (by omega)) (I.b e he)
        · intro k hk h0 hv a' b' e
          rw [at2 k (by omega), if_neg (by omega), if_neg (by omega)] at hv
          have := I.c k hk h0 hv a' b' e
          have wb := w.both h0 e
          exact ⟨mono _ (Int.ediv_nonneg wb.1 (by omega)) this.1, mono _ (Int.ediv_nonneg wb.2.1 (by omega)) this.2⟩
        · intro _ a' b' e
          rw [e1] at e
          obtain ⟨rfl, rfl⟩ := brow_inj (Option.some.inj e)
          rw [at2 _ ha2, at2 _ hb2]
          exact ⟨by split <;> simp, by simp⟩
theorem reached_ok (w : Wf P rows) (hr : ∀ e ∈ roots, Edge rows e) (hl : rows.length < 16777216) : ∃ c, m_law_reached rows roots = some c ∧ IsCone rows roots c := by
  have hp := w.pos
  unfold m_law_reached
  rw [grd_t (decide_eq_true hl)]
  obtain ⟨F, f1, f2, f3⟩ := reached_l1 rows.length roots (rows.map fun _ => false) (by simp) hr
  have fz : ∀ j : Int, 0 ≤ j → ¬ atI (rows.map fun _ => false) j = some true := by
    intro j hj h
    have := atI_mem h
    simp at this
  rw [bs f1, grd_t (rng2Ok_t (by omega) (by omega) (by omega) (by omega))]
  have e : ((rows.length : Int) - 1 - 0).toNat = rows.length - 1 := by omega
  have e2 : (rows.length : Int) - 1 = ((rows.length - 1 : Nat) : Int) := by omega
  rw [e, e2]
  have I0 : RInv rows roots ((rows.length - 1 : Nat) : Int) F := ⟨f2, fun j hj h => ((f3 j hj).mp h).elim (fun h => (fz j hj h).elim) fun ⟨e, he, h⟩ => h ▸ .root he,
    fun e he => (f3 _ (Int.ediv_nonneg (hr e he).1 (by omega))).mpr (.inr ⟨e, he, rfl⟩), fun k h1 h2 h => fun a b e => by have := atI_bound (by omega) h; omega⟩
  obtain ⟨F2, g1, I⟩ := reached_l2 w hr (rows.length - 1) F (by omega) I0
  rw [bs g1, grd_t (rng2Ok_t (by omega) (by omega) (by omega) (by omega))]
  have e3 : (((rows.length - 1 : Nat) : Int)).toNat = rows.length - 1 := by omega
  rw [e3, grd_t (decide_eq_true (by rw [pyRange_len]; omega))]
  have hx : lcO (fun x => (atI F2 x).bind fun y => if y = true then (some (some x)) else some none) (pyRange (1 : Int) (rows.length - 1)) =
      some (((pyRange (1 : Int) (rows.length - 1)).filter fun x => atI F2 x == some true).map fun x => x) := by
    rw [← lc_filter]
    refine lcO_congr fun x hx => ?_
    have := mem_pyRange.mp hx
    obtain ⟨y, hy, _⟩ := atI_lt (xs := F2) (i := x) (by omega) (by rw [I.n]; omega)
    rw [bs hy, hy]
    cases y <;> rfl
  rw [bs hx]
  refine ⟨_, rfl, ?_, fun x => ?_⟩
  · rw [List.map_id']
    exact pyRange_strict.filter _
  · rw [List.map_id', List.mem_filter, mem_pyRange]
    have all : ∀ y, Rch rows roots y → atI F2 y = some true := by
      intro y hy
      induction hy with
      | root h => exact I.b _ h
      | lo h h0 e ih => exact (I.c _ h0 h0 ih _ _ e).1
      | hi h h0 e ih => exact (I.c _ h0 h0 ih _ _ e).2
    constructor
    · rintro ⟨h1, h2⟩
      exact ⟨I.a x (by omega) (by simpa using h2), by omega⟩
    · rintro ⟨h1, h2⟩
      have := h1.bound w hr
      exact ⟨by omega, by simpa using all x h1⟩
end
end G

namespace G
open PySem PySem.Spec PyProof.Rows L2

/-! ## what edges are worth -/
theorem and1 (e : Int) : Builtin.bitAnd e 1 = e % 2 := bitAnd_m1 e
def vl (tr : List Bool) (e : Int) : Bool := !decide (tr.getD (e / 2).toNat false = decide (e % 2 = 1))
def stp (ch : Int → Bool) (tr : List Bool) (r : List Key) : Bool :=
  match r with
  | [_, .inl n] => ch n
  | [_, .inl a, .inl b] => vl tr a && vl tr b
  | _ => false
def evs (ch : Int → Bool) : List (List Key) → List Bool → List Bool
  | [], tr => tr
  | r :: rs, tr => evs ch rs (tr ++ [stp ch tr r])
/-- the worths of the rows -/
def ev (ch : Int → Bool) (rows : List (List Key)) : List Bool := evs ch rows.tail [false]
/-- the worth of an edge -/
def vE (ch : Int → Bool) (rows : List (List Key)) (e : Int) : Bool := vl (ev ch rows) e
theorem evs_len (ch : Int → Bool) : ∀ (rs : List (List Key)) (tr : List Bool), (evs ch rs tr).length = tr.length + rs.length
  | [], tr => rfl
  | r :: rs, tr => by rw [evs, evs_len ch rs]; simp; omega
theorem evs_app (ch : Int → Bool) : ∀ (rs qs : List (List Key)) (tr : List Bool), evs ch (rs ++ qs) tr = evs ch qs (evs ch rs tr)
  | [], _, _ => rfl
  | r :: rs, qs, tr => by rw [List.cons_append, evs, evs, evs_app ch rs]
theorem evs_pre (ch : Int → Bool) : ∀ (rs : List (List Key)) (tr : List Bool), ∃ s, evs ch rs tr = tr ++ s
  | [], tr => ⟨[], by simp [evs]⟩
  | r :: rs, tr => by
    obtain ⟨s, e⟩ := evs_pre ch rs (tr ++ [stp ch tr r])
    exact ⟨[stp ch tr r] ++ s, by rw [evs, e, List.append_assoc]⟩
theorem vl_app {tr s : List Bool} {e : Int} (h0 : 0 ≤ e) (h : e / 2 < tr.length) : vl (tr ++ s) e = vl tr e := by
  unfold vl
  have : 0 ≤ e / 2 := Int.ediv_nonneg h0 (by omega)
  have e1 : (tr ++ s).getD (e / 2).toNat false = tr.getD (e / 2).toNat false := by
    rw [List.getD_eq_getElem?_getD, List.getD_eq_getElem?_getD, List.getElem?_append_left (by omega)]
  rw [e1]
section
variable {P : Int → Prop} {rows : List (List Key)} {roots : List Int} {ch : Int → Bool}
theorem ev_len (h : 0 < rows.length) : (ev ch rows).length = rows.length := by
  unfold ev
  rw [evs_len]
  simp; omega
/-- rows grow at their end -/
def Ext (r s : List (List Key)) : Prop := ∃ q, s = r ++ q
theorem Ext.refl (r : List (List Key)) : Ext r r := ⟨[], by simp⟩
theorem Ext.one (r : List (List Key)) (x : List Key) : Ext r (r ++ [x]) := ⟨[x], rfl⟩
theorem Ext.trans {r s t : List (List Key)} (h : Ext r s) (g : Ext s t) : Ext r t := by
  obtain ⟨q, rfl⟩ := h
  obtain ⟨q2, rfl⟩ := g
  exact ⟨q ++ q2, by rw [List.append_assoc]⟩
theorem Ext.len {r s : List (List Key)} (h : Ext r s) : r.length ≤ s.length := by obtain ⟨q, rfl⟩ := h; simp
theorem Ext.at_ {r s : List (List Key)} (h : Ext r s) {k : Int} (h0 : 0 ≤ k) (h1 : k < r.length) : atI s k = atI r k := by
  obtain ⟨q, rfl⟩ := h
  exact atI_app h0 h1
theorem Ext.edge {r s : List (List Key)} (h : Ext r s) {e : Int} (g : Edge r e) : Edge s e := ⟨g.1, by have := h.len; have := g.2; omega⟩
theorem ev_ext {r s : List (List Key)} (h : Ext r s) (hp : 0 < r.length) : ∃ t, ev ch s = ev ch r ++ t := by
  obtain ⟨q, rfl⟩ := h
  unfold ev
  rw [List.tail_append_of_ne_nil (by intro e; rw [e] at hp; cases hp), evs_app]
  exact evs_pre ch q _
theorem V_ext {r s : List (List Key)} (h : Ext r s) (hp : 0 < r.length) {e : Int} (g : Edge r e) : vE ch s e = vE ch r e := by
  obtain ⟨t, e1⟩ := ev_ext (ch := ch) h hp
  unfold vE
  rw [e1]
  exact vl_app g.1 (by rw [ev_len hp]; exact g.2)
/-- a row's worth, by its row -/
theorem ev_row (hp : 0 < rows.length) {k : Nat} (h0 : 0 < k) (hk : k < rows.length) : (ev ch rows)[k]? = some (stp ch (ev ch (rows.take k)) rows[k]) := by
  obtain ⟨r0, rs, rfl⟩ : ∃ r0 rs, rows = r0 :: rs := by
    cases rows with
    | nil => cases hp
    | cons r0 rs => exact ⟨r0, rs, rfl⟩
  obtain ⟨j, rfl⟩ : ∃ j, k = j + 1 := ⟨k - 1, by omega⟩
  have hj : j < rs.length := by simpa using hk
  unfold ev
  rw [List.take_succ_cons, List.tail_cons, List.tail_cons, List.getElem_cons_succ]
  have e : rs = rs.take j ++ rs[j] :: rs.drop (j + 1) := by rw [← List.drop_eq_getElem_cons hj, List.take_append_drop]
  have e2 : evs ch rs [false] = evs ch (rs.drop (j + 1)) (evs ch (rs.take j) [false] ++ [stp ch (evs ch (rs.take j) [false]) rs[j]]) := by
    conv => lhs; rw [e]
    rw [evs_app, evs]
  obtain ⟨s, e3⟩ := evs_pre ch (rs.drop (j + 1)) (evs ch (rs.take j) [false] ++ [stp ch (evs ch (rs.take j) [false]) rs[j]])
  rw [e2, e3]
  have hl : (evs ch (rs.take j) [false]).length = j + 1 := by rw [evs_len]; simp; omega
  rw [List.append_assoc, List.getElem?_append_right (by omega), hl]
  simp
theorem ev_get {k : Int} (h0 : 0 ≤ k) (hk : k < rows.length) : atI (ev ch rows) k = some (vE ch rows (2 * k)) := by
  rw [atI_of h0]
  unfold vE vl
  have e1 : 2 * k / 2 = k := by omega
  have e2 : ¬ (2 * k) % 2 = 1 := by omega
  have hl : (ev ch rows).length = rows.length := ev_len (by omega)
  rw [e1, decide_eq_false e2, List.getD_eq_getElem?_getD, List.getElem?_eq_getElem (by omega)]
  cases (ev ch rows)[k.toNat] <;> rfl
theorem vl_flip {tr : List Bool} {e : Int} : vl tr e = !decide (vl tr (2 * (e / 2)) = decide (e % 2 = 1)) := by
  unfold vl
  have e1 : 2 * (e / 2) / 2 = e / 2 := by omega
  have e2 : ¬ (2 * (e / 2)) % 2 = 1 := by omega
  rw [e1, decide_eq_false e2]
  cases tr.getD (e / 2).toNat false <;> cases decide (e % 2 = 1) <;> rfl
theorem V_letter (hp : 0 < rows.length) {k n : Int} (h0 : 0 < k) (h : atI rows k = some (lrow n)) : vE ch rows (2 * k) = ch n := by
  have hb := atI_bound (by omega) h
  have h1 := ev_get (ch := ch) (rows := rows) (k := k) (by omega) hb
  rw [atI_of (by omega), ev_row hp (k := k.toNat) (by omega) (by omega)] at h1
  rw [atI_of (by omega), List.getElem?_eq_getElem (by omega)] at h
  rw [Option.some.inj h] at h1
  exact (Option.some.inj h1).symm
theorem V_both (w : Wf P rows) {k a b : Int} (h0 : 0 < k) (h : atI rows k = some (brow a b)) : vE ch rows (2 * k) = (vE ch rows a && vE ch rows b) := by
  have wb := w.both h0 h
  have hb := atI_bound (by omega) h
  have h1 := ev_get (ch := ch) (rows := rows) (k := k) (by omega) hb
  have hx : Ext (rows.take k.toNat) rows := ⟨rows.drop k.toNat, (List.take_append_drop ..).symm⟩
  have hl : (rows.take k.toNat).length = k.toNat := by rw [List.length_take]; omega
  rw [V_ext hx (by omega) ⟨wb.1, by omega⟩, V_ext hx (by omega) ⟨wb.2.1, by omega⟩]
  rw [atI_of (by omega), ev_row w.pos (k := k.toNat) (by omega) (by omega)] at h1
  rw [atI_of (by omega), List.getElem?_eq_getElem (by omega)] at h
  rw [Option.some.inj h] at h1
  exact (Option.some.inj h1).symm
theorem V_first (h : 0 < rows.length) : vE ch rows 0 = false := by
  unfold vE ev vl
  obtain ⟨s, e⟩ := evs_pre ch rows.tail [false]
  rw [e]
  rfl
theorem V_opp {e : Int} (h0 : 0 ≤ e) : vE ch rows (m_law_opposite e) = !vE ch rows e := by
  unfold vE
  rw [vl_flip (e := m_law_opposite e), vl_flip (e := e)]
  have h1 : m_law_opposite e / 2 = e / 2 ∧ m_law_opposite e % 2 = 1 - e % 2 := by
    rcases (opp_iff (m_law_opposite e) e).mp rfl with ⟨a, b⟩ | ⟨a, b⟩ <;> omega
  rw [h1.1, h1.2]
  by_cases c : e % 2 = 1
  · rw [c]
    cases vl (ev ch rows) (2 * (e / 2)) <;> decide
  · have : e % 2 = 0 := by omega
    rw [this]
    cases vl (ev ch rows) (2 * (e / 2)) <;> decide
theorem opp_half {e : Int} : m_law_opposite e / 2 = e / 2 := by
  rcases (opp_iff (m_law_opposite e) e).mp rfl with ⟨a, b⟩ | ⟨a, b⟩ <;> omega
theorem V_edge {e : Int} : vE ch rows e = !decide (vE ch rows (2 * (e / 2)) = decide (e % 2 = 1)) := vl_flip
/-! the law's own sweep -/
theorem value_ok {e : Int} (g : Edge rows e) (hp : 0 < rows.length) : m_law_value (ev ch rows) e = some (vE ch rows e) := by
  unfold m_law_value
  have h0 : 0 ≤ e / 2 := Int.ediv_nonneg g.1 (by omega)
  rw [bs (ev_get h0 g.2), V_edge (e := e)]
theorem value_pre {tr : List Bool} {e : Int} (h0 : 0 ≤ e) (h : e / 2 < tr.length) : m_law_value tr e = some (vl tr e) := by
  unfold m_law_value vl
  have h1 : 0 ≤ e / 2 := Int.ediv_nonneg h0 (by omega)
  have e1 : atI tr (e / 2) = some (tr.getD (e / 2).toNat false) := by
    rw [atI_of h1, List.getD_eq_getElem?_getD, List.getElem?_eq_getElem (by omega)]
    rfl
  rw [bs e1]
end
end G

namespace G
open PySem PySem.Spec PyProof.Rows L2
section
variable {P : Int → Prop} {rows : List (List Key)} {roots : List Int} {ch : Int → Bool}
theorem truths_l1 (w : Wf P rows) (choices : List (Int × Bool)) (hc : ∀ n, (mget choices n).getD false = ch n) (hl : rows.length < 16777216) : ∀ (n i : Nat) (tr : List Bool), i + 1 + n = rows.length → tr.length = i + 1 →
    m_law_truths_l1 rows choices ((List.range' i n).map fun (j : Nat) => (1 : Int) + (j : Int)) tr = some (evs ch (rows.drop (i + 1)) tr)
  | 0, i, tr, h, _ => by
    rw [List.drop_eq_nil_of_le (by omega)]
    rfl
  | n + 1, i, tr, h, ht => by
    rw [List.range'_succ, List.map_cons, m_law_truths_l1, List.drop_eq_getElem_cons (by omega), evs]
    have e0 : (1 : Int) + (i : Int) = ((i + 1 : Nat) : Int) := by omega
    obtain ⟨r, e1, e2⟩ := w.at_ ((1 : Int) + (i : Int)) (by omega) (by omega)
    rw [bs e1]
    have e3 : rows[i + 1] = r := by
      rw [e0, atI_of (by omega)] at e1
      simpa [show i + 1 < rows.length by omega] using e1
    rw [e3]
    rcases e2 with ⟨m, hm, rfl⟩ | ⟨a, b, ha, hb, hak, hbk, rfl⟩
    · rw [bs (lrow0 m), if_pos (by simp), bs (lrow1 m), hc m, grd_t (decide_eq_true (by omega))]
      exact truths_l1 w choices hc hl n (i + 1) _ (by omega) (by simp [ht])
    · rw [bs (brow0 a b), if_neg (by rw [b_ne_l]; simp)]
      have eb : ((kInt (brow a b) (1 : Int)).bind fun y65 =>
        (m_law_value tr y65).bind fun y67 =>
        if y67 = true then ((kInt (brow a b) (2 : Int)).bind fun y70 =>
        (m_law_value tr y70).bind fun y72 =>
        some y72) else (some false)) = some (stp ch tr (brow a b)) := by
        rw [bs (brow1 a b), bs (value_pre ha (by omega))]
        show _ = some (vl tr a && vl tr b)
        cases vl tr a with
        | false => rfl
        | true => rw [if_pos rfl, bs (brow2 a b), bs (value_pre hb (by omega))]; rfl
      rw [bs eb, grd_t (decide_eq_true (by omega))]
      exact truths_l1 w choices hc hl n (i + 1) _ (by omega) (by simp [ht])
theorem truths_ok (w : Wf P rows) (choices : List (Int × Bool)) (hc : ∀ n, (mget choices n).getD false = ch n) (hl : rows.length < 16777216) : m_law_truths rows choices = some (ev ch rows) := by
  have hp := w.pos
  unfold m_law_truths
  rw [grd_t (rng2Ok_t (by omega) (by omega) (by omega) (by omega))]
  have e : pyRange 1 ((rows.length : Int) - 1).toNat = (List.range' 0 (rows.length - 1)).map fun (j : Nat) => (1 : Int) + (j : Int) := by
    unfold pyRange
    rw [List.range_eq_range', show ((rows.length : Int) - 1).toNat = rows.length - 1 by omega]
  rw [e, bs (truths_l1 w choices hc hl (rows.length - 1) 0 [false] (by omega) rfl)]
  rw [ev, List.drop_one]
end
end G

namespace G
open PySem PySem.Spec PyProof.Rows L2

section
variable {P : Int → Prop} {rows : List (List Key)} {roots : List Int} {ch : Int → Bool}
/-! the program's worths -/
theorem worths_l1 (G : M_Gates) (w : Wf P G.rows) (hr : ∀ e ∈ roots, Edge G.rows e) {c : List Int} (hcone : IsCone G.rows roots c) (choices : List (Int × Bool)) (hc : ∀ k ∈ c, ∀ n, atI G.rows k = some (lrow n) → mget choices n = some (ch n)) :
    ∀ (rest : List Int) (st : List (Int × Bool)), rest.Pairwise (· < ·) → (∀ x ∈ rest, x ∈ c) → (∀ x, x = 0 ∨ (x ∈ c ∧ x ∉ rest) → mget st x = some (vE ch G.rows (2 * x))) → (∀ x ∈ c, x ∉ rest → ∀ y ∈ rest, x < y) → st.length + rest.length < 16777216 →
    ∃ st', m_Gates_worths_l1 G choices rest st = some st' ∧ ∀ x, x = 0 ∨ x ∈ c → mget st' x = some (vE ch G.rows (2 * x))
  | [], st, _, _, h, _, _ => ⟨st, rfl, fun x hx => h x (hx.elim .inl fun h => .inr ⟨h, by simp⟩)⟩
  | k :: rest, st, hs, hin, h, hlt, hl => by
    have hk := hin k (.head _)
    have hk2 := IsCone.row w hr hcone hk
    have hs2 := List.pairwise_cons.mp hs
    have done : ∀ x, x = 0 ∨ x ∈ c → x < k → mget st x = some (vE ch G.rows (2 * x)) := by
      intro x hx hxk
      refine h x (hx.elim .inl fun h => .inr ⟨h, fun hm => ?_⟩)
      rcases List.mem_cons.mp hm with rfl | hm
      · omega
      · have := hs2.1 x hm; omega
    have step : ∀ v, v = vE ch G.rows (2 * k) → ∃ st', m_Gates_worths_l1 G choices rest (mput st k v) = some st' ∧ ∀ x, x = 0 ∨ x ∈ c → mget st' x = some (vE ch G.rows (2 * x)) := by
      rintro v rfl
      refine worths_l1 G w hr hcone choices hc rest _ hs2.2 (fun x hx => hin x (.tail _ hx)) ?_ ?_ ?_
      · intro x hx
        rw [mget_put]
        by_cases c1 : k = x
        · subst c1; rw [if_pos rfl]
        · rw [if_neg c1]
          refine h x (hx.elim .inl fun h => .inr ⟨h.1, fun hm => ?_⟩)
          rcases List.mem_cons.mp hm with rfl | hm
          · exact c1 rfl
          · exact h.2 hm
      · intro x hx hxr y hy
        by_cases c1 : x = k
        · subst c1; exact hs2.1 y hy
        · exact hlt x hx (by intro hm; rcases List.mem_cons.mp hm with rfl | hm; exact c1 rfl; exact hxr hm) y (.tail _ hy)
      · have := mput_len (xs := st) (k := k) (x := vE ch G.rows (2 * k))
        simp at hl; omega
    obtain ⟨r, e1, e2⟩ := hk2.2.2
    rw [m_Gates_worths_l1, bs e1]
    have hst : st.length < 16777216 := by omega
    rcases e2 with ⟨n, hn, rfl⟩ | ⟨a, b, ha, hb, hak, hbk, rfl⟩
    · rw [bs (lrow0 n), if_pos (by simp), bs (lrow1 n), bs (hc k hk n e1), grd_t (decide_eq_true hst)]
      exact step _ (V_letter w.pos hk2.1 e1).symm
    · have hcl := hcone.lo w hk e1
      rw [bs (brow0 a b), if_neg (by rw [b_ne_l]; simp), bs (brow1 a b), bs (done _ hcl.1 hak), bs (brow1 a b), bs (brow2 a b), bs (done _ hcl.2.1 hbk), bs (brow2 a b), grd_t (decide_eq_true hst)]
      refine step _ ?_
      rw [V_both w hk2.1 e1, V_edge (e := a), V_edge (e := b), and1, and1]
theorem worths_cone (G : M_Gates) (w : Wf P G.rows) (hr : ∀ e ∈ roots, Edge G.rows e) (choices : List (Int × Bool)) (hc : ∀ k n, Rch G.rows roots k → 0 < k → atI G.rows k = some (lrow n) → mget choices n = some (ch n)) (hl : roots.length + 2 * G.rows.length + 1 < 16777216) :
    m_Gates_worths G roots choices = some (roots.map fun e => vE ch G.rows e) := by
  unfold m_Gates_worths
  obtain ⟨c, h1, h2⟩ := cone_ok G w hr (by omega)
  have hcl := h2.len w hr
  rw [bs h1]
  obtain ⟨st, g1, g2⟩ := worths_l1 G w hr h2 choices (fun k hk n e => hc k n ((h2.2 k).mp hk).1 ((h2.2 k).mp hk).2 e) c [(0, false)] h2.1 (fun x h => h) (by
    intro x hx
    rcases hx with rfl | ⟨a, b⟩
    · show some false = some (vE ch G.rows 0)
      rw [V_first w.pos]
    · exact (b a).elim) (fun x hx hn => (hn hx).elim) (by simp; omega)
  rw [bs g1, grd_t (decide_eq_true (by omega))]
  have e : lcO (fun x114 => (mget st (x114 / (2 : Int))).bind fun y133 =>
        some (some (!decide (y133 = (decide ((Builtin.bitAnd x114 (1 : Int)) = (1 : Int))))))) roots = lcO (fun x => some (some (vE ch G.rows x))) roots := by
    refine lcO_congr fun x hx => ?_
    rw [bs (g2 _ (h2.root hr hx)), and1, V_edge (e := x)]
  rw [e, lc_map]
  rfl
theorem worths_ok (G : M_Gates) (w : Wf P G.rows) (hr : ∀ e ∈ roots, Edge G.rows e) (choices : List (Int × Bool)) (hc : ∀ n, P n → mget choices n = some (ch n)) (hl : roots.length + 2 * G.rows.length + 1 < 16777216) :
    m_Gates_worths G roots choices = some (roots.map fun e => vE ch G.rows e) :=
  worths_cone G w hr choices (fun k n _ h0 e => by
    obtain ⟨r, e1, e2⟩ := w.at_ k h0 (atI_bound (by omega) e)
    rw [e] at e1
    obtain rfl := Option.some.inj e1
    rcases e2 with ⟨m, hm, e3⟩ | ⟨a, b, _, _, _, _, e3⟩
    · have := congrArg (fun r => kInt r 1) e3
      have h2 : n = m := Option.some.inj this
      subst h2
      exact hc _ hm
    · exact (l_not_b e3).elim) hl
end
end G

namespace G
open PySem PySem.Spec PyProof.Rows L2

/-! ## what the row calls do to the worths -/
theorem fnd_get {row : List Key} : ∀ {rs : List (List Key)} {k : Nat}, fnd row rs = some k → rs[k]? = some row
  | r :: rs, k, h => by
    unfold fnd at h
    by_cases c : r = row
    · rw [if_pos c] at h; cases h; simp [c]
    · rw [if_neg c] at h
      cases e : fnd row rs with
      | none => rw [e] at h; cases h
      | some j =>
        rw [e] at h
        cases h
        simpa using fnd_get e
section
variable {P : Int → Prop} {rows : List (List Key)} {ch : Int → Bool}
theorem Wf.snoc (w : Wf P rows) {r : List Key} (h : RowAt P rows.length r) : Wf P (rows ++ [r]) where
  pos := by simp
  at_ := fun k h0 hk => by
    by_cases c : k < rows.length
    · obtain ⟨x, e1, e2⟩ := w.at_ k h0 c
      exact ⟨x, by rw [atI_app (by omega) c]; exact e1, e2⟩
    · have : k = rows.length := by simp at hk; omega
      subst this
      exact ⟨r, atI_last, h⟩
/-- a row call's outcome -/
structure RowOut (P : Int → Prop) (rows : List (List Key)) (row : List Key) (e : Int) (rows' : List (List Key)) : Prop where
  wf : Wf P rows'
  ext : Ext rows rows'
  edge : Edge rows' e
  at_ : ∃ k : Int, 0 < k ∧ e = 2 * k ∧ atI rows' k = some row
theorem row_out {G : M_Gates} (S : Sim G rows) (w : Wf P rows) {row : List Key} (hr : okRow row) (hn : row ≠ [Sum.inr ("no" : Str)]) (hl : rows.length < 16777216) (h : RowAt P rows.length row)
    {e : Int} {rows' : List (List Key)} (he : m_law_row rows row = some (e, rows')) : RowOut P rows row e rows' := by
  rw [law_row rows row S.ok hr hl] at he
  cases c : fnd row rows with
  | some k =>
    rw [c] at he
    obtain ⟨rfl, rfl⟩ := Prod.mk.inj (Option.some.inj he)
    have hk := fnd_lt c
    have hg := fnd_get c
    have h0 : 0 < k := by
      rcases Nat.eq_zero_or_pos k with rfl | h
      · obtain ⟨rs, e⟩ := S.first
        rw [e] at hg
        exact absurd (Option.some.inj hg).symm hn
      · exact h
    exact ⟨w, .refl _, ⟨by omega, by omega⟩, (k : Int), by omega, rfl, by rw [atI_of (by omega)]; exact hg⟩
  | none =>
    rw [c] at he
    obtain ⟨rfl, rfl⟩ := Prod.mk.inj (Option.some.inj he)
    have hp := w.pos
    exact ⟨w.snoc h, .one _ _, ⟨by omega, by simp; omega⟩, (rows.length : Int), by omega, rfl, atI_last⟩
theorem leaf_val {G : M_Gates} (S : Sim G rows) (w : Wf P rows) {n : Int} (hn : P n) (hl : rows.length < 16777216) {e : Int} {rows' : List (List Key)} (he : m_law_row rows (lrow n) = some (e, rows')) :
    Wf P rows' ∧ Ext rows rows' ∧ Edge rows' e ∧ ∀ ch, vE ch rows' e = ch n := by
  have o := row_out S w (ok_letter n) (by intro h; cases h) hl (.inl ⟨n, hn, rfl⟩) he
  obtain ⟨k, h0, rfl, h1⟩ := o.at_
  exact ⟨o.wf, o.ext, o.edge, fun ch => V_letter o.wf.pos h0 h1⟩
theorem V_yes (hp : 0 < rows.length) : vE ch rows 1 = true := by
  rw [V_edge]
  show (!decide (vE ch rows 0 = true)) = true
  rw [V_first hp]
  rfl
theorem both_val {G : M_Gates} (S : Sim G rows) (w : Wf P rows) {a b : Int} (ha : Edge rows a) (hb : Edge rows b) (hl : rows.length < 16777216) {e : Int} {rows' : List (List Key)} (he : m_law_both rows a b = some (e, rows')) :
    Wf P rows' ∧ Ext rows rows' ∧ Edge rows' e ∧ ∀ ch, vE ch rows' e = (vE ch rows a && vE ch rows b) := by
  have hp := w.pos
  unfold m_law_both at he
  by_cases c : a = 0 ∨ b = 0 ∨ a = m_law_opposite b
  · rw [if_pos (by simpa using c)] at he
    obtain ⟨rfl, rfl⟩ := Prod.mk.inj (Option.some.inj he)
    refine ⟨w, .refl _, ⟨by omega, by omega⟩, fun ch => ?_⟩
    rw [V_first hp]
    rcases c with rfl | rfl | rfl
    · rw [V_first hp]; rfl
    · rw [V_first hp, Bool.and_false]
    · rw [V_opp hb.1]; cases vE ch rows b <;> rfl
  · rw [if_neg (by simpa using c)] at he
    by_cases d1 : a = 1
    · subst d1
      rw [if_pos (by simp)] at he
      obtain ⟨rfl, rfl⟩ := Prod.mk.inj (Option.some.inj he)
      exact ⟨w, .refl _, hb, fun ch => by rw [V_yes hp, Bool.true_and]⟩
    · rw [if_neg (by simpa using d1)] at he
      by_cases d2 : b = 1 ∨ a = b
      · rw [if_pos (by simpa using d2)] at he
        obtain ⟨rfl, rfl⟩ := Prod.mk.inj (Option.some.inj he)
        refine ⟨w, .refl _, ha, fun ch => ?_⟩
        rcases d2 with rfl | rfl
        · rw [V_yes hp, Bool.and_true]
        · rw [Bool.and_self]
      · rw [if_neg (by simpa using d2)] at he
        obtain ⟨y, e1, e2⟩ := bnd he
        obtain ⟨rfl, rfl⟩ := Prod.mk.inj (Option.some.inj e2)
        have o := row_out S w (ok_both _ _) (by intro h; cases h) hl (.inr ⟨_, _, by split; exact hb.1; exact ha.1, by split; exact hb.1; exact ha.1, by split; exact hb.2; exact ha.2, by split; exact hb.2; exact ha.2, rfl⟩) (show m_law_row rows _ = some (y.1, y.2) from e1)
        obtain ⟨k, h0, hk, h1⟩ := o.at_
        refine ⟨o.wf, o.ext, o.edge, fun ch => ?_⟩
        rw [hk, V_both o.wf h0 h1, ← V_ext o.ext hp ha, ← V_ext o.ext hp hb]
        by_cases c2 : b < a
        · rw [if_pos c2, if_neg (by omega), Bool.and_comm]
        · rw [if_neg c2]
          by_cases c3 : b > a
          · rw [if_pos c3]
          · have : a = b := by omega
            exact (d2 (.inr this)).elim
end
end G

namespace G
open PySem PySem.Spec PyProof.Rows L2

/-! ## on which letters an edge hangs -/
/-- each letter reached from e is one of L -/
def Hng (rows : List (List Key)) (e : Int) (L : Int → Prop) : Prop := ∀ k n, Rch rows [e] k → 0 < k → atI rows k = some (lrow n) → L n
section
variable {P : Int → Prop} {rows : List (List Key)} {L : Int → Prop}
theorem Hng.mono {L' : Int → Prop} {e : Int} (h : Hng rows e L) (g : ∀ n, L n → L' n) : Hng rows e L' := fun k n r h0 a => g n (h k n r h0 a)
theorem Rch.half {e e' k : Int} (h : e / 2 = e' / 2) (r : Rch rows [e] k) : Rch rows [e'] k := by
  induction r with
  | root m => rw [List.mem_singleton.mp m, h]; exact .root (by simp)
  | lo _ h0 a ih => exact .lo ih h0 a
  | hi _ h0 a ih => exact .hi ih h0 a
theorem Hng.half {e e' : Int} (h : e / 2 = e' / 2) (g : Hng rows e L) : Hng rows e' L := fun k n r h0 a => g k n (r.half h.symm) h0 a
theorem Hng.opp {e : Int} (g : Hng rows e L) : Hng rows (m_law_opposite e) L := g.half opp_half.symm
theorem Hng.const {e : Int} (h : e / 2 = 0) : Hng rows e L := fun k n r h0 a => by
  have : k = 0 := by
    clear a h0
    induction r with
    | root m => rw [List.mem_singleton.mp m, h]
    | lo _ h0 a ih => omega
    | hi _ h0 a ih => omega
  omega
theorem Rch.ext {rows' : List (List Key)} (x : Ext rows rows') (w : Wf P rows) {e : Int} (he : Edge rows e) {k : Int} (r : Rch rows' [e] k) : Rch rows [e] k := by
  have hr : ∀ y ∈ [e], Edge rows y := by simpa using he
  induction r with
  | root m => exact .root m
  | lo _ h0 a ih =>
    have b := ih.bound w hr
    rw [x.at_ b.1 b.2] at a
    exact .lo ih h0 a
  | hi _ h0 a ih =>
    have b := ih.bound w hr
    rw [x.at_ b.1 b.2] at a
    exact .hi ih h0 a
theorem Hng.ext {rows' : List (List Key)} (x : Ext rows rows') (w : Wf P rows) {e : Int} (he : Edge rows e) (g : Hng rows e L) : Hng rows' e L := fun k n r h0 a => by
  have r' := r.ext x w he
  have b := r'.bound w (by simpa using he)
  rw [x.at_ b.1 b.2] at a
  exact g k n r' h0 a
theorem Hng.letter {e n : Int} (h : atI rows (e / 2) = some (lrow n)) (hn : L n) : Hng rows e L := fun k m r h0 a => by
  have : k = e / 2 := by
    clear a h0
    induction r with
    | root q => rw [List.mem_singleton.mp q]
    | lo _ h0 a ih =>
      rw [ih, h] at a
      exact (l_not_b (Option.some.inj a)).elim
    | hi _ h0 a ih =>
      rw [ih, h] at a
      exact (l_not_b (Option.some.inj a)).elim
  rw [this, h] at a
  have h2 := congrArg (fun r => kInt r 1) (Option.some.inj a)
  rw [← show n = m from Option.some.inj h2]
  exact hn
theorem Hng.row {e a b : Int} (h : atI rows (e / 2) = some (brow a b)) (ha : Hng rows a L) (hb : Hng rows b L) : Hng rows e L := fun k n r h0 q => by
  have : k = e / 2 ∨ Rch rows [a] k ∨ Rch rows [b] k := by
    clear q h0
    induction r with
    | root q => rw [List.mem_singleton.mp q]; exact .inl rfl
    | lo _ h0 q ih =>
      rcases ih with z | z | z
      · rw [z, h] at q
        obtain ⟨rfl, rfl⟩ := brow_inj (Option.some.inj q)
        exact .inr (.inl (.root (by simp)))
      · exact .inr (.inl (.lo z h0 q))
      · exact .inr (.inr (.lo z h0 q))
    | hi _ h0 q ih =>
      rcases ih with z | z | z
      · rw [z, h] at q
        obtain ⟨rfl, rfl⟩ := brow_inj (Option.some.inj q)
        exact .inr (.inr (.root (by simp)))
      · exact .inr (.inl (.hi z h0 q))
      · exact .inr (.inr (.hi z h0 q))
  rcases this with z | z | z
  · rw [z, h] at q
    exact (l_not_b (Option.some.inj q).symm).elim
  · exact ha k n z h0 q
  · exact hb k n z h0 q
theorem hng_leaf {G : M_Gates} (S : Sim G rows) (w : Wf P rows) {n : Int} (hp : P n) (hn : L n) (hl : rows.length < 16777216) {e : Int} {rows' : List (List Key)} (he : m_law_row rows (lrow n) = some (e, rows')) : Hng rows' e L := by
  obtain ⟨k, h0, rfl, h1⟩ := (row_out S w (ok_letter n) (by intro h; cases h) hl (.inl ⟨n, hp, rfl⟩) he).at_
  exact .letter (n := n) (by rw [show 2 * k / 2 = k by omega]; exact h1) hn
theorem hng_both {G : M_Gates} (S : Sim G rows) (w : Wf P rows) {a b : Int} (ha : Edge rows a) (hb : Edge rows b) (ga : Hng rows a L) (gb : Hng rows b L) (hl : rows.length < 16777216) {e : Int} {rows' : List (List Key)} (he : m_law_both rows a b = some (e, rows')) : Hng rows' e L := by
  unfold m_law_both at he
  by_cases c : a = 0 ∨ b = 0 ∨ a = m_law_opposite b
  · rw [if_pos (by simpa using c)] at he
    obtain ⟨rfl, rfl⟩ := Prod.mk.inj (Option.some.inj he)
    exact .const rfl
  · rw [if_neg (by simpa using c)] at he
    by_cases d1 : a = 1
    · subst d1
      rw [if_pos (by simp)] at he
      obtain ⟨rfl, rfl⟩ := Prod.mk.inj (Option.some.inj he)
      exact gb
    · rw [if_neg (by simpa using d1)] at he
      by_cases d2 : b = 1 ∨ a = b
      · rw [if_pos (by simpa using d2)] at he
        obtain ⟨rfl, rfl⟩ := Prod.mk.inj (Option.some.inj he)
        exact ga
      · rw [if_neg (by simpa using d2)] at he
        obtain ⟨y, e1, e2⟩ := bnd he
        obtain ⟨rfl, rfl⟩ := Prod.mk.inj (Option.some.inj e2)
        have o := row_out S w (ok_both _ _) (by intro h; cases h) hl (.inr ⟨_, _, by split; exact hb.1; exact ha.1, by split; exact hb.1; exact ha.1, by split; exact hb.2; exact ha.2, by split; exact hb.2; exact ha.2, rfl⟩) (show m_law_row rows _ = some (y.1, y.2) from e1)
        obtain ⟨k, h0, hk, h1⟩ := o.at_
        have xa := ga.ext o.ext w ha
        have xb := gb.ext o.ext w hb
        refine .row (by rw [hk, show 2 * k / 2 = k by omega]; exact h1) ?_ ?_
        · split
          · exact xb
          · exact xa
        · split
          · exact xb
          · exact xa
end
end G

namespace G
open PySem PySem.Spec PyProof.Rows L2

/-! ## misfit, both ways (k89) -/
def SA (s : Str) : Prop := s = ("some" : Str) ∨ s = ("all" : Str)
theorem other_eq {side s : Str} (h : SA side) (g : SA s) : decide (s = m_other side) = !decide (s = side) := by
  rcases h with rfl | rfl <;> rcases g with rfl | rfl <;> decide +kernel
/-- a dict's keys are a list's items -/
structure Rel (D : List (Int × Bool)) (L : List Int) : Prop where
  mem : ∀ k, (mget D k).isSome = true ↔ k ∈ L
  len : D.length ≤ L.length
theorem Rel.nil : Rel [] [] := ⟨fun k => by simp [mget], Nat.le_refl _⟩
theorem Rel.put {D : List (Int × Bool)} {L : List Int} (r : Rel D L) (k : Int) (b : Bool) : Rel (mput D k b) (L ++ [k]) where
  mem := fun j => by
    rw [mget_put, List.mem_append, List.mem_singleton]
    by_cases c : k = j
    · rw [if_pos c]; simp [c]
    · rw [if_neg c, r.mem]
      constructor
      · exact .inl
      · rintro (h | rfl)
        · exact h
        · exact (c rfl).elim
  len := by
    have := mput_len (xs := D) (k := k) (x := b)
    have := r.len
    simp; omega
theorem Rel.no {D : List (Int × Bool)} {L : List Int} (r : Rel D L) (k : Int) : (!(mget D k).isSome) = !decide (k ∈ L) := by
  by_cases c : k ∈ L
  · rw [(r.mem k).mpr c, decide_eq_true c]
  · have : (mget D k).isSome = false := by
      cases e : (mget D k).isSome with
      | false => rfl
      | true => exact (c ((r.mem k).mp e)).elim
    rw [this, decide_eq_false c]
section
variable {P : Int → Prop} {G : M_Gates}
theorem plan_l2 (p : Int × Str) (st : List (Int × Bool) × List (Int × Bool)) {L : List Int} (r : Rel st.2 L) : ∀ ls : List Int,
    m_Plan_misfit_l2 p st ls () = some (if ∀ n ∈ ls, n ∈ L then .done () else .ret (some p.1))
  | [] => by simp [m_Plan_misfit_l2]
  | n :: ls => by
    rw [m_Plan_misfit_l2, r.no]
    by_cases c : n ∈ L
    · rw [if_neg (by simpa using c), plan_l2 p st r ls]
      congr 1
      by_cases d : ∀ m ∈ ls, m ∈ L
      · rw [if_pos d, if_pos (by intro m hm; rcases List.mem_cons.mp hm with rfl | h; exact c; exact d m h)]
      · rw [if_neg d, if_neg (fun h => d fun m hm => h m (.tail _ hm))]
    · rw [if_pos (by simpa using c), if_neg (fun h => c (h n (.head _)))]
theorem law_l2 (rows : List (List Key)) (p : Int × Str) (st : List Int × List Int) : ∀ c : List Int, (∀ k ∈ c, ∃ r, atI rows k = some r ∧ RowAt P k r) →
    (m_law_misfit_l2 rows p st c () = some (.done ()) ∧ ∀ k ∈ c, ∀ n, atI rows k = some (lrow n) → n ∈ st.2) ∨ (m_law_misfit_l2 rows p st c () = some (.ret (some p.1)) ∧ ¬ ∀ k ∈ c, ∀ n, atI rows k = some (lrow n) → n ∈ st.2)
  | [], _ => .inl ⟨rfl, by simp⟩
  | k :: c, h => by
    obtain ⟨r, e1, e2⟩ := h k (.head _)
    rw [m_law_misfit_l2]
    have go : ∀ b : Bool, (b = false ↔ ∀ n, atI rows k = some (lrow n) → n ∈ st.2) →
      ((if b = true then (some (Flw.ret (some p.1))) else (m_law_misfit_l2 rows p st c ())) = some (.done ()) ∧ ∀ j ∈ k :: c, ∀ n, atI rows j = some (lrow n) → n ∈ st.2) ∨
      ((if b = true then (some (Flw.ret (some p.1))) else (m_law_misfit_l2 rows p st c ())) = some (.ret (some p.1)) ∧ ¬ ∀ j ∈ k :: c, ∀ n, atI rows j = some (lrow n) → n ∈ st.2) := by
      intro b hb
      cases b with
      | false =>
        have hk := hb.mp rfl
        rw [if_neg (by simp)]
        rcases law_l2 rows p st c (fun j hj => h j (.tail _ hj)) with ⟨a, d⟩ | ⟨a, d⟩
        · exact .inl ⟨a, by intro j hj; rcases List.mem_cons.mp hj with rfl | hj; exact hk; exact d j hj⟩
        · exact .inr ⟨a, fun g => d fun j hj => g j (.tail _ hj)⟩
      | true =>
        rw [if_pos rfl]
        exact .inr ⟨rfl, fun g => Bool.noConfusion (hb.mpr (g k (.head _)))⟩
    rcases e2 with ⟨n, _, rfl⟩ | ⟨a, b, _, _, _, _, rfl⟩
    · rw [bs (x := !decide (n ∈ st.2)) (by rw [bs e1, bs (lrow0 n), if_pos (by simp), bs e1, bs (lrow1 n)])]
      refine go _ ⟨?_, ?_⟩
      · intro z m hm
        rw [e1] at hm
        have := congrArg (fun r => kInt r 1) (Option.some.inj hm)
        rw [← show n = m from Option.some.inj this]
        simpa using z
      · intro z
        simpa using z n e1
    · rw [bs (x := false) (by rw [bs e1, bs (brow0 a b), if_neg (by rw [b_ne_l]; simp)])]
      refine go _ ⟨?_, ?_⟩
      · intro _ m hm
        rw [e1] at hm
        exact (l_not_b (Option.some.inj hm).symm).elim
      · intro _; rfl
theorem lcO_cons {α β : Type} {f : α → Option (Option β)} {x : α} {t : List α} : lcO f (x :: t) = ((f x).bind fun y => (lcO f t).bind fun r => some (match y with | none => r | some b => b :: r)) := rfl
/-- the letters of a cone -/
theorem letters_lcO {rows : List (List Key)} : ∀ {c : List Int}, (∀ k ∈ c, ∃ r, atI rows k = some r ∧ RowAt P k r) → ∃ r, lcO (fun x => (atI rows x).bind fun y => (kStr y (0 : Int)).bind fun z => if (decide (z = ("letter" : Str))) = true then ((atI rows x).bind fun y48 =>
        (kInt y48 (1 : Int)).bind fun y55 => some (some y55)) else some none) c = some r ∧ ∀ n, n ∈ r ↔ ∃ k ∈ c, atI rows k = some (lrow n)
  | [], _ => ⟨[], rfl, by simp⟩
  | k :: c, h => by
    obtain ⟨r, e1, e2⟩ := letters_lcO (c := c) fun j hj => h j (.tail _ hj)
    obtain ⟨q, q1, q2⟩ := h k (.head _)
    rcases q2 with ⟨n, _, rfl⟩ | ⟨a, b, _, _, _, _, rfl⟩
    · refine ⟨n :: r, ?_, fun m => ?_⟩
      · rw [lcO_cons, bs (x := some n) (by rw [bs q1, bs (lrow0 n), if_pos (by simp), bs q1, bs (lrow1 n)]), bs e1]
      · rw [List.mem_cons, e2]
        constructor
        · rintro (rfl | ⟨j, hj, e⟩)
          · exact ⟨k, .head _, q1⟩
          · exact ⟨j, .tail _ hj, e⟩
        · rintro ⟨j, hj, e⟩
          rcases List.mem_cons.mp hj with rfl | hj
          · rw [q1] at e
            have := congrArg (fun r => kInt r 1) (Option.some.inj e)
            exact .inl (Option.some.inj this).symm
          · exact .inr ⟨j, hj, e⟩
    · refine ⟨r, ?_, fun m => ?_⟩
      · rw [lcO_cons, bs (x := none) (by rw [bs q1, bs (brow0 a b), if_neg (by rw [b_ne_l]; simp)]), bs e1]
      · rw [e2]
        constructor
        · rintro ⟨j, hj, e⟩
          exact ⟨j, .tail _ hj, e⟩
        · rintro ⟨j, hj, e⟩
          rcases List.mem_cons.mp hj with rfl | hj
          · rw [q1] at e
            exact (l_not_b (Option.some.inj e).symm).elim
          · exact ⟨j, hj, e⟩
theorem hangs_mem (w : Wf P G.rows) {e : Int} (he : Edge G.rows e) (hl : 2 * G.rows.length + 1 < 16777216) :
    ∃ ls c, m_Gates_hangs_on G e = some ls ∧ m_law_reached G.rows [e] = some c ∧ IsCone G.rows [e] c ∧ (∀ k ∈ c, ∃ r, atI G.rows k = some r ∧ RowAt P k r) ∧ ∀ n, n ∈ ls ↔ ∃ k ∈ c, atI G.rows k = some (lrow n) := by
  have hr : ∀ y ∈ [e], Edge G.rows y := by simpa using he
  obtain ⟨c, c1, c2⟩ := cone_ok G w hr (by simp; omega)
  obtain ⟨c', d1, d2⟩ := reached_ok w hr (by omega)
  obtain rfl := c2.uniq d2
  have hcl := c2.len w hr
  have hrow : ∀ k ∈ c, ∃ r, atI G.rows k = some r ∧ RowAt P k r := fun k hk => (IsCone.row w hr c2 hk).2.2
  obtain ⟨r, e1, e2⟩ := letters_lcO (P := P) hrow
  refine ⟨sortI r, c, ?_, d1, c2, hrow, fun n => by rw [mem_sortI, e2]⟩
  unfold m_Gates_hangs_on
  rw [bs c1, grd_t (decide_eq_true (by omega)), bs e1]
/-- what a plan must keep along an order -/
def Fit (rows : List (List Key)) (side : Str) (t : List (Int × Int)) : List (Int × Str) → List Int → Prop
  | [], _ => True
  | p :: r, ahead => (p.2 = side → (∃ e, mget t p.1 = some e ∧ Hng rows e (· ∈ ahead)) ∧ Fit rows side t r ahead) ∧ (p.2 ≠ side → Fit rows side t r (ahead ++ [p.1]))
def oth (side : Str) (order : List (Int × Str)) : List Int := (order.filter fun p => !decide (p.2 = side)).map (·.1)
def mine (side : Str) (order : List (Int × Str)) : List Int := (order.filter fun p => decide (p.2 = side)).map (·.1)
theorem mis_l1 (w : Wf P G.rows) (hl : 2 * G.rows.length + 1 < 16777216) {pt t : List (Int × Int)} (same : ∀ k, mget pt k = mget t k) (he : ∀ k e, mget t k = some e → Edge G.rows e) {side : Str} (hs : SA side) :
    ∀ (order : List (Int × Str)) (own ahead : List Int) (ownD aheadD : List (Int × Bool)), (∀ p ∈ order, SA p.2) → Rel ownD own → Rel aheadD ahead → own.length + ahead.length + order.length < 1000 →
    (∃ r, m_Plan_misfit_l1 (M_Plan.mk side G pt) order (ownD, aheadD) = some (.ret (some r)) ∧ m_law_misfit_l1 G.rows side t order (own, ahead) = some (.ret (some r)) ∧ ¬ Fit G.rows side t order ahead) ∨
    (∃ ownD' aheadD', m_Plan_misfit_l1 (M_Plan.mk side G pt) order (ownD, aheadD) = some (.done (ownD', aheadD')) ∧ m_law_misfit_l1 G.rows side t order (own, ahead) = some (.done (own ++ mine side order, ahead ++ oth side order)) ∧
      Rel ownD' (own ++ mine side order) ∧ Fit G.rows side t order ahead)
  | [], own, ahead, ownD, aheadD, _, r1, r2, _ => .inr ⟨ownD, aheadD, rfl, by show some _ = _; simp [mine, oth], by simpa [mine] using r1, trivial⟩
  | p :: order, own, ahead, ownD, aheadD, ho, r1, r2, hn => by
    have hn' : own.length + ahead.length + (order.length + 1) < 1000 := hn
    have l1 := r1.len
    have l2 := r2.len
    rw [m_Plan_misfit_l1, m_law_misfit_l1]
    dsimp only
    rw [other_eq hs (ho p (.head _))]
    by_cases c : p.2 = side
    · have c' : ¬ (!decide (p.2 = side)) = true := by simp [c]
      rw [if_neg c', if_neg c', grd_t (decide_eq_true (by omega)), grd_t (decide_eq_true (by omega)), same]
      have em : mine side (p :: order) = p.1 :: mine side order := by simp [mine, c]
      have eo : oth side (p :: order) = oth side order := by simp [oth, c]
      cases q : mget t p.1 with
      | none =>
        refine .inl ⟨p.1, rfl, rfl, fun f => ?_⟩
        obtain ⟨e, h1, _⟩ := (f.1 c).1
        rw [q] at h1
        cases h1
      | some e =>
        rw [if_neg (by simp), if_neg (by simp)]
        obtain ⟨ls, cn, g1, g2, g3, g4, g5⟩ := hangs_mem w (he _ _ q) hl
        rw [bs rfl, bs (show m_Gates_hangs_on (M_Gates.mk G.rows G.known) e = some ls from g1), plan_l2 p (ownD, aheadD) r2 ls, bs rfl, bs (x := e) rfl, bs g2]
        have hq : (∀ n ∈ ls, n ∈ ahead) ↔ Hng G.rows e (· ∈ ahead) :=
          ⟨fun h k n rk h0 a => h n ((g5 n).mpr ⟨k, (g3.2 k).mpr ⟨rk, h0⟩, a⟩), fun h n hn => by
            obtain ⟨k, hk, a⟩ := (g5 n).mp hn
            exact h k n ((g3.2 k).mp hk).1 ((g3.2 k).mp hk).2 a⟩
        have hq2 : (∀ k ∈ cn, ∀ n, atI G.rows k = some (lrow n) → n ∈ ahead) ↔ Hng G.rows e (· ∈ ahead) :=
          ⟨fun h k n rk h0 a => h k ((g3.2 k).mpr ⟨rk, h0⟩) n a, fun h k hk n a => h k n ((g3.2 k).mp hk).1 ((g3.2 k).mp hk).2 a⟩
        rcases law_l2 (P := P) G.rows p (own, ahead) cn g4 with ⟨z1, z2⟩ | ⟨z1, z2⟩
        · have f := hq2.mp z2
          rw [if_pos (hq.mpr f), bs z1]
          rcases mis_l1 w hl same he hs order (own ++ [p.1]) ahead (mput ownD p.1 true) aheadD (fun x hx => ho x (.tail _ hx)) (r1.put _ _) r2 (by simp; omega) with ⟨r, a1, a2, a3⟩ | ⟨oD, aD, a1, a2, a3, a4⟩
          · exact .inl ⟨r, a1, a2, fun z => a3 (z.1 c).2⟩
          · refine .inr ⟨oD, aD, a1, ?_, ?_, fun _ => ⟨⟨e, q, f⟩, a4⟩, fun z => (z c).elim⟩
            · rw [em, eo]
              rw [List.append_assoc] at a2
              exact a2
            · rw [em]
              rw [List.append_assoc] at a3
              exact a3
        · have f : ¬ Hng G.rows e (· ∈ ahead) := fun z => z2 (hq2.mpr z)
          rw [if_neg (fun z => f (hq.mp z)), bs z1]
          refine .inl ⟨p.1, rfl, rfl, fun z => ?_⟩
          obtain ⟨e', h1, h2⟩ := (z.1 c).1
          rw [q] at h1
          obtain rfl := Option.some.inj h1
          exact f h2
    · have c' : (!decide (p.2 = side)) = true := by simp [c]
      rw [if_pos c', if_pos c', grd_t (decide_eq_true (by omega)), grd_t (decide_eq_true (by omega))]
      have em : mine side (p :: order) = mine side order := by simp [mine, c]
      have eo : oth side (p :: order) = p.1 :: oth side order := by simp [oth, c]
      rcases mis_l1 w hl same he hs order own (ahead ++ [p.1]) ownD (mput aheadD p.1 true) (fun x hx => ho x (.tail _ hx)) r1 (r2.put _ _) (by simp; omega) with ⟨r, a1, a2, a3⟩ | ⟨oD, aD, a1, a2, a3, a4⟩
      · exact .inl ⟨r, a1, a2, fun z => a3 (z.2 c)⟩
      · refine .inr ⟨oD, aD, a1, ?_, by rw [em]; exact a3, fun z => (c z).elim, fun _ => a4⟩
        rw [em, eo]
        rw [List.append_assoc] at a2
        exact a2
theorem mis_l3 (stD : List (Int × Bool) × List (Int × Bool)) (st : List Int × List Int) (r : Rel stD.1 st.1) : ∀ ks : List Int,
    (∃ k, m_Plan_misfit_l3 stD ks () = some (.ret (some k)) ∧ m_law_misfit_l3 st ks () = some (.ret (some k)) ∧ ¬ ∀ k ∈ ks, k ∈ st.1) ∨
    (m_Plan_misfit_l3 stD ks () = some (.done ()) ∧ m_law_misfit_l3 st ks () = some (.done ()) ∧ ∀ k ∈ ks, k ∈ st.1)
  | [] => .inr ⟨rfl, rfl, by simp⟩
  | k :: ks => by
    rw [m_Plan_misfit_l3, m_law_misfit_l3, r.no]
    by_cases c : k ∈ st.1
    · rw [if_neg (by simpa using c), if_neg (by simpa using c)]
      rcases mis_l3 stD st r ks with ⟨j, a, b, d⟩ | ⟨a, b, d⟩
      · exact .inl ⟨j, a, b, fun z => d fun x hx => z x (.tail _ hx)⟩
      · exact .inr ⟨a, b, fun x hx => by rcases List.mem_cons.mp hx with rfl | h; exact c; exact d x h⟩
    · rw [if_pos (by simpa using c), if_pos (by simpa using c)]
      exact .inl ⟨k, rfl, rfl, fun z => c (z k (.head _))⟩
/-- both misfits: alike, None exactly if the plan fits -/
theorem misfit_ok (w : Wf P G.rows) (hl : 2 * G.rows.length + 1 < 16777216) {pt t : List (Int × Int)} (same : ∀ k, mget pt k = mget t k) (keys : (pt.map fun (q : Int × Int) => q.1) = sortI (t.map fun (q : Int × Int) => q.1)) (ht : t.length < 1000)
    (he : ∀ k e, mget t k = some e → Edge G.rows e) {side : Str} (hs : SA side) {order : List (Int × Str)} (ho : ∀ p ∈ order, SA p.2) (hn : order.length < 1000) :
    ∃ r, m_Plan_misfit (M_Plan.mk side G pt) order = some r ∧ m_law_misfit G.rows order side t = some r ∧ (r = none ↔ Fit G.rows side t order [] ∧ ∀ k ∈ t.map (fun (q : Int × Int) => q.1), k ∈ mine side order) := by
  unfold m_Plan_misfit m_law_misfit
  rcases mis_l1 w hl same he hs order [] [] [] [] ho .nil .nil (by simpa using hn) with ⟨r, a1, a2, a3⟩ | ⟨oD, aD, a1, a2, a3, a4⟩
  · refine ⟨some r, ?_, ?_, ?_⟩
    · rw [bs a1]
    · rw [bs a2]
    · constructor
      · intro z; cases z
      · intro z; exact (a3 z.1).elim
  · rw [bs a1, bs a2]
    dsimp only
    rw [grd_t (decide_eq_true (by rw [List.length_map]; omega)), keys, List.map_id']
    rcases mis_l3 (oD, aD) ([] ++ mine side order, [] ++ oth side order) a3 (sortI (t.map fun (q : Int × Int) => q.1)) with ⟨k, b1, b2, b3⟩ | ⟨b1, b2, b3⟩
    · refine ⟨some k, by rw [bs b1], by rw [bs b2], ?_⟩
      constructor
      · intro z; cases z
      · intro z; exact (b3 fun x hx => z.2 x (mem_sortI.mp hx)).elim
    · refine ⟨none, by rw [bs b1], by rw [bs b2], fun _ => ⟨a4, fun k hk => b3 k (mem_sortI.mpr hk)⟩, fun _ => rfl⟩
end
end G

namespace G
open PySem PySem.Spec PyProof.Rows L2

/-! ## plans: the table in sequence, gate_count, answers (k89) -/
theorem dcO_cons {κ α β : Type} [DecidableEq κ] {f : α → Option (Option (κ × β))} {m : List (κ × β)} {x : α} {t : List α} : dcO f m (x :: t) = ((f x).bind fun y => dcO f (match y with | none => m | some p => mput m p.1 p.2) t) := rfl
theorem dcO_new {κ α β : Type} [DecidableEq κ] {f : α → Option (Option (κ × β))} {kf : α → κ} {vf : α → β} : ∀ (xs : List α) (m : List (κ × β)), (∀ x ∈ xs, f x = some (some (kf x, vf x))) → (xs.map kf).Nodup → (∀ x ∈ xs, mget m (kf x) = none) →
    dcO f m xs = some (m ++ xs.map fun x => (kf x, vf x))
  | [], m, _, _, _ => by simp [dcO]
  | x :: xs, m, h, hn, hm => by
    have hn2 := List.nodup_cons.mp (by simpa using hn : (kf x :: xs.map kf).Nodup)
    rw [dcO_cons, bs (h x (.head _))]
    dsimp only
    rw [mget_put_new (hm x (.head _)), dcO_new xs _ (fun y hy => h y (.tail _ hy)) hn2.2 ?_]
    · simp
    · intro y hy
      rw [mget_snoc, hm y (.tail _ hy)]
      dsimp only
      rw [if_neg]
      intro e
      exact hn2.1 (List.mem_map.mpr ⟨y, hy, e.symm⟩)
theorem mget_pairs {κ α : Type} [DecidableEq κ] (g : κ → α) : ∀ (xs : List κ) (k : κ), mget (xs.map fun x => (x, g x)) k = if k ∈ xs then some (g k) else none
  | [], k => by simp [mget]
  | x :: xs, k => by
    rw [List.map_cons, mget_cons, mget_pairs g xs k]
    by_cases c : x = k
    · subst c; rw [if_pos rfl, if_pos (.head _)]
    · dsimp only
      rw [if_neg c]
      by_cases d : k ∈ xs
      · rw [if_pos d, if_pos (.tail _ d)]
      · rw [if_neg d, if_neg (by intro h; rcases List.mem_cons.mp h with rfl | h; exact c rfl; exact d h)]
theorem mget_is {κ α : Type} [DecidableEq κ] {xs : List (κ × α)} {k : κ} (h : k ∈ xs.map (·.1)) : ∃ x, mget xs k = some x := by
  cases e : mget xs k with
  | some x => exact ⟨x, rfl⟩
  | none => exact (mget_none.mp e h).elim
theorem mget_of_mem {κ α : Type} [DecidableEq κ] : ∀ {xs : List (κ × α)}, (xs.map (·.1)).Nodup → ∀ p ∈ xs, mget xs p.1 = some p.2
  | q :: xs, h, p, hp => by
    have h2 := List.nodup_cons.mp (by simpa using h : (q.1 :: xs.map (·.1)).Nodup)
    rw [mget_cons]
    rcases List.mem_cons.mp hp with rfl | hp
    · rw [if_pos rfl]
    · rw [if_neg (by intro e; exact h2.1 (e ▸ List.mem_map.mpr ⟨p, hp, rfl⟩)), mget_of_mem h2.2 p hp]
theorem mem_of_mget {κ α : Type} [DecidableEq κ] : ∀ {xs : List (κ × α)} {k : κ} {x : α}, mget xs k = some x → (k, x) ∈ xs
  | p :: xs, k, x, h => by
    rw [mget_cons] at h
    by_cases c : p.1 = k
    · rw [if_pos c] at h
      cases h
      subst c
      exact .head _
    · rw [if_neg c] at h
      exact .tail _ (mem_of_mget h)
/-- a plan's table: the same words, the keys ascending -/
structure PT (pt t : List (Int × Int)) : Prop where
  same : ∀ k, mget pt k = mget t k
  keys : (pt.map fun (q : Int × Int) => q.1) = sortI (t.map fun (q : Int × Int) => q.1)
  nd : (pt.map fun (q : Int × Int) => q.1).Nodup
theorem init_ok (side : Str) (G : M_Gates) {t : List (Int × Int)} (hn : (t.map fun (q : Int × Int) => q.1).Nodup) (hl : t.length < 1000) : ∃ pt, m_Plan_init side G t = some (M_Plan.mk side G pt) ∧ PT pt t := by
  have hs : (sortI (t.map fun (q : Int × Int) => q.1)).Nodup := (sortI_perm _).nodup_iff.mpr hn
  let g : Int → Int := fun k => (mget t k).getD 0
  refine ⟨(sortI (t.map fun (q : Int × Int) => q.1)).map fun x => (x, g x), ?_, ?_, ?_, ?_⟩
  · unfold m_Plan_init
    rw [grd_t (decide_eq_true (by rw [sortI_len, List.length_map]; omega)), bs (dcO_new (kf := fun x => x) (vf := g) _ [] ?_ (by simpa using hs) (fun _ _ => rfl))]
    · rfl
    · intro x hx
      obtain ⟨e, he⟩ := mget_is (xs := t) (k := x) (mem_sortI.mp hx)
      rw [bs he]
      show _ = some (some (x, (mget t x).getD 0))
      rw [he]
      rfl
  · intro k
    rw [mget_pairs g]
    by_cases c : k ∈ t.map fun (q : Int × Int) => q.1
    · obtain ⟨e, he⟩ := mget_is (xs := t) (k := k) c
      rw [if_pos (mem_sortI.mpr c), he]
      show some ((mget t k).getD 0) = _
      rw [he]; rfl
    · rw [if_neg (fun h => c (mem_sortI.mp h))]
      exact (mget_none.mpr c).symm
  · rw [List.map_map]
    show List.map (fun x => x) _ = _
    rw [List.map_id']
  · rw [List.map_map]
    show (List.map (fun x => x) _).Nodup
    rw [List.map_id']
    exact hs
theorem dictEq_pt {pt t : List (Int × Int)} (h : PT pt t) : dictEq pt t = true := by
  unfold dictEq
  have hl : pt.length = t.length := by
    have := congrArg List.length h.keys
    rw [sortI_len, List.length_map, List.length_map] at this
    exact this
  simp only [Bool.and_eq_true, decide_eq_true_eq, List.all_eq_true]
  refine ⟨hl, fun p hp => ?_⟩
  rw [← h.same]
  exact mget_of_mem h.nd p hp
/-- the values of the keys in sequence -/
theorem vals_lcO {t : List (Int × Int)} (hn : (t.map fun (q : Int × Int) => q.1).Nodup) : lcO (fun x => (mget t x).bind fun y => some (some y)) (t.map fun (q : Int × Int) => q.1) = some (t.map Prod.snd) := by
  have : ∀ (u : List (Int × Int)), (∀ p ∈ u, p ∈ t) → lcO (fun x => (mget t x).bind fun y => some (some y)) (u.map fun (q : Int × Int) => q.1) = some (u.map Prod.snd) := by
    intro u
    induction u with
    | nil => intro _; rfl
    | cons p u ih =>
      intro h
      rw [List.map_cons, lcO_cons, bs (x := some p.2) (by rw [bs (mget_of_mem hn p (h p (.head _)))]), bs (ih fun q hq => h q (.tail _ hq))]
      rfl
  exact this t fun _ h => h
theorem edges_ok (side : Str) (G : M_Gates) {pt : List (Int × Int)} (hn : (pt.map fun (q : Int × Int) => q.1).Nodup) (hl : pt.length < 1000) : m_Plan_edges (M_Plan.mk side G pt) = some (pt.map Prod.snd) := by
  unfold m_Plan_edges
  rw [grd_t (decide_eq_true (by rw [List.length_map]; show pt.length < _; omega)), bs (vals_lcO hn)]
theorem Rch.sub {rows : List (List Key)} {r1 r2 : List Int} (h : ∀ e ∈ r1, e ∈ r2) {k : Int} (r : Rch rows r1 k) : Rch rows r2 k := by
  induction r with
  | root m => exact .root (h _ m)
  | lo _ h0 a ih => exact .lo ih h0 a
  | hi _ h0 a ih => exact .hi ih h0 a
theorem Rch.one {rows : List (List Key)} {roots : List Int} {k : Int} (r : Rch rows roots k) : ∃ e ∈ roots, Rch rows [e] k := by
  induction r with
  | root m => exact ⟨_, m, .root (by simp)⟩
  | lo _ h0 a ih => obtain ⟨e, m, r⟩ := ih; exact ⟨e, m, .lo r h0 a⟩
  | hi _ h0 a ih => obtain ⟨e, m, r⟩ := ih; exact ⟨e, m, .hi r h0 a⟩
section
variable {P : Int → Prop} {G : M_Gates}
theorem gates_lcO {rows : List (List Key)} {c : List Int} (h : ∀ k ∈ c, ∃ r, atI rows k = some r ∧ RowAt P k r) : ∃ r, lcO (fun x => (atI rows x).bind fun y => (kStr y (0 : Int)).bind fun z => if (decide (z = ("both" : Str))) = true then (some (some x)) else some none) c = some r ∧ r.length ≤ c.length := by
  refine lcO_some fun k hk => ?_
  obtain ⟨r, e1, e2⟩ := h k hk
  rcases e2 with ⟨n, _, rfl⟩ | ⟨a, b, _, _, _, _, rfl⟩
  · exact ⟨none, by rw [bs e1, bs (lrow0 n), if_neg (by rw [l_ne_b]; simp)]⟩
  · exact ⟨some k, by rw [bs e1, bs (brow0 a b), if_pos (by simp)]⟩
theorem vals_mem {pt t : List (Int × Int)} (h : PT pt t) (hn : (t.map fun (q : Int × Int) => q.1).Nodup) (e : Int) : e ∈ pt.map Prod.snd ↔ e ∈ t.map Prod.snd := by
  constructor
  · intro m
    obtain ⟨p, hp, rfl⟩ := List.mem_map.mp m
    have := mget_of_mem h.nd p hp
    rw [h.same] at this
    exact List.mem_map.mpr ⟨_, mem_of_mget this, rfl⟩
  · intro m
    obtain ⟨p, hp, rfl⟩ := List.mem_map.mp m
    have := mget_of_mem hn p hp
    rw [← h.same] at this
    exact List.mem_map.mpr ⟨_, mem_of_mget this, rfl⟩
theorem count_ok (w : Wf P G.rows) (side : Str) {pt t : List (Int × Int)} (h : PT pt t) (hn : (t.map fun (q : Int × Int) => q.1).Nodup) (hl : t.length < 1000) (hr : G.rows.length < 100000) (he : ∀ k e, mget t k = some e → Edge G.rows e) :
    ∃ c g, m_Plan_gate_count (M_Plan.mk side G pt) = some (g.length : Int) ∧ lcO (fun x => (mget t x).bind fun y => some (some y)) (t.map fun (q : Int × Int) => q.1) = some (t.map Prod.snd) ∧ m_law_reached G.rows (t.map Prod.snd) = some c ∧ c.length < 16777216 ∧
      lcO (fun x => (atI G.rows x).bind fun y => (kStr y (0 : Int)).bind fun z => if (decide (z = ("both" : Str))) = true then (some (some x)) else some none) c = some g := by
  have hpl : pt.length = t.length := by
    have := congrArg List.length h.keys
    rw [sortI_len, List.length_map, List.length_map] at this
    exact this
  have hrt : ∀ e ∈ t.map Prod.snd, Edge G.rows e := fun e m => by
    obtain ⟨p, hp, rfl⟩ := List.mem_map.mp m
    exact he p.1 _ (mget_of_mem hn p hp)
  have hrp : ∀ e ∈ pt.map Prod.snd, Edge G.rows e := fun e m => hrt e ((vals_mem h hn e).mp m)
  obtain ⟨c, c1, c2⟩ := cone_ok G w hrp (by rw [List.length_map]; omega)
  obtain ⟨c', d1, d2⟩ := reached_ok w hrt (by omega)
  have : IsCone G.rows (t.map Prod.snd) c := ⟨c2.1, fun x => (c2.2 x).trans ⟨fun z => ⟨z.1.sub fun e m => (vals_mem h hn e).mp m, z.2⟩, fun z => ⟨z.1.sub fun e m => (vals_mem h hn e).mpr m, z.2⟩⟩⟩
  obtain rfl := this.uniq d2
  have hcl := c2.len w hrp
  obtain ⟨g, g1, g2⟩ := gates_lcO (P := P) (rows := G.rows) (c := c) fun k hk => (IsCone.row w hrp c2 hk).2.2
  refine ⟨c, g, ?_, vals_lcO hn, d1, by omega, g1⟩
  unfold m_Plan_gate_count
  rw [bs (show m_Plan_edges (M_Plan.mk side (M_Gates.mk G.rows G.known) pt) = _ from edges_ok side G h.nd (by omega))]
  rw [bs (show m_Gates_gate_rows (M_Gates.mk G.rows G.known) (pt.map Prod.snd) = some g by
    unfold m_Gates_gate_rows
    rw [bs (show m_Gates_cone (M_Gates.mk G.rows G.known) _ = _ from c1), grd_t (decide_eq_true (by omega)), bs g1])]
theorem zip_map {α β γ : Type} (f : α → β) (g : α → γ) : ∀ xs : List α, (xs.map f).zip (xs.map g) = xs.map fun x => (f x, g x)
  | [] => rfl
  | x :: xs => by simp [zip_map f g xs]
theorem ans_l1 {rows : List (List Key)} {t : List (Int × Int)} {y : List (Int × Bool)} {ch : Int → Bool} (hp : 0 < rows.length) (he : ∀ k e, mget t k = some e → Edge rows e) (hy : ∀ k e, mget t k = some e → mget y k = some (vE ch rows e)) :
    ∀ ks : List Int, (∀ k ∈ ks, ∃ e, mget t k = some e) → m_law_answers_l1 t y (ev ch rows) ks () = some (.done ())
  | [], _ => rfl
  | k :: ks, h => by
    obtain ⟨e, q⟩ := h k (.head _)
    have q2 := hy k e q
    rw [m_law_answers_l1, bs (x := false) (by rw [q2, if_neg (by simp)]; rfl), if_neg (by simp), bs q2, bs q, bs (value_ok (he k e q) hp), if_neg (by simp)]
    exact ans_l1 hp he hy ks fun j hj => h j (.tail _ hj)
theorem answers_ok (w : Wf P G.rows) (side : Str) {pt t : List (Int × Int)} (h : PT pt t) (hn : (t.map fun (q : Int × Int) => q.1).Nodup) (hl : t.length < 1000) (hr : G.rows.length < 100000) (he : ∀ k e, mget t k = some e → Edge G.rows e)
    (given : List (Int × Bool)) (hg : ∀ k e, mget t k = some e → Hng G.rows e fun n => (mget given n).isSome = true) :
    m_law_answers (M_Plan.mk side G pt) G.rows t given = some true := by
  have hpl : pt.length = t.length := by
    have := congrArg List.length h.keys
    rw [sortI_len, List.length_map, List.length_map] at this
    exact this
  let ch : Int → Bool := fun n => (mget given n).getD false
  have hpe : ∀ p ∈ pt, mget t p.1 = some p.2 := fun p hp => by rw [← h.same]; exact mget_of_mem h.nd p hp
  have hrp : ∀ e ∈ pt.map Prod.snd, Edge G.rows e := fun e m => by
    obtain ⟨p, hp, rfl⟩ := List.mem_map.mp m
    exact he _ _ (hpe p hp)
  have ha : m_Plan_answers (M_Plan.mk side G pt) given = some (pt.map fun p => (p.1, vE ch G.rows p.2)) := by
    unfold m_Plan_answers
    rw [bs (show m_Plan_edges (M_Plan.mk side (M_Gates.mk G.rows G.known) pt) = _ from edges_ok side G h.nd (by omega))]
    rw [bs (show m_Gates_worths (M_Gates.mk G.rows G.known) (pt.map Prod.snd) given = _ from worths_cone (ch := ch) G w hrp given (fun k n r h0 a => by
      obtain ⟨e, m, r1⟩ := r.one
      obtain ⟨p, hp, rfl⟩ := List.mem_map.mp m
      have : (mget given n).isSome = true := hg _ _ (hpe p hp) k n r1 h0 a
      show _ = some ((mget given n).getD false)
      cases q : mget given n with
      | none => rw [q] at this; cases this
      | some b => rfl) (by rw [List.length_map]; omega))]
    have ez : (pt.map fun (q : Int × Int) => q.1).zip ((pt.map Prod.snd).map fun e => vE ch G.rows e) = pt.map fun p => (p.1, vE ch G.rows p.2) := by
      rw [List.map_map]
      exact zip_map _ _ pt
    rw [grd_t (decide_eq_true (by rw [List.length_map, List.length_map])), ez, grd_t (decide_eq_true (by rw [List.length_map]; omega)),
      bs (dcO_new (kf := fun (x : Int × Bool) => x.1) (vf := fun (x : Int × Bool) => x.2) _ [] (fun _ _ => rfl) (by rw [List.map_map]; exact h.nd) (fun _ _ => rfl))]
    simp
  unfold m_law_answers
  rw [bs (show m_Plan_answers (M_Plan.mk side (M_Gates.mk G.rows G.known) pt) given = _ from ha), if_neg (by simp [hpl]), bs (truths_ok (ch := ch) w given (fun n => rfl) (by omega)),
    bs (ans_l1 (ch := ch) w.pos he (fun k e q => ?_) _ fun k hk => mget_is hk)]
  have hm : (k, e) ∈ pt := mem_of_mget (by rw [h.same]; exact q)
  exact mget_of_mem (xs := pt.map fun p => (p.1, vE ch G.rows p.2)) (by rw [List.map_map]; exact h.nd) (k, vE ch G.rows e) (List.mem_map.mpr ⟨_, hm, rfl⟩)
end
end G

namespace G
open PySem PySem.Spec PyProof.Rows L2

/-! ## what k89 draws -/
theorem side_at {d : Int} (h0 : 0 ≤ d) (h1 : d < 2) : ∃ s, atI ([("some" : Str), ("all" : Str)] : (List Str)) d = some s ∧ SA s := by
  rcases (by omega : d = 0 ∨ d = 1) with rfl | rfl
  · exact ⟨_, rfl, .inl rfl⟩
  · exact ⟨_, rfl, .inr rfl⟩
theorem erase_perm {α : Type} : ∀ {xs : List α} {i : Nat} (h : i < xs.length), (xs[i] :: xs.eraseIdx i).Perm xs
  | x :: xs, 0, _ => .refl _
  | x :: xs, i + 1, h => by
    rw [List.getElem_cons_succ, List.eraseIdx_cons_succ]
    exact (List.Perm.swap _ _ _).trans ((erase_perm (xs := xs) (i := i) (by simpa using h)).cons _)
theorem order_l1 (ns : List Int) : ∀ (fl : Nat) (order : List (Int × Str)) (left src : List Int), Src src → left.length < fl → order.length + left.length < 1000 →
    ∃ new src', m_law_order_l1 ns fl (order, left, src) = some (order ++ new, [], src') ∧ Src src' ∧ (new.map (·.1)).Perm left ∧ ∀ p ∈ new, SA p.2
  | 0, _, _, _, _, h, _ => absurd h (Nat.not_lt_zero _)
  | fl + 1, order, left, src, hs, hf, hn => by
    rw [m_law_order_l1]
    cases left with
    | nil => exact ⟨[], src, by rw [if_neg (by simp)]; simp, hs, .nil, by simp⟩
    | cons z zs =>
      rw [if_pos (by simp)]
      obtain ⟨d, src1, t1, t2, t3, t4⟩ := take_ok ns src ((z :: zs).length : Int) hs (by have : (z :: zs).length = zs.length + 1 := rfl; omega) (by have : (z :: zs).length = zs.length + 1 := rfl; omega)
      have hd : d.toNat < (z :: zs).length := by omega
      obtain ⟨d2, src2, u1, u2, u3, u4⟩ := take_ok ns src1 2 t4 (by decide) (by decide)
      obtain ⟨s, s1, s2⟩ := side_at u2 u3
      have hle : ((z :: zs).eraseIdx d.toNat).length = zs.length := by rw [List.length_eraseIdx_of_lt hd]; rfl
      obtain ⟨new, src', g1, g2, g3, g4⟩ := order_l1 ns fl (order ++ [((z :: zs)[d.toNat], s)]) ((z :: zs).eraseIdx d.toNat) src2 u4 (by rw [hle]; have : (z :: zs).length = zs.length + 1 := rfl; omega) (by rw [hle]; have : (z :: zs).length = zs.length + 1 := rfl; simp; omega)
      refine ⟨((z :: zs)[d.toNat], s) :: new, src', ?_, g2, ?_, ?_⟩
      · rw [bs t1, grd_t (rngOk_t t2 (by omega)), bs (ixN_of t2 t3), bs (List.getElem?_eq_getElem hd), bs u1, bs s1, grd_t (decide_eq_true (by show order.length < _; omega))]
        rw [List.append_assoc] at g1
        exact g1
      · rw [List.map_cons]
        exact (List.Perm.cons _ g3).trans (erase_perm hd)
      · intro p hp
        rcases List.mem_cons.mp hp with rfl | hp
        · exact s2
        · exact g4 p hp
theorem order_ok (ns src : List Int) (hs : Src src) : ∃ order src', m_law_order ns src = some (order, src') ∧ Src src' ∧ (order.map (·.1)).Nodup ∧ (∀ p ∈ order, SA p.2) ∧ order.length < 20 := by
  obtain ⟨d, src1, t1, t2, t3, t4⟩ := take_ok ns src 8 hs (by decide) (by decide)
  obtain ⟨d2, src2, u1, u2, u3, u4⟩ := take_ok ns src1 8 t4 (by decide) (by decide)
  have : ∃ c : Int, 0 ≤ c ∧ c < 20 ∧ (((m_law_take ns src1 (8 : Int)).bind fun y19 => if (decide (y19.1 = (5 : Int))) = true then (some ((d + (12 : Int)), y19.2)) else (some (d, y19.2))) = some (c, src2)) := by
    rw [bs u1]
    by_cases c : d2 = 5
    · exact ⟨d + 12, by omega, by omega, by rw [if_pos (by simpa using c)]⟩
    · exact ⟨d, by omega, by omega, by rw [if_neg (by simpa using c)]⟩
  obtain ⟨c, c0, c1, e⟩ := this
  have hl : (pyRange (1 : Int) ((c + (1 : Int)) - (1 : Int)).toNat).length < 20 := by rw [pyRange_len]; omega
  obtain ⟨new, src', g1, g2, g3, g4⟩ := order_l1 ns fuel [] (pyRange (1 : Int) ((c + (1 : Int)) - (1 : Int)).toNat) src2 u4 (by unfold fuel; omega) (by rw [List.length_nil]; omega)
  refine ⟨new, src', ?_, g2, g3.nodup_iff.mpr (strict_nodup pyRange_strict), g4, ?_⟩
  · unfold m_law_order
    rw [bs t1, bs e, grd_t (by unfold rgOk; simp; omega), bs g1]
    rfl
  · have := g3.length_eq
    rw [List.length_map] at this
    omega
def Tr : Int → Prop := fun _ => True
/-- edges over rows, each on letters of L -/
structure EB (L : Int → Prop) (edges : List Int) (G : M_Gates) (rows : List (List Key)) : Prop where
  sim : Sim G rows
  wf : Wf Tr rows
  ed : ∀ e ∈ edges, Edge rows e ∧ Hng rows e L
theorem Edge.opp {rows : List (List Key)} {e : Int} (h : Edge rows e) : Edge rows (m_law_opposite e) := ⟨opp_nn h.1, by rw [opp_half]; exact h.2⟩
theorem edge_l1 (L : Int → Prop) : ∀ (ks edges : List Int) (G : M_Gates) (rows : List (List Key)), EB L edges G rows → (∀ k ∈ ks, L k) → edges.length + 2 * ks.length < 1000 → rows.length + ks.length < 1000000 →
    ∃ edges' G' rows', m_law_edge_l1 ks (edges, G, rows) = some (edges', G', rows') ∧ EB L edges' G' rows' ∧ edges'.length = edges.length + 2 * ks.length ∧ Ext rows rows' ∧ rows'.length ≤ rows.length + ks.length
  | [], edges, G, rows, b, _, _, _ => ⟨edges, G, rows, rfl, b, rfl, .refl _, Nat.le_refl _⟩
  | k :: ks, edges, G, rows, b, hk, h1, h2 => by
    have h1' : edges.length + 2 * (ks.length + 1) < 1000 := h1
    have h2' : rows.length + (ks.length + 1) < 1000000 := h2
    obtain ⟨e, r1, G1, f1, f2, f3, f4, f5⟩ := leaf_sim b.sim k (by omega)
    obtain ⟨l1, l2, l3, _⟩ := leaf_val (P := Tr) b.sim b.wf (n := k) trivial (by omega) f1
    have hh : Hng r1 e L := hng_leaf (P := Tr) b.sim b.wf trivial (hk k (.head _)) (by omega) f1
    obtain ⟨edges', G', rows', g1, g2, g3, g4, g5⟩ := edge_l1 L ks ((edges ++ [e]) ++ [m_law_opposite e]) G1 r1 ⟨f3, l1, fun y hy => by
      simp only [List.mem_append, List.mem_singleton] at hy
      rcases hy with (h | rfl) | rfl
      · exact ⟨l2.edge (b.ed y h).1, (b.ed y h).2.ext l2 b.wf (b.ed y h).1⟩
      · exact ⟨l3, hh⟩
      · exact ⟨l3.opp, hh.opp⟩⟩ (fun j hj => hk j (.tail _ hj)) (by simp; omega) (by omega)
    refine ⟨edges', G', rows', ?_, g2, by rw [g3]; simp; omega, l2.trans g4, by simp; omega⟩
    rw [m_law_edge_l1, bs f1, bs (show m_Gates_leaf (M_Gates.mk G.rows G.known) k = _ from f2), grd_t (decide_eq_true (by show edges.length < _; omega)), grd_t (decide_eq_true (by simp; omega))]
    exact g1
theorem bof_ok {G : M_Gates} {rows : List (List Key)} (S : Sim G rows) (w : Wf Tr rows) {a b : Int} (ha : Edge rows a) (hb : Edge rows b) (hl : rows.length < 16777216) :
    ∃ e G' rows', m_law_both_of (M_Gates.mk G.rows G.known) rows a b = some (e, G', rows') ∧ Sim G' rows' ∧ Wf Tr rows' ∧ Ext rows rows' ∧ Edge rows' e ∧ rows'.length ≤ rows.length + 1 ∧ ∀ L, Hng rows a L → Hng rows b L → Hng rows' e L := by
  obtain ⟨e, r1, G1, f1, f2, f3, f4, f5, _⟩ := both_sim S ha.1 hb.1 hl
  obtain ⟨l1, l2, l3, _⟩ := both_val (P := Tr) S w ha hb hl f1
  refine ⟨e, G1, r1, ?_, f3, l1, l2, l3, f5, fun L ga gb => hng_both (P := Tr) S w ha hb ga gb hl f1⟩
  unfold m_law_both_of
  rw [bs f1, bs (show m_Gates_both (M_Gates.mk G.rows G.known) a b = _ from f2), if_neg (by simp)]
theorem edge_l2 (ns : List Int) (L : Int → Prop) (st : List Int × M_Gates × List (List Key)) (h0 : 0 < st.1.length) (h1 : st.1.length < 1000) : ∀ (ks : List Int) (e : Int) (src : List Int) (G : M_Gates) (rows : List (List Key)), Src src → EB L (e :: st.1) G rows → rows.length + ks.length < 1000000 →
    ∃ e' src' G' rows', m_law_edge_l2 ns st ks (e, src, G, rows) = some (e', src', G', rows') ∧ Src src' ∧ EB L [e'] G' rows' ∧ Ext rows rows' ∧ rows'.length ≤ rows.length + ks.length
  | [], e, src, G, rows, hs, b, _ => ⟨e, src, G, rows, rfl, hs, ⟨b.sim, b.wf, fun y hy => b.ed y (by rw [List.mem_singleton.mp hy]; exact .head _)⟩, .refl _, Nat.le_refl _⟩
  | k :: ks, e, src, G, rows, hs, b, h2 => by
    have h2' : rows.length + (ks.length + 1) < 1000000 := h2
    obtain ⟨d, src1, t1, t2, t3, t4⟩ := take_ok ns src (st.1.length : Int) hs (by omega) (by omega)
    obtain ⟨a, a1, a2, _⟩ := atI_lt (xs := st.1) t2 t3
    have he := b.ed e (.head _)
    have ha := b.ed a (.tail _ a2)
    obtain ⟨e1, G1, r1, f1, f2, f3, f4, f5, f6, f7⟩ := bof_ok b.sim b.wf he.1 ha.1 (by omega)
    obtain ⟨d2, src2, u1, u2, u3, u4⟩ := take_ok ns src1 2 t4 (by decide) (by decide)
    have hh := f7 L he.2 ha.2
    have old : ∀ y ∈ st.1, Edge r1 y ∧ Hng r1 y L := fun y hy => ⟨f4.edge (b.ed y (.tail _ hy)).1, (b.ed y (.tail _ hy)).2.ext f4 b.wf (b.ed y (.tail _ hy)).1⟩
    rw [m_law_edge_l2, bs t1, bs a1, bs f1, bs u1]
    by_cases c : d2 = 1
    · rw [if_pos (by simpa using c)]
      obtain ⟨e', src', G', rows', g1, g2, g3, g4, g5⟩ := edge_l2 ns L st h0 h1 ks (m_law_opposite e1) src2 G1 r1 u4 ⟨f2, f3, fun y hy => by
        rcases List.mem_cons.mp hy with rfl | hy
        · exact ⟨f5.opp, hh.opp⟩
        · exact old y hy⟩ (by omega)
      exact ⟨e', src', G', rows', g1, g2, g3, f4.trans g4, by simp; omega⟩
    · rw [if_neg (by simpa using c)]
      obtain ⟨e', src', G', rows', g1, g2, g3, g4, g5⟩ := edge_l2 ns L st h0 h1 ks e1 src2 G1 r1 u4 ⟨f2, f3, fun y hy => by
        rcases List.mem_cons.mp hy with rfl | hy
        · exact ⟨f5, hh⟩
        · exact old y hy⟩ (by omega)
      exact ⟨e', src', G', rows', g1, g2, g3, f4.trans g4, by simp; omega⟩
theorem edge_ok (ns src : List Int) {G : M_Gates} {rows : List (List Key)} (S : Sim G rows) (w : Wf Tr rows) (hs : Src src) (ahead : List Int) (ha : ahead.length < 100) (hl : rows.length < 100000) :
    ∃ e src' G' rows', m_law_edge ns src (M_Gates.mk G.rows G.known) rows ahead = some (e, src', G', rows') ∧ Src src' ∧ EB (· ∈ ahead) [e] G' rows' ∧ Ext rows rows' ∧ rows'.length ≤ rows.length + 103 := by
  have hp := w.pos
  obtain ⟨edges, G1, r1, f1, f2, f3, f4, f5⟩ := edge_l1 (· ∈ ahead) ahead [0, 1] G rows ⟨S, w, fun e he => by
    simp at he
    rcases he with rfl | rfl
    · exact ⟨⟨by omega, by omega⟩, .const rfl⟩
    · exact ⟨⟨by omega, by omega⟩, .const rfl⟩⟩ (fun k hk => hk) (by simp; omega) (by omega)
  have f3' : edges.length = 2 + 2 * ahead.length := f3
  obtain ⟨d, src1, t1, t2, t3, t4⟩ := take_ok ns src (edges.length : Int) hs (by omega) (by omega)
  obtain ⟨a, a1, a2, _⟩ := atI_lt (xs := edges) t2 t3
  obtain ⟨d2, src2, u1, u2, u3, u4⟩ := take_ok ns src1 4 t4 (by decide) (by decide)
  have hkl : (pyRange 0 d2.toNat).length ≤ 3 := by rw [pyRange_len]; omega
  obtain ⟨e', src', G', rows', g1, g2, g3, g4, g5⟩ := edge_l2 ns (· ∈ ahead) (edges, G1, r1) (by show 0 < edges.length; omega) (by show edges.length < 1000; omega) (pyRange 0 d2.toNat) a src2 G1 r1 u4 ⟨f2.sim, f2.wf, fun y hy => by
    rcases List.mem_cons.mp hy with rfl | hy
    · exact f2.ed _ a2
    · exact f2.ed y hy⟩ (by omega)
  refine ⟨e', src', G', rows', ?_, g2, g3, f4.trans g4, by omega⟩
  unfold m_law_edge
  rw [bs (show m_law_edge_l1 ahead ([0, 1], M_Gates.mk G.rows G.known, rows) = _ from f1), bs t1, bs a1, bs u1, grd_t (rngOk_t u2 (by omega)), bs (show m_law_edge_l2 ns (edges, G1, r1) (pyRange 0 d2.toNat) (a, src2, M_Gates.mk G1.rows G1.known, r1) = _ from g1)]
/-- a table of edges -/
structure Tab (rows : List (List Key)) (t : List (Int × Int)) : Prop where
  n : (t.map fun (q : Int × Int) => q.1).Nodup
  e : ∀ k p, mget t k = some p → Edge rows p
theorem Tab.ext {rows rows' : List (List Key)} {t : List (Int × Int)} (h : Tab rows t) (x : Ext rows rows') : Tab rows' t := ⟨h.n, fun k p q => x.edge (h.e k p q)⟩
theorem mput_keys {κ α : Type} [DecidableEq κ] {xs : List (κ × α)} {k : κ} {x : α} (h : (xs.map (·.1)).Nodup) : ((mput xs k x).map (·.1)).Nodup := by
  unfold mput
  split
  · rw [List.map_map]
    have : ((fun p : κ × α => p.1) ∘ fun p => if p.1 = k then (p.1, x) else p) = fun p => p.1 := by
      funext p
      simp only [Function.comp]
      split <;> rfl
    rw [this]
    exact h
  · rename_i hn
    rw [List.map_append]
    refine List.nodup_append.mpr ⟨h, by simp, fun a ha b hb => ?_⟩
    have : b = k := by simpa using hb
    subst this
    rintro rfl
    obtain ⟨p, hp, e⟩ := List.mem_map.mp ha
    exact hn (List.any_eq_true.mpr ⟨p, hp, decide_eq_true e⟩)
theorem Tab.put {rows : List (List Key)} {t : List (Int × Int)} (h : Tab rows t) {k e : Int} (he : Edge rows e) : Tab rows (mput t k e) := ⟨mput_keys h.n, fun j p q => by
  rw [mget_put] at q
  by_cases c : k = j
  · rw [if_pos c] at q; cases q; exact he
  · rw [if_neg c] at q; exact h.e j p q⟩
theorem mget_drop {κ α : Type} [DecidableEq κ] {k j : κ} : ∀ {xs : List (κ × α)} {x : α}, mget (mdrop xs k) j = some x → mget xs j = some x
  | p :: xs, x, h => by
    unfold mdrop at h
    rw [mget_cons]
    by_cases c : p.1 = k
    · rw [List.filter_cons_of_neg (by simpa using c)] at h
      have ih := mget_drop (k := k) (j := j) (xs := xs) h
      by_cases d : p.1 = j
      · have m := mem_of_mget h
        have := (List.mem_filter.mp m).2
        have : j ≠ k := by simpa using this
        exact (this (d ▸ c)).elim
      · rw [if_neg d]; exact ih
    · rw [List.filter_cons_of_pos (by simpa using c), mget_cons] at h
      by_cases d : p.1 = j
      · rw [if_pos d] at h ⊢; exact h
      · rw [if_neg d] at h ⊢; exact mget_drop (k := k) (j := j) (xs := xs) h
theorem Tab.drop {rows : List (List Key)} {t : List (Int × Int)} (h : Tab rows t) (k : Int) : Tab rows (mdrop t k) := ⟨h.n.sublist ((List.filter_sublist).map _), fun j p q => h.e j p (mget_drop q)⟩
theorem law_l1_ok (ns : List Int) {side : Str} : ∀ (order : List (Int × Str)) (ahead : List Int) (t : List (Int × Int)) (rows : List (List Key)) (G : M_Gates) (src : List Int), Src src → Sim G rows → Wf Tr rows → (order.map (·.1)).Nodup → Tab rows t → (∀ p ∈ order, mget t p.1 = none) →
    ahead.length + order.length < 100 → t.length + order.length < 100 → rows.length + order.length * 103 < 100000 →
    ∃ ahead' t' rows' G' src', m_law_l1 ns side order (ahead, t, rows, G, src) = some (ahead', t', rows', G', src') ∧ Src src' ∧ Sim G' rows' ∧ Wf Tr rows' ∧ Tab rows' t' ∧ Ext rows rows' ∧ Fit rows' side t' order ahead ∧
      (t'.map fun (q : Int × Int) => q.1) = (t.map fun (q : Int × Int) => q.1) ++ mine side order ∧ (∀ k, k ∉ order.map (·.1) → mget t' k = mget t k) ∧ t'.length ≤ t.length + order.length ∧ rows'.length ≤ rows.length + order.length * 103
  | [], ahead, t, rows, G, src, h1, h2, h3, h4, h5, h6, h7, h8, h9 => ⟨ahead, t, rows, G, src, rfl, h1, h2, h3, h5, .refl _, trivial, by simp [mine], fun _ _ => rfl, Nat.le_refl _, Nat.le_refl _⟩
  | p :: order, ahead, t, rows, G, src, h1, h2, h3, h4, h5, h6, h7, h8, h9 => by
    have h7' : ahead.length + (order.length + 1) < 100 := h7
    have h8' : t.length + (order.length + 1) < 100 := h8
    have h9' : rows.length + (order.length + 1) * 103 < 100000 := h9
    have hn := List.nodup_cons.mp (by simpa using h4 : (p.1 :: order.map (·.1)).Nodup)
    rw [m_law_l1]
    by_cases c : p.2 = side
    · rw [if_pos (by simpa using c)]
      obtain ⟨e, src1, G1, r1, f1, f2, f3, f4, f5⟩ := edge_ok ns src h2 h3 h1 ahead (by omega) (by omega)
      have hpt := mput_len (xs := t) (k := p.1) (x := e)
      have he := f3.ed e (by simp)
      obtain ⟨ahead', t', rows', G', src', g1, g2, g3, g4, g5, g6, g7, g8, g9, g10, g11⟩ := law_l1_ok ns (side := side) order ahead (mput t p.1 e) r1 G1 src1 f2 f3.sim f3.wf hn.2 ((h5.ext f4).put he.1) (fun q hq => by
        rw [mget_put, if_neg]
        · exact h6 q (.tail _ hq)
        · intro z
          exact hn.1 (z ▸ List.mem_map.mpr ⟨q, hq, rfl⟩)) (by omega) (by omega) (by omega)
      have hm : mget t' p.1 = some e := by rw [g9 _ hn.1, mget_put, if_pos rfl]
      refine ⟨ahead', t', rows', G', src', ?_, g2, g3, g4, g5, f4.trans g6, ⟨fun _ => ⟨⟨e, hm, he.2.ext g6 f3.wf he.1⟩, g7⟩, fun z => (z c).elim⟩, ?_, ?_, by simp; omega, by simp; omega⟩
      · rw [bs f1, grd_t (decide_eq_true (by show t.length < _; omega))]
        exact g1
      · rw [g8, mput_keys_new (h6 p (.head _))]
        simp [mine, c]
      · intro k hk
        have hk2 : ¬ (k = p.1 ∨ k ∈ order.map (·.1)) := by simpa using hk
        rw [g9 k (fun z => hk2 (.inr z)), mget_put, if_neg (fun z => hk2 (.inl z.symm))]
    · rw [if_neg (by simpa using c), grd_t (decide_eq_true (by show ahead.length < _; omega))]
      obtain ⟨ahead', t', rows', G', src', g1, g2, g3, g4, g5, g6, g7, g8, g9, g10, g11⟩ := law_l1_ok ns (side := side) order (ahead ++ [p.1]) t rows G src h1 h2 h3 hn.2 h5 (fun q hq => h6 q (.tail _ hq)) (by simp; omega) (by omega) (by omega)
      refine ⟨ahead', t', rows', G', src', g1, g2, g3, g4, g5, g6, ⟨fun z => (c z).elim, fun _ => g7⟩, ?_, ?_, by simp; omega, by simp; omega⟩
      · rw [g8]; simp [mine, c]
      · intro k hk
        have hk2 : ¬ (k = p.1 ∨ k ∈ order.map (·.1)) := by simpa using hk
        exact g9 k fun z => hk2 (.inr z)
where
  mput_keys_new {t : List (Int × Int)} {k e : Int} (h : mget t k = none) : ((mput t k e).map fun (q : Int × Int) => q.1) = (t.map fun (q : Int × Int) => q.1) ++ [k] := by
    rw [mput_new h]; simp
  mput_new {t : List (Int × Int)} {k e : Int} (h : mget t k = none) : mput t k e = t ++ [(k, e)] := mget_put_new h
end G

namespace G
open PySem PySem.Spec PyProof.Rows L2

theorem ex_bind {α β : Type} {m : Option α} {f : α → Option β} {Q : α → Prop} {R : β → Prop} (h : ∃ x, m = some x ∧ Q x) (g : ∀ x, Q x → ∃ y, f x = some y ∧ R y) : ∃ y, m.bind f = some y ∧ R y := by
  obtain ⟨x, e, q⟩ := h
  obtain ⟨y, e2, r⟩ := g x q
  exact ⟨y, by rw [bs e, e2], r⟩
theorem cut_len {α : Type} (xs : List α) (lo hi : Option Int) : (cutL xs lo hi).length ≤ xs.length := by
  unfold cutL
  rw [List.length_take, List.length_drop]
  omega
theorem places_ok {order : List (Int × Str)} {letter : Int} : ∀ xs : List Int, (∀ x ∈ xs, ∃ p, atI order x = some p) →
    ∃ pl, lcO (fun x123 => (atI order x123).bind fun y142 => if (decide (y142.1 = letter)) = true then (some (some x123)) else some none) xs = some pl ∧ ∀ y, y ∈ pl ↔ y ∈ xs ∧ ∃ p, atI order y = some p ∧ p.1 = letter
  | [], _ => ⟨[], rfl, by simp⟩
  | x :: xs, h => by
    obtain ⟨pl, e, g⟩ := places_ok (order := order) (letter := letter) xs fun y hy => h y (.tail _ hy)
    obtain ⟨p, hp⟩ := h x (.head _)
    by_cases c : p.1 = letter
    · refine ⟨x :: pl, by rw [lcO_cons, bs (x := some x) (by rw [bs hp, if_pos (by simpa using c)]), bs e], fun y => ?_⟩
      rw [List.mem_cons, g]
      constructor
      · rintro (rfl | ⟨a, b⟩)
        · exact ⟨.head _, p, hp, c⟩
        · exact ⟨.tail _ a, b⟩
      · rintro ⟨a, b⟩
        rcases List.mem_cons.mp a with rfl | a
        · exact .inl rfl
        · exact .inr ⟨a, b⟩
    · refine ⟨pl, by rw [lcO_cons, bs (x := none) (by rw [bs hp, if_neg (by simpa using c)]), bs e], fun y => ?_⟩
      rw [g]
      constructor
      · rintro ⟨a, b⟩
        exact ⟨.tail _ a, b⟩
      · rintro ⟨a, q, hq, hc⟩
        rcases List.mem_cons.mp a with rfl | a
        · rw [hp] at hq
          obtain rfl := Option.some.inj hq
          exact (c hc).elim
        · exact ⟨a, q, hq, hc⟩
theorem ok_order {order : List (Int × Str)} (h : ∀ p ∈ order, SA p.2) : DOk.ok order = true := by
  show order.all DOk.ok = true
  rw [List.all_eq_true]
  intro p hp
  show (true && PyData.strOk p.2) = true
  rcases h p hp with e | e <;> rw [e] <;> decide +kernel
def FR (n k : Nat) (y : List Int × M_Gates × List (List Key) × List (Int × Int)) : Prop := Src y.1 ∧ Sim y.2.1 y.2.2.1 ∧ Wf Tr y.2.2.1 ∧ Tab y.2.2.1 y.2.2.2 ∧ y.2.2.2.length ≤ n ∧ y.2.2.1.length ≤ k
theorem fault_ok (ns src : List Int) {G : M_Gates} {rows : List (List Key)} (S : Sim G rows) (w : Wf Tr rows) (hs : Src src) {order : List (Int × Str)} (ho : ∀ p ∈ order, SA p.2) (hol : order.length < 20) {side : Str} {t : List (Int × Int)} (ht : Tab rows t)
    (hk : ∀ k ∈ mine side order, ∃ e, mget t k = some e) (htl : t.length < 100) (hrl : rows.length < 50000) :
    ∃ y, m_law_fault ns src (M_Gates.mk G.rows G.known) rows order side t = some y ∧ FR (t.length + 3) (rows.length + 3) y := by
  unfold m_law_fault
  rw [grd_t (decide_eq_true (by omega))]
  refine ex_bind (Q := FR (t.length + 1) (rows.length + 3)) ?_ ?_
  · refine ex_bind (Q := fun b => Src b.2 ∧ (b.1 = true → mine side order ≠ [])) ?_ ?_
    · by_cases c : mine side order = []
      · exact ⟨_, if_neg (by show ¬ (!decide (mine side order = [])) = true; rw [decide_eq_true c]; simp), hs, fun z => by cases z⟩
      · obtain ⟨d, src1, t1, t2, t3, t4⟩ := take_ok ns src 2 hs (by decide) (by decide)
        exact ⟨_, by rw [if_pos (by show (!decide (mine side order = [])) = true; rw [decide_eq_false c]; rfl), bs t1], t4, fun _ => c⟩
    rintro ⟨b, src1⟩ ⟨hs1, hb⟩
    dsimp only
    cases b with
    | false => exact ⟨_, if_neg (by simp), hs1, S, w, ht, by show t.length ≤ _; omega, by show rows.length ≤ _; omega⟩
    | true =>
      have hne := hb rfl
      have hml : (mine side order).length ≤ order.length := by
        unfold mine
        rw [List.length_map]
        exact List.length_filter_le _ _
      have hm0 : 0 < (mine side order).length := by
        cases q : mine side order with
        | nil => exact (hne q).elim
        | cons a b => simp
      rw [if_pos rfl]
      obtain ⟨d, src2, t1, t2, t3, t4⟩ := take_ok ns src1 ((mine side order).length : Int) hs1 (by omega) (by omega)
      obtain ⟨letter, a1, a2, _⟩ := atI_lt (xs := mine side order) t2 t3
      obtain ⟨kind, src3, u1, u2, u3, u4⟩ := take_ok ns src2 5 t4 (by decide) (by decide)
      rw [bs (show m_law_take ns src1 (((order.filter fun x7 => (decide (x7.2 = side))).map fun x7 => x7.1).length : Int) = _ from t1), bs (show atI ((order.filter fun x7 => (decide (x7.2 = side))).map fun x7 => x7.1) d = _ from a1), bs u1,
        grd_t (rngOk_len (by omega)), grd_t (decide_eq_true (by rw [pyRange_len]; omega))]
      obtain ⟨pl, p1, p2⟩ := places_ok (order := order) (letter := letter) (pyRange 0 (order.length : Int).toNat) fun x hx => by
        have := mem_pyRange.mp hx
        obtain ⟨p, e, _⟩ := atI_lt (xs := order) (i := x) (by omega) (by omega)
        exact ⟨p, e⟩
      have hpl : 0 < pl.length := by
        obtain ⟨q, hq, e⟩ := List.mem_map.mp a2
        obtain ⟨j, hj⟩ := List.mem_iff_getElem?.mp (List.mem_filter.mp hq).1
        have hj2 := (List.getElem?_eq_some_iff.mp hj).1
        have : (j : Int) ∈ pl := (p2 _).mpr ⟨mem_pyRange.mpr (by omega), q, by rw [atI_of (by omega)]; simpa using hj, e⟩
        exact List.length_pos_of_mem this
      obtain ⟨pos, b1, _, _⟩ := atI_lt (xs := pl) (i := 0) (by omega) (by omega)
      have hcl := cut_len order (some (pos + 1)) none
      rw [bs p1, bs b1, grd_t (decide_eq_true (by omega))]
      refine ex_bind (Q := fun y => Src y.2) ?_ ?_
      · by_cases c : kind = 1
        · obtain ⟨d2, src4, v1, v2, v3, v4⟩ := take_ok ns src3 ((mine side order).length : Int) u4 (by omega) (by omega)
          obtain ⟨l2, w1, _⟩ := atI_lt (xs := mine side order) v2 v3
          exact ⟨_, by rw [if_pos (by simpa using c), bs (show m_law_take ns src3 (((order.filter fun x7 => (decide (x7.2 = side))).map fun x7 => x7.1).length : Int) = _ from v1), bs (show atI ((order.filter fun x7 => (decide (x7.2 = side))).map fun x7 => x7.1) d2 = _ from w1)], v4⟩
        · exact ⟨_, if_neg (by simpa using c), u4⟩
      rintro ⟨wr, src4⟩ hs4
      refine ex_bind (Q := fun y => Src y.2) ?_ ?_
      · refine ex_bind (Q := fun b => b = true → 0 < ((cutL order (some (pos + 1)) none).map fun x172 => x172.1).length) ?_ ?_
        · by_cases c : kind = 2
          · refine ⟨_, if_pos (by simpa using c), fun z => ?_⟩
            cases q : (cutL order (some (pos + 1)) none).map fun x172 => x172.1 with
            | nil => rw [q] at z; simp at z
            | cons a b => simp
          · exact ⟨_, if_neg (by simpa using c), fun z => by cases z⟩
        · intro b hb2
          cases b with
          | false => exact ⟨_, if_neg (by simp), hs4⟩
          | true =>
            have := hb2 rfl
            have hcl2 : ((cutL order (some (pos + 1)) none).map fun x172 => x172.1).length ≤ order.length := by rw [List.length_map]; exact hcl
            obtain ⟨d2, src5, v1, v2, v3, v4⟩ := take_ok ns src4 (((cutL order (some (pos + 1)) none).map fun x172 => x172.1).length : Int) hs4 (by omega) (by omega)
            obtain ⟨l2, w1, _⟩ := atI_lt (xs := (cutL order (some (pos + 1)) none).map fun x172 => x172.1) v2 v3
            exact ⟨_, by rw [if_pos rfl, bs v1, bs w1], v4⟩
      rintro ⟨wr2, src5⟩ hs5
      refine ex_bind (Q := fun y => Src y.2) ?_ ?_
      · by_cases c : kind = 3
        · obtain ⟨d2, src6, v1, v2, v3, v4⟩ := take_ok ns src5 3 hs5 (by decide) (by decide)
          exact ⟨_, by rw [if_pos (by simpa using c), bs v1], v4⟩
        · exact ⟨_, if_neg (by simpa using c), hs5⟩
      rintro ⟨wr3, src6⟩ hs6
      dsimp only
      by_cases c : kind = 4
      · obtain ⟨e, he⟩ := hk letter a2
        have hdl : (mdrop t letter).length ≤ t.length := List.length_filter_le _ _
        refine ⟨_, by rw [if_pos (by simpa using c), bs he], hs6, S, w, ht.drop letter, by show (mdrop t letter).length ≤ _; omega, by show rows.length ≤ _; omega⟩
      · rw [if_neg (by simpa using c)]
        obtain ⟨e1, r1, G1, f1, f2, f3, f4, f5⟩ := leaf_sim S wr3 (by omega)
        obtain ⟨l1, l2, l3, _⟩ := leaf_val (P := Tr) S w (n := wr3) trivial (by omega) f1
        obtain ⟨e2, r2, G2, g1, g2, g3, g4, g5⟩ := leaf_sim f3 600 (by omega)
        obtain ⟨k1, k2, k3, _⟩ := leaf_val (P := Tr) f3 l1 (n := 600) trivial (by omega) g1
        rw [bs f1, bs (show m_Gates_leaf (M_Gates.mk G.rows G.known) wr3 = _ from f2), bs g1, bs (show m_Gates_leaf (M_Gates.mk G1.rows G1.known) 600 = _ from g2)]
        refine ex_bind (Q := fun (y : Int × M_Gates × List (List Key) × List Int) => Src y.2.2.2 ∧ Sim y.2.1 y.2.2.1 ∧ Wf Tr y.2.2.1 ∧ Edge y.2.2.1 y.1 ∧ Ext r2 y.2.2.1 ∧ y.2.2.1.length ≤ rows.length + 3) ?_ ?_
        · obtain ⟨d2, src7, v1, v2, v3, v4⟩ := take_ok ns src6 2 hs6 (by decide) (by decide)
          rw [bs v1]
          dsimp only
          by_cases c2 : d2 = 1
          · obtain ⟨e3, G3, r3, h1, h2, h3, h4, h5, h6, _⟩ := bof_ok g3 k1 (k2.edge l3).opp k3 (by omega)
            exact ⟨_, by rw [if_pos (by simpa using c2), bs h1], v4, h2, h3, h5, h4, by show r3.length ≤ _; omega⟩
          · exact ⟨_, if_neg (by simpa using c2), v4, g3, k1, k2.edge l3, .refl _, by show r2.length ≤ _; omega⟩
        · rintro ⟨e3, G3, r3, src7⟩ ⟨q1, q2, q3, q4, q5, q6⟩
          have hpl2 := mput_len (xs := t) (k := letter) (x := e3)
          rw [grd_t (decide_eq_true (by omega))]
          exact ⟨_, rfl, q1, q2, q3, ((ht.ext (l2.trans k2)).ext q5).put q4, by show (mput t letter e3).length ≤ _; omega, q6⟩
  · rintro ⟨src1, G1, r1, t1⟩ ⟨q1, q2, q3, q4, q5, q6⟩
    have q5' : t1.length ≤ t.length + 1 := q5
    replace q4 : Tab r1 t1 := q4
    replace q3 : Wf Tr r1 := q3
    replace q2 : Sim G1 r1 := q2
    have q6' : r1.length ≤ rows.length + 3 := q6
    dsimp only
    obtain ⟨d, src2, v1, v2, v3, v4⟩ := take_ok ns src1 4 q1 (by decide) (by decide)
    rw [bs v1]
    have z0 : ∀ e : Int, (e = 0 ∨ e = 1) → Edge r1 e := fun e he => ⟨by omega, by have := q3.pos; show e / 2 < (r1.length : Int); have : 0 < r1.length := q3.pos; omega⟩
    by_cases c : d = 3
    · rw [if_pos (by simpa using c)]
      obtain ⟨d2, src3, u1, u2, u3, u4⟩ := take_ok ns src2 3 v4 (by decide) (by decide)
      rw [bs u1]
      dsimp only
      rw [grd_t (decide_eq_true (by omega)), grd_t (ok_order ho), grd_t (by rfl)]
      have m1 := mput_len (xs := t1) (k := 900 - d2) (x := (1 : Int))
      by_cases c2 : order = []
      · exact ⟨_, if_neg (by simpa using c2), u4, q2, q3, q4.put (z0 1 (.inr rfl)), by show (mput t1 _ _).length ≤ _; omega, by show r1.length ≤ _; omega⟩
      · have h0 : 0 < order.length := List.length_pos_iff.mpr c2
        obtain ⟨d3, src4, w1, w2, w3, w4⟩ := take_ok ns src3 (order.length : Int) u4 (by omega) (by omega)
        obtain ⟨p, a1, _⟩ := atI_lt (xs := order) w2 w3
        have m2 := mput_len (xs := mput t1 (900 - d2) 1) (k := p.1) (x := (0 : Int))
        exact ⟨_, by rw [if_pos (by simpa using c2), bs w1, bs a1, grd_t (decide_eq_true (by show (mput t1 (900 - d2) 1).length < _; omega))], w4, q2, q3, (q4.put (z0 1 (.inr rfl))).put (z0 0 (.inl rfl)), by show (mput (mput t1 _ _) _ _).length ≤ _; omega, by show r1.length ≤ _; omega⟩
    · exact ⟨_, if_neg (by simpa using c), v4, q2, q3, q4, by show t1.length ≤ _; omega, by show r1.length ≤ _; omega⟩

theorem ok_rows {rows : List (List Key)} (h : ∀ r ∈ rows, okRow r) : DOk.ok rows = true := List.all_eq_true.mpr h
theorem law_l2_ok (ns : List Int) {side : Str} : ∀ (order : List (Int × Str)) (g : List (Int × Bool)) (src : List Int), Src src → g.length + order.length < 1000 →
    ∃ g' src', m_law_l2 ns side order (g, src) = some (g', src') ∧ (∀ n, n ∈ oth side order → (mget g' n).isSome = true) ∧ (∀ n, (mget g n).isSome = true → (mget g' n).isSome = true) ∧ g'.length ≤ g.length + order.length
  | [], g, src, _, _ => ⟨g, src, rfl, by simp [oth], fun _ h => h, Nat.le_refl _⟩
  | p :: order, g, src, hs, hl => by
    have hl' : g.length + (order.length + 1) < 1000 := hl
    rw [m_law_l2]
    by_cases c : p.2 = side
    · rw [if_neg (by simpa using c)]
      obtain ⟨g', src', a1, a2, a3, a4⟩ := law_l2_ok ns (side := side) order g src hs (by omega)
      exact ⟨g', src', a1, fun n hn => a2 n (by simpa [oth, c] using hn), a3, by simp; omega⟩
    · rw [if_pos (by simpa using c)]
      obtain ⟨d, src1, t1, t2, t3, t4⟩ := take_ok ns src 2 hs (by decide) (by decide)
      have m1 := mput_len (xs := g) (k := p.1) (x := decide (d = 1))
      obtain ⟨g', src', a1, a2, a3, a4⟩ := law_l2_ok ns (side := side) order (mput g p.1 (decide (d = 1))) src1 t4 (by omega)
      refine ⟨g', src', ?_, ?_, ?_, by simp; omega⟩
      · rw [bs t1, grd_t (decide_eq_true (by show g.length < _; omega))]
        exact a1
      · intro n hn
        have : n = p.1 ∨ n ∈ oth side order := by simpa [oth, c] using hn
        rcases this with rfl | h
        · exact a3 _ (by rw [mget_put, if_pos rfl]; rfl)
        · exact a2 n h
      · intro n hn
        refine a3 n ?_
        rw [mget_put]
        split
        · rfl
        · exact hn
theorem law_l3_ok : ∀ (ks : List Int) (g : List (Int × Bool)), (∀ k ∈ ks, (mget g k).isSome = true) → g.length + ks.length < 10000 →
    ∃ g', m_law_l3 ks g = some g' ∧ ∀ n, (mget g n).isSome = true → (mget g' n).isSome = true
  | [], g, _, _ => ⟨g, rfl, fun _ h => h⟩
  | k :: ks, g, h, hl => by
    have hl' : g.length + (ks.length + 1) < 10000 := hl
    obtain ⟨b, hb⟩ := Option.isSome_iff_exists.mp (h k (.head _))
    have m1 := mput_len (xs := g) (k := k) (x := !b)
    have keep : ∀ n, (mget g n).isSome = true → (mget (mput g k (!b)) n).isSome = true := fun n hn => by
      rw [mget_put]
      split
      · rfl
      · exact hn
    obtain ⟨g', a1, a2⟩ := law_l3_ok ks (mput g k (!b)) (fun j hj => keep j (h j (.tail _ hj))) (by omega)
    exact ⟨g', by rw [m_law_l3, bs hb, grd_t (decide_eq_true (by omega)), a1], fun n hn => a2 n (keep n hn)⟩
/-- what a plan that fits hangs on -/
theorem Fit.hang {rows : List (List Key)} {side : Str} {t : List (Int × Int)} : ∀ {order : List (Int × Str)} {ahead : List Int}, Fit rows side t order ahead → ∀ k ∈ mine side order, ∃ e, mget t k = some e ∧ Hng rows e fun n => n ∈ ahead ++ oth side order
  | [], _, _, k, hk => by simp [mine] at hk
  | p :: order, ahead, f, k, hk => by
    by_cases c : p.2 = side
    · have eo : oth side (p :: order) = oth side order := by simp [oth, c]
      rw [eo]
      have : k = p.1 ∨ k ∈ mine side order := by simpa [mine, c] using hk
      rcases this with rfl | h
      · obtain ⟨e, h1, h2⟩ := (f.1 c).1
        exact ⟨e, h1, h2.mono fun n hn => List.mem_append_left _ hn⟩
      · exact (f.1 c).2.hang k h
    · have eo : oth side (p :: order) = p.1 :: oth side order := by simp [oth, c]
      have em : mine side (p :: order) = mine side order := by simp [mine, c]
      rw [em] at hk
      obtain ⟨e, h1, h2⟩ := (f.2 c).hang k hk
      refine ⟨e, h1, h2.mono fun n hn => ?_⟩
      rw [eo]
      rw [List.append_assoc] at hn
      exact hn
theorem law_true (ns : List Int) (h : ns.length ≤ 63) : m_law ns = some true := by
  obtain ⟨seed, s1, s2⟩ := seed_ok ns
  obtain ⟨order, src1, o1, o2, o3, o4, o5⟩ := order_ok ns [0, 0, seed] ⟨0, 0, seed, rfl, by omega, by omega, s2⟩
  obtain ⟨d, src2, t1, t2, t3, t4⟩ := take_ok ns src1 2 o2 (by decide) (by decide)
  obtain ⟨side, b1, b2⟩ := side_at t2 t3
  obtain ⟨ahead, t, rows, G, src3, c1, c2, c3, c4, c5, c6, c7, c8, c9, c10, c11⟩ := law_l1_ok ns (side := side) order [] [] [[Sum.inr ("no" : Str)]] m_Gates_init src2 t4 sim_init ⟨by simp, fun k h0 h1 => by simp at h1; omega⟩ o3 ⟨by simp, fun k p q => by cases q⟩ (fun _ _ => rfl) (by simp; omega) (by simp; omega) (by simp; omega)
  have hG : G.rows = rows := c3.eqr
  subst hG
  have c10' : t.length ≤ 0 + order.length := c10
  have c11' : G.rows.length ≤ 1 + order.length * 103 := c11
  have c8' : (t.map fun (q : Int × Int) => q.1) = mine side order := c8
  obtain ⟨pt, p1, p2⟩ := init_ok side G c5.n (by omega)
  unfold m_law
  rw [bs s1, bs o1, bs t1, bs b1, bs (show m_law_l1 ns side order ([], [], [[Sum.inr ("no" : Str)]], M_Gates.mk m_Gates_init.rows m_Gates_init.known, src2) = _ from c1)]
  dsimp only
  rw [bs (show m_Plan_init side (M_Gates.mk G.rows G.known) t = _ from p1)]
  obtain ⟨r, q1, _, q3⟩ := misfit_ok c4 (by omega) p2.same p2.keys (by omega) c5.e b2 o4 (by omega)
  obtain rfl := q3.mpr ⟨c7, fun k hk => by rw [c8'] at hk; exact hk⟩
  rw [bs (show m_Plan_misfit (M_Plan.mk side (M_Gates.mk G.rows G.known) pt) order = _ from q1), if_neg (by simp)]
  obtain ⟨⟨src4, G2, rows2, u⟩, f1, f2, f3, f4, f5, f6, f7⟩ := fault_ok ns src3 c3 c4 c2 o4 o5 c5 (fun k hk => mget_is (by rw [c8']; exact hk)) (by omega) (by omega)
  replace f2 : Src src4 := f2
  replace f3 : Sim G2 rows2 := f3
  replace f4 : Wf Tr rows2 := f4
  replace f5 : Tab rows2 u := f5
  replace f6 : u.length ≤ t.length + 3 := f6
  replace f7 : rows2.length ≤ G.rows.length + 3 := f7
  have hG2 : G2.rows = rows2 := f3.eqr
  subst hG2
  obtain ⟨pu, p3, p4⟩ := init_ok side G2 f5.n (by omega)
  rw [bs f1]
  dsimp only
  rw [bs (show m_Plan_init side (M_Gates.mk G2.rows G2.known) u = _ from p3), grd_t (decide_eq_true (by omega))]
  have okr := ok_rows f3.ok
  rw [bs (x := false) (by rw [if_neg (by simp), grd_t (dictEq_pt p4), grd_t okr, grd_t okr, if_neg (by simp), grd_t okr, grd_t okr]; simp), if_neg (by simp)]
  obtain ⟨r2, g1, g2, g3⟩ := misfit_ok f4 (by omega) p4.same p4.keys (by omega) f5.e b2 o4 (by omega)
  rw [bs g2, bs (show m_Plan_misfit (M_Plan.mk side (M_Gates.mk G2.rows G2.known) pu) order = _ from g1), if_neg (by cases r2 <;> simp)]
  rw [bs (x := false) (by cases r2 with
    | none => rw [if_neg (by simp)]
    | some z => rw [if_pos (by simp), if_neg (by simp)]; simp), if_neg (by simp)]
  obtain ⟨c, g, k1, k2, k3, k4, k5⟩ := count_ok f4 side p4 f5.n (by omega) (by omega) f5.e
  rw [bs (show m_Plan_gate_count (M_Plan.mk side (M_Gates.mk G2.rows G2.known) pu) = _ from k1), grd_t (decide_eq_true (by rw [List.length_map]; omega)), bs k2, bs k3, grd_t (decide_eq_true k4), bs k5, if_neg (by simp)]
  cases r2 with
  | some z => rfl
  | none =>
    obtain ⟨fit, keys⟩ := g3.mp rfl
    rw [optE_none]
    obtain ⟨gv, src5, l1, l2, _, l4⟩ := law_l2_ok ns (side := side) order [] src4 f2 (by simp; omega)
    have l4' : gv.length ≤ 0 + order.length := l4
    have hang : ∀ k e, mget u k = some e → Hng G2.rows e fun n => n ∈ oth side order := fun k e q => by
      have hk : k ∈ mine side order := keys k (List.mem_map.mpr ⟨_, mem_of_mget q, rfl⟩)
      obtain ⟨e', h1, h2⟩ := fit.hang k hk
      rw [q] at h1
      obtain rfl := Option.some.inj h1
      exact h2
    rw [bs l1, bs (show m_law_answers (M_Plan.mk side (M_Gates.mk G2.rows G2.known) pu) G2.rows u gv = _ from answers_ok f4 side p4 f5.n (by omega) (by omega) f5.e gv fun k e q => (hang k e q).mono l2), if_neg (by simp)]
    obtain ⟨gw, m1, m2⟩ := law_l3_ok (gv.map fun (q : Int × Bool) => q.1) gv (fun k hk => by
      obtain ⟨x, hx⟩ := mget_is hk
      rw [hx]; rfl) (by rw [List.length_map]; omega)
    rw [bs m1, bs (show m_law_answers (M_Plan.mk side (M_Gates.mk G2.rows G2.known) pu) G2.rows u gw = _ from answers_ok f4 side p4 f5.n (by omega) (by omega) f5.e gw fun k e q => (hang k e q).mono fun n hn => m2 n (l2 n hn))]
end G

namespace G
open PySem PySem.Spec PyProof.Rows L2

def top (i : Nat) : Stmt := PySem.Challenge.pw_someandall_k89_plans_that_fit.main.body.getD i (.Pass ⟨0, 0, 0, 0⟩)

abbrev s_law_seed : Stmt := top 13

abbrev s_law_take : Stmt := top 14

abbrev s_law_order : Stmt := top 18

abbrev s_Gates_init : Stmt := inClass (top 11) 0

abbrev s_law_row : Stmt := top 16

abbrev s_Gates_edge_of : Stmt := inClass (top 11) 1

abbrev s_Gates_leaf : Stmt := inClass (top 11) 2

abbrev s_law_opposite : Stmt := top 15

abbrev s_law_both : Stmt := top 17

abbrev s_opposite : Stmt := top 10

abbrev s_Gates_both : Stmt := inClass (top 11) 3

abbrev s_law_both_of : Stmt := top 19

abbrev s_law_edge : Stmt := top 20

abbrev s_Plan_init : Stmt := inClass (top 6) 0

abbrev s_other : Stmt := top 4

abbrev s_Gates_cone : Stmt := inClass (top 11) 9

abbrev s_Gates_hangs_on : Stmt := inClass (top 11) 11

abbrev s_Plan_misfit : Stmt := inClass (top 6) 3

abbrev s_law_fault : Stmt := top 21

abbrev s_law_reached : Stmt := top 22

abbrev s_law_misfit : Stmt := top 23

abbrev s_Gates_gate_rows : Stmt := inClass (top 11) 10

abbrev s_Plan_edges : Stmt := inClass (top 6) 1

abbrev s_Plan_gate_count : Stmt := inClass (top 6) 4

abbrev s_Gates_worths : Stmt := inClass (top 11) 12

abbrev s_Plan_answers : Stmt := inClass (top 6) 2

abbrev s_law_value : Stmt := top 24

abbrev s_law_truths : Stmt := top 25

abbrev s_law_answers : Stmt := top 26

abbrev s_law : Stmt := top 27

def fl_Gates (v0 v1 : V) : List (Str × V) := putF "_known" v1 (putF "rows" v0 ([]))
theorem fl_Gates_few {v0 v1 : V} : (fl_Gates v0 v1).length < 1000 := Nat.lt_of_le_of_lt (fewl (fewl (Nat.le_refl 0))) (by decide)
theorem fn_Gates_rows_known : ¬ (("rows" : Str) = "_known") := by decide +kernel
theorem fn_Gates_known_rows : ¬ (("_known" : Str) = "rows") := by decide +kernel
theorem fl_Gates_rows {v0 v1 : V} : (fl_Gates v0 v1).lookup ("rows" : Str) = some v0 := by
  unfold fl_Gates
  rw [lookup_putF, if_neg fn_Gates_rows_known, lookup_putF, if_pos rfl]
theorem fl_Gates_known {v0 v1 : V} : (fl_Gates v0 v1).lookup ("_known" : Str) = some v1 := by
  unfold fl_Gates
  rw [lookup_putF, if_pos rfl]
theorem fl_Gates_put_rows {w v0 v1 : V} : putF "rows" w (fl_Gates v0 v1) = fl_Gates w v1 := by
  unfold fl_Gates
  simp only [putF, if_neg fn_Gates_known_rows, if_neg fn_Gates_rows_known, if_true, if_pos, reduceIte]
theorem fl_Gates_put_known {w v0 v1 : V} : putF "_known" w (fl_Gates v0 v1) = fl_Gates v0 w := by
  unfold fl_Gates
  simp only [putF, if_neg fn_Gates_known_rows, if_neg fn_Gates_rows_known, if_true, if_pos, reduceIte]
theorem fl_Gates_no_edge_of {v0 v1 : V} : (fl_Gates v0 v1).lookup ("_edge_of" : Str) = none := by
  unfold fl_Gates
  rw [lookup_putF, if_neg (show ¬ (("_edge_of" : Str) = "_known") by decide +kernel), lookup_putF, if_neg (show ¬ (("_edge_of" : Str) = "rows") by decide +kernel)]
  rfl
theorem fl_Gates_no_both {v0 v1 : V} : (fl_Gates v0 v1).lookup ("both" : Str) = none := by
  unfold fl_Gates
  rw [lookup_putF, if_neg (show ¬ (("both" : Str) = "_known") by decide +kernel), lookup_putF, if_neg (show ¬ (("both" : Str) = "rows") by decide +kernel)]
  rfl
theorem fl_Gates_no_cone {v0 v1 : V} : (fl_Gates v0 v1).lookup ("cone" : Str) = none := by
  unfold fl_Gates
  rw [lookup_putF, if_neg (show ¬ (("cone" : Str) = "_known") by decide +kernel), lookup_putF, if_neg (show ¬ (("cone" : Str) = "rows") by decide +kernel)]
  rfl
theorem fl_Gates_no_gate_rows {v0 v1 : V} : (fl_Gates v0 v1).lookup ("gate_rows" : Str) = none := by
  unfold fl_Gates
  rw [lookup_putF, if_neg (show ¬ (("gate_rows" : Str) = "_known") by decide +kernel), lookup_putF, if_neg (show ¬ (("gate_rows" : Str) = "rows") by decide +kernel)]
  rfl
theorem fl_Gates_no_hangs_on {v0 v1 : V} : (fl_Gates v0 v1).lookup ("hangs_on" : Str) = none := by
  unfold fl_Gates
  rw [lookup_putF, if_neg (show ¬ (("hangs_on" : Str) = "_known") by decide +kernel), lookup_putF, if_neg (show ¬ (("hangs_on" : Str) = "rows") by decide +kernel)]
  rfl
theorem fl_Gates_no_leaf {v0 v1 : V} : (fl_Gates v0 v1).lookup ("leaf" : Str) = none := by
  unfold fl_Gates
  rw [lookup_putF, if_neg (show ¬ (("leaf" : Str) = "_known") by decide +kernel), lookup_putF, if_neg (show ¬ (("leaf" : Str) = "rows") by decide +kernel)]
  rfl
theorem fl_Gates_no_worths {v0 v1 : V} : (fl_Gates v0 v1).lookup ("worths" : Str) = none := by
  unfold fl_Gates
  rw [lookup_putF, if_neg (show ¬ (("worths" : Str) = "_known") by decide +kernel), lookup_putF, if_neg (show ¬ (("worths" : Str) = "rows") by decide +kernel)]
  rfl

def fl_Plan (v0 v1 v2 : V) : List (Str × V) := putF "table" v2 (putF "gates" v1 (putF "side" v0 ([])))
theorem fl_Plan_few {v0 v1 v2 : V} : (fl_Plan v0 v1 v2).length < 1000 := Nat.lt_of_le_of_lt (fewl (fewl (fewl (Nat.le_refl 0)))) (by decide)
theorem fn_Plan_side_gates : ¬ (("side" : Str) = "gates") := by decide +kernel
theorem fn_Plan_side_table : ¬ (("side" : Str) = "table") := by decide +kernel
theorem fn_Plan_gates_side : ¬ (("gates" : Str) = "side") := by decide +kernel
theorem fn_Plan_gates_table : ¬ (("gates" : Str) = "table") := by decide +kernel
theorem fn_Plan_table_side : ¬ (("table" : Str) = "side") := by decide +kernel
theorem fn_Plan_table_gates : ¬ (("table" : Str) = "gates") := by decide +kernel
theorem fl_Plan_side {v0 v1 v2 : V} : (fl_Plan v0 v1 v2).lookup ("side" : Str) = some v0 := by
  unfold fl_Plan
  rw [lookup_putF, if_neg fn_Plan_side_table, lookup_putF, if_neg fn_Plan_side_gates, lookup_putF, if_pos rfl]
theorem fl_Plan_gates {v0 v1 v2 : V} : (fl_Plan v0 v1 v2).lookup ("gates" : Str) = some v1 := by
  unfold fl_Plan
  rw [lookup_putF, if_neg fn_Plan_gates_table, lookup_putF, if_pos rfl]
theorem fl_Plan_table {v0 v1 v2 : V} : (fl_Plan v0 v1 v2).lookup ("table" : Str) = some v2 := by
  unfold fl_Plan
  rw [lookup_putF, if_pos rfl]
theorem fl_Plan_put_side {w v0 v1 v2 : V} : putF "side" w (fl_Plan v0 v1 v2) = fl_Plan w v1 v2 := by
  unfold fl_Plan
  simp only [putF, if_neg fn_Plan_gates_side, if_neg fn_Plan_table_side, if_neg fn_Plan_side_gates, if_neg fn_Plan_table_gates, if_neg fn_Plan_side_table, if_neg fn_Plan_gates_table, if_true, if_pos, reduceIte]
theorem fl_Plan_put_gates {w v0 v1 v2 : V} : putF "gates" w (fl_Plan v0 v1 v2) = fl_Plan v0 w v2 := by
  unfold fl_Plan
  simp only [putF, if_neg fn_Plan_gates_side, if_neg fn_Plan_table_side, if_neg fn_Plan_side_gates, if_neg fn_Plan_table_gates, if_neg fn_Plan_side_table, if_neg fn_Plan_gates_table, if_true, if_pos, reduceIte]
theorem fl_Plan_put_table {w v0 v1 v2 : V} : putF "table" w (fl_Plan v0 v1 v2) = fl_Plan v0 v1 w := by
  unfold fl_Plan
  simp only [putF, if_neg fn_Plan_gates_side, if_neg fn_Plan_table_side, if_neg fn_Plan_side_gates, if_neg fn_Plan_table_gates, if_neg fn_Plan_side_table, if_neg fn_Plan_gates_table, if_true, if_pos, reduceIte]
theorem fl_Plan_no_answers {v0 v1 v2 : V} : (fl_Plan v0 v1 v2).lookup ("answers" : Str) = none := by
  unfold fl_Plan
  rw [lookup_putF, if_neg (show ¬ (("answers" : Str) = "table") by decide +kernel), lookup_putF, if_neg (show ¬ (("answers" : Str) = "gates") by decide +kernel), lookup_putF, if_neg (show ¬ (("answers" : Str) = "side") by decide +kernel)]
  rfl
theorem fl_Plan_no_edges {v0 v1 v2 : V} : (fl_Plan v0 v1 v2).lookup ("edges" : Str) = none := by
  unfold fl_Plan
  rw [lookup_putF, if_neg (show ¬ (("edges" : Str) = "table") by decide +kernel), lookup_putF, if_neg (show ¬ (("edges" : Str) = "gates") by decide +kernel), lookup_putF, if_neg (show ¬ (("edges" : Str) = "side") by decide +kernel)]
  rfl
theorem fl_Plan_no_gate_count {v0 v1 v2 : V} : (fl_Plan v0 v1 v2).lookup ("gate_count" : Str) = none := by
  unfold fl_Plan
  rw [lookup_putF, if_neg (show ¬ (("gate_count" : Str) = "table") by decide +kernel), lookup_putF, if_neg (show ¬ (("gate_count" : Str) = "gates") by decide +kernel), lookup_putF, if_neg (show ¬ (("gate_count" : Str) = "side") by decide +kernel)]
  rfl
theorem fl_Plan_no_misfit {v0 v1 v2 : V} : (fl_Plan v0 v1 v2).lookup ("misfit" : Str) = none := by
  unfold fl_Plan
  rw [lookup_putF, if_neg (show ¬ (("misfit" : Str) = "table") by decide +kernel), lookup_putF, if_neg (show ¬ (("misfit" : Str) = "gates") by decide +kernel), lookup_putF, if_neg (show ¬ (("misfit" : Str) = "side") by decide +kernel)]
  rfl

structure Txt (K : PySem.W.Frag) (mg : Str → Option Value) where
  z_abs : mg "abs" = none
  z_bool : mg "bool" = none
  z_dict : mg "dict" = none
  z_int : mg "int" = none
  z_isinstance : mg "isinstance" = none
  z_len : mg "len" = none
  z_list : mg "list" = none
  z_max : mg "max" = none
  z_min : mg "min" = none
  z_range : mg "range" = none
  z_sorted : mg "sorted" = none
  z_zip : mg "zip" = none
  t_ALL : Tok
  g_ALL : mg "ALL" = some (.str "all" t_ALL)
  t_NO : Tok
  g_NO : mg "NO" = some (.int 0 t_NO)
  t_SOME : Tok
  g_SOME : mg "SOME" = some (.str "some" t_SOME)
  t_YES : Tok
  g_YES : mg "YES" = some (.int 1 t_YES)
  a_law_seed : Addr
  d_law_seed : FuncData
  F_law_seed : Fun K "_law_seed" "_law_seed" s_law_seed a_law_seed d_law_seed
  b_law_seed : Binds K d_law_seed ["script"] []
  g_law_seed : mg "_law_seed" = some (.ref a_law_seed)
  a_law_take : Addr
  d_law_take : FuncData
  F_law_take : Fun K "_law_take" "_law_take" s_law_take a_law_take d_law_take
  b_law_take : Binds K d_law_take ["script", "source", "size"] []
  g_law_take : mg "_law_take" = some (.ref a_law_take)
  a_law_order : Addr
  d_law_order : FuncData
  F_law_order : Fun K "_law_order" "_law_order" s_law_order a_law_order d_law_order
  b_law_order : Binds K d_law_order ["script", "source"] []
  g_law_order : mg "_law_order" = some (.ref a_law_order)
  a_Gates_init : Addr
  d_Gates_init : FuncData
  F_Gates_init : Fun K "__init__" "Gates.__init__" s_Gates_init a_Gates_init d_Gates_init
  b_Gates_init : Binds K d_Gates_init ["self"] []
  a_law_row : Addr
  d_law_row : FuncData
  F_law_row : Fun K "_law_row" "_law_row" s_law_row a_law_row d_law_row
  b_law_row : Binds K d_law_row ["rows", "row"] []
  g_law_row : mg "_law_row" = some (.ref a_law_row)
  a_Gates_edge_of : Addr
  d_Gates_edge_of : FuncData
  F_Gates_edge_of : Fun K "_edge_of" "Gates._edge_of" s_Gates_edge_of a_Gates_edge_of d_Gates_edge_of
  b_Gates_edge_of : Binds K d_Gates_edge_of ["self", "row"] []
  a_Gates_leaf : Addr
  d_Gates_leaf : FuncData
  F_Gates_leaf : Fun K "leaf" "Gates.leaf" s_Gates_leaf a_Gates_leaf d_Gates_leaf
  b_Gates_leaf : Binds K d_Gates_leaf ["self", "letter"] []
  a_law_opposite : Addr
  d_law_opposite : FuncData
  F_law_opposite : Fun K "_law_opposite" "_law_opposite" s_law_opposite a_law_opposite d_law_opposite
  b_law_opposite : Binds K d_law_opposite ["edge"] []
  g_law_opposite : mg "_law_opposite" = some (.ref a_law_opposite)
  a_law_both : Addr
  d_law_both : FuncData
  F_law_both : Fun K "_law_both" "_law_both" s_law_both a_law_both d_law_both
  b_law_both : Binds K d_law_both ["rows", "a", "b"] []
  g_law_both : mg "_law_both" = some (.ref a_law_both)
  a_opposite : Addr
  d_opposite : FuncData
  F_opposite : Fun K "opposite" "opposite" s_opposite a_opposite d_opposite
  b_opposite : Binds K d_opposite ["edge"] []
  g_opposite : mg "opposite" = some (.ref a_opposite)
  a_Gates_both : Addr
  d_Gates_both : FuncData
  F_Gates_both : Fun K "both" "Gates.both" s_Gates_both a_Gates_both d_Gates_both
  b_Gates_both : Binds K d_Gates_both ["self", "a", "b"] []
  a_law_both_of : Addr
  d_law_both_of : FuncData
  F_law_both_of : Fun K "_law_both_of" "_law_both_of" s_law_both_of a_law_both_of d_law_both_of
  b_law_both_of : Binds K d_law_both_of ["gates", "rows", "a", "b"] []
  g_law_both_of : mg "_law_both_of" = some (.ref a_law_both_of)
  a_law_edge : Addr
  d_law_edge : FuncData
  F_law_edge : Fun K "_law_edge" "_law_edge" s_law_edge a_law_edge d_law_edge
  b_law_edge : Binds K d_law_edge ["script", "source", "gates", "rows", "ahead"] []
  g_law_edge : mg "_law_edge" = some (.ref a_law_edge)
  a_Plan_init : Addr
  d_Plan_init : FuncData
  F_Plan_init : Fun K "__init__" "Plan.__init__" s_Plan_init a_Plan_init d_Plan_init
  b_Plan_init : Binds K d_Plan_init ["self", "side", "gates", "table"] []
  a_other : Addr
  d_other : FuncData
  F_other : Fun K "other" "other" s_other a_other d_other
  b_other : Binds K d_other ["side"] []
  g_other : mg "other" = some (.ref a_other)
  a_Gates_cone : Addr
  d_Gates_cone : FuncData
  F_Gates_cone : Fun K "cone" "Gates.cone" s_Gates_cone a_Gates_cone d_Gates_cone
  b_Gates_cone : Binds K d_Gates_cone ["self", "edges"] []
  a_Gates_hangs_on : Addr
  d_Gates_hangs_on : FuncData
  F_Gates_hangs_on : Fun K "hangs_on" "Gates.hangs_on" s_Gates_hangs_on a_Gates_hangs_on d_Gates_hangs_on
  b_Gates_hangs_on : Binds K d_Gates_hangs_on ["self", "edge"] []
  a_Plan_misfit : Addr
  d_Plan_misfit : FuncData
  F_Plan_misfit : Fun K "misfit" "Plan.misfit" s_Plan_misfit a_Plan_misfit d_Plan_misfit
  b_Plan_misfit : Binds K d_Plan_misfit ["self", "order"] []
  a_law_fault : Addr
  d_law_fault : FuncData
  F_law_fault : Fun K "_law_fault" "_law_fault" s_law_fault a_law_fault d_law_fault
  b_law_fault : Binds K d_law_fault ["script", "source", "gates", "rows", "order", "side", "table"] []
  g_law_fault : mg "_law_fault" = some (.ref a_law_fault)
  a_law_reached : Addr
  d_law_reached : FuncData
  F_law_reached : Fun K "_law_reached" "_law_reached" s_law_reached a_law_reached d_law_reached
  b_law_reached : Binds K d_law_reached ["rows", "edges"] []
  g_law_reached : mg "_law_reached" = some (.ref a_law_reached)
  a_law_misfit : Addr
  d_law_misfit : FuncData
  F_law_misfit : Fun K "_law_misfit" "_law_misfit" s_law_misfit a_law_misfit d_law_misfit
  b_law_misfit : Binds K d_law_misfit ["rows", "order", "side", "table"] []
  g_law_misfit : mg "_law_misfit" = some (.ref a_law_misfit)
  a_Gates_gate_rows : Addr
  d_Gates_gate_rows : FuncData
  F_Gates_gate_rows : Fun K "gate_rows" "Gates.gate_rows" s_Gates_gate_rows a_Gates_gate_rows d_Gates_gate_rows
  b_Gates_gate_rows : Binds K d_Gates_gate_rows ["self", "edges"] []
  a_Plan_edges : Addr
  d_Plan_edges : FuncData
  F_Plan_edges : Fun K "edges" "Plan.edges" s_Plan_edges a_Plan_edges d_Plan_edges
  b_Plan_edges : Binds K d_Plan_edges ["self"] []
  a_Plan_gate_count : Addr
  d_Plan_gate_count : FuncData
  F_Plan_gate_count : Fun K "gate_count" "Plan.gate_count" s_Plan_gate_count a_Plan_gate_count d_Plan_gate_count
  b_Plan_gate_count : Binds K d_Plan_gate_count ["self"] []
  a_Gates_worths : Addr
  d_Gates_worths : FuncData
  F_Gates_worths : Fun K "worths" "Gates.worths" s_Gates_worths a_Gates_worths d_Gates_worths
  b_Gates_worths : Binds K d_Gates_worths ["self", "edges", "choices"] []
  a_Plan_answers : Addr
  d_Plan_answers : FuncData
  F_Plan_answers : Fun K "answers" "Plan.answers" s_Plan_answers a_Plan_answers d_Plan_answers
  b_Plan_answers : Binds K d_Plan_answers ["self", "given"] []
  a_law_value : Addr
  d_law_value : FuncData
  F_law_value : Fun K "_law_value" "_law_value" s_law_value a_law_value d_law_value
  b_law_value : Binds K d_law_value ["truths", "edge"] []
  g_law_value : mg "_law_value" = some (.ref a_law_value)
  a_law_truths : Addr
  d_law_truths : FuncData
  F_law_truths : Fun K "_law_truths" "_law_truths" s_law_truths a_law_truths d_law_truths
  b_law_truths : Binds K d_law_truths ["rows", "choices"] []
  g_law_truths : mg "_law_truths" = some (.ref a_law_truths)
  a_law_answers : Addr
  d_law_answers : FuncData
  F_law_answers : Fun K "_law_answers" "_law_answers" s_law_answers a_law_answers d_law_answers
  b_law_answers : Binds K d_law_answers ["plan", "rows", "table", "given"] []
  g_law_answers : mg "_law_answers" = some (.ref a_law_answers)
  a_law : Addr
  d_law : FuncData
  F_law : Fun K "law" "law" s_law a_law d_law
  b_law : Binds K d_law ["script"] []
  g_law : mg "law" = some (.ref a_law)
  a_Gates : Addr
  cl_Gates : Cls K a_Gates
  g_Gates : mg "Gates" = some (.ref a_Gates)
  n_Gates_rows : NoAttr K a_Gates "rows"
  n_Gates_known : NoAttr K a_Gates "_known"
  mk_Gates : Mk K a_Gates a_Gates_init
  h_Gates_edge_of : Meth K a_Gates "_edge_of" a_Gates_edge_of
  h_Gates_leaf : Meth K a_Gates "leaf" a_Gates_leaf
  h_Gates_both : Meth K a_Gates "both" a_Gates_both
  h_Gates_cone : Meth K a_Gates "cone" a_Gates_cone
  h_Gates_hangs_on : Meth K a_Gates "hangs_on" a_Gates_hangs_on
  h_Gates_gate_rows : Meth K a_Gates "gate_rows" a_Gates_gate_rows
  h_Gates_worths : Meth K a_Gates "worths" a_Gates_worths
  a_Plan : Addr
  cl_Plan : Cls K a_Plan
  g_Plan : mg "Plan" = some (.ref a_Plan)
  n_Plan_side : NoAttr K a_Plan "side"
  n_Plan_gates : NoAttr K a_Plan "gates"
  n_Plan_table : NoAttr K a_Plan "table"
  mk_Plan : Mk K a_Plan a_Plan_init
  h_Plan_misfit : Meth K a_Plan "misfit" a_Plan_misfit
  h_Plan_edges : Meth K a_Plan "edges" a_Plan_edges
  h_Plan_gate_count : Meth K a_Plan "gate_count" a_Plan_gate_count
  h_Plan_answers : Meth K a_Plan "answers" a_Plan_answers

section
variable {P : Program} {w : World} {K : PySem.W.Frag} {mg : Str → Option Value} {base : Heap}

theorem sc_law_seed : FnScope ["script", "seed", "cell"] ["script"] (defScope s_law_seed) := ⟨rfl, rfl, rfl, by decide +kernel, rfl, by decide +kernel, by decide +kernel⟩

theorem sc_law_take : FnScope ["script", "source", "size", "digit"] ["script", "source", "size"] (defScope s_law_take) := ⟨rfl, rfl, rfl, by decide +kernel, rfl, by decide +kernel, by decide +kernel⟩

theorem sc_law_order : FnScope ["script", "source", "count", "left", "order", "letter"] ["script", "source"] (defScope s_law_order) := ⟨rfl, rfl, rfl, by decide +kernel, rfl, by decide +kernel, by decide +kernel⟩

theorem sc_Gates_init : FnScope ["self"] ["self"] (defScope s_Gates_init) := ⟨rfl, rfl, rfl, by decide +kernel, rfl, by decide +kernel, by decide +kernel⟩

theorem sc_law_row : FnScope ["rows", "row", "k"] ["rows", "row"] (defScope s_law_row) := ⟨rfl, rfl, rfl, by decide +kernel, rfl, by decide +kernel, by decide +kernel⟩

theorem sc_Gates_edge_of : FnScope ["self", "row"] ["self", "row"] (defScope s_Gates_edge_of) := ⟨rfl, rfl, rfl, by decide +kernel, rfl, by decide +kernel, by decide +kernel⟩

theorem sc_Gates_leaf : FnScope ["self", "letter"] ["self", "letter"] (defScope s_Gates_leaf) := ⟨rfl, rfl, rfl, by decide +kernel, rfl, by decide +kernel, by decide +kernel⟩

theorem sc_law_opposite : FnScope ["edge"] ["edge"] (defScope s_law_opposite) := ⟨rfl, rfl, rfl, by decide +kernel, rfl, by decide +kernel, by decide +kernel⟩

theorem sc_law_both : FnScope ["rows", "a", "b"] ["rows", "a", "b"] (defScope s_law_both) := ⟨rfl, rfl, rfl, by decide +kernel, rfl, by decide +kernel, by decide +kernel⟩

theorem sc_opposite : FnScope ["edge"] ["edge"] (defScope s_opposite) := ⟨rfl, rfl, rfl, by decide +kernel, rfl, by decide +kernel, by decide +kernel⟩

theorem sc_Gates_both : FnScope ["self", "a", "b", "low", "high"] ["self", "a", "b"] (defScope s_Gates_both) := ⟨rfl, rfl, rfl, by decide +kernel, rfl, by decide +kernel, by decide +kernel⟩

theorem sc_law_both_of : FnScope ["gates", "rows", "a", "b", "due"] ["gates", "rows", "a", "b"] (defScope s_law_both_of) := ⟨rfl, rfl, rfl, by decide +kernel, rfl, by decide +kernel, by decide +kernel⟩

theorem sc_law_edge : FnScope ["script", "source", "gates", "rows", "ahead", "edges", "letter", "edge", "k", "more"] ["script", "source", "gates", "rows", "ahead"] (defScope s_law_edge) := ⟨rfl, rfl, rfl, by decide +kernel, rfl, by decide +kernel, by decide +kernel⟩

theorem sc_Plan_init : FnScope ["self", "side", "gates", "table", "letter"] ["self", "side", "gates", "table"] (defScope s_Plan_init) := ⟨rfl, rfl, rfl, by decide +kernel, rfl, by decide +kernel, by decide +kernel⟩

theorem sc_other : FnScope ["side"] ["side"] (defScope s_other) := ⟨rfl, rfl, rfl, by decide +kernel, rfl, by decide +kernel, by decide +kernel⟩

theorem sc_Gates_cone : FnScope ["self", "edges", "seen", "todo", "k", "row", "edge"] ["self", "edges"] (defScope s_Gates_cone) := ⟨rfl, rfl, rfl, by decide +kernel, rfl, by decide +kernel, by decide +kernel⟩

theorem sc_Gates_hangs_on : FnScope ["self", "edge", "k"] ["self", "edge"] (defScope s_Gates_hangs_on) := ⟨rfl, rfl, rfl, by decide +kernel, rfl, by decide +kernel, by decide +kernel⟩

theorem sc_Plan_misfit : FnScope ["self", "order", "ahead", "own", "letter", "side", "used"] ["self", "order"] (defScope s_Plan_misfit) := ⟨rfl, rfl, rfl, by decide +kernel, rfl, by decide +kernel, by decide +kernel⟩

theorem sc_law_fault : FnScope ["script", "source", "gates", "rows", "order", "side", "table", "own", "letter", "kind", "places", "behind", "wrong", "edge", "first", "pair", "k"] ["script", "source", "gates", "rows", "order", "side", "table"] (defScope s_law_fault) := ⟨rfl, rfl, rfl, by decide +kernel, rfl, by decide +kernel, by decide +kernel⟩

theorem sc_law_reached : FnScope ["rows", "edges", "flags", "edge", "k", "row"] ["rows", "edges"] (defScope s_law_reached) := ⟨rfl, rfl, rfl, by decide +kernel, rfl, by decide +kernel, by decide +kernel⟩

theorem sc_law_misfit : FnScope ["rows", "order", "side", "table", "ahead", "own", "letter", "owner", "k", "key"] ["rows", "order", "side", "table"] (defScope s_law_misfit) := ⟨rfl, rfl, rfl, by decide +kernel, rfl, by decide +kernel, by decide +kernel⟩

theorem sc_Gates_gate_rows : FnScope ["self", "edges", "k"] ["self", "edges"] (defScope s_Gates_gate_rows) := ⟨rfl, rfl, rfl, by decide +kernel, rfl, by decide +kernel, by decide +kernel⟩

theorem sc_Plan_edges : FnScope ["self", "letter"] ["self"] (defScope s_Plan_edges) := ⟨rfl, rfl, rfl, by decide +kernel, rfl, by decide +kernel, by decide +kernel⟩

theorem sc_Plan_gate_count : FnScope ["self"] ["self"] (defScope s_Plan_gate_count) := ⟨rfl, rfl, rfl, by decide +kernel, rfl, by decide +kernel, by decide +kernel⟩

theorem sc_Gates_worths : FnScope ["self", "edges", "choices", "truth", "k", "row", "left", "right", "edge"] ["self", "edges", "choices"] (defScope s_Gates_worths) := ⟨rfl, rfl, rfl, by decide +kernel, rfl, by decide +kernel, by decide +kernel⟩

theorem sc_Plan_answers : FnScope ["self", "given", "values", "letter", "value"] ["self", "given"] (defScope s_Plan_answers) := ⟨rfl, rfl, rfl, by decide +kernel, rfl, by decide +kernel, by decide +kernel⟩

theorem sc_law_value : FnScope ["truths", "edge"] ["truths", "edge"] (defScope s_law_value) := ⟨rfl, rfl, rfl, by decide +kernel, rfl, by decide +kernel, by decide +kernel⟩

theorem sc_law_truths : FnScope ["rows", "choices", "truths", "k", "row"] ["rows", "choices"] (defScope s_law_truths) := ⟨rfl, rfl, rfl, by decide +kernel, rfl, by decide +kernel, by decide +kernel⟩

theorem sc_law_answers : FnScope ["plan", "rows", "table", "given", "actual", "truths", "letter"] ["plan", "rows", "table", "given"] (defScope s_law_answers) := ⟨rfl, rfl, rfl, by decide +kernel, rfl, by decide +kernel, by decide +kernel⟩

theorem sc_law : FnScope ["script", "source", "order", "side", "gates", "rows", "table", "ahead", "letter", "owner", "handed", "plan", "due", "got", "count", "both", "given", "k", "key"] ["script"] (defScope s_law) := ⟨rfl, rfl, rfl, by decide +kernel, rfl, by decide +kernel, by decide +kernel⟩

def sp_law_seed (T : Txt K mg) : Sp := fun vs H Q _ => ∃ (F0 : Hp) (R : Own) (a_script0 : Addr) (v_script0 : List V) (x_script0 : (List Int)) (r : Int),
  vs = [V.ref a_script0] ∧ SqL K F0 a_script0 v_script0 ∧ LR (rInt F0) v_script0 x_script0 ∧ Sta F0 ([] ++ R) H ∧ m_law_seed x_script0 = some r ∧ Q (V.int r) H

theorem ok_law_seed (T : Txt K mg) : FnOk P w K mg base CX0 1 T.a_law_seed T.d_law_seed ["script"] (sp_law_seed T) := by
  refine T.F_law_seed.ok sc_law_seed (fun vs H Q E h => ?_) (fun cdv A outer s H vs Q E hr h => ?_)
  · obtain ⟨_, _, _, _, _, _, rfl, _⟩ := h
    rfl
  · obtain ⟨F0, R, a_script0, v_script0, x_script0, r, rfl, hs_script0, hl_script0, S0, hm, kk⟩ := h
    have hu := hu_of hr
    unfold m_law_seed at hm
    refine ⟨_, (pss_cons (ps_set (i := 1) sc_law_seed.nd rfl (Or.inl rfl) pe_int) (pss_cons (ps_for PassesOwn.never rfl (pi_list (pv 0)) (pg_name (i := 2) sc_law_seed.nd rfl (Or.inl rfl)) (pss_one (ps_set (i := 1) sc_law_seed.nd rfl (Or.inl rfl) (pe_op op_mod (pe_op op_add (pe_op op_add (pe_op op_mul (pv 1) pe_int) (pe_op op_mod (pe_callTy call_int1 (by rfl) T.z_int (by decide +kernel) (pa_cons (pv 2) pa_nil)) pe_int)) pe_int) pe_int)))) (pss_one (ps_ret (pv 1))))), ?_⟩
    refine seqI fun N1 hN2 => ?_
    refine hN2 _ _ ?_
    refine seqI fun N3 hN4 => ?_
    revert hm; refine bndI fun y5 e6 hm7 => ?_
    refine ⟨_, rfl, _, rfl, ⟨_, (SqL.mono hs_script0 ((Same.refl _).trans S0.sub))⟩, for_list (K := K) (a := a_script0) (xs := v_script0) (fun i σ H2 => ∃ (st1 : Int) (F20 : Hp) (o23 : Option V), σ = [some (V.ref a_script0), some (V.int st1), o23] ∧ H = H2 ∧ Same F0 F20 ∧ Sta F20 ([] ++ R) H2 ∧ m_law_seed_l1 (List.drop i x_script0) st1 = some y5) ⟨(1 : Int), F0, _, rfl, rfl, (Same.refl _), S0, e6⟩ (by rintro i σ H2 _ ⟨st1, F20, o23, rfl, rfl, s21, S22, _⟩; exact (SqL.mono hs_script0 (s21.trans S22.sub))) ?_ ?_⟩
    · rintro i v25 σ H2 hi ⟨st1, F20, o23, rfl, rfl, s21, S22, hm⟩
      obtain ⟨x24, hx26, rx27⟩ := LR.getV hl_script0 hi
      rw [drop_cons hx26, m_law_seed_l1] at hm
      obtain rfl := rInt_e rx27
      refine ⟨_, rfl, _, _, rfl, rfl, .inr ⟨by decide, by decide⟩, _, rfl, ?_⟩
      refine .inl ⟨_, rfl, ?_⟩
      refine ⟨_, _, rfl, rfl, (by show (0 : Int) < 2147483647; decide), _, _, rfl, rfl, _, _, rfl, rfl, _, _, rfl, rfl, (by show (0 : Int) < 2147483647; decide), ?_⟩
      exact ⟨((((st1 * (69621 : Int)) + (x24 % (2147483647 : Int))) + (7 : Int)) % (2147483647 : Int)), F20, _, rfl, rfl, s21, S22, hm⟩
    · rintro σ H2 ⟨st1, F20, o23, rfl, rfl, s21, S22, hm⟩
      rw [LR.dropEnd hl_script0, m_law_seed_l1] at hm
      obtain rfl := Option.some.inj hm
      have hm := hm7
      refine hN4 _ _ ?_
      refine ⟨_, rfl, ?_⟩
      obtain rfl := Option.some.inj hm
      exact kk

def sp_law_take (T : Txt K mg) : Sp := fun vs H Q _ => ∃ (F0 : Hp) (R : Own) (a_script0 : Addr) (v_script0 : List V) (x_script0 : (List Int)) (a_source0 : Addr) (v_source0 : List V) (x_source0 : (List Int)) (x_size0 : Int) (r : (Int × (List Int))),
  vs = [V.ref a_script0, V.ref a_source0, V.int x_size0] ∧ SqL K F0 a_script0 v_script0 ∧ LR (rInt F0) v_script0 x_script0 ∧ LR (rInt F0) v_source0 x_source0 ∧ Sta F0 ([(a_source0, HO.lst v_source0)] ++ R) H ∧ m_law_take x_script0 x_source0 x_size0 = some r ∧ ∀ (F1 : Hp) (H1 : Hp) (v_source0p : List V), Same F0 F1 → Sta F1 ([(a_source0, HO.lst v_source0p)] ++ R) H1 → LR (rInt F1) v_source0p r.2 → Q (V.int r.1) H1

theorem ok_law_take (T : Txt K mg) : FnOk P w K mg base CX0 1 T.a_law_take T.d_law_take ["script", "source", "size"] (sp_law_take T) := by
  refine T.F_law_take.ok sc_law_take (fun vs H Q E h => ?_) (fun cdv A outer s H vs Q E hr h => ?_)
  · obtain ⟨_, _, _, _, _, _, _, _, _, _, rfl, _⟩ := h
    rfl
  · obtain ⟨F0, R, a_script0, v_script0, x_script0, a_source0, v_source0, x_source0, x_size0, r, rfl, hs_script0, hl_script0, hl_source0, S0, hm, kk⟩ := h
    have hu := hu_of hr
    unfold m_law_take at hm
    refine ⟨_, (C8.pss_cut (ps_if (pt_pure (PW.pt (pw_and (pt_cmpR oI_eq (pe_ix ix_list (pv 1) pe_int (fun _ _ => rfl)) pe_int (nomark _)) (pw_and1 (pt_cmpR op_lt (pe_ix ix_list (pv 1) pe_int (fun _ _ => rfl)) (pe_callB call_len_seq (by rfl) T.z_len PySem.boot_len (pa_cons (pv 0) pa_nil)) (nomark _)))))) (pss_cons (ps_asg (pe_callB call_abs (by rfl) T.z_abs (by decide +kernel) (pa_cons (pe_ix ix_list (pv 0) (pe_ix ix_list (pv 1) pe_int (fun _ _ => rfl)) (fun _ _ => rfl)) pa_nil)) (pg_sub (pv 1) pe_int set_list)) (pss_one (ps_asg (pe_op op_add (pe_ix ix_list (pv 1) pe_int (fun _ _ => rfl)) pe_int) (pg_sub (pv 1) pe_int set_list)))) pss_nil) (pss_cons (ps_if (pt_cmpR op_gt (pe_ix ix_list (pv 1) pe_int (fun _ _ => rfl)) pe_int (nomark _)) (pss_cons (ps_set (i := 3) sc_law_take.nd rfl (Or.inl rfl) (pe_op op_mod (pe_callTy call_int1 (by rfl) T.z_int (by decide +kernel) (pa_cons (pe_ix ix_list (pv 1) pe_int (fun _ _ => rfl)) pa_nil)) (pv 2))) (pss_cons (ps_asg (pe_op op_fdiv (pe_ix ix_list (pv 1) pe_int (fun _ _ => rfl)) (pv 2)) (pg_sub (pv 1) pe_int set_list)) (pss_one (ps_ret (pv 3))))) pss_nil) (pss_cons (ps_asg (pe_op op_mod (pe_op op_add (pe_op op_mul (pe_ix ix_list (pv 1) pe_int (fun _ _ => rfl)) pe_int) pe_int) pe_int) (pg_sub (pv 1) pe_int set_list)) (pss_one (ps_ret (pe_op op_mod (pe_op op_fdiv (pe_ix ix_list (pv 1) pe_int (fun _ _ => rfl)) pe_int) (pv 2))))))), ?_⟩
    revert hm; refine bndI fun y6 e7 hm => ?_
    refine ⟨fun σ H2 => ∃ (F1 : Hp) (v4 : List V), σ = [some (V.ref a_script0), some (V.ref a_source0), some (V.int x_size0), none] ∧ Same F0 F1 ∧ Sta F1 ([(a_source0, HO.lst v4)] ++ R) H2 ∧ LR (rInt F1) v4 y6, ?_, ?_⟩
    · clear hm; have hm := e7; clear e7
      revert hm; refine bndI fun b8 e9 hm => ?_
      refine ⟨b8, ?_, ?_⟩
      · clear hm
        have hm := e9
        clear e9
        revert hm; refine bndI fun y10 e11 hm => ?_
        obtain ⟨v12, ev13, rv14⟩ := LR.atI hl_source0 e11
        obtain rfl := rInt_e rv14
        refine ⟨_, rfl, _, _, _, _, rfl, rfl, (SqL.of (S0.get 0 rfl)), ev13, _, _, rfl, rfl, _, rfl, ?_⟩
        by_cases c15 : (decide (y10 = (0 : Int))) = true
        · revert hm; refine ifTI c15 fun hm => ?_
          refine goT c15 ?_
          revert hm; refine bndI fun y16 e17 hm => ?_
          obtain ⟨v18, ev19, rv20⟩ := LR.atI hl_source0 e17
          obtain rfl := rInt_e rv20
          refine ⟨_, rfl, _, _, _, _, rfl, rfl, (SqL.of (S0.get 0 rfl)), ev19, _, rfl, _, _, rfl, .inl (SqL.mono hs_script0 ((Same.refl _).trans S0.sub)), ?_⟩
          rw [LR.length hl_script0]
          refine ⟨_, _, rfl, rfl, _, rfl, ?_⟩
          exact ⟨Option.some.inj hm, rfl⟩
        · revert hm; refine ifFI c15 fun hm => ?_
          exact goF c15 ⟨Option.some.inj hm, rfl⟩
      by_cases c21 : b8 = true
      · revert hm; refine ifTI c21 fun hm => ?_
        refine goT c21 ?_
        refine seqI fun N22 hN23 => ?_
        revert hm; refine bndI fun y24 e25 hm => ?_
        obtain ⟨v26, ev27, rv28⟩ := LR.atI hl_source0 e25
        obtain rfl := rInt_e rv28
        revert hm; refine bndI fun y29 e30 hm => ?_
        obtain ⟨v31, ev32, rv33⟩ := LR.atI hl_script0 e30
        obtain rfl := rInt_e rv33
        revert hm; refine bndI fun j34 e35 hm => ?_
        refine ⟨_, rfl, _, rfl, _, _, _, _, rfl, rfl, (SqL.of (S0.get 0 rfl)), ev27, _, _, _, _, rfl, rfl, (SqL.mono hs_script0 ((Same.refl _).trans S0.sub)), ev32, _, rfl, _, rfl, _, _, _, _, rfl, rfl, (S0.get 0 rfl), (by rw [LR.length hl_source0]; exact e35), ?_⟩
        have hl36 : LR (rInt F0) (v_source0.set j34 (V.int (if y29 < 0 then -y29 else y29))) (x_source0.set j34 (if y29 < 0 then -y29 else y29)) := LR.set hl_source0 rfl
        have S37 : Sta F0 ([(a_source0, HO.lst (v_source0.set j34 (V.int (if y29 < 0 then -y29 else y29))))] ++ R) _ := S0.set 0 rfl _
        refine hN23 _ _ ?_
        revert hm; refine bndI fun y38 e39 hm => ?_
        obtain ⟨v40, ev41, rv42⟩ := LR.atI hl36 e39
        obtain rfl := rInt_e rv42
        revert hm; refine bndI fun j43 e44 hm => ?_
        refine ⟨_, rfl, _, _, _, _, rfl, rfl, (SqL.of (S37.get 0 rfl)), ev41, _, _, rfl, rfl, _, rfl, _, _, _, _, rfl, rfl, (S37.get 0 rfl), (by rw [LR.length hl36]; exact e44), ?_⟩
        clear S0
        have hl45 : LR (rInt F0) ((v_source0.set j34 (V.int (if y29 < 0 then -y29 else y29))).set j43 (V.int (y38 + (1 : Int)))) ((x_source0.set j34 (if y29 < 0 then -y29 else y29)).set j43 (y38 + (1 : Int))) := LR.set hl36 rfl
        have S46 : Sta F0 ([(a_source0, HO.lst ((v_source0.set j34 (V.int (if y29 < 0 then -y29 else y29))).set j43 (V.int (y38 + (1 : Int)))))] ++ R) _ := S37.set 0 rfl _
        obtain rfl := Option.some.inj hm
        exact ⟨F0, ((v_source0.set j34 (V.int (if y29 < 0 then -y29 else y29))).set j43 (V.int (y38 + (1 : Int)))), rfl, (Same.refl _), S46, hl45⟩
      · revert hm; refine ifFI c21 fun hm => ?_
        refine goF c21 ?_
        obtain rfl := Option.some.inj hm
        exact ⟨F0, v_source0, rfl, (Same.refl _), S0, hl_source0⟩
    · rintro σ H2 ⟨F1, v4, rfl, s2, S3, hl5⟩
      refine seqI fun N47 hN48 => ?_
      revert hm; refine bndI fun y49 e50 hm => ?_
      obtain ⟨v51, ev52, rv53⟩ := LR.atI hl5 e50
      obtain rfl := rInt_e rv53
      refine ⟨_, rfl, _, _, _, _, rfl, rfl, (SqL.of (S3.get 0 rfl)), ev52, _, _, rfl, rfl, _, rfl, ?_⟩
      by_cases c54 : (decide (y49 > (0 : Int))) = true
      · revert hm; refine ifTI c54 fun hm => ?_
        refine goT c54 ?_
        refine seqI fun N55 hN56 => ?_
        revert hm; refine bndI fun y57 e58 hm => ?_
        obtain ⟨v59, ev60, rv61⟩ := LR.atI hl5 e58
        obtain rfl := rInt_e rv61
        refine ⟨_, rfl, _, _, _, _, rfl, rfl, (SqL.of (S3.get 0 rfl)), ev60, ?_⟩
        refine .inl ⟨_, rfl, ?_⟩
        revert hm; refine grdI fun g62 hm => ?_
        refine ⟨_, rfl, _, _, rfl, rfl, divOk_mod g62, ?_⟩
        refine hN56 _ _ ?_
        refine seqI fun N63 hN64 => ?_
        revert hm; refine bndI fun y65 e66 hm => ?_
        obtain ⟨v67, ev68, rv69⟩ := LR.atI hl5 e66
        obtain rfl := rInt_e rv69
        revert hm; refine grdI fun g70 hm => ?_
        revert hm; refine bndI fun j71 e72 hm => ?_
        refine ⟨_, rfl, _, _, _, _, rfl, rfl, (SqL.of (S3.get 0 rfl)), ev68, _, rfl, _, _, rfl, rfl, divOk_fdiv g70, _, rfl, _, _, _, _, rfl, rfl, (S3.get 0 rfl), (by rw [LR.length hl5]; exact e72), ?_⟩
        have hl73 : LR (rInt F1) (v4.set j71 (V.int (y65 / x_size0))) (y6.set j71 (y65 / x_size0)) := LR.set hl5 rfl
        have S74 : Sta F1 ([(a_source0, HO.lst (v4.set j71 (V.int (y65 / x_size0))))] ++ R) _ := S3.set 0 rfl _
        refine hN64 _ _ ?_
        refine ⟨_, rfl, ?_⟩
        clear S3
        obtain rfl := Option.some.inj hm
        exact kk _ _ (v4.set j71 (V.int (y65 / x_size0))) s2 S74 hl73
      · revert hm; refine ifFI c54 fun hm => ?_
        refine goF c54 ?_
        refine hN48 _ _ ?_
        refine seqI fun N75 hN76 => ?_
        revert hm; refine bndI fun y77 e78 hm => ?_
        obtain ⟨v79, ev80, rv81⟩ := LR.atI hl5 e78
        obtain rfl := rInt_e rv81
        revert hm; refine bndI fun j82 e83 hm => ?_
        refine ⟨_, rfl, _, _, _, _, rfl, rfl, (SqL.of (S3.get 0 rfl)), ev80, _, _, rfl, rfl, .inr ⟨by decide, by decide⟩, _, _, rfl, rfl, _, _, rfl, rfl, (by show (0 : Int) < 2147483647; decide), _, rfl, _, _, _, _, rfl, rfl, (S3.get 0 rfl), (by rw [LR.length hl5]; exact e83), ?_⟩
        have hl84 : LR (rInt F1) (v4.set j82 (V.int (((y77 * (48271 : Int)) + (12345 : Int)) % (2147483647 : Int)))) (y6.set j82 (((y77 * (48271 : Int)) + (12345 : Int)) % (2147483647 : Int))) := LR.set hl5 rfl
        have S85 : Sta F1 ([(a_source0, HO.lst (v4.set j82 (V.int (((y77 * (48271 : Int)) + (12345 : Int)) % (2147483647 : Int)))))] ++ R) _ := S3.set 0 rfl _
        refine hN76 _ _ ?_
        revert hm; refine bndI fun y86 e87 hm => ?_
        obtain ⟨v88, ev89, rv90⟩ := LR.atI hl84 e87
        obtain rfl := rInt_e rv90
        revert hm; refine grdI fun g91 hm => ?_
        refine ⟨_, rfl, _, _, _, _, rfl, rfl, (SqL.of (S85.get 0 rfl)), ev89, _, _, rfl, rfl, ⟨by decide, by decide⟩, _, rfl, _, _, rfl, rfl, divOk_mod g91, ?_⟩
        clear S3
        obtain rfl := Option.some.inj hm
        exact kk _ _ (v4.set j82 (V.int (((y77 * (48271 : Int)) + (12345 : Int)) % (2147483647 : Int)))) s2 S85 hl84

def sp_law_order (T : Txt K mg) : Sp := fun vs H Q _ => ∃ (F0 : Hp) (R : Own) (a_script0 : Addr) (v_script0 : List V) (x_script0 : (List Int)) (a_source0 : Addr) (v_source0 : List V) (x_source0 : (List Int)) (r : ((List (Int × Str)) × (List Int))),
  vs = [V.ref a_script0, V.ref a_source0] ∧ SqL K F0 a_script0 v_script0 ∧ LR (rInt F0) v_script0 x_script0 ∧ LR (rInt F0) v_source0 x_source0 ∧ Sta F0 ([(a_source0, HO.lst v_source0)] ++ R) H ∧ m_law_order x_script0 x_source0 = some r ∧ ∀ (F1 : Hp) (H1 : Hp) (v_source0p : List V) (a_ret0p : Addr) (v_ret0p : List V), Same F0 F1 → Sta F1 ([(a_ret0p, HO.lst v_ret0p), (a_source0, HO.lst v_source0p)] ++ R) H1 → LR (rInt F1) v_source0p r.2 → LR ((rT2 K rInt rStr) F1) v_ret0p r.1 → Q (V.ref a_ret0p) H1

theorem ok_law_order (T : Txt K mg) : FnOk P w K mg base CX0 2 T.a_law_order T.d_law_order ["script", "source"] (sp_law_order T) := by
  refine T.F_law_order.ok sc_law_order (fun vs H Q E h => ?_) (fun cdv A outer s H vs Q E hr h => ?_)
  · obtain ⟨_, _, _, _, _, _, _, _, _, rfl, _⟩ := h
    rfl
  · obtain ⟨F0, R, a_script0, v_script0, x_script0, a_source0, v_source0, x_source0, r, rfl, hs_script0, hl_script0, hl_source0, S0, hm, kk⟩ := h
    have hu := hu_of hr
    unfold m_law_order at hm
    refine ⟨_, (pss_cons (ps_set (i := 2) sc_law_order.nd rfl (Or.inl rfl) (pe_call (ok_law_take T) (hr.mono (by decide)) rfl T.g_law_take T.F_law_take.kp T.b_law_take .nil pass0 (pa_cons (pv 0) (pa_cons (pv 1) (pa_cons pe_int pa_nil))))) (C8.pss_cut (ps_if (pt_cmpR oI_eq (pe_call (ok_law_take T) (hr.mono (by decide)) rfl T.g_law_take T.F_law_take.kp T.b_law_take .nil pass0 (pa_cons (pv 0) (pa_cons (pv 1) (pa_cons pe_int pa_nil)))) pe_int (nomark _)) (pss_one (ps_set (i := 2) sc_law_order.nd rfl (Or.inl rfl) (pe_op op_add (pv 2) pe_int))) pss_nil) (pss_cons (ps_set (i := 3) sc_law_order.nd rfl (Or.inl rfl) (pe_listRg rfl (by rfl) T.z_list (prg_2 (by rfl) T.z_range pe_int (pe_op op_add (pv 2) pe_int)))) (pss_cons (ps_set (i := 4) sc_law_order.nd rfl (Or.inl rfl) (pe_lst pa_nil)) (C8.pss_cut (ps_while PassesOwn.never (pt_cmpR (op_neD hr.units) (pv 3) (pe_lst pa_nil) (nomark _)) (pss_cons (ps_set (i := 5) sc_law_order.nd rfl (Or.inl rfl) (pe_bm PySem.F.plainAttrs_list PySem.F.slot_list_pop PySem.F.type_list_pop mt_popAt (pv 3) (pa_cons (pe_call (ok_law_take T) (hr.mono (by decide)) rfl T.g_law_take T.F_law_take.kp T.b_law_take .nil pass0 (pa_cons (pv 0) (pa_cons (pv 1) (pa_cons (pe_callB call_len_seq (by rfl) T.z_len PySem.boot_len (pa_cons (pv 3) pa_nil)) pa_nil)))) pa_nil))) (pss_one (ps_expr (pe_bm PySem.F.plainAttrs_list PySem.F.slot_list_append PySem.F.type_list_append mt_append (pv 4) (pa_cons (pe_tup (pa_cons (pv 5) (pa_cons (pe_ix ix_list (pe_lst (pa_cons pe_str (pa_cons pe_str pa_nil))) (pe_call (ok_law_take T) (hr.mono (by decide)) rfl T.g_law_take T.F_law_take.kp T.b_law_take .nil pass0 (pa_cons (pv 0) (pa_cons (pv 1) (pa_cons pe_int pa_nil)))) (fun _ _ => rfl)) pa_nil))) pa_nil)))))) (pss_one (ps_ret (pv 4)))))))), ?_⟩
    refine seqI fun N1 hN2 => ?_
    revert hm; refine bndI fun y3 e4 hm => ?_
    refine ⟨_, rfl, _, rfl, F0, ([] ++ R), a_script0, v_script0, x_script0, a_source0, v_source0, x_source0, (8 : Int), y3, rfl, (SqL.mono hs_script0 (Same.refl _)), (hl_script0), hl_source0, S0, (by exact e4), fun F5 H6 v9 s7 S8 hl10 => ?_⟩
    have S11 : Sta F5 ([(a_source0, HO.lst v9)] ++ R) _ := S8
    refine hN2 _ _ ?_
    revert hm; refine bndI fun y17 e18 hm => ?_
    refine ⟨fun σ H2 => ∃ (F12 : Hp) (v15 : List V), σ = [some (V.ref a_script0), some (V.ref a_source0), some (V.int y17.1), none, none, none] ∧ Same F5 F12 ∧ Sta F12 ([(a_source0, HO.lst v15)] ++ R) H2 ∧ LR (rInt F12) v15 y17.2, ?_, ?_⟩
    · clear hm; have hm := e18; clear e18
      revert hm; refine bndI fun y19 e20 hm => ?_
      refine ⟨_, rfl, _, rfl, F5, ([] ++ R), a_script0, v_script0, x_script0, a_source0, v9, y3.2, (8 : Int), y19, rfl, (SqL.mono hs_script0 s7), ((hl_script0.mono s7)), hl10, S11, (by exact e20), fun F21 H22 v25 s23 S24 hl26 => ?_⟩
      have S27 : Sta F21 ([(a_source0, HO.lst v25)] ++ R) _ := S24
      refine ⟨_, _, rfl, rfl, _, rfl, ?_⟩
      clear S24
      by_cases c28 : (decide (y19.1 = (5 : Int))) = true
      · revert hm; refine ifTI c28 fun hm => ?_
        refine goT c28 ?_
        refine ⟨_, rfl, _, _, rfl, rfl, ?_⟩
        obtain rfl := Option.some.inj hm
        exact ⟨F21, v25, rfl, s23, S27, hl26⟩
      · revert hm; refine ifFI c28 fun hm => ?_
        refine goF c28 ?_
        obtain rfl := Option.some.inj hm
        exact ⟨F21, v25, rfl, s23, S27, hl26⟩
    · rintro σ H2 ⟨F12, v15, rfl, s13, S14, hl16⟩
      refine seqI fun N29 hN30 => ?_
      revert hm; refine grdI fun g31 hm => ?_
      refine ⟨_, rfl, _, _, rfl, rfl, _, _, rfl, rfl, (rgOk_t g31), ?_⟩
      intro a32 np33
      have hl34 : LR (rInt F12) (rgV (1 : Int) (y17.1 + (1 : Int))) (pyRange (1 : Int) ((y17.1 + (1 : Int)) - (1 : Int)).toNat) := lr_rg _ _
      have S35 : Sta F12 ([(a32, HO.lst (rgV (1 : Int) (y17.1 + (1 : Int)))), (a_source0, HO.lst v15)] ++ R) _ := S14.new np33 _
      refine hN30 _ _ ?_
      refine seqI fun N36 hN37 => ?_
      refine ⟨(by show 0 ≤ sizeLine; decide), ?_⟩
      clear S14
      intro a38 np39
      have hl40 : LR ((rT2 K rInt rStr) F12) [] ([] : (List (Int × Str))) := trivial
      have S41 : Sta F12 ([(a38, HO.lst []), (a32, HO.lst (rgV (1 : Int) (y17.1 + (1 : Int)))), (a_source0, HO.lst v15)] ++ R) _ := S35.new np39 _
      refine hN37 _ _ ?_
      revert hm; refine bndI fun y42 e43 hm44 => ?_
      refine ⟨fun σ H2 => ∃ (st1 : ((List (Int × Str)) × (List Int) × (List Int))) (F45 : Hp) (v49 : List V) (v51 : List V) (v53 : List V) (o48 : Option V), σ = [some (V.ref a_script0), some (V.ref a_source0), some (V.int y17.1), some (V.ref a32), some (V.ref a38), o48] ∧ Same F12 F45 ∧ Sta F45 ([(a38, HO.lst v49), (a32, HO.lst v51), (a_source0, HO.lst v53)] ++ R) H2 ∧ LR ((rT2 K rInt rStr) F45) v49 st1.1 ∧ LR (rInt F45) v51 st1.2.1 ∧ LR (rInt F45) v53 st1.2.2 ∧ st1 = y42, ?_, ?_⟩
      · have hm := e43; clear e43
        refine while_fuel (fun i σ H2 => ∃ (st1 : ((List (Int × Str)) × (List Int) × (List Int))) (F45 : Hp) (v49 : List V) (v51 : List V) (v53 : List V) (o48 : Option V), σ = [some (V.ref a_script0), some (V.ref a_source0), some (V.int y17.1), some (V.ref a32), some (V.ref a38), o48] ∧ Same F12 F45 ∧ Sta F45 ([(a38, HO.lst v49), (a32, HO.lst v51), (a_source0, HO.lst v53)] ++ R) H2 ∧ LR ((rT2 K rInt rStr) F45) v49 st1.1 ∧ LR (rInt F45) v51 st1.2.1 ∧ LR (rInt F45) v53 st1.2.2 ∧ m_law_order_l1 x_script0 i st1 = some y42) fuel ⟨(([] : (List (Int × Str))), (pyRange (1 : Int) ((y17.1 + (1 : Int)) - (1 : Int)).toNat), y17.2), F12, [], (rgV (1 : Int) (y17.1 + (1 : Int))), v15, _, rfl, (Same.refl _), S41, hl40, hl34, hl16, hm⟩ ?_ ?_
        · rintro i σ H2 ⟨st1, F45, v49, v51, v53, o48, rfl, s46, S47, hl50, hl52, hl54, hm⟩
          rw [m_law_order_l1] at hm
          refine ⟨_, rfl, (by show 0 ≤ sizeLine; decide), ?_⟩
          intro a56 np57
          have hl58 : LR (rInt F45) [] ([] : (List Int)) := trivial
          have S59 : Sta F45 ([(a56, HO.lst []), (a38, HO.lst v49), (a32, HO.lst v51), (a_source0, HO.lst v53)] ++ R) _ := S47.new np57 _
          refine ⟨_, _, (dat_dp (K := K) (r := (rLst K rInt)) ⟨_, _, rfl, (SqL.of (S59.get 2 rfl)), LR.mono hl52 S59.sub⟩), (dat_dp (K := K) (r := (rLst K rInt)) ⟨_, _, rfl, (SqL.of (S59.get 0 rfl)), LR.mono hl58 S59.sub⟩), (dat_shaped (K := K) (r := (rLst K rInt)) (Nat.le_of_ble_eq_true rfl) _ (DPl.pl _)), (dat_shaped (K := K) (r := (rLst K rInt)) (Nat.le_of_ble_eq_true rfl) _ (DPl.pl _)), ?_⟩
          clear S47
          rw [dat_eqv (K := K) (r := (rLst K rInt)) st1.2.1 ([] : (List Int))]
          refine ⟨_, rfl, ?_⟩
          by_cases c60 : (!decide (st1.2.1 = ([] : (List Int)))) = true
          · revert hm; refine ifTI c60 fun hm => ?_
            refine goT c60 (wh_in ?_)
            refine seqI fun N61 hN62 => ?_
            refine ⟨_, rfl, .inl ⟨rfl, _, (SqL.of (S59.get 2 rfl))⟩, _, rfl, _, rfl, _, rfl, _, _, rfl, .inl (SqL.of (S59.get 2 rfl)), ?_⟩
            rw [LR.length hl52]
            have S63 : Sta F45 ([(a_source0, HO.lst v53), (a56, HO.lst []), (a38, HO.lst v49), (a32, HO.lst v51)] ++ R) _ := S59.pick [3, 0, 1, 2] (by decide) rfl
            revert hm; refine bndI fun y64 e65 hm => ?_
            refine ⟨F45, ([(a56, HO.lst []), (a38, HO.lst v49), (a32, HO.lst v51)] ++ R), a_script0, v_script0, x_script0, a_source0, v53, st1.2.2, (st1.2.1.length : Int), y64, rfl, (SqL.mono hs_script0 (s7.trans (s13.trans s46))), ((hl_script0.mono (s7.trans (s13.trans s46)))), hl54, S63, (by exact e65), fun F66 H67 v70 s68 S69 hl71 => ?_⟩
            clear S59
            have S72 : Sta F66 ([(a_source0, HO.lst v70), (a56, HO.lst []), (a38, HO.lst v49), (a32, HO.lst v51)] ++ R) _ := S69
            revert hm; refine grdI fun g73 hm => ?_
            revert hm; refine bndI fun j74 e75 hm => ?_
            revert hm; refine bndI fun y76 e77 hm => ?_
            clear S69
            obtain ⟨v78, ev79, rv80⟩ := LR.get hl52 e77
            obtain ⟨rg1, rg2⟩ := of_decide_eq_true g73
            obtain rfl := rInt_e rv80
            refine ⟨_, _, _, _, _, rfl, rfl, (S72.get 3 rfl), (by omega), (by omega), (pop_ix hl52 e75), ev79, ?_⟩
            have hl81 : LR (rInt F66) (v51.eraseIdx j74) (st1.2.1.eraseIdx j74) := LR.eraseIdx _ (hl52.mono s68)
            have S82 : Sta F66 ([(a_source0, HO.lst v70), (a56, HO.lst []), (a38, HO.lst v49), (a32, HO.lst (v51.eraseIdx j74))] ++ R) _ := S72.set 3 rfl _
            refine hN62 _ _ ?_
            refine ⟨_, rfl, .inl ⟨rfl, _, (SqL.of (S82.get 2 rfl))⟩, _, rfl, (by show 2 ≤ sizeLine; decide), ?_⟩
            clear S72
            intro a83 np84
            have hl85 : LR (rStr F66) [V.str "some", V.str "all"] ([("some" : Str), ("all" : Str)] : (List Str)) := ⟨rfl, rfl, trivial⟩
            have S86 : Sta F66 ([(a83, HO.lst [V.str "some", V.str "all"]), (a_source0, HO.lst v70), (a56, HO.lst []), (a38, HO.lst v49), (a32, HO.lst (v51.eraseIdx j74))] ++ R) _ := S82.new np84 _
            have S87 : Sta F66 ([(a_source0, HO.lst v70), (a83, HO.lst [V.str "some", V.str "all"]), (a56, HO.lst []), (a38, HO.lst v49), (a32, HO.lst (v51.eraseIdx j74))] ++ R) _ := S86.pick [1, 0, 2, 3, 4] (by decide) rfl
            revert hm; refine bndI fun y88 e89 hm => ?_
            refine ⟨_, rfl, _, rfl, F66, ([(a83, HO.lst [V.str "some", V.str "all"]), (a56, HO.lst []), (a38, HO.lst v49), (a32, HO.lst (v51.eraseIdx j74))] ++ R), a_script0, v_script0, x_script0, a_source0, v70, y64.2, (2 : Int), y88, rfl, (SqL.mono hs_script0 (s7.trans (s13.trans (s46.trans s68)))), ((hl_script0.mono (s7.trans (s13.trans (s46.trans s68))))), hl71, S87, (by exact e89), fun F90 H91 v94 s92 S93 hl95 => ?_⟩
            clear S82 S86
            have S96 : Sta F90 ([(a_source0, HO.lst v94), (a83, HO.lst [V.str "some", V.str "all"]), (a56, HO.lst []), (a38, HO.lst v49), (a32, HO.lst (v51.eraseIdx j74))] ++ R) _ := S93
            revert hm; refine bndI fun y97 e98 hm => ?_
            obtain ⟨v99, ev100, rv101⟩ := LR.atI hl85 e98
            obtain rfl := rStr_e rv101
            refine ⟨_, _, _, _, rfl, rfl, (SqL.of (S96.get 1 rfl)), ev100, (by show 2 ≤ sizeLine; decide), ?_⟩
            clear S93
            intro a102 np103
            obtain ⟨F104, s105, S106, h107⟩ : ∃ F', Same F90 F' ∧ Sta F' ([(a_source0, HO.lst v94), (a83, HO.lst [V.str "some", V.str "all"]), (a56, HO.lst []), (a38, HO.lst v49), (a32, HO.lst (v51.eraseIdx j74))] ++ R) _ ∧ F' a102 = some (HO.tup [V.int y76, V.str y97]) := ⟨_, S96.sameF np103 _, S96.newF np103 _, upd_same⟩
            revert hm; refine grdI fun g108 hm => ?_
            refine ⟨_, _, _, rfl, rfl, (S106.get 3 rfl), (by rw [LR.length (hl50.mono (s68.trans (s92.trans s105)))]; exact of_decide_eq_true g108), ?_⟩
            have hl109 : LR ((rT2 K rInt rStr) F104) (v49 ++ [V.ref a102]) (st1.1 ++ [(y76, y97)]) := LR.snoc (hl50.mono (s68.trans (s92.trans s105))) ⟨_, _, _, rfl, SqT.mono (SqT.of h107) (Same.refl _), rfl, rfl⟩
            have S110 : Sta F104 ([(a_source0, HO.lst v94), (a83, HO.lst [V.str "some", V.str "all"]), (a56, HO.lst []), (a38, HO.lst (v49 ++ [V.ref a102])), (a32, HO.lst (v51.eraseIdx j74))] ++ R) _ := S106.set 3 rfl _
            have S111 : Sta F104 ([(a38, HO.lst (v49 ++ [V.ref a102])), (a32, HO.lst (v51.eraseIdx j74)), (a_source0, HO.lst v94)] ++ R) _ := S110.pick [3, 4, 0] (by decide) rfl
            exact ⟨((st1.1 ++ [(y76, y97)]), (st1.2.1.eraseIdx j74), y88.2), F104, (v49 ++ [V.ref a102]), (v51.eraseIdx j74), v94, _, rfl, (s46.trans (s68.trans (s92.trans s105))), S111, hl109, (hl81.mono (s92.trans s105)), (hl95.mono s105), hm⟩
          · revert hm; refine ifFI c60 fun hm => ?_
            refine goF c60 ?_
            have S112 : Sta F45 ([(a38, HO.lst v49), (a32, HO.lst v51), (a_source0, HO.lst v53)] ++ R) _ := S59.pick [1, 2, 3] (by decide) rfl
            exact ⟨(st1.1, st1.2.1, st1.2.2), F45, v49, v51, v53, _, rfl, s46, S112, hl50, hl52, hl54, Option.some.inj hm⟩
        · rintro σ H2 ⟨st1, F45, v49, v51, v53, o48, rfl, s46, S47, hl50, hl52, hl54, hm⟩
          rw [m_law_order_l1] at hm
          cases hm
      · rintro σ H2 ⟨st1, F45, v49, v51, v53, o48, rfl, s46, S47, hl50, hl52, hl54, rfl⟩
        have hm := hm44
        refine ⟨_, rfl, ?_⟩
        obtain rfl := Option.some.inj hm
        have S113 : Sta F45 ([(a38, HO.lst v49), (a_source0, HO.lst v53)] ++ R) _ := S47.pick [0, 2] (by decide) rfl
        exact kk _ _ v53 a38 v49 (s7.trans (s13.trans s46)) S113 hl54 hl50

def sp_Gates_init (T : Txt K mg) : Sp := fun vs H Q _ => ∃ (F0 : Hp) (R : Own) (a_self0 : Addr) (dx_self0 : Addr) (r : M_Gates),
  vs = [V.ref a_self0] ∧ Sta F0 ([(a_self0, HO.ins T.a_Gates dx_self0 ([]))] ++ R) H ∧ m_Gates_init = r ∧ ∀ (F1 : Hp) (H1 : Hp) (a_self0p_rows0 : Addr) (v_self0p_rows0 : List V) (a_self0p_known0 : Addr) (v_self0p_known0 : List (List Key × V)), Same F0 F1 → Sta F1 ([(a_self0, HO.ins T.a_Gates dx_self0 (fl_Gates (V.ref a_self0p_rows0) (V.ref a_self0p_known0))), (a_self0p_rows0, HO.lst v_self0p_rows0), (a_self0p_known0, HO.dT v_self0p_known0)] ++ R) H1 → LR (rKT F1) v_self0p_rows0 r.rows → KR id (rInt F1) v_self0p_known0 r.known → Q (V.non) H1

theorem ok_Gates_init (T : Txt K mg) : FnOk P w K mg base CX0 1 T.a_Gates_init T.d_Gates_init ["self"] (sp_Gates_init T) := by
  refine T.F_Gates_init.ok sc_Gates_init (fun vs H Q E h => ?_) (fun cdv A outer s H vs Q E hr h => ?_)
  · obtain ⟨_, _, _, _, _, rfl, _⟩ := h
    rfl
  · obtain ⟨F0, R, a_self0, dx_self0, r, rfl, S0, hm, kk⟩ := h
    have hu := hu_of hr
    unfold m_Gates_init at hm
    refine ⟨_, (pss_cons (ps_fld (pv 0) (pe_lst (pa_cons (pe_tup (pa_cons pe_str pa_nil)) pa_nil)) rfl) (pss_one (ps_fld (pv 0) pe_dnewT rfl))), ?_⟩
    refine seqI fun N1 hN2 => ?_
    refine ⟨(by show 1 ≤ sizeLine; decide), ?_⟩
    intro a3 np4
    obtain ⟨F5, s6, S7, h8⟩ : ∃ F', Same F0 F' ∧ Sta F' ([(a_self0, HO.ins T.a_Gates dx_self0 ([]))] ++ R) _ ∧ F' a3 = some (HO.tup (([Sum.inr ("no" : Str)] : List Key).map kV)) := ⟨_, S0.sameF np4 _, S0.newF np4 _, upd_same⟩
    refine ⟨(by show 1 ≤ sizeLine; decide), ?_⟩
    intro a9 np10
    have hl11 : LR (rKT F5) [V.ref a3] ([([Sum.inr ("no" : Str)] : List Key)] : (List (List Key))) := ⟨⟨_, rfl, (Same.refl _) _ _ h8⟩, trivial⟩
    have S12 : Sta F5 ([(a9, HO.lst [V.ref a3]), (a_self0, HO.ins T.a_Gates dx_self0 ([]))] ++ R) _ := S7.new np10 _
    refine ⟨_, rfl, _, _, _, _, rfl, (S12.get 1 rfl), T.cl_Gates, T.n_Gates_rows, (Nat.lt_of_le_of_lt (Nat.le_refl 0) (by decide)), ?_⟩
    clear S7
    have S13 : Sta F5 ([(a9, HO.lst [V.ref a3]), (a_self0, HO.ins T.a_Gates dx_self0 (putF "rows" (V.ref a9) ([])))] ++ R) _ := S12.set 1 rfl _
    refine hN2 _ _ ?_
    clear S12
    intro a14 np15
    have hl16 : KR id (rInt F5) ([] : List (List Key × V)) ([] : (List ((List Key) × Int))) := trivial
    have S17 : Sta F5 ([(a14, HO.dT []), (a9, HO.lst [V.ref a3]), (a_self0, HO.ins T.a_Gates dx_self0 (putF "rows" (V.ref a9) ([])))] ++ R) _ := S13.new np15 _
    refine ⟨_, rfl, _, _, _, _, rfl, (S17.get 2 rfl), T.cl_Gates, T.n_Gates_known, (Nat.lt_of_le_of_lt (fewl (Nat.le_refl 0)) (by decide)), ?_⟩
    clear S13
    have S18 : Sta F5 ([(a14, HO.dT []), (a9, HO.lst [V.ref a3]), (a_self0, HO.ins T.a_Gates dx_self0 (fl_Gates (V.ref a9) (V.ref a14)))] ++ R) _ := S17.set 2 rfl _
    obtain rfl := hm
    have S19 : Sta F5 ([(a_self0, HO.ins T.a_Gates dx_self0 (fl_Gates (V.ref a9) (V.ref a14))), (a9, HO.lst [V.ref a3]), (a14, HO.dT [])] ++ R) _ := S18.pick [2, 1, 0] (by decide) rfl
    exact kk _ _ a9 [V.ref a3] a14 [] s6 S19 hl11 hl16

def sp_law_row (T : Txt K mg) : Sp := fun vs H Q _ => ∃ (F0 : Hp) (R : Own) (a_rows0 : Addr) (v_rows0 : List V) (x_rows0 : (List (List Key))) (a_row0 : Addr) (x_row0 : (List Key)) (r : (Int × (List (List Key)))),
  vs = [V.ref a_rows0, V.ref a_row0] ∧ LR (rKT F0) v_rows0 x_rows0 ∧ F0 a_row0 = some (HO.tup (x_row0.map kV)) ∧ Sta F0 ([(a_rows0, HO.lst v_rows0)] ++ R) H ∧ m_law_row x_rows0 x_row0 = some r ∧ ∀ (F1 : Hp) (H1 : Hp) (v_rows0p : List V), Same F0 F1 → Sta F1 ([(a_rows0, HO.lst v_rows0p)] ++ R) H1 → LR (rKT F1) v_rows0p r.2 → Q (V.int r.1) H1

theorem ok_law_row (T : Txt K mg) : FnOk P w K mg base CX0 1 T.a_law_row T.d_law_row ["rows", "row"] (sp_law_row T) := by
  refine T.F_law_row.ok sc_law_row (fun vs H Q E h => ?_) (fun cdv A outer s H vs Q E hr h => ?_)
  · obtain ⟨_, _, _, _, _, _, _, _, rfl, _⟩ := h
    rfl
  · obtain ⟨F0, R, a_rows0, v_rows0, x_rows0, a_row0, x_row0, r, rfl, hl_rows0, hs_row0, S0, hm, kk⟩ := h
    have hu := hu_of hr
    unfold m_law_row at hm
    refine ⟨_, (pss_cons (ps_for PassesOwn.never rfl (pi_range1 rfl T.z_range (pa_cons (pe_callB call_len_seq (by rfl) T.z_len PySem.boot_len (pa_cons (pv 0) pa_nil)) pa_nil)) (pg_name (i := 2) sc_law_row.nd rfl (Or.inl rfl)) (pss_one (ps_if (pt_cmpR (op_eqD hr.units) (pe_ix ix_list (pv 0) (pv 2) (fun _ _ => rfl)) (pv 1) (nomark _)) (pss_one (ps_ret (pe_op op_mul pe_int (pv 2)))) pss_nil))) (pss_cons (ps_expr (pe_bm PySem.F.plainAttrs_list PySem.F.slot_list_append PySem.F.type_list_append mt_append (pv 0) (pa_cons (pv 1) pa_nil))) (pss_one (ps_ret (pe_op op_sub (pe_op op_mul pe_int (pe_callB call_len_seq (by rfl) T.z_len PySem.boot_len (pa_cons (pv 0) pa_nil))) pe_int))))), ?_⟩
    refine seqI fun N1 hN2 => ?_
    refine ⟨_, rfl, _, _, rfl, .inl (SqL.of (S0.get 0 rfl)), ?_⟩
    rw [LR.length hl_rows0]
    revert hm; refine grdI fun g6 hm => ?_
    revert hm; refine bndI fun y3 e4 hm5 => ?_
    refine ⟨_, rfl, (rngOk_lo g6), (rngOk_hi g6), for_rng (lo := 0) (n := (x_rows0.length : Int).toNat) (fun i σ H2 => ∃ (st1 : Unit) (F19 : Hp) (o22 : Option V), σ = [some (V.ref a_rows0), some (V.ref a_row0), o22] ∧ Same F0 F19 ∧ Sta F19 ([(a_rows0, HO.lst v_rows0)] ++ R) H2 ∧ m_law_row_l1 x_rows0 x_row0 (List.drop i (pyRange 0 (x_rows0.length : Int).toNat)) st1 = some y3) ⟨(), F0, _, rfl, (Same.refl _), S0, e4⟩ ?_ ?_⟩
    · rintro i x23 σ H2 hi ⟨st1, F19, o22, rfl, s20, S21, hm⟩
      rw [drop_cons hi, m_law_row_l1] at hm
      revert hm; refine bndI fun y25 e26 hm => ?_
      obtain ⟨v27, ev28, rv29⟩ := LR.atI hl_rows0 e26
      obtain ⟨a30, rfl, h31⟩ := rv29
      revert hm; refine grdI fun g32 hm => ?_
      revert hm; refine grdI fun g33 hm => ?_
      refine ⟨_, rfl, _, rfl, _, _, _, _, rfl, rfl, (SqL.of (S21.get 0 rfl)), ev28, _, rfl, _, _, (dat_dp (K := K) (r := rKT) (MonoR.mono (r := rKT) S21.sub ⟨_, rfl, s20 _ _ h31⟩)), (dat_dp (K := K) (r := rKT) (MonoR.mono (r := rKT) S21.sub ⟨_, rfl, s20 _ _ hs_row0⟩)), (dat_shaped (K := K) (r := rKT) (Nat.le_of_ble_eq_true rfl) _ g32), (dat_shaped (K := K) (r := rKT) (Nat.le_of_ble_eq_true rfl) _ g33), ?_⟩
      rw [dat_eqv (K := K) (r := rKT) y25 x_row0]
      refine ⟨_, rfl, ?_⟩
      by_cases c34 : (decide (y25 = x_row0)) = true
      · revert hm; refine ifTI c34 fun hm => ?_
        refine goT c34 ?_
        refine ⟨_, rfl, _, _, rfl, rfl, .inl ⟨by decide, by decide⟩, ?_⟩
        obtain rfl := Option.some.inj hm
        have hm := hm5
        obtain rfl := Option.some.inj hm
        exact kk _ _ v_rows0 s20 S21 (hl_rows0.mono s20)
      · revert hm; refine ifFI c34 fun hm => ?_
        refine goF c34 ?_
        exact ⟨(), F19, _, rfl, s20, S21, hm⟩
    · rintro σ H2 ⟨st1, F19, o22, rfl, s20, S21, hm⟩
      rw [drop_rng, m_law_row_l1] at hm
      obtain rfl := Option.some.inj hm
      have hm := hm5
      refine hN2 _ _ ?_
      refine seqI fun N35 hN36 => ?_
      revert hm; refine grdI fun g37 hm => ?_
      refine ⟨_, rfl, .inl ⟨rfl, _, (SqL.of (S21.get 0 rfl))⟩, _, rfl, _, _, _, rfl, rfl, (S21.get 0 rfl), (by rw [LR.length (hl_rows0.mono s20)]; exact of_decide_eq_true g37), ?_⟩
      have hl38 : LR (rKT F19) (v_rows0 ++ [V.ref a_row0]) (x_rows0 ++ [x_row0]) := LR.snoc (hl_rows0.mono s20) ⟨_, rfl, s20 _ _ hs_row0⟩
      have S39 : Sta F19 ([(a_rows0, HO.lst (v_rows0 ++ [V.ref a_row0]))] ++ R) _ := S21.set 0 rfl _
      refine hN36 _ _ ?_
      refine ⟨_, rfl, _, _, rfl, .inl (SqL.of (S39.get 0 rfl)), ?_⟩
      clear S21
      rw [LR.length hl38]
      refine ⟨_, _, rfl, rfl, .inl ⟨by decide, by decide⟩, _, _, rfl, rfl, ?_⟩
      obtain rfl := Option.some.inj hm
      exact kk _ _ (v_rows0 ++ [V.ref a_row0]) s20 S39 hl38

def sp_Gates_edge_of (T : Txt K mg) : Sp := fun vs H Q _ => ∃ (F0 : Hp) (R : Own) (a_self0 : Addr) (dx_self0 : Addr) (x_self0 : M_Gates) (a_self0_rows0 : Addr) (v_self0_rows0 : List V) (a_self0_known0 : Addr) (v_self0_known0 : List (List Key × V)) (a_row0 : Addr) (x_row0 : (List Key)) (r : (Int × M_Gates)),
  vs = [V.ref a_self0, V.ref a_row0] ∧ LR (rKT F0) v_self0_rows0 x_self0.rows ∧ KR id (rInt F0) v_self0_known0 x_self0.known ∧ F0 a_row0 = some (HO.tup (x_row0.map kV)) ∧ Sta F0 ([(a_self0, HO.ins T.a_Gates dx_self0 (fl_Gates (V.ref a_self0_rows0) (V.ref a_self0_known0))), (a_self0_rows0, HO.lst v_self0_rows0), (a_self0_known0, HO.dT v_self0_known0)] ++ R) H ∧ m_Gates_edge_of x_self0 x_row0 = some r ∧ ∀ (F1 : Hp) (H1 : Hp) (a_self0p_rows0 : Addr) (v_self0p_rows0 : List V) (a_self0p_known0 : Addr) (v_self0p_known0 : List (List Key × V)), Same F0 F1 → Sta F1 ([(a_self0, HO.ins T.a_Gates dx_self0 (fl_Gates (V.ref a_self0p_rows0) (V.ref a_self0p_known0))), (a_self0p_rows0, HO.lst v_self0p_rows0), (a_self0p_known0, HO.dT v_self0p_known0)] ++ R) H1 → LR (rKT F1) v_self0p_rows0 r.2.rows → KR id (rInt F1) v_self0p_known0 r.2.known → Q (V.int r.1) H1

theorem ok_Gates_edge_of (T : Txt K mg) : FnOk P w K mg base CX0 1 T.a_Gates_edge_of T.d_Gates_edge_of ["self", "row"] (sp_Gates_edge_of T) := by
  refine T.F_Gates_edge_of.ok sc_Gates_edge_of (fun vs H Q E h => ?_) (fun cdv A outer s H vs Q E hr h => ?_)
  · obtain ⟨_, _, _, _, _, _, _, _, _, _, _, _, rfl, _⟩ := h
    rfl
  · obtain ⟨F0, R, a_self0, dx_self0, x_self0, a_self0_rows0, v_self0_rows0, a_self0_known0, v_self0_known0, a_row0, x_row0, r, rfl, hl_self0_rows0, hl_self0_known0, hs_row0, S0, hm, kk⟩ := h
    have hu := hu_of hr
    unfold m_Gates_edge_of at hm
    refine ⟨_, (C8.pss_cut (ps_if (pt_cmp (pc_dnotin hu (pv 1) (pe_fld (pv 0) rfl))) (pss_cons (ps_dput hu (pe_fld (pv 0) rfl) (pv 1) (pe_op op_mul pe_int (pe_callB call_len_seq (by rfl) T.z_len PySem.boot_len (pa_cons (pe_fld (pv 0) rfl) pa_nil))) rfl) (pss_one (ps_expr (pe_bm PySem.F.plainAttrs_list PySem.F.slot_list_append PySem.F.type_list_append mt_append (pe_fld (pv 0) rfl) (pa_cons (pv 1) pa_nil))))) pss_nil) (pss_one (ps_ret (pe_dget hu (pe_fld (pv 0) rfl) (pv 1) (fun _ _ => rfl))))), ?_⟩
    revert hm; refine bndI fun y10 e11 hm => ?_
    refine ⟨fun σ H2 => ∃ (F1 : Hp) (a4 : Addr) (v5 : List V) (a7 : Addr) (v8 : List (List Key × V)), σ = [some (V.ref a_self0), some (V.ref a_row0)] ∧ Same F0 F1 ∧ Sta F1 ([(a_self0, HO.ins T.a_Gates dx_self0 (fl_Gates (V.ref a4) (V.ref a7))), (a4, HO.lst v5), (a7, HO.dT v8)] ++ R) H2 ∧ LR (rKT F1) v5 y10.rows ∧ KR id (rInt F1) v8 y10.known, ?_, ?_⟩
    · clear hm; have hm := e11; clear e11
      refine ⟨_, rfl, _, rfl, _, _, _, _, _, rfl, (S0.get 0 rfl), T.cl_Gates, T.n_Gates_known, fl_Gates_known, _, _, rfl, (DGet.t (k := id x_row0) (S0.get 2 rfl) (S0.sub _ _ ((Same.refl _) _ _ hs_row0))), ?_⟩
      rw [show _ = (!(mget x_self0.known x_row0).isSome) from (congrArg (!·) (KR.some_eq hl_self0_known0 (kinj_K) x_row0))]
      refine ⟨_, rfl, ?_⟩
      by_cases c12 : (!(mget x_self0.known x_row0).isSome) = true
      · revert hm; refine ifTI c12 fun hm => ?_
        refine goT c12 ?_
        refine seqI fun N13 hN14 => ?_
        refine ⟨_, rfl, _, _, _, _, _, rfl, (S0.get 0 rfl), T.cl_Gates, T.n_Gates_rows, fl_Gates_rows, _, _, rfl, .inl (SqL.of (S0.get 1 rfl)), ?_⟩
        rw [LR.length hl_self0_rows0]
        revert hm; refine grdI fun g15 hm => ?_
        refine ⟨_, _, rfl, rfl, .inl ⟨by decide, by decide⟩, _, rfl, _, _, _, _, _, rfl, (S0.get 0 rfl), T.cl_Gates, T.n_Gates_known, fl_Gates_known, _, rfl, _, _, rfl, (DPut.t (k := id x_row0) (S0.get 2 rfl) (S0.sub _ _ ((Same.refl _) _ _ hs_row0)) (by rw [KR.length hl_self0_known0]; exact of_decide_eq_true g15)), ?_⟩
        have hl16 : KR id (rInt F0) (putK v_self0_known0 (id x_row0) (V.int ((2 : Int) * (x_self0.rows.length : Int)))) (mput x_self0.known x_row0 ((2 : Int) * (x_self0.rows.length : Int))) := KR.put hl_self0_known0 kinj_K rfl
        have S17 : Sta F0 ([(a_self0, HO.ins T.a_Gates dx_self0 (fl_Gates (V.ref a_self0_rows0) (V.ref a_self0_known0))), (a_self0_rows0, HO.lst v_self0_rows0), (a_self0_known0, HO.dT (putK v_self0_known0 (id x_row0) (V.int ((2 : Int) * (x_self0.rows.length : Int)))))] ++ R) _ := S0.set 2 rfl _
        refine hN14 _ _ ?_
        revert hm; refine grdI fun g18 hm => ?_
        refine ⟨_, rfl, _, _, _, _, _, rfl, (S17.get 0 rfl), T.cl_Gates, T.n_Gates_rows, fl_Gates_rows, .inl ⟨rfl, _, (SqL.of (S17.get 1 rfl))⟩, _, rfl, _, _, _, rfl, rfl, (S17.get 1 rfl), (by rw [LR.length hl_self0_rows0]; exact of_decide_eq_true g18), ?_⟩
        clear S0
        have hl19 : LR (rKT F0) (v_self0_rows0 ++ [V.ref a_row0]) (x_self0.rows ++ [x_row0]) := LR.snoc hl_self0_rows0 ⟨_, rfl, (Same.refl _) _ _ hs_row0⟩
        have S20 : Sta F0 ([(a_self0, HO.ins T.a_Gates dx_self0 (fl_Gates (V.ref a_self0_rows0) (V.ref a_self0_known0))), (a_self0_rows0, HO.lst (v_self0_rows0 ++ [V.ref a_row0])), (a_self0_known0, HO.dT (putK v_self0_known0 (id x_row0) (V.int ((2 : Int) * (x_self0.rows.length : Int)))))] ++ R) _ := S17.set 1 rfl _
        obtain rfl := Option.some.inj hm
        exact ⟨F0, a_self0_rows0, (v_self0_rows0 ++ [V.ref a_row0]), a_self0_known0, (putK v_self0_known0 (id x_row0) (V.int ((2 : Int) * (x_self0.rows.length : Int)))), rfl, (Same.refl _), S20, hl19, hl16⟩
      · revert hm; refine ifFI c12 fun hm => ?_
        refine goF c12 ?_
        obtain rfl := Option.some.inj hm
        exact ⟨F0, a_self0_rows0, v_self0_rows0, a_self0_known0, v_self0_known0, rfl, (Same.refl _), S0, hl_self0_rows0, hl_self0_known0⟩
    · rintro σ H2 ⟨F1, a4, v5, a7, v8, rfl, s2, S3, hl6, hl9⟩
      revert hm; refine bndI fun y21 e22 hm => ?_
      obtain ⟨v23, ev24, rv25⟩ := KR.get hl9 kinj_K e22
      obtain rfl := rInt_e rv25
      refine ⟨_, rfl, _, _, _, _, _, rfl, (S3.get 0 rfl), T.cl_Gates, T.n_Gates_known, fl_Gates_known, _, rfl, _, _, rfl, (dget_of (DGet.t (k := id x_row0) (S3.get 2 rfl) (S3.sub _ _ (s2 _ _ hs_row0))) ev24), ?_⟩
      obtain rfl := Option.some.inj hm
      exact kk _ _ a4 v5 a7 v8 s2 S3 hl6 hl9

def sp_Gates_leaf (T : Txt K mg) : Sp := fun vs H Q _ => ∃ (F0 : Hp) (R : Own) (a_self0 : Addr) (dx_self0 : Addr) (x_self0 : M_Gates) (a_self0_rows0 : Addr) (v_self0_rows0 : List V) (a_self0_known0 : Addr) (v_self0_known0 : List (List Key × V)) (x_letter0 : Int) (r : (Int × M_Gates)),
  vs = [V.ref a_self0, V.int x_letter0] ∧ LR (rKT F0) v_self0_rows0 x_self0.rows ∧ KR id (rInt F0) v_self0_known0 x_self0.known ∧ Sta F0 ([(a_self0, HO.ins T.a_Gates dx_self0 (fl_Gates (V.ref a_self0_rows0) (V.ref a_self0_known0))), (a_self0_rows0, HO.lst v_self0_rows0), (a_self0_known0, HO.dT v_self0_known0)] ++ R) H ∧ m_Gates_leaf x_self0 x_letter0 = some r ∧ ∀ (F1 : Hp) (H1 : Hp) (a_self0p_rows0 : Addr) (v_self0p_rows0 : List V) (a_self0p_known0 : Addr) (v_self0p_known0 : List (List Key × V)), Same F0 F1 → Sta F1 ([(a_self0, HO.ins T.a_Gates dx_self0 (fl_Gates (V.ref a_self0p_rows0) (V.ref a_self0p_known0))), (a_self0p_rows0, HO.lst v_self0p_rows0), (a_self0p_known0, HO.dT v_self0p_known0)] ++ R) H1 → LR (rKT F1) v_self0p_rows0 r.2.rows → KR id (rInt F1) v_self0p_known0 r.2.known → Q (V.int r.1) H1

theorem ok_Gates_leaf (T : Txt K mg) : FnOk P w K mg base CX0 2 T.a_Gates_leaf T.d_Gates_leaf ["self", "letter"] (sp_Gates_leaf T) := by
  refine T.F_Gates_leaf.ok sc_Gates_leaf (fun vs H Q E h => ?_) (fun cdv A outer s H vs Q E hr h => ?_)
  · obtain ⟨_, _, _, _, _, _, _, _, _, _, _, rfl, _⟩ := h
    rfl
  · obtain ⟨F0, R, a_self0, dx_self0, x_self0, a_self0_rows0, v_self0_rows0, a_self0_known0, v_self0_known0, x_letter0, r, rfl, hl_self0_rows0, hl_self0_known0, S0, hm, kk⟩ := h
    have hu := hu_of hr
    unfold m_Gates_leaf at hm
    refine ⟨_, (pss_one (ps_ret (pe_meth (pv 0) T.cl_Gates T.h_Gates_edge_of (ok_Gates_edge_of T) (hr.mono (by decide)) T.b_Gates_edge_of .nil pass0 (pa_cons (pe_tup (pa_cons pe_str (pa_cons (pv 1) pa_nil))) pa_nil)))), ?_⟩
    refine ⟨_, rfl, _, _, _, rfl, (S0.get 0 rfl), fl_Gates_no_edge_of, _, rfl, (by show 2 ≤ sizeLine; decide), ?_⟩
    intro a1 np2
    obtain ⟨F3, s4, S5, h6⟩ : ∃ F', Same F0 F' ∧ Sta F' ([(a_self0, HO.ins T.a_Gates dx_self0 (fl_Gates (V.ref a_self0_rows0) (V.ref a_self0_known0))), (a_self0_rows0, HO.lst v_self0_rows0), (a_self0_known0, HO.dT v_self0_known0)] ++ R) _ ∧ F' a1 = some (HO.tup (([Sum.inr ("letter" : Str), Sum.inl x_letter0] : List Key).map kV)) := ⟨_, S0.sameF np2 _, S0.newF np2 _, upd_same⟩
    revert hm; refine bndI fun y7 e8 hm => ?_
    refine ⟨F3, ([] ++ R), a_self0, dx_self0, (M_Gates.mk x_self0.rows x_self0.known), a_self0_rows0, v_self0_rows0, a_self0_known0, v_self0_known0, a1, ([Sum.inr ("letter" : Str), Sum.inl x_letter0] : List Key), y7, rfl, (hl_self0_rows0.mono s4), (KR.mono hl_self0_known0 s4), ((Same.refl _) _ _ h6), S5, (by exact e8), fun F9 H10 a13 v14 a16 v17 s11 S12 hl15 hl18 => ?_⟩
    have S19 : Sta F9 ([(a_self0, HO.ins T.a_Gates dx_self0 (fl_Gates (V.ref a13) (V.ref a16))), (a13, HO.lst v14), (a16, HO.dT v17)] ++ R) _ := S12
    obtain rfl := Option.some.inj hm
    exact kk _ _ a13 v14 a16 v17 (s4.trans s11) S19 hl15 hl18

def sp_law_opposite (T : Txt K mg) : Sp := fun vs H Q _ => ∃ (x_edge0 : Int) (r : Int),
  vs = [V.int x_edge0] ∧ m_law_opposite x_edge0 = r ∧ Q (V.int r) H

theorem ok_law_opposite (T : Txt K mg) : FnOk P w K mg base CX0 1 T.a_law_opposite T.d_law_opposite ["edge"] (sp_law_opposite T) := by
  refine T.F_law_opposite.ok sc_law_opposite (fun vs H Q E h => ?_) (fun cdv A outer s H vs Q E hr h => ?_)
  · obtain ⟨_, _, rfl, _⟩ := h
    rfl
  · obtain ⟨x_edge0, r, rfl, hm, kk⟩ := h
    have hu := hu_of hr
    unfold m_law_opposite at hm
    refine ⟨_, (pss_cons (ps_if (pt_cmpR oI_eq (pe_op op_mod (pe_callTy call_int1 (by rfl) T.z_int (by decide +kernel) (pa_cons (pv 0) pa_nil)) pe_int) pe_int (nomark _)) (pss_one (ps_ret (pe_op op_add (pv 0) pe_int))) pss_nil) (pss_one (ps_ret (pe_op op_sub (pv 0) pe_int)))), ?_⟩
    refine seqI fun N1 hN2 => ?_
    refine ⟨_, rfl, ?_⟩
    refine .inl ⟨_, rfl, ?_⟩
    refine ⟨_, _, rfl, rfl, (by show (0 : Int) < 2; decide), _, _, rfl, rfl, _, rfl, ?_⟩
    by_cases c3 : (decide ((x_edge0 % (2 : Int)) = (0 : Int))) = true
    · revert hm; refine ifTI c3 fun hm => ?_
      refine goT c3 ?_
      refine ⟨_, rfl, _, _, rfl, rfl, ?_⟩
      obtain rfl := hm
      exact kk
    · revert hm; refine ifFI c3 fun hm => ?_
      refine goF c3 ?_
      refine hN2 _ _ ?_
      refine ⟨_, rfl, _, _, rfl, rfl, ?_⟩
      obtain rfl := hm
      exact kk

def sp_law_both (T : Txt K mg) : Sp := fun vs H Q _ => ∃ (F0 : Hp) (R : Own) (a_rows0 : Addr) (v_rows0 : List V) (x_rows0 : (List (List Key))) (x_a0 : Int) (x_b0 : Int) (r : (Int × (List (List Key)))),
  vs = [V.ref a_rows0, V.int x_a0, V.int x_b0] ∧ LR (rKT F0) v_rows0 x_rows0 ∧ Sta F0 ([(a_rows0, HO.lst v_rows0)] ++ R) H ∧ m_law_both x_rows0 x_a0 x_b0 = some r ∧ ∀ (F1 : Hp) (H1 : Hp) (v_rows0p : List V), Same F0 F1 → Sta F1 ([(a_rows0, HO.lst v_rows0p)] ++ R) H1 → LR (rKT F1) v_rows0p r.2 → Q (V.int r.1) H1

theorem ok_law_both (T : Txt K mg) : FnOk P w K mg base CX0 2 T.a_law_both T.d_law_both ["rows", "a", "b"] (sp_law_both T) := by
  refine T.F_law_both.ok sc_law_both (fun vs H Q E h => ?_) (fun cdv A outer s H vs Q E hr h => ?_)
  · obtain ⟨_, _, _, _, _, _, _, _, rfl, _⟩ := h
    rfl
  · obtain ⟨F0, R, a_rows0, v_rows0, x_rows0, x_a0, x_b0, r, rfl, hl_rows0, S0, hm, kk⟩ := h
    have hu := hu_of hr
    unfold m_law_both at hm
    refine ⟨_, (pss_cons (ps_if (pt_pure (PW.pt (pw_or (pt_cmpR oI_eq (pv 1) pe_int (nomark _)) (pw_or (pt_cmpR oI_eq (pv 2) pe_int (nomark _)) (pw_or1 (pt_cmpR oI_eq (pv 1) (pe_call (ok_law_opposite T) (hr.mono (by decide)) rfl T.g_law_opposite T.F_law_opposite.kp T.b_law_opposite .nil pass0 (pa_cons (pv 2) pa_nil)) (nomark _))))))) (pss_one (ps_ret pe_int)) pss_nil) (pss_cons (ps_if (pt_cmpR oI_eq (pv 1) pe_int (nomark _)) (pss_one (ps_ret (pv 2))) pss_nil) (pss_cons (ps_if (pt_pure (PW.pt (pw_or (pt_cmpR oI_eq (pv 2) pe_int (nomark _)) (pw_or1 (pt_cmpR oI_eq (pv 1) (pv 2) (nomark _)))))) (pss_one (ps_ret (pv 1))) pss_nil) (pss_one (ps_ret (pe_call (ok_law_row T) (hr.mono (by decide)) rfl T.g_law_row T.F_law_row.kp T.b_law_row .nil pass0 (pa_cons (pv 0) (pa_cons (pe_tup (pa_cons pe_str (pa_cons (pe_callB (call_min2 rfl) (by rfl) T.z_min (by decide +kernel) (pa_cons (pv 1) (pa_cons (pv 2) pa_nil))) (pa_cons (pe_callB (call_max2 rfl) (by rfl) T.z_max (by decide +kernel) (pa_cons (pv 1) (pa_cons (pv 2) pa_nil))) pa_nil)))) pa_nil)))))))), ?_⟩
    refine seqI fun N1 hN2 => ?_
    refine ⟨((decide (x_a0 = (0 : Int))) || ((decide (x_b0 = (0 : Int))) || (decide (x_a0 = (m_law_opposite x_b0))))), ?_, ?_⟩
    · refine ⟨_, rfl, _, _, rfl, rfl, _, rfl, ?_⟩
      by_cases c3 : (decide (x_a0 = (0 : Int))) = true
      · exact goT c3 ⟨by simp [c3], rfl⟩
      · refine goF c3 ?_
        refine ⟨_, rfl, _, _, rfl, rfl, _, rfl, ?_⟩
        by_cases c4 : (decide (x_b0 = (0 : Int))) = true
        · exact goT c4 ⟨by simp [c3, c4], rfl⟩
        · refine goF c4 ?_
          refine ⟨_, rfl, _, rfl, x_b0, _, rfl, rfl, _, _, rfl, rfl, _, rfl, ?_⟩
          exact ⟨by simp [c3, c4], rfl⟩
    by_cases c5 : ((decide (x_a0 = (0 : Int))) || ((decide (x_b0 = (0 : Int))) || (decide (x_a0 = (m_law_opposite x_b0))))) = true
    · revert hm; refine ifTI c5 fun hm => ?_
      refine goT c5 ?_
      obtain rfl := Option.some.inj hm
      exact kk _ _ v_rows0 (Same.refl _) S0 hl_rows0
    · revert hm; refine ifFI c5 fun hm => ?_
      refine goF c5 ?_
      refine hN2 _ _ ?_
      refine seqI fun N6 hN7 => ?_
      refine ⟨_, rfl, _, _, rfl, rfl, _, rfl, ?_⟩
      by_cases c8 : (decide (x_a0 = (1 : Int))) = true
      · revert hm; refine ifTI c8 fun hm => ?_
        refine goT c8 ?_
        refine ⟨_, rfl, ?_⟩
        obtain rfl := Option.some.inj hm
        exact kk _ _ v_rows0 (Same.refl _) S0 hl_rows0
      · revert hm; refine ifFI c8 fun hm => ?_
        refine goF c8 ?_
        refine hN7 _ _ ?_
        refine seqI fun N9 hN10 => ?_
        refine ⟨((decide (x_b0 = (1 : Int))) || (decide (x_a0 = x_b0))), ?_, ?_⟩
        · refine ⟨_, rfl, _, _, rfl, rfl, _, rfl, ?_⟩
          by_cases c11 : (decide (x_b0 = (1 : Int))) = true
          · exact goT c11 ⟨by simp [c11], rfl⟩
          · refine goF c11 ?_
            refine ⟨_, rfl, _, rfl, _, _, rfl, rfl, _, rfl, ?_⟩
            exact ⟨by simp [c11], rfl⟩
        by_cases c12 : ((decide (x_b0 = (1 : Int))) || (decide (x_a0 = x_b0))) = true
        · revert hm; refine ifTI c12 fun hm => ?_
          refine goT c12 ?_
          refine ⟨_, rfl, ?_⟩
          obtain rfl := Option.some.inj hm
          exact kk _ _ v_rows0 (Same.refl _) S0 hl_rows0
        · revert hm; refine ifFI c12 fun hm => ?_
          refine goF c12 ?_
          refine hN10 _ _ ?_
          refine ⟨_, rfl, _, rfl, _, rfl, _, _, rfl, _, rfl, _, rfl, _, _, rfl, (by show 3 ≤ sizeLine; decide), ?_⟩
          intro a13 np14
          obtain ⟨F15, s16, S17, h18⟩ : ∃ F', Same F0 F' ∧ Sta F' ([(a_rows0, HO.lst v_rows0)] ++ R) _ ∧ F' a13 = some (HO.tup (([Sum.inr ("both" : Str), Sum.inl (if x_b0 < x_a0 then x_b0 else x_a0), Sum.inl (if x_b0 > x_a0 then x_b0 else x_a0)] : List Key).map kV)) := ⟨_, S0.sameF np14 _, S0.newF np14 _, upd_same⟩
          revert hm; refine bndI fun y19 e20 hm => ?_
          refine ⟨F15, ([] ++ R), a_rows0, v_rows0, x_rows0, a13, ([Sum.inr ("both" : Str), Sum.inl (if x_b0 < x_a0 then x_b0 else x_a0), Sum.inl (if x_b0 > x_a0 then x_b0 else x_a0)] : List Key), y19, rfl, (hl_rows0.mono s16), ((Same.refl _) _ _ h18), S17, (by exact e20), fun F21 H22 v25 s23 S24 hl26 => ?_⟩
          have S27 : Sta F21 ([(a_rows0, HO.lst v25)] ++ R) _ := S24
          obtain rfl := Option.some.inj hm
          exact kk _ _ v25 (s16.trans s23) S27 hl26

def sp_opposite (T : Txt K mg) : Sp := fun vs H Q _ => ∃ (x_edge0 : Int) (r : Int),
  vs = [V.int x_edge0] ∧ m_opposite x_edge0 = r ∧ Q (V.int r) H

theorem ok_opposite (T : Txt K mg) : FnOk P w K mg base CX0 1 T.a_opposite T.d_opposite ["edge"] (sp_opposite T) := by
  refine T.F_opposite.ok sc_opposite (fun vs H Q E h => ?_) (fun cdv A outer s H vs Q E hr h => ?_)
  · obtain ⟨_, _, rfl, _⟩ := h
    rfl
  · obtain ⟨x_edge0, r, rfl, hm, kk⟩ := h
    have hu := hu_of hr
    unfold m_opposite at hm
    refine ⟨_, (pss_one (ps_ret (pe_op op_xor (pv 0) pe_int))), ?_⟩
    refine ⟨_, rfl, _, _, rfl, rfl, ?_⟩
    obtain rfl := hm
    exact kk

def sp_Gates_both (T : Txt K mg) : Sp := fun vs H Q _ => ∃ (F0 : Hp) (R : Own) (a_self0 : Addr) (dx_self0 : Addr) (x_self0 : M_Gates) (a_self0_rows0 : Addr) (v_self0_rows0 : List V) (a_self0_known0 : Addr) (v_self0_known0 : List (List Key × V)) (x_a0 : Int) (x_b0 : Int) (r : (Int × M_Gates)),
  vs = [V.ref a_self0, V.int x_a0, V.int x_b0] ∧ LR (rKT F0) v_self0_rows0 x_self0.rows ∧ KR id (rInt F0) v_self0_known0 x_self0.known ∧ Sta F0 ([(a_self0, HO.ins T.a_Gates dx_self0 (fl_Gates (V.ref a_self0_rows0) (V.ref a_self0_known0))), (a_self0_rows0, HO.lst v_self0_rows0), (a_self0_known0, HO.dT v_self0_known0)] ++ R) H ∧ m_Gates_both x_self0 x_a0 x_b0 = some r ∧ ∀ (F1 : Hp) (H1 : Hp) (a_self0p_rows0 : Addr) (v_self0p_rows0 : List V) (a_self0p_known0 : Addr) (v_self0p_known0 : List (List Key × V)), Same F0 F1 → Sta F1 ([(a_self0, HO.ins T.a_Gates dx_self0 (fl_Gates (V.ref a_self0p_rows0) (V.ref a_self0p_known0))), (a_self0p_rows0, HO.lst v_self0p_rows0), (a_self0p_known0, HO.dT v_self0p_known0)] ++ R) H1 → LR (rKT F1) v_self0p_rows0 r.2.rows → KR id (rInt F1) v_self0p_known0 r.2.known → Q (V.int r.1) H1

theorem ok_Gates_both (T : Txt K mg) : FnOk P w K mg base CX0 2 T.a_Gates_both T.d_Gates_both ["self", "a", "b"] (sp_Gates_both T) := by
  refine T.F_Gates_both.ok sc_Gates_both (fun vs H Q E h => ?_) (fun cdv A outer s H vs Q E hr h => ?_)
  · obtain ⟨_, _, _, _, _, _, _, _, _, _, _, _, rfl, _⟩ := h
    rfl
  · obtain ⟨F0, R, a_self0, dx_self0, x_self0, a_self0_rows0, v_self0_rows0, a_self0_known0, v_self0_known0, x_a0, x_b0, r, rfl, hl_self0_rows0, hl_self0_known0, S0, hm, kk⟩ := h
    have hu := hu_of hr
    unfold m_Gates_both at hm
    refine ⟨_, (pss_cons (ps_set (i := 3) sc_Gates_both.nd rfl (Or.inl rfl) (pe_callB (call_min2 rfl) (by rfl) T.z_min (by decide +kernel) (pa_cons (pv 1) (pa_cons (pv 2) pa_nil)))) (pss_cons (ps_set (i := 4) sc_Gates_both.nd rfl (Or.inl rfl) (pe_callB (call_max2 rfl) (by rfl) T.z_max (by decide +kernel) (pa_cons (pv 1) (pa_cons (pv 2) pa_nil)))) (pss_cons (ps_if (pt_pure (PW.pt (pw_or (pt_cmpR oI_eq (pv 3) (pe_glob (v := .int 0) rfl T.g_NO ⟨_, rfl⟩) (nomark _)) (pw_or1 (pt_cmpR oI_eq (pv 3) (pe_call (ok_opposite T) (hr.mono (by decide)) rfl T.g_opposite T.F_opposite.kp T.b_opposite .nil pass0 (pa_cons (pv 4) pa_nil)) (nomark _)))))) (pss_one (ps_ret (pe_glob (v := .int 0) rfl T.g_NO ⟨_, rfl⟩))) pss_nil) (pss_cons (ps_if (pt_pure (PW.pt (pw_or (pt_cmpR oI_eq (pv 3) (pe_glob (v := .int 1) rfl T.g_YES ⟨_, rfl⟩) (nomark _)) (pw_or1 (pt_cmpR oI_eq (pv 3) (pv 4) (nomark _)))))) (pss_one (ps_ret (pv 4))) pss_nil) (pss_one (ps_ret (pe_meth (pv 0) T.cl_Gates T.h_Gates_edge_of (ok_Gates_edge_of T) (hr.mono (by decide)) T.b_Gates_edge_of .nil pass0 (pa_cons (pe_tup (pa_cons pe_str (pa_cons (pv 3) (pa_cons (pv 4) pa_nil)))) pa_nil)))))))), ?_⟩
    refine seqI fun N1 hN2 => ?_
    refine ⟨_, rfl, _, rfl, _, _, rfl, ?_⟩
    refine hN2 _ _ ?_
    refine seqI fun N3 hN4 => ?_
    refine ⟨_, rfl, _, rfl, _, _, rfl, ?_⟩
    refine hN4 _ _ ?_
    refine seqI fun N5 hN6 => ?_
    refine ⟨((decide ((if x_b0 < x_a0 then x_b0 else x_a0) = (0 : Int))) || (decide ((if x_b0 < x_a0 then x_b0 else x_a0) = (m_opposite (if x_b0 > x_a0 then x_b0 else x_a0))))), ?_, ?_⟩
    · refine ⟨_, rfl, _, _, rfl, rfl, _, rfl, ?_⟩
      by_cases c7 : (decide ((if x_b0 < x_a0 then x_b0 else x_a0) = (0 : Int))) = true
      · exact goT c7 ⟨by simp [c7], rfl⟩
      · refine goF c7 ?_
        refine ⟨_, rfl, _, rfl, (if x_b0 > x_a0 then x_b0 else x_a0), _, rfl, rfl, _, _, rfl, rfl, _, rfl, ?_⟩
        exact ⟨by simp [c7], rfl⟩
    by_cases c8 : ((decide ((if x_b0 < x_a0 then x_b0 else x_a0) = (0 : Int))) || (decide ((if x_b0 < x_a0 then x_b0 else x_a0) = (m_opposite (if x_b0 > x_a0 then x_b0 else x_a0))))) = true
    · revert hm; refine ifTI c8 fun hm => ?_
      refine goT c8 ?_
      obtain rfl := Option.some.inj hm
      exact kk _ _ a_self0_rows0 v_self0_rows0 a_self0_known0 v_self0_known0 (Same.refl _) S0 hl_self0_rows0 hl_self0_known0
    · revert hm; refine ifFI c8 fun hm => ?_
      refine goF c8 ?_
      refine hN6 _ _ ?_
      refine seqI fun N9 hN10 => ?_
      refine ⟨((decide ((if x_b0 < x_a0 then x_b0 else x_a0) = (1 : Int))) || (decide ((if x_b0 < x_a0 then x_b0 else x_a0) = (if x_b0 > x_a0 then x_b0 else x_a0)))), ?_, ?_⟩
      · refine ⟨_, rfl, _, _, rfl, rfl, _, rfl, ?_⟩
        by_cases c11 : (decide ((if x_b0 < x_a0 then x_b0 else x_a0) = (1 : Int))) = true
        · exact goT c11 ⟨by simp [c11], rfl⟩
        · refine goF c11 ?_
          refine ⟨_, rfl, _, rfl, _, _, rfl, rfl, _, rfl, ?_⟩
          exact ⟨by simp [c11], rfl⟩
      by_cases c12 : ((decide ((if x_b0 < x_a0 then x_b0 else x_a0) = (1 : Int))) || (decide ((if x_b0 < x_a0 then x_b0 else x_a0) = (if x_b0 > x_a0 then x_b0 else x_a0)))) = true
      · revert hm; refine ifTI c12 fun hm => ?_
        refine goT c12 ?_
        refine ⟨_, rfl, ?_⟩
        obtain rfl := Option.some.inj hm
        exact kk _ _ a_self0_rows0 v_self0_rows0 a_self0_known0 v_self0_known0 (Same.refl _) S0 hl_self0_rows0 hl_self0_known0
      · revert hm; refine ifFI c12 fun hm => ?_
        refine goF c12 ?_
        refine hN10 _ _ ?_
        refine ⟨_, rfl, _, _, _, rfl, (S0.get 0 rfl), fl_Gates_no_edge_of, _, rfl, _, rfl, (by show 3 ≤ sizeLine; decide), ?_⟩
        intro a13 np14
        obtain ⟨F15, s16, S17, h18⟩ : ∃ F', Same F0 F' ∧ Sta F' ([(a_self0, HO.ins T.a_Gates dx_self0 (fl_Gates (V.ref a_self0_rows0) (V.ref a_self0_known0))), (a_self0_rows0, HO.lst v_self0_rows0), (a_self0_known0, HO.dT v_self0_known0)] ++ R) _ ∧ F' a13 = some (HO.tup (([Sum.inr ("both" : Str), Sum.inl (if x_b0 < x_a0 then x_b0 else x_a0), Sum.inl (if x_b0 > x_a0 then x_b0 else x_a0)] : List Key).map kV)) := ⟨_, S0.sameF np14 _, S0.newF np14 _, upd_same⟩
        revert hm; refine bndI fun y19 e20 hm => ?_
        refine ⟨F15, ([] ++ R), a_self0, dx_self0, (M_Gates.mk x_self0.rows x_self0.known), a_self0_rows0, v_self0_rows0, a_self0_known0, v_self0_known0, a13, ([Sum.inr ("both" : Str), Sum.inl (if x_b0 < x_a0 then x_b0 else x_a0), Sum.inl (if x_b0 > x_a0 then x_b0 else x_a0)] : List Key), y19, rfl, (hl_self0_rows0.mono s16), (KR.mono hl_self0_known0 s16), ((Same.refl _) _ _ h18), S17, (by exact e20), fun F21 H22 a25 v26 a28 v29 s23 S24 hl27 hl30 => ?_⟩
        have S31 : Sta F21 ([(a_self0, HO.ins T.a_Gates dx_self0 (fl_Gates (V.ref a25) (V.ref a28))), (a25, HO.lst v26), (a28, HO.dT v29)] ++ R) _ := S24
        obtain rfl := Option.some.inj hm
        exact kk _ _ a25 v26 a28 v29 (s16.trans s23) S31 hl27 hl30

def sp_law_both_of (T : Txt K mg) : Sp := fun vs H Q _ => ∃ (F0 : Hp) (R : Own) (a_gates0 : Addr) (dx_gates0 : Addr) (x_gates0 : M_Gates) (a_gates0_rows0 : Addr) (v_gates0_rows0 : List V) (a_gates0_known0 : Addr) (v_gates0_known0 : List (List Key × V)) (a_rows0 : Addr) (v_rows0 : List V) (x_rows0 : (List (List Key))) (x_a0 : Int) (x_b0 : Int) (r : (Int × M_Gates × (List (List Key)))),
  vs = [V.ref a_gates0, V.ref a_rows0, V.int x_a0, V.int x_b0] ∧ LR (rKT F0) v_gates0_rows0 x_gates0.rows ∧ KR id (rInt F0) v_gates0_known0 x_gates0.known ∧ LR (rKT F0) v_rows0 x_rows0 ∧ Sta F0 ([(a_gates0, HO.ins T.a_Gates dx_gates0 (fl_Gates (V.ref a_gates0_rows0) (V.ref a_gates0_known0))), (a_gates0_rows0, HO.lst v_gates0_rows0), (a_gates0_known0, HO.dT v_gates0_known0), (a_rows0, HO.lst v_rows0)] ++ R) H ∧ m_law_both_of x_gates0 x_rows0 x_a0 x_b0 = some r ∧ ∀ (F1 : Hp) (H1 : Hp) (a_gates0p_rows0 : Addr) (v_gates0p_rows0 : List V) (a_gates0p_known0 : Addr) (v_gates0p_known0 : List (List Key × V)) (v_rows0p : List V), Same F0 F1 → Sta F1 ([(a_gates0, HO.ins T.a_Gates dx_gates0 (fl_Gates (V.ref a_gates0p_rows0) (V.ref a_gates0p_known0))), (a_gates0p_rows0, HO.lst v_gates0p_rows0), (a_gates0p_known0, HO.dT v_gates0p_known0), (a_rows0, HO.lst v_rows0p)] ++ R) H1 → LR (rKT F1) v_gates0p_rows0 r.2.1.rows → KR id (rInt F1) v_gates0p_known0 r.2.1.known → LR (rKT F1) v_rows0p r.2.2 → Q (V.int r.1) H1

theorem ok_law_both_of (T : Txt K mg) : FnOk P w K mg base CX0 3 T.a_law_both_of T.d_law_both_of ["gates", "rows", "a", "b"] (sp_law_both_of T) := by
  refine T.F_law_both_of.ok sc_law_both_of (fun vs H Q E h => ?_) (fun cdv A outer s H vs Q E hr h => ?_)
  · obtain ⟨_, _, _, _, _, _, _, _, _, _, _, _, _, _, _, rfl, _⟩ := h
    rfl
  · obtain ⟨F0, R, a_gates0, dx_gates0, x_gates0, a_gates0_rows0, v_gates0_rows0, a_gates0_known0, v_gates0_known0, a_rows0, v_rows0, x_rows0, x_a0, x_b0, r, rfl, hl_gates0_rows0, hl_gates0_known0, hl_rows0, S0, hm, kk⟩ := h
    have hu := hu_of hr
    unfold m_law_both_of at hm
    refine ⟨_, (pss_cons (ps_set (i := 4) sc_law_both_of.nd rfl (Or.inl rfl) (pe_call (ok_law_both T) (hr.mono (by decide)) rfl T.g_law_both T.F_law_both.kp T.b_law_both .nil pass0 (pa_cons (pv 1) (pa_cons (pv 2) (pa_cons (pv 3) pa_nil))))) (pss_cons (ps_if (pt_cmpR oI_ne (pe_meth (pv 0) T.cl_Gates T.h_Gates_both (ok_Gates_both T) (hr.mono (by decide)) T.b_Gates_both .nil pass0 (pa_cons (pv 2) (pa_cons (pv 3) pa_nil))) (pv 4) (nomark _)) (pss_one (ps_ret pe_int)) pss_nil) (pss_one (ps_ret (pv 4))))), ?_⟩
    refine seqI fun N1 hN2 => ?_
    have S3 : Sta F0 ([(a_rows0, HO.lst v_rows0), (a_gates0, HO.ins T.a_Gates dx_gates0 (fl_Gates (V.ref a_gates0_rows0) (V.ref a_gates0_known0))), (a_gates0_rows0, HO.lst v_gates0_rows0), (a_gates0_known0, HO.dT v_gates0_known0)] ++ R) _ := S0.pick [3, 0, 1, 2] (by decide) rfl
    revert hm; refine bndI fun y4 e5 hm => ?_
    refine ⟨_, rfl, _, rfl, _, rfl, F0, ([(a_gates0, HO.ins T.a_Gates dx_gates0 (fl_Gates (V.ref a_gates0_rows0) (V.ref a_gates0_known0))), (a_gates0_rows0, HO.lst v_gates0_rows0), (a_gates0_known0, HO.dT v_gates0_known0)] ++ R), a_rows0, v_rows0, x_rows0, x_a0, x_b0, y4, rfl, hl_rows0, S3, (by exact e5), fun F6 H7 v10 s8 S9 hl11 => ?_⟩
    clear S0
    have S12 : Sta F6 ([(a_rows0, HO.lst v10), (a_gates0, HO.ins T.a_Gates dx_gates0 (fl_Gates (V.ref a_gates0_rows0) (V.ref a_gates0_known0))), (a_gates0_rows0, HO.lst v_gates0_rows0), (a_gates0_known0, HO.dT v_gates0_known0)] ++ R) _ := S9
    refine hN2 _ _ ?_
    refine seqI fun N13 hN14 => ?_
    have S15 : Sta F6 ([(a_gates0, HO.ins T.a_Gates dx_gates0 (fl_Gates (V.ref a_gates0_rows0) (V.ref a_gates0_known0))), (a_gates0_rows0, HO.lst v_gates0_rows0), (a_gates0_known0, HO.dT v_gates0_known0), (a_rows0, HO.lst v10)] ++ R) _ := S12.pick [1, 2, 3, 0] (by decide) rfl
    revert hm; refine bndI fun y16 e17 hm => ?_
    refine ⟨_, rfl, _, _, _, rfl, (S12.get 1 rfl), fl_Gates_no_both, _, rfl, _, rfl, F6, ([(a_rows0, HO.lst v10)] ++ R), a_gates0, dx_gates0, (M_Gates.mk x_gates0.rows x_gates0.known), a_gates0_rows0, v_gates0_rows0, a_gates0_known0, v_gates0_known0, x_a0, x_b0, y16, rfl, (hl_gates0_rows0.mono s8), (KR.mono hl_gates0_known0 s8), S15, (by exact e17), fun F18 H19 a22 v23 a25 v26 s20 S21 hl24 hl27 => ?_⟩
    clear S9 S12
    have S28 : Sta F18 ([(a_gates0, HO.ins T.a_Gates dx_gates0 (fl_Gates (V.ref a22) (V.ref a25))), (a22, HO.lst v23), (a25, HO.dT v26), (a_rows0, HO.lst v10)] ++ R) _ := S21
    refine ⟨_, rfl, _, _, rfl, rfl, _, rfl, ?_⟩
    clear S21
    by_cases c29 : (!decide (y16.1 = y4.1)) = true
    · revert hm; refine ifTI c29 fun hm => ?_
      refine goT c29 ?_
      obtain rfl := Option.some.inj hm
      exact kk _ _ a22 v23 a25 v26 v10 (s8.trans s20) S28 hl24 hl27 (hl11.mono s20)
    · revert hm; refine ifFI c29 fun hm => ?_
      refine goF c29 ?_
      refine hN14 _ _ ?_
      refine ⟨_, rfl, ?_⟩
      obtain rfl := Option.some.inj hm
      exact kk _ _ a22 v23 a25 v26 v10 (s8.trans s20) S28 hl24 hl27 (hl11.mono s20)

def sp_law_edge (T : Txt K mg) : Sp := fun vs H Q _ => ∃ (F0 : Hp) (R : Own) (a_script0 : Addr) (v_script0 : List V) (x_script0 : (List Int)) (a_source0 : Addr) (v_source0 : List V) (x_source0 : (List Int)) (a_gates0 : Addr) (dx_gates0 : Addr) (x_gates0 : M_Gates) (a_gates0_rows0 : Addr) (v_gates0_rows0 : List V) (a_gates0_known0 : Addr) (v_gates0_known0 : List (List Key × V)) (a_rows0 : Addr) (v_rows0 : List V) (x_rows0 : (List (List Key))) (a_ahead0 : Addr) (v_ahead0 : List V) (x_ahead0 : (List Int)) (r : (Int × (List Int) × M_Gates × (List (List Key)))),
  vs = [V.ref a_script0, V.ref a_source0, V.ref a_gates0, V.ref a_rows0, V.ref a_ahead0] ∧ SqL K F0 a_script0 v_script0 ∧ LR (rInt F0) v_script0 x_script0 ∧ LR (rInt F0) v_source0 x_source0 ∧ LR (rKT F0) v_gates0_rows0 x_gates0.rows ∧ KR id (rInt F0) v_gates0_known0 x_gates0.known ∧ LR (rKT F0) v_rows0 x_rows0 ∧ SqL K (ov F0 R) a_ahead0 v_ahead0 ∧ LR (rInt F0) v_ahead0 x_ahead0 ∧ Sta F0 ([(a_source0, HO.lst v_source0), (a_gates0, HO.ins T.a_Gates dx_gates0 (fl_Gates (V.ref a_gates0_rows0) (V.ref a_gates0_known0))), (a_gates0_rows0, HO.lst v_gates0_rows0), (a_gates0_known0, HO.dT v_gates0_known0), (a_rows0, HO.lst v_rows0)] ++ R) H ∧ m_law_edge x_script0 x_source0 x_gates0 x_rows0 x_ahead0 = some r ∧ ∀ (F1 : Hp) (H1 : Hp) (v_source0p : List V) (a_gates0p_rows0 : Addr) (v_gates0p_rows0 : List V) (a_gates0p_known0 : Addr) (v_gates0p_known0 : List (List Key × V)) (v_rows0p : List V), Same F0 F1 → Sta F1 ([(a_source0, HO.lst v_source0p), (a_gates0, HO.ins T.a_Gates dx_gates0 (fl_Gates (V.ref a_gates0p_rows0) (V.ref a_gates0p_known0))), (a_gates0p_rows0, HO.lst v_gates0p_rows0), (a_gates0p_known0, HO.dT v_gates0p_known0), (a_rows0, HO.lst v_rows0p)] ++ R) H1 → LR (rInt F1) v_source0p r.2.1 → LR (rKT F1) v_gates0p_rows0 r.2.2.1.rows → KR id (rInt F1) v_gates0p_known0 r.2.2.1.known → LR (rKT F1) v_rows0p r.2.2.2 → Q (V.int r.1) H1

theorem ok_law_edge (T : Txt K mg) : FnOk P w K mg base CX0 4 T.a_law_edge T.d_law_edge ["script", "source", "gates", "rows", "ahead"] (sp_law_edge T) := by
  refine T.F_law_edge.ok sc_law_edge (fun vs H Q E h => ?_) (fun cdv A outer s H vs Q E hr h => ?_)
  · obtain ⟨_, _, _, _, _, _, _, _, _, _, _, _, _, _, _, _, _, _, _, _, _, _, rfl, _⟩ := h
    rfl
  · obtain ⟨F0, R, a_script0, v_script0, x_script0, a_source0, v_source0, x_source0, a_gates0, dx_gates0, x_gates0, a_gates0_rows0, v_gates0_rows0, a_gates0_known0, v_gates0_known0, a_rows0, v_rows0, x_rows0, a_ahead0, v_ahead0, x_ahead0, r, rfl, hs_script0, hl_script0, hl_source0, hl_gates0_rows0, hl_gates0_known0, hl_rows0, hs_ahead0, hl_ahead0, S0, hm, kk⟩ := h
    have hu := hu_of hr
    unfold m_law_edge at hm
    refine ⟨_, (pss_cons (ps_set (i := 5) sc_law_edge.nd rfl (Or.inl rfl) (pe_lst (pa_cons pe_int (pa_cons pe_int pa_nil)))) (pss_cons (ps_for PassesOwn.never rfl (pi_list (pv 4)) (pg_name (i := 6) sc_law_edge.nd rfl (Or.inl rfl)) (pss_cons (ps_set (i := 7) sc_law_edge.nd rfl (Or.inl rfl) (pe_call (ok_law_row T) (hr.mono (by decide)) rfl T.g_law_row T.F_law_row.kp T.b_law_row .nil pass0 (pa_cons (pv 3) (pa_cons (pe_tup (pa_cons pe_str (pa_cons (pv 6) pa_nil))) pa_nil)))) (pss_cons (ps_expr (pe_meth (pv 2) T.cl_Gates T.h_Gates_leaf (ok_Gates_leaf T) (hr.mono (by decide)) T.b_Gates_leaf .nil pass0 (pa_cons (pv 6) pa_nil))) (pss_cons (ps_expr (pe_bm PySem.F.plainAttrs_list PySem.F.slot_list_append PySem.F.type_list_append mt_append (pv 5) (pa_cons (pv 7) pa_nil))) (pss_one (ps_expr (pe_bm PySem.F.plainAttrs_list PySem.F.slot_list_append PySem.F.type_list_append mt_append (pv 5) (pa_cons (pe_call (ok_law_opposite T) (hr.mono (by decide)) rfl T.g_law_opposite T.F_law_opposite.kp T.b_law_opposite .nil pass0 (pa_cons (pv 7) pa_nil)) pa_nil)))))))) (pss_cons (ps_set (i := 7) sc_law_edge.nd rfl (Or.inl rfl) (pe_ix ix_list (pv 5) (pe_call (ok_law_take T) (hr.mono (by decide)) rfl T.g_law_take T.F_law_take.kp T.b_law_take .nil pass0 (pa_cons (pv 0) (pa_cons (pv 1) (pa_cons (pe_callB call_len_seq (by rfl) T.z_len PySem.boot_len (pa_cons (pv 5) pa_nil)) pa_nil)))) (fun _ _ => rfl))) (pss_cons (ps_for PassesOwn.never rfl (pi_range1 rfl T.z_range (pa_cons (pe_call (ok_law_take T) (hr.mono (by decide)) rfl T.g_law_take T.F_law_take.kp T.b_law_take .nil pass0 (pa_cons (pv 0) (pa_cons (pv 1) (pa_cons pe_int pa_nil)))) pa_nil)) (pg_name (i := 8) sc_law_edge.nd rfl (Or.inl rfl)) (pss_cons (ps_set (i := 9) sc_law_edge.nd rfl (Or.inl rfl) (pe_ix ix_list (pv 5) (pe_call (ok_law_take T) (hr.mono (by decide)) rfl T.g_law_take T.F_law_take.kp T.b_law_take .nil pass0 (pa_cons (pv 0) (pa_cons (pv 1) (pa_cons (pe_callB call_len_seq (by rfl) T.z_len PySem.boot_len (pa_cons (pv 5) pa_nil)) pa_nil)))) (fun _ _ => rfl))) (pss_cons (ps_set (i := 7) sc_law_edge.nd rfl (Or.inl rfl) (pe_call (ok_law_both_of T) (hr.mono (by decide)) rfl T.g_law_both_of T.F_law_both_of.kp T.b_law_both_of .nil pass0 (pa_cons (pv 2) (pa_cons (pv 3) (pa_cons (pv 7) (pa_cons (pv 9) pa_nil)))))) (pss_one (ps_if (pt_cmpR oI_eq (pe_call (ok_law_take T) (hr.mono (by decide)) rfl T.g_law_take T.F_law_take.kp T.b_law_take .nil pass0 (pa_cons (pv 0) (pa_cons (pv 1) (pa_cons pe_int pa_nil)))) pe_int (nomark _)) (pss_one (ps_set (i := 7) sc_law_edge.nd rfl (Or.inl rfl) (pe_call (ok_law_opposite T) (hr.mono (by decide)) rfl T.g_law_opposite T.F_law_opposite.kp T.b_law_opposite .nil pass0 (pa_cons (pv 7) pa_nil)))) pss_nil))))) (pss_one (ps_ret (pv 7))))))), ?_⟩
    refine seqI fun N1 hN2 => ?_
    refine ⟨(by show 2 ≤ sizeLine; decide), ?_⟩
    intro a3 np4
    have hl5 : LR (rInt F0) [V.int 0, V.int 1] ([(0 : Int), (1 : Int)] : (List Int)) := ⟨rfl, rfl, trivial⟩
    have S6 : Sta F0 ([(a3, HO.lst [V.int 0, V.int 1]), (a_source0, HO.lst v_source0), (a_gates0, HO.ins T.a_Gates dx_gates0 (fl_Gates (V.ref a_gates0_rows0) (V.ref a_gates0_known0))), (a_gates0_rows0, HO.lst v_gates0_rows0), (a_gates0_known0, HO.dT v_gates0_known0), (a_rows0, HO.lst v_rows0)] ++ R) _ := S0.new np4 _
    refine hN2 _ _ ?_
    refine seqI fun N7 hN8 => ?_
    revert hm; refine bndI fun y9 e10 hm11 => ?_
    refine ⟨_, rfl, _, rfl, ⟨_, (SqL.mono hs_ahead0 (S6.bor (Same.refl _) (fun _ q => (List.mem_append_right _ q))))⟩, for_list (K := K) (a := a_ahead0) (xs := v_ahead0) (fun i σ H2 => ∃ (st1 : ((List Int) × M_Gates × (List (List Key)))) (F47 : Hp) (v52 : List V) (a54 : Addr) (v55 : List V) (a57 : Addr) (v58 : List (List Key × V)) (v60 : List V) (o50 : Option V) (o51 : Option V), σ = [some (V.ref a_script0), some (V.ref a_source0), some (V.ref a_gates0), some (V.ref a_rows0), some (V.ref a_ahead0), some (V.ref a3), o50, o51, none, none] ∧ Same F0 F47 ∧ Sta F47 ([(a3, HO.lst v52), (a_source0, HO.lst v_source0), (a_gates0, HO.ins T.a_Gates dx_gates0 (fl_Gates (V.ref a54) (V.ref a57))), (a54, HO.lst v55), (a57, HO.dT v58), (a_rows0, HO.lst v60)] ++ R) H2 ∧ LR (rInt F47) v52 st1.1 ∧ LR (rKT F47) v55 st1.2.1.rows ∧ KR id (rInt F47) v58 st1.2.1.known ∧ LR (rKT F47) v60 st1.2.2 ∧ m_law_edge_l1 (List.drop i x_ahead0) st1 = some y9) ⟨(([(0 : Int), (1 : Int)] : (List Int)), (M_Gates.mk x_gates0.rows x_gates0.known), x_rows0), F0, [V.int 0, V.int 1], a_gates0_rows0, v_gates0_rows0, a_gates0_known0, v_gates0_known0, v_rows0, _, _, rfl, (Same.refl _), S6, hl5, hl_gates0_rows0, hl_gates0_known0, hl_rows0, e10⟩ (by rintro i σ H2 _ ⟨st1, F47, v52, a54, v55, a57, v58, v60, o50, o51, rfl, s48, S49, hl53, hl56, hl59, hl61, _⟩; exact (SqL.mono hs_ahead0 (S49.bor s48 (fun _ q => (List.mem_append_right _ q))))) ?_ ?_⟩
    clear S0
    · rintro i v63 σ H2 hi ⟨st1, F47, v52, a54, v55, a57, v58, v60, o50, o51, rfl, s48, S49, hl53, hl56, hl59, hl61, hm⟩
      obtain ⟨x62, hx64, rx65⟩ := LR.getV hl_ahead0 hi
      rw [drop_cons hx64, m_law_edge_l1] at hm
      obtain rfl := rInt_e rx65
      refine seqI fun N66 hN67 => ?_
      refine ⟨_, rfl, _, rfl, (by show 2 ≤ sizeLine; decide), ?_⟩
      intro a68 np69
      obtain ⟨F70, s71, S72, h73⟩ : ∃ F', Same F47 F' ∧ Sta F' ([(a3, HO.lst v52), (a_source0, HO.lst v_source0), (a_gates0, HO.ins T.a_Gates dx_gates0 (fl_Gates (V.ref a54) (V.ref a57))), (a54, HO.lst v55), (a57, HO.dT v58), (a_rows0, HO.lst v60)] ++ R) _ ∧ F' a68 = some (HO.tup (([Sum.inr ("letter" : Str), Sum.inl x62] : List Key).map kV)) := ⟨_, S49.sameF np69 _, S49.newF np69 _, upd_same⟩
      have S74 : Sta F70 ([(a_rows0, HO.lst v60), (a3, HO.lst v52), (a_source0, HO.lst v_source0), (a_gates0, HO.ins T.a_Gates dx_gates0 (fl_Gates (V.ref a54) (V.ref a57))), (a54, HO.lst v55), (a57, HO.dT v58)] ++ R) _ := S72.pick [5, 0, 1, 2, 3, 4] (by decide) rfl
      revert hm; refine bndI fun y75 e76 hm => ?_
      refine ⟨F70, ([(a3, HO.lst v52), (a_source0, HO.lst v_source0), (a_gates0, HO.ins T.a_Gates dx_gates0 (fl_Gates (V.ref a54) (V.ref a57))), (a54, HO.lst v55), (a57, HO.dT v58)] ++ R), a_rows0, v60, st1.2.2, a68, ([Sum.inr ("letter" : Str), Sum.inl x62] : List Key), y75, rfl, (hl61.mono s71), ((Same.refl _) _ _ h73), S74, (by exact e76), fun F77 H78 v81 s79 S80 hl82 => ?_⟩
      clear S72
      have S83 : Sta F77 ([(a_rows0, HO.lst v81), (a3, HO.lst v52), (a_source0, HO.lst v_source0), (a_gates0, HO.ins T.a_Gates dx_gates0 (fl_Gates (V.ref a54) (V.ref a57))), (a54, HO.lst v55), (a57, HO.dT v58)] ++ R) _ := S80
      refine hN67 _ _ ?_
      refine seqI fun N84 hN85 => ?_
      have S86 : Sta F77 ([(a_gates0, HO.ins T.a_Gates dx_gates0 (fl_Gates (V.ref a54) (V.ref a57))), (a54, HO.lst v55), (a57, HO.dT v58), (a_rows0, HO.lst v81), (a3, HO.lst v52), (a_source0, HO.lst v_source0)] ++ R) _ := S83.pick [3, 4, 5, 0, 1, 2] (by decide) rfl
      revert hm; refine bndI fun y87 e88 hm => ?_
      refine ⟨_, rfl, _, _, _, rfl, (S83.get 3 rfl), fl_Gates_no_leaf, _, rfl, F77, ([(a_rows0, HO.lst v81), (a3, HO.lst v52), (a_source0, HO.lst v_source0)] ++ R), a_gates0, dx_gates0, (M_Gates.mk st1.2.1.rows st1.2.1.known), a54, v55, a57, v58, x62, y87, rfl, (hl56.mono (s71.trans s79)), (KR.mono hl59 (s71.trans s79)), S86, (by exact e88), fun F89 H90 a93 v94 a96 v97 s91 S92 hl95 hl98 => ?_⟩
      clear S80 S83
      have S99 : Sta F89 ([(a_gates0, HO.ins T.a_Gates dx_gates0 (fl_Gates (V.ref a93) (V.ref a96))), (a93, HO.lst v94), (a96, HO.dT v97), (a_rows0, HO.lst v81), (a3, HO.lst v52), (a_source0, HO.lst v_source0)] ++ R) _ := S92
      refine hN85 _ _ ?_
      refine seqI fun N100 hN101 => ?_
      revert hm; refine grdI fun g102 hm => ?_
      refine ⟨_, rfl, .inl ⟨rfl, _, (SqL.of (S99.get 4 rfl))⟩, _, rfl, _, _, _, rfl, rfl, (S99.get 4 rfl), (by rw [LR.length (hl53.mono (s71.trans (s79.trans s91)))]; exact of_decide_eq_true g102), ?_⟩
      clear S92
      have hl103 : LR (rInt F89) (v52 ++ [V.int y75.1]) (st1.1 ++ [y75.1]) := LR.snoc (hl53.mono (s71.trans (s79.trans s91))) rfl
      have S104 : Sta F89 ([(a_gates0, HO.ins T.a_Gates dx_gates0 (fl_Gates (V.ref a93) (V.ref a96))), (a93, HO.lst v94), (a96, HO.dT v97), (a_rows0, HO.lst v81), (a3, HO.lst (v52 ++ [V.int y75.1])), (a_source0, HO.lst v_source0)] ++ R) _ := S99.set 4 rfl _
      refine hN101 _ _ ?_
      revert hm; refine grdI fun g105 hm => ?_
      refine ⟨_, rfl, .inl ⟨rfl, _, (SqL.of (S104.get 4 rfl))⟩, _, rfl, y75.1, _, rfl, rfl, _, _, _, rfl, rfl, (S104.get 4 rfl), (by rw [LR.length hl103]; exact of_decide_eq_true g105), ?_⟩
      clear S99
      have hl106 : LR (rInt F89) ((v52 ++ [V.int y75.1]) ++ [V.int (m_law_opposite y75.1)]) ((st1.1 ++ [y75.1]) ++ [(m_law_opposite y75.1)]) := LR.snoc hl103 rfl
      have S107 : Sta F89 ([(a_gates0, HO.ins T.a_Gates dx_gates0 (fl_Gates (V.ref a93) (V.ref a96))), (a93, HO.lst v94), (a96, HO.dT v97), (a_rows0, HO.lst v81), (a3, HO.lst ((v52 ++ [V.int y75.1]) ++ [V.int (m_law_opposite y75.1)])), (a_source0, HO.lst v_source0)] ++ R) _ := S104.set 4 rfl _
      have S108 : Sta F89 ([(a3, HO.lst ((v52 ++ [V.int y75.1]) ++ [V.int (m_law_opposite y75.1)])), (a_source0, HO.lst v_source0), (a_gates0, HO.ins T.a_Gates dx_gates0 (fl_Gates (V.ref a93) (V.ref a96))), (a93, HO.lst v94), (a96, HO.dT v97), (a_rows0, HO.lst v81)] ++ R) _ := S107.pick [4, 5, 0, 1, 2, 3] (by decide) rfl
      exact ⟨(((st1.1 ++ [y75.1]) ++ [(m_law_opposite y75.1)]), (M_Gates.mk y87.2.rows y87.2.known), y75.2), F89, ((v52 ++ [V.int y75.1]) ++ [V.int (m_law_opposite y75.1)]), a93, v94, a96, v97, v81, _, _, rfl, (s48.trans (s71.trans (s79.trans s91))), S108, hl106, hl95, hl98, (hl82.mono s91), hm⟩
    · rintro σ H2 ⟨st1, F47, v52, a54, v55, a57, v58, v60, o50, o51, rfl, s48, S49, hl53, hl56, hl59, hl61, hm⟩
      rw [LR.dropEnd hl_ahead0, m_law_edge_l1] at hm
      obtain rfl := Option.some.inj hm
      have hm := hm11
      refine hN8 _ _ ?_
      refine seqI fun N109 hN110 => ?_
      refine ⟨_, rfl, _, rfl, _, rfl, _, rfl, _, _, rfl, .inl (SqL.of (S49.get 0 rfl)), ?_⟩
      rw [LR.length hl53]
      have S111 : Sta F47 ([(a_source0, HO.lst v_source0), (a3, HO.lst v52), (a_gates0, HO.ins T.a_Gates dx_gates0 (fl_Gates (V.ref a54) (V.ref a57))), (a54, HO.lst v55), (a57, HO.dT v58), (a_rows0, HO.lst v60)] ++ R) _ := S49.pick [1, 0, 2, 3, 4, 5] (by decide) rfl
      revert hm; refine bndI fun y112 e113 hm => ?_
      refine ⟨F47, ([(a3, HO.lst v52), (a_gates0, HO.ins T.a_Gates dx_gates0 (fl_Gates (V.ref a54) (V.ref a57))), (a54, HO.lst v55), (a57, HO.dT v58), (a_rows0, HO.lst v60)] ++ R), a_script0, v_script0, x_script0, a_source0, v_source0, x_source0, (st1.1.length : Int), y112, rfl, (SqL.mono hs_script0 s48), ((hl_script0.mono s48)), (hl_source0.mono s48), S111, (by exact e113), fun F114 H115 v118 s116 S117 hl119 => ?_⟩
      clear S49
      have S120 : Sta F114 ([(a_source0, HO.lst v118), (a3, HO.lst v52), (a_gates0, HO.ins T.a_Gates dx_gates0 (fl_Gates (V.ref a54) (V.ref a57))), (a54, HO.lst v55), (a57, HO.dT v58), (a_rows0, HO.lst v60)] ++ R) _ := S117
      revert hm; refine bndI fun y121 e122 hm => ?_
      obtain ⟨v123, ev124, rv125⟩ := LR.atI hl53 e122
      obtain rfl := rInt_e rv125
      refine ⟨_, _, _, _, rfl, rfl, (SqL.of (S120.get 1 rfl)), ev124, ?_⟩
      clear S117
      refine hN110 _ _ ?_
      refine seqI fun N126 hN127 => ?_
      revert hm; refine bndI fun y131 e132 hm => ?_
      refine ⟨_, rfl, _, rfl, F114, ([(a3, HO.lst v52), (a_gates0, HO.ins T.a_Gates dx_gates0 (fl_Gates (V.ref a54) (V.ref a57))), (a54, HO.lst v55), (a57, HO.dT v58), (a_rows0, HO.lst v60)] ++ R), a_script0, v_script0, x_script0, a_source0, v118, y112.2, (4 : Int), y131, rfl, (SqL.mono hs_script0 (s48.trans s116)), ((hl_script0.mono (s48.trans s116))), hl119, S120, (by exact e132), fun F133 H134 v137 s135 S136 hl138 => ?_⟩
      have S139 : Sta F133 ([(a_source0, HO.lst v137), (a3, HO.lst v52), (a_gates0, HO.ins T.a_Gates dx_gates0 (fl_Gates (V.ref a54) (V.ref a57))), (a54, HO.lst v55), (a57, HO.dT v58), (a_rows0, HO.lst v60)] ++ R) _ := S136
      revert hm; refine grdI fun g140 hm => ?_
      revert hm; refine bndI fun y128 e129 hm130 => ?_
      refine ⟨_, rfl, (rngOk_lo g140), (rngOk_hi g140), for_rng (lo := 0) (n := y131.1.toNat) (fun i σ H2 => ∃ (st2 : (Int × (List Int) × M_Gates × (List (List Key)))) (F176 : Hp) (v181 : List V) (a183 : Addr) (v184 : List V) (a186 : Addr) (v187 : List (List Key × V)) (v189 : List V) (o179 : Option V) (o180 : Option V), σ = [some (V.ref a_script0), some (V.ref a_source0), some (V.ref a_gates0), some (V.ref a_rows0), some (V.ref a_ahead0), some (V.ref a3), o50, some (V.int st2.1), o179, o180] ∧ Same F133 F176 ∧ Sta F176 ([(a_source0, HO.lst v181), (a3, HO.lst v52), (a_gates0, HO.ins T.a_Gates dx_gates0 (fl_Gates (V.ref a183) (V.ref a186))), (a183, HO.lst v184), (a186, HO.dT v187), (a_rows0, HO.lst v189)] ++ R) H2 ∧ LR (rInt F176) v181 st2.2.1 ∧ LR (rKT F176) v184 st2.2.2.1.rows ∧ KR id (rInt F176) v187 st2.2.2.1.known ∧ LR (rKT F176) v189 st2.2.2.2 ∧ m_law_edge_l2 x_script0 st1 (List.drop i (pyRange 0 y131.1.toNat)) st2 = some y128) ⟨(y121, y131.2, (M_Gates.mk st1.2.1.rows st1.2.1.known), st1.2.2), F133, v137, a54, v55, a57, v58, v60, _, _, rfl, (Same.refl _), S139, hl138, (hl56.mono (s116.trans s135)), (KR.mono hl59 (s116.trans s135)), (hl61.mono (s116.trans s135)), e129⟩ ?_ ?_⟩
      clear S136
      · rintro i x191 σ H2 hi ⟨st2, F176, v181, a183, v184, a186, v187, v189, o179, o180, rfl, s177, S178, hl182, hl185, hl188, hl190, hm⟩
        rw [drop_cons hi, m_law_edge_l2] at hm
        refine seqI fun N193 hN194 => ?_
        refine ⟨_, rfl, _, rfl, _, rfl, _, rfl, _, _, rfl, .inl (SqL.of (S178.get 1 rfl)), ?_⟩
        rw [LR.length (hl53.mono (s116.trans (s135.trans s177)))]
        revert hm; refine bndI fun y195 e196 hm => ?_
        refine ⟨F176, ([(a3, HO.lst v52), (a_gates0, HO.ins T.a_Gates dx_gates0 (fl_Gates (V.ref a183) (V.ref a186))), (a183, HO.lst v184), (a186, HO.dT v187), (a_rows0, HO.lst v189)] ++ R), a_script0, v_script0, x_script0, a_source0, v181, st2.2.1, (st1.1.length : Int), y195, rfl, (SqL.mono hs_script0 (s48.trans (s116.trans (s135.trans s177)))), ((hl_script0.mono (s48.trans (s116.trans (s135.trans s177))))), hl182, S178, (by exact e196), fun F197 H198 v201 s199 S200 hl202 => ?_⟩
        have S203 : Sta F197 ([(a_source0, HO.lst v201), (a3, HO.lst v52), (a_gates0, HO.ins T.a_Gates dx_gates0 (fl_Gates (V.ref a183) (V.ref a186))), (a183, HO.lst v184), (a186, HO.dT v187), (a_rows0, HO.lst v189)] ++ R) _ := S200
        revert hm; refine bndI fun y204 e205 hm => ?_
        obtain ⟨v206, ev207, rv208⟩ := LR.atI hl53 e205
        obtain rfl := rInt_e rv208
        refine ⟨_, _, _, _, rfl, rfl, (SqL.of (S203.get 1 rfl)), ev207, ?_⟩
        clear S200
        refine hN194 _ _ ?_
        refine seqI fun N209 hN210 => ?_
        have S211 : Sta F197 ([(a_gates0, HO.ins T.a_Gates dx_gates0 (fl_Gates (V.ref a183) (V.ref a186))), (a183, HO.lst v184), (a186, HO.dT v187), (a_rows0, HO.lst v189), (a_source0, HO.lst v201), (a3, HO.lst v52)] ++ R) _ := S203.pick [2, 3, 4, 5, 0, 1] (by decide) rfl
        revert hm; refine bndI fun y212 e213 hm => ?_
        refine ⟨_, rfl, _, rfl, _, rfl, _, rfl, F197, ([(a_source0, HO.lst v201), (a3, HO.lst v52)] ++ R), a_gates0, dx_gates0, (M_Gates.mk st2.2.2.1.rows st2.2.2.1.known), a183, v184, a186, v187, a_rows0, v189, st2.2.2.2, st2.1, y204, y212, rfl, (hl185.mono s199), (KR.mono hl188 s199), (hl190.mono s199), S211, (by exact e213), fun F214 H215 a218 v219 a221 v222 v224 s216 S217 hl220 hl223 hl225 => ?_⟩
        clear S203
        have S226 : Sta F214 ([(a_gates0, HO.ins T.a_Gates dx_gates0 (fl_Gates (V.ref a218) (V.ref a221))), (a218, HO.lst v219), (a221, HO.dT v222), (a_rows0, HO.lst v224), (a_source0, HO.lst v201), (a3, HO.lst v52)] ++ R) _ := S217
        refine hN210 _ _ ?_
        have S227 : Sta F214 ([(a_source0, HO.lst v201), (a_gates0, HO.ins T.a_Gates dx_gates0 (fl_Gates (V.ref a218) (V.ref a221))), (a218, HO.lst v219), (a221, HO.dT v222), (a_rows0, HO.lst v224), (a3, HO.lst v52)] ++ R) _ := S226.pick [4, 0, 1, 2, 3, 5] (by decide) rfl
        revert hm; refine bndI fun y228 e229 hm => ?_
        refine ⟨_, rfl, _, rfl, F214, ([(a_gates0, HO.ins T.a_Gates dx_gates0 (fl_Gates (V.ref a218) (V.ref a221))), (a218, HO.lst v219), (a221, HO.dT v222), (a_rows0, HO.lst v224), (a3, HO.lst v52)] ++ R), a_script0, v_script0, x_script0, a_source0, v201, y195.2, (2 : Int), y228, rfl, (SqL.mono hs_script0 (s48.trans (s116.trans (s135.trans (s177.trans (s199.trans s216)))))), ((hl_script0.mono (s48.trans (s116.trans (s135.trans (s177.trans (s199.trans s216))))))), (hl202.mono s216), S227, (by exact e229), fun F230 H231 v234 s232 S233 hl235 => ?_⟩
        clear S217 S226
        have S236 : Sta F230 ([(a_source0, HO.lst v234), (a_gates0, HO.ins T.a_Gates dx_gates0 (fl_Gates (V.ref a218) (V.ref a221))), (a218, HO.lst v219), (a221, HO.dT v222), (a_rows0, HO.lst v224), (a3, HO.lst v52)] ++ R) _ := S233
        refine ⟨_, _, rfl, rfl, _, rfl, ?_⟩
        clear S233
        by_cases c237 : (decide (y228.1 = (1 : Int))) = true
        · revert hm; refine ifTI c237 fun hm => ?_
          refine goT c237 ?_
          refine ⟨_, rfl, y212.1, _, rfl, rfl, ?_⟩
          have S238 : Sta F230 ([(a_source0, HO.lst v234), (a3, HO.lst v52), (a_gates0, HO.ins T.a_Gates dx_gates0 (fl_Gates (V.ref a218) (V.ref a221))), (a218, HO.lst v219), (a221, HO.dT v222), (a_rows0, HO.lst v224)] ++ R) _ := S236.pick [0, 5, 1, 2, 3, 4] (by decide) rfl
          exact ⟨((m_law_opposite y212.1), y228.2, (M_Gates.mk y212.2.1.rows y212.2.1.known), y212.2.2), F230, v234, a218, v219, a221, v222, v224, _, _, rfl, (s177.trans (s199.trans (s216.trans s232))), S238, hl235, (hl220.mono s232), (KR.mono hl223 s232), (hl225.mono s232), hm⟩
        · revert hm; refine ifFI c237 fun hm => ?_
          refine goF c237 ?_
          have S239 : Sta F230 ([(a_source0, HO.lst v234), (a3, HO.lst v52), (a_gates0, HO.ins T.a_Gates dx_gates0 (fl_Gates (V.ref a218) (V.ref a221))), (a218, HO.lst v219), (a221, HO.dT v222), (a_rows0, HO.lst v224)] ++ R) _ := S236.pick [0, 5, 1, 2, 3, 4] (by decide) rfl
          exact ⟨(y212.1, y228.2, (M_Gates.mk y212.2.1.rows y212.2.1.known), y212.2.2), F230, v234, a218, v219, a221, v222, v224, _, _, rfl, (s177.trans (s199.trans (s216.trans s232))), S239, hl235, (hl220.mono s232), (KR.mono hl223 s232), (hl225.mono s232), hm⟩
      · rintro σ H2 ⟨st2, F176, v181, a183, v184, a186, v187, v189, o179, o180, rfl, s177, S178, hl182, hl185, hl188, hl190, hm⟩
        rw [drop_rng, m_law_edge_l2] at hm
        obtain rfl := Option.some.inj hm
        have hm := hm130
        refine hN127 _ _ ?_
        refine ⟨_, rfl, ?_⟩
        obtain rfl := Option.some.inj hm
        have S240 : Sta F176 ([(a_source0, HO.lst v181), (a_gates0, HO.ins T.a_Gates dx_gates0 (fl_Gates (V.ref a183) (V.ref a186))), (a183, HO.lst v184), (a186, HO.dT v187), (a_rows0, HO.lst v189)] ++ R) _ := S178.pick [0, 2, 3, 4, 5] (by decide) rfl
        exact kk _ _ v181 a183 v184 a186 v187 v189 (s48.trans (s116.trans (s135.trans s177))) S240 hl182 hl185 hl188 hl190

def sp_Plan_init (T : Txt K mg) : Sp := fun vs H Q _ => ∃ (F0 : Hp) (R : Own) (a_self0 : Addr) (dx_self0 : Addr) (x_side0 : Str) (a_gates0 : Addr) (dx_gates0 : Addr) (x_gates0 : M_Gates) (a_gates0_rows0 : Addr) (v_gates0_rows0 : List V) (a_gates0_known0 : Addr) (v_gates0_known0 : List (List Key × V)) (a_table0 : Addr) (v_table0 : List (Key × V)) (x_table0 : (List (Int × Int))) (r : M_Plan),
  vs = [V.ref a_self0, V.str x_side0, V.ref a_gates0, V.ref a_table0] ∧ LR (rKT F0) v_gates0_rows0 x_gates0.rows ∧ KR id (rInt F0) v_gates0_known0 x_gates0.known ∧ (ov F0 R) a_table0 = some (HO.dK v_table0) ∧ KR Sum.inl (rInt F0) v_table0 x_table0 ∧ Sta F0 ([(a_self0, HO.ins T.a_Plan dx_self0 ([])), (a_gates0, HO.ins T.a_Gates dx_gates0 (fl_Gates (V.ref a_gates0_rows0) (V.ref a_gates0_known0))), (a_gates0_rows0, HO.lst v_gates0_rows0), (a_gates0_known0, HO.dT v_gates0_known0)] ++ R) H ∧ m_Plan_init x_side0 x_gates0 x_table0 = some r ∧ ∀ (F1 : Hp) (H1 : Hp) (a_self0p_table0 : Addr) (v_self0p_table0 : List (Key × V)), Same F0 F1 → Sta F1 ([(a_self0, HO.ins T.a_Plan dx_self0 (fl_Plan (V.str r.side) (V.ref a_gates0) (V.ref a_self0p_table0))), (a_gates0, HO.ins T.a_Gates dx_gates0 (fl_Gates (V.ref a_gates0_rows0) (V.ref a_gates0_known0))), (a_gates0_rows0, HO.lst v_gates0_rows0), (a_gates0_known0, HO.dT v_gates0_known0), (a_self0p_table0, HO.dK v_self0p_table0)] ++ R) H1 → KR Sum.inl (rInt F1) v_self0p_table0 r.table → Q (V.non) H1

theorem ok_Plan_init (T : Txt K mg) : FnOk P w K mg base CX0 1 T.a_Plan_init T.d_Plan_init ["self", "side", "gates", "table"] (sp_Plan_init T) := by
  refine T.F_Plan_init.ok sc_Plan_init (fun vs H Q E h => ?_) (fun cdv A outer s H vs Q E hr h => ?_)
  · obtain ⟨_, _, _, _, _, _, _, _, _, _, _, _, _, _, _, _, rfl, _⟩ := h
    rfl
  · obtain ⟨F0, R, a_self0, dx_self0, x_side0, a_gates0, dx_gates0, x_gates0, a_gates0_rows0, v_gates0_rows0, a_gates0_known0, v_gates0_known0, a_table0, v_table0, x_table0, r, rfl, hl_gates0_rows0, hl_gates0_known0, hs_table0, hl_table0, S0, hm, kk⟩ := h
    have hu := hu_of hr
    unfold m_Plan_init at hm
    refine ⟨_, (pss_cons (ps_fld (pv 0) (pv 1) rfl) (pss_cons (ps_fld (pv 0) (pv 2) rfl) (pss_one (ps_fld (pv 0) (pe_dc (own := [("letter", 4)]) rfl sc_Plan_init.nd (pi_list (pe_callB (call_sortD rfl) (by rfl) T.z_sorted (by decide +kernel) (pa_cons (pv 3) pa_nil))) (blkOk_by (own := [("letter", 4)]) (N := ["self", "side", "gates", "table", "letter"]) (sc := defScope s_Plan_init) (by decide +kernel)) (fun _ _ _ _ _ => (pg_name (i := 4) sc_Plan_init.nd rfl (Or.inl rfl))) (fun _ _ _ _ _ => pts_nil) (fun _ _ _ _ _ => (pv 4)) (fun _ _ _ _ _ => (pe_dget hu (pv 3) (pv 4) (fun _ _ => rfl)))) rfl)))), ?_⟩
    refine seqI fun N1 hN2 => ?_
    refine ⟨_, rfl, _, rfl, _, _, _, _, rfl, (S0.get 0 rfl), T.cl_Plan, T.n_Plan_side, (Nat.lt_of_le_of_lt (Nat.le_refl 0) (by decide)), ?_⟩
    have S3 : Sta F0 ([(a_self0, HO.ins T.a_Plan dx_self0 (putF "side" (V.str x_side0) ([]))), (a_gates0, HO.ins T.a_Gates dx_gates0 (fl_Gates (V.ref a_gates0_rows0) (V.ref a_gates0_known0))), (a_gates0_rows0, HO.lst v_gates0_rows0), (a_gates0_known0, HO.dT v_gates0_known0)] ++ R) _ := S0.set 0 rfl _
    refine hN2 _ _ ?_
    refine seqI fun N4 hN5 => ?_
    refine ⟨_, rfl, _, rfl, _, _, _, _, rfl, (S3.get 0 rfl), T.cl_Plan, T.n_Plan_gates, (Nat.lt_of_le_of_lt (fewl (Nat.le_refl 0)) (by decide)), ?_⟩
    clear S0
    have S6 : Sta F0 ([(a_self0, HO.ins T.a_Plan dx_self0 (putF "gates" (V.ref a_gates0) (putF "side" (V.str x_side0) ([])))), (a_gates0, HO.ins T.a_Gates dx_gates0 (fl_Gates (V.ref a_gates0_rows0) (V.ref a_gates0_known0))), (a_gates0_rows0, HO.lst v_gates0_rows0), (a_gates0_known0, HO.dT v_gates0_known0)] ++ R) _ := S3.set 0 rfl _
    refine hN5 _ _ ?_
    refine ⟨_, rfl, _, _, (x_table0.map fun (q : Int × Int) => q.1), rfl, (.inl (S6.bor (Same.refl _) (fun _ q => (List.mem_append_right _ q)) _ _ hs_table0)), (KR.keysI hl_table0), ?_⟩
    clear S3
    intro ys7 a8 pm9 pw10 np11
    obtain rfl := sortI_eq pm9 pw10
    have hl12 : LR (rInt F0) ((sortI (x_table0.map fun (q : Int × Int) => q.1)).map V.int) (sortI (x_table0.map fun (q : Int × Int) => q.1)) := lr_ints _
    have S13 : Sta F0 ([(a8, HO.lst ((sortI (x_table0.map fun (q : Int × Int) => q.1)).map V.int)), (a_self0, HO.ins T.a_Plan dx_self0 (putF "gates" (V.ref a_gates0) (putF "side" (V.str x_side0) ([])))), (a_gates0, HO.ins T.a_Gates dx_gates0 (fl_Gates (V.ref a_gates0_rows0) (V.ref a_gates0_known0))), (a_gates0_rows0, HO.lst v_gates0_rows0), (a_gates0_known0, HO.dT v_gates0_known0)] ++ R) _ := S6.new np11 _
    revert hm; refine grdI fun g28 hm => ?_
    revert hm; refine bndI fun y43 e14 hm => ?_
    refine ⟨_, rfl, ⟨_, (SqL.of (S13.get 0 rfl))⟩, fun a26 np27 => dc_list (K := K) (a := a8) (xs := ((sortI (x_table0.map fun (q : Int × Int) => q.1)).map V.int)) (fun i H2 => ∃ (F19 : Hp) (v20 : List (Key × V)) (acc21 : (List (Int × Int))), Same F0 F19 ∧ Sta F19 ([(a26, HO.dK v20), (a8, HO.lst ((sortI (x_table0.map fun (q : Int × Int) => q.1)).map V.int)), (a_self0, HO.ins T.a_Plan dx_self0 (putF "gates" (V.ref a_gates0) (putF "side" (V.str x_side0) ([])))), (a_gates0, HO.ins T.a_Gates dx_gates0 (fl_Gates (V.ref a_gates0_rows0) (V.ref a_gates0_known0))), (a_gates0_rows0, HO.lst v_gates0_rows0), (a_gates0_known0, HO.dT v_gates0_known0)] ++ R) H2 ∧ KR Sum.inl (rInt F19) v20 acc21 ∧ acc21.length ≤ i ∧ dcO (fun x18 => (mget x_table0 x18).bind fun y37 =>
      some (some (x18, y37))) acc21 (List.drop i (sortI (x_table0.map fun (q : Int × Int) => q.1))) = some y43) ⟨F0, [], [], Same.refl _, S13.new np27 _, trivial, Nat.le_refl _, e14⟩ (by rintro i H2 _ ⟨F19, v20, acc21, s22, S23, hl24, hn25, hr16⟩; exact (SqL.of (S23.get 1 rfl))) ?_ ?_⟩
    clear S6
    · rintro i v29 H2 hi ⟨F19, v20, acc21, s22, S23, hl24, hn25, hr16⟩
      obtain ⟨x18, hx30, rx31⟩ := LR.getV hl12 hi
      rw [drop_cons hx30] at hr16
      revert hr16; refine dcI fun y32 hm hr35 => ?_
      obtain rfl := rInt_e rx31
      refine ⟨rfl, ?_⟩
      refine tYesI ?_
      rw [if_pos rfl]
      revert hm; refine bndI fun y37 e38 hm => ?_
      obtain ⟨v39, ev40, rv41⟩ := KR.get hl_table0 kinj_int e38
      obtain rfl := rInt_e rv41
      refine ⟨_, rfl, _, rfl, _, rfl, _, _, rfl, (dget_of (DGet.k (k := Sum.inl x18) (S23.bor s22 (fun _ q => (List.mem_append_right _ q)) _ _ hs_table0)) ev40), ?_⟩
      obtain rfl := Option.some.inj hm
      have hlt : v20.length < 16777216 := by rw [KR.length hl24]; have := (List.getElem?_eq_some_iff.mp hx30).1; have := of_decide_eq_true g28; omega
      have S42 : Sta F19 ([(a26, HO.dK (putK v20 (Sum.inl x18) (V.int y37))), (a8, HO.lst ((sortI (x_table0.map fun (q : Int × Int) => q.1)).map V.int)), (a_self0, HO.ins T.a_Plan dx_self0 (putF "gates" (V.ref a_gates0) (putF "side" (V.str x_side0) ([])))), (a_gates0, HO.ins T.a_Gates dx_gates0 (fl_Gates (V.ref a_gates0_rows0) (V.ref a_gates0_known0))), (a_gates0_rows0, HO.lst v_gates0_rows0), (a_gates0_known0, HO.dT v_gates0_known0)] ++ R) _ := S23.set 0 rfl _
      exact ⟨_, (Sum.inl x18), rfl, (S23.get 0 rfl), hlt, F19, _, (mput acc21 x18 y37), s22, S42, KR.put hl24 kinj_int rfl, mput_leI hn25, hr35⟩
    rintro H2 ⟨F19, v20, acc21, s22, S23, hl24, hn25, hr16⟩
    rw [LR.dropEnd hl12] at hr16
    obtain rfl := (Option.some.inj hr16).symm
    have S44 : Sta F19 ([(a26, HO.dK v20), (a8, HO.lst ((sortI (x_table0.map fun (q : Int × Int) => q.1)).map V.int)), (a_self0, HO.ins T.a_Plan dx_self0 (putF "gates" (V.ref a_gates0) (putF "side" (V.str x_side0) ([])))), (a_gates0, HO.ins T.a_Gates dx_gates0 (fl_Gates (V.ref a_gates0_rows0) (V.ref a_gates0_known0))), (a_gates0_rows0, HO.lst v_gates0_rows0), (a_gates0_known0, HO.dT v_gates0_known0)] ++ R) _ := S23
    refine ⟨_, rfl, _, _, _, _, rfl, (S44.get 2 rfl), T.cl_Plan, T.n_Plan_table, (Nat.lt_of_le_of_lt (fewl (fewl (Nat.le_refl 0))) (by decide)), ?_⟩
    clear S23
    have S45 : Sta F19 ([(a26, HO.dK v20), (a8, HO.lst ((sortI (x_table0.map fun (q : Int × Int) => q.1)).map V.int)), (a_self0, HO.ins T.a_Plan dx_self0 (fl_Plan (V.str x_side0) (V.ref a_gates0) (V.ref a26))), (a_gates0, HO.ins T.a_Gates dx_gates0 (fl_Gates (V.ref a_gates0_rows0) (V.ref a_gates0_known0))), (a_gates0_rows0, HO.lst v_gates0_rows0), (a_gates0_known0, HO.dT v_gates0_known0)] ++ R) _ := S44.set 2 rfl _
    obtain rfl := Option.some.inj hm
    have S46 : Sta F19 ([(a_self0, HO.ins T.a_Plan dx_self0 (fl_Plan (V.str x_side0) (V.ref a_gates0) (V.ref a26))), (a_gates0, HO.ins T.a_Gates dx_gates0 (fl_Gates (V.ref a_gates0_rows0) (V.ref a_gates0_known0))), (a_gates0_rows0, HO.lst v_gates0_rows0), (a_gates0_known0, HO.dT v_gates0_known0), (a26, HO.dK v20)] ++ R) _ := S45.pick [2, 3, 4, 5, 0] (by decide) rfl
    exact kk _ _ a26 v20 s22 S46 hl24

def sp_other (T : Txt K mg) : Sp := fun vs H Q _ => ∃ (x_side0 : Str) (r : Str),
  vs = [V.str x_side0] ∧ m_other x_side0 = r ∧ Q (V.str r) H

theorem ok_other (T : Txt K mg) : FnOk P w K mg base CX0 1 T.a_other T.d_other ["side"] (sp_other T) := by
  refine T.F_other.ok sc_other (fun vs H Q E h => ?_) (fun cdv A outer s H vs Q E hr h => ?_)
  · obtain ⟨_, _, rfl, _⟩ := h
    rfl
  · obtain ⟨x_side0, r, rfl, hm, kk⟩ := h
    have hu := hu_of hr
    unfold m_other at hm
    refine ⟨_, (pss_cons (ps_if (pt_cmpR oS_eq (pv 0) (pe_glob (v := .str ("some" : Str)) rfl T.g_SOME ⟨_, rfl⟩) (nomark _)) (pss_one (ps_ret (pe_glob (v := .str ("all" : Str)) rfl T.g_ALL ⟨_, rfl⟩))) pss_nil) (pss_one (ps_ret (pe_glob (v := .str ("some" : Str)) rfl T.g_SOME ⟨_, rfl⟩)))), ?_⟩
    refine seqI fun N1 hN2 => ?_
    refine ⟨_, rfl, _, _, rfl, rfl, _, rfl, ?_⟩
    by_cases c3 : (decide (x_side0 = ("some" : Str))) = true
    · revert hm; refine ifTI c3 fun hm => ?_
      refine goT c3 ?_
      obtain rfl := hm
      exact kk
    · revert hm; refine ifFI c3 fun hm => ?_
      refine goF c3 ?_
      refine hN2 _ _ ?_
      obtain rfl := hm
      exact kk

def sp_Gates_cone (T : Txt K mg) : Sp := fun vs H Q _ => ∃ (F0 : Hp) (R : Own) (a_self0 : Addr) (dx_self0 : Addr) (x_self0 : M_Gates) (a_self0_rows0 : Addr) (v_self0_rows0 : List V) (a_self0_known0 : Addr) (v_self0_known0 : List (List Key × V)) (a_edges0 : Addr) (v_edges0 : List V) (x_edges0 : (List Int)) (r : (List Int)),
  vs = [V.ref a_self0, V.ref a_edges0] ∧ (ov F0 R) a_self0 = some (HO.ins T.a_Gates dx_self0 (fl_Gates (V.ref a_self0_rows0) (V.ref a_self0_known0))) ∧ (ov F0 R) a_self0_rows0 = some (HO.lst v_self0_rows0) ∧ LR (rKT F0) v_self0_rows0 x_self0.rows ∧ (ov F0 R) a_self0_known0 = some (HO.dT v_self0_known0) ∧ KR id (rInt F0) v_self0_known0 x_self0.known ∧ SqL K (ov F0 R) a_edges0 v_edges0 ∧ LR (rInt F0) v_edges0 x_edges0 ∧ Sta F0 ([] ++ R) H ∧ m_Gates_cone x_self0 x_edges0 = some r ∧ ∀ (F1 : Hp) (H1 : Hp) (a_ret0p : Addr) (v_ret0p : List V), Same F0 F1 → Sta F1 ([(a_ret0p, HO.lst v_ret0p)] ++ R) H1 → LR (rInt F1) v_ret0p r → Q (V.ref a_ret0p) H1

theorem ok_Gates_cone (T : Txt K mg) : FnOk P w K mg base CX0 1 T.a_Gates_cone T.d_Gates_cone ["self", "edges"] (sp_Gates_cone T) := by
  refine T.F_Gates_cone.ok sc_Gates_cone (fun vs H Q E h => ?_) (fun cdv A outer s H vs Q E hr h => ?_)
  · obtain ⟨_, _, _, _, _, _, _, _, _, _, _, _, _, rfl, _⟩ := h
    rfl
  · obtain ⟨F0, R, a_self0, dx_self0, x_self0, a_self0_rows0, v_self0_rows0, a_self0_known0, v_self0_known0, a_edges0, v_edges0, x_edges0, r, rfl, hs_self0, hs_self0_rows0, hl_self0_rows0, hs_self0_known0, hl_self0_known0, hs_edges0, hl_edges0, S0, hm, kk⟩ := h
    have hu := hu_of hr
    unfold m_Gates_cone at hm
    refine ⟨_, (pss_cons (ps_set (i := 2) sc_Gates_cone.nd rfl (Or.inl rfl) pe_dnewK) (pss_cons (ps_setLc (i := 3) (own := [("edge", 6)]) rfl sc_Gates_cone.nd rfl rfl (sw_true rfl rfl rfl (by decide +kernel)) (pi_list (pv 1)) (blkOk_by (own := [("edge", 6)]) (N := ["self", "edges", "seen", "todo", "k", "row", "edge"]) (sc := defScope s_Gates_cone) (by decide +kernel)) (fun _ _ _ _ _ => (pg_name (i := 6) sc_Gates_cone.nd rfl (Or.inl rfl))) (fun _ _ _ _ _ => pts_nil) (fun _ _ _ _ _ => (pe_op op_fdiv (pv 6) pe_int))) (C8.pss_cut (ps_while PassesOwn.never (pt_truth (pv 3) (by intro _; rfl)) (pss_cons (ps_set (i := 4) sc_Gates_cone.nd rfl (Or.inl rfl) (pe_bm0 PySem.F.plainAttrs_list PySem.F.slot_list_pop PySem.F.type_list_pop mt_pop (pv 3))) (pss_one (ps_if (pt_pure (PW.pt (pw_and (pt_cmpR op_gt (pv 4) pe_int (nomark _)) (pw_and1 (pt_cmp (pc_dnotin hu (pv 4) (pv 2))))))) (pss_cons (ps_dput hu (pv 2) (pv 4) pe_bl rfl) (pss_cons (ps_set (i := 5) sc_Gates_cone.nd rfl (Or.inl rfl) (pe_ix ix_list (pe_fld (pv 0) rfl) (pv 4) (fun _ _ => rfl))) (pss_one (ps_if (pt_cmpR oS_eq (pe_ix ix_tup (pv 5) pe_int (fun _ _ => rfl)) pe_str (nomark _)) (pss_cons (ps_expr (pe_bm PySem.F.plainAttrs_list PySem.F.slot_list_append PySem.F.type_list_append mt_append (pv 3) (pa_cons (pe_op op_fdiv (pe_ix ix_tup (pv 5) pe_int (fun _ _ => rfl)) pe_int) pa_nil))) (pss_one (ps_expr (pe_bm PySem.F.plainAttrs_list PySem.F.slot_list_append PySem.F.type_list_append mt_append (pv 3) (pa_cons (pe_op op_fdiv (pe_ix ix_tup (pv 5) pe_int (fun _ _ => rfl)) pe_int) pa_nil))))) pss_nil)))) pss_nil)))) (pss_one (ps_ret (pe_callB (call_sortD rfl) (by rfl) T.z_sorted (by decide +kernel) (pa_cons (pv 2) pa_nil))))))), ?_⟩
    refine seqI fun N1 hN2 => ?_
    intro a3 np4
    have hl5 : KR Sum.inl (rBool F0) ([] : List (Key × V)) ([] : (List (Int × Bool))) := trivial
    have S6 : Sta F0 ([(a3, HO.dK [])] ++ R) _ := S0.new np4 _
    refine hN2 _ _ ?_
    refine seqI fun N7 hN8 => ?_
    revert hm; refine grdI fun g23 hm => ?_
    have e9 : lcO (fun x13 => some (some (x13 / (2 : Int)))) x_edges0 = some (x_edges0.map fun x13 => (x13 / (2 : Int))) := lc_map (fun x13 => (x13 / (2 : Int))) x_edges0
    refine ⟨_, rfl, _, rfl, ⟨_, (SqL.mono hs_edges0 (S6.bor (Same.refl _) (fun _ q => (List.mem_append_right _ q))))⟩, fun a21 np22 => lc_list (K := K) (a := a_edges0) (xs := v_edges0) (fun i H2 => ∃ (F14 : Hp) (v15 : List V) (acc16 : List Int) (r10 : List Int), Same F0 F14 ∧ Sta F14 ([(a21, HO.lst v15), (a3, HO.dK [])] ++ R) H2 ∧ LR (rInt F14) v15 acc16 ∧ acc16.length ≤ i ∧ lcO (fun x13 => some (some (x13 / (2 : Int)))) (List.drop i x_edges0) = some r10 ∧ (x_edges0.map fun x13 => (x13 / (2 : Int))) = acc16 ++ r10) ⟨F0, [], [], _, Same.refl _, S6.new np22 _, trivial, Nat.le_refl _, e9, rfl⟩ (by rintro i H2 _ ⟨F14, v15, acc16, r10, s17, S18, hl19, hn20, hr11, hy12⟩; exact (SqL.mono hs_edges0 (S18.bor s17 (fun _ q => (List.mem_append_right _ q))))) ?_ ?_⟩
    clear S0
    · rintro i v24 H2 hi ⟨F14, v15, acc16, r10, s17, S18, hl19, hn20, hr11, hy12⟩
      obtain ⟨x13, hx25, rx26⟩ := LR.getV hl_edges0 hi
      rw [drop_cons hx25] at hr11
      revert hr11; refine lcI fun y27 r28 hm hr30 hc31 => ?_
      obtain rfl := rInt_e rx26
      refine ⟨rfl, ?_⟩
      refine tYesI ?_
      rw [if_pos rfl]
      refine ⟨_, rfl, _, _, rfl, rfl, ⟨by decide, by decide⟩, ?_⟩
      obtain rfl := Option.some.inj hm
      have hlt : v15.length < 16777216 := by rw [LR.length hl19]; have := (List.getElem?_eq_some_iff.mp hx25).1; have := of_decide_eq_true g23; omega
      have S32 : Sta F14 ([(a21, HO.lst (v15 ++ [V.int (x13 / (2 : Int))])), (a3, HO.dK [])] ++ R) _ := S18.set 0 rfl _
      exact ⟨_, (S18.get 0 rfl), hlt, F14, _, (acc16 ++ [(x13 / (2 : Int))]), r28, s17, S32, LR.snoc hl19 rfl, by rw [List.length_append]; exact Nat.succ_le_succ hn20, hr30, by rw [List.append_assoc]; exact hy12.trans (congrArg (acc16 ++ ·) hc31)⟩
    rintro H2 ⟨F14, v15, acc16, r10, s17, S18, hl19, hn20, hr11, hy12⟩
    rw [LR.dropEnd hl_edges0] at hr11
    obtain rfl := Option.some.inj hr11
    rw [List.append_nil] at hy12
    subst hy12
    have S33 : Sta F14 ([(a21, HO.lst v15), (a3, HO.dK [])] ++ R) _ := S18
    refine hN8 _ _ ?_
    revert hm; refine bndI fun y34 e35 hm36 => ?_
    refine ⟨fun σ H2 => ∃ (st1 : ((List Int) × (List (Int × Bool)))) (F37 : Hp) (v42 : List V) (v44 : List (Key × V)) (o40 : Option V) (o41 : Option V), σ = [some (V.ref a_self0), some (V.ref a_edges0), some (V.ref a3), some (V.ref a21), o40, o41, none] ∧ Same F14 F37 ∧ Sta F37 ([(a21, HO.lst v42), (a3, HO.dK v44)] ++ R) H2 ∧ LR (rInt F37) v42 st1.1 ∧ KR Sum.inl (rBool F37) v44 st1.2 ∧ st1 = y34, ?_, ?_⟩
    · have hm := e35; clear e35
      refine while_fuel (fun i σ H2 => ∃ (st1 : ((List Int) × (List (Int × Bool)))) (F37 : Hp) (v42 : List V) (v44 : List (Key × V)) (o40 : Option V) (o41 : Option V), σ = [some (V.ref a_self0), some (V.ref a_edges0), some (V.ref a3), some (V.ref a21), o40, o41, none] ∧ Same F14 F37 ∧ Sta F37 ([(a21, HO.lst v42), (a3, HO.dK v44)] ++ R) H2 ∧ LR (rInt F37) v42 st1.1 ∧ KR Sum.inl (rBool F37) v44 st1.2 ∧ m_Gates_cone_l1 x_self0 i st1 = some y34) fuel ⟨((x_edges0.map fun x13 => (x13 / (2 : Int))), ([] : (List (Int × Bool)))), F14, v15, [], _, _, rfl, (Same.refl _), S33, hl19, (KR.mono hl5 s17), hm⟩ ?_ ?_
      · rintro i σ H2 ⟨st1, F37, v42, v44, o40, o41, rfl, s38, S39, hl43, hl45, hm⟩
        rw [m_Gates_cone_l1] at hm
        refine ⟨_, rfl, ((!st1.1.isEmpty)), (.inl ⟨_, (SqL.of (S39.get 0 rfl)), by rw [LR.isEmpty hl43]⟩), ?_⟩
        by_cases c47 : (!st1.1.isEmpty) = true
        · revert hm; refine ifTI c47 fun hm => ?_
          refine goT c47 (wh_in ?_)
          refine seqI fun N48 hN49 => ?_
          revert hm; refine bndI fun y50 e51 hm => ?_
          refine ⟨_, rfl, .inl ⟨rfl, _, (SqL.of (S39.get 0 rfl))⟩, ?_⟩
          obtain ⟨v52, ev53, rv54⟩ := LR.last hl43 e51
          obtain rfl := rInt_e rv54
          refine ⟨_, _, _, rfl, rfl, (S39.get 0 rfl), ev53, ?_⟩
          have hl55 : LR (rInt F37) v42.dropLast st1.1.dropLast := LR.dropLast hl43
          have S56 : Sta F37 ([(a21, HO.lst v42.dropLast), (a3, HO.dK v44)] ++ R) _ := S39.set 0 rfl _
          refine hN49 _ _ ?_
          refine ⟨((decide (y50 > (0 : Int))) && (!(mget st1.2 y50).isSome)), ?_, ?_⟩
          · refine ⟨_, rfl, _, _, rfl, rfl, _, rfl, ?_⟩
            by_cases c57 : (decide (y50 > (0 : Int))) = true
            · refine goT c57 ?_
              refine ⟨_, rfl, _, rfl, _, _, rfl, (DGet.k (k := Sum.inl y50) (S56.get 1 rfl)), ?_⟩
              rw [show _ = (!(mget st1.2 y50).isSome) from (congrArg (!·) (KR.some_eq hl45 (kinj_int) y50))]
              refine ⟨_, rfl, ?_⟩
              exact ⟨by simp [c57], rfl⟩
            · exact goF c57 ⟨by simp [c57], rfl⟩
          by_cases c58 : ((decide (y50 > (0 : Int))) && (!(mget st1.2 y50).isSome)) = true
          · revert hm; refine ifTI c58 fun hm => ?_
            refine goT c58 ?_
            refine seqI fun N59 hN60 => ?_
            revert hm; refine grdI fun g61 hm => ?_
            refine ⟨_, rfl, _, rfl, _, _, rfl, (DPut.k (k := Sum.inl y50) (S56.get 1 rfl) (by rw [KR.length hl45]; exact of_decide_eq_true g61)), ?_⟩
            have hl62 : KR Sum.inl (rBool F37) (putK v44 (Sum.inl y50) (V.bl true)) (mput st1.2 y50 true) := KR.put hl45 kinj_int rfl
            have S63 : Sta F37 ([(a21, HO.lst v42.dropLast), (a3, HO.dK (putK v44 (Sum.inl y50) (V.bl true)))] ++ R) _ := S56.set 1 rfl _
            refine hN60 _ _ ?_
            refine seqI fun N64 hN65 => ?_
            revert hm; refine bndI fun y66 e67 hm => ?_
            obtain ⟨v68, ev69, rv70⟩ := LR.atI hl_self0_rows0 e67
            obtain ⟨a71, rfl, h72⟩ := rv70
            refine ⟨_, rfl, _, _, _, _, _, rfl, (S63.bor (s17.trans s38) (fun _ q => (List.mem_append_right _ q)) _ _ hs_self0), T.cl_Gates, T.n_Gates_rows, fl_Gates_rows, _, rfl, _, _, _, _, rfl, rfl, (SqL.mono (SqL.of hs_self0_rows0) (S63.bor (s17.trans s38) (fun _ q => (List.mem_append_right _ q)))), ev69, ?_⟩
            clear S56
            refine hN65 _ _ ?_
            revert hm; refine bndI fun y73 e74 hm => ?_
            refine ⟨_, rfl, _, _, _, _, rfl, rfl, (SqT.of (S63.sub _ _ ((s17.trans s38) _ _ h72))), (kStr_at e74), _, _, rfl, rfl, _, rfl, ?_⟩
            by_cases c75 : (decide (y73 = ("both" : Str))) = true
            · revert hm; refine ifTI c75 fun hm => ?_
              refine goT c75 ?_
              refine seqI fun N76 hN77 => ?_
              revert hm; refine bndI fun y78 e79 hm => ?_
              revert hm; refine grdI fun g80 hm => ?_
              refine ⟨_, rfl, .inl ⟨rfl, _, (SqL.of (S63.get 0 rfl))⟩, _, rfl, _, _, _, _, rfl, rfl, (SqT.of (S63.sub _ _ ((s17.trans s38) _ _ h72))), (kInt_at e79), _, _, rfl, rfl, ⟨by decide, by decide⟩, _, _, _, rfl, rfl, (S63.get 0 rfl), (by rw [LR.length hl55]; exact of_decide_eq_true g80), ?_⟩
              have hl81 : LR (rInt F37) (v42.dropLast ++ [V.int (y78 / (2 : Int))]) (st1.1.dropLast ++ [(y78 / (2 : Int))]) := LR.snoc hl55 rfl
              have S82 : Sta F37 ([(a21, HO.lst (v42.dropLast ++ [V.int (y78 / (2 : Int))])), (a3, HO.dK (putK v44 (Sum.inl y50) (V.bl true)))] ++ R) _ := S63.set 0 rfl _
              refine hN77 _ _ ?_
              revert hm; refine bndI fun y83 e84 hm => ?_
              revert hm; refine grdI fun g85 hm => ?_
              refine ⟨_, rfl, .inl ⟨rfl, _, (SqL.of (S82.get 0 rfl))⟩, _, rfl, _, _, _, _, rfl, rfl, (SqT.of (S82.sub _ _ ((s17.trans s38) _ _ h72))), (kInt_at e84), _, _, rfl, rfl, ⟨by decide, by decide⟩, _, _, _, rfl, rfl, (S82.get 0 rfl), (by rw [LR.length hl81]; exact of_decide_eq_true g85), ?_⟩
              clear S63
              have hl86 : LR (rInt F37) ((v42.dropLast ++ [V.int (y78 / (2 : Int))]) ++ [V.int (y83 / (2 : Int))]) ((st1.1.dropLast ++ [(y78 / (2 : Int))]) ++ [(y83 / (2 : Int))]) := LR.snoc hl81 rfl
              have S87 : Sta F37 ([(a21, HO.lst ((v42.dropLast ++ [V.int (y78 / (2 : Int))]) ++ [V.int (y83 / (2 : Int))])), (a3, HO.dK (putK v44 (Sum.inl y50) (V.bl true)))] ++ R) _ := S82.set 0 rfl _
              exact ⟨(((st1.1.dropLast ++ [(y78 / (2 : Int))]) ++ [(y83 / (2 : Int))]), (mput st1.2 y50 true)), F37, ((v42.dropLast ++ [V.int (y78 / (2 : Int))]) ++ [V.int (y83 / (2 : Int))]), (putK v44 (Sum.inl y50) (V.bl true)), _, _, rfl, s38, S87, hl86, hl62, hm⟩
            · revert hm; refine ifFI c75 fun hm => ?_
              refine goF c75 ?_
              exact ⟨(st1.1.dropLast, (mput st1.2 y50 true)), F37, v42.dropLast, (putK v44 (Sum.inl y50) (V.bl true)), _, _, rfl, s38, S63, hl55, hl62, hm⟩
          · revert hm; refine ifFI c58 fun hm => ?_
            refine goF c58 ?_
            exact ⟨(st1.1.dropLast, st1.2), F37, v42.dropLast, v44, _, _, rfl, s38, S56, hl55, hl45, hm⟩
        · revert hm; refine ifFI c47 fun hm => ?_
          refine goF c47 ?_
          exact ⟨(st1.1, st1.2), F37, v42, v44, _, _, rfl, s38, S39, hl43, hl45, Option.some.inj hm⟩
      · rintro σ H2 ⟨st1, F37, v42, v44, o40, o41, rfl, s38, S39, hl43, hl45, hm⟩
        rw [m_Gates_cone_l1] at hm
        cases hm
    · rintro σ H2 ⟨st1, F37, v42, v44, o40, o41, rfl, s38, S39, hl43, hl45, rfl⟩
      have hm := hm36
      refine ⟨_, rfl, _, _, (st1.2.map fun (q : Int × Bool) => q.1), rfl, (.inl (S39.get 1 rfl)), (KR.keysI hl45), ?_⟩
      intro ys88 a89 pm90 pw91 np92
      obtain rfl := sortI_eq pm90 pw91
      have hl93 : LR (rInt F37) ((sortI (st1.2.map fun (q : Int × Bool) => q.1)).map V.int) (sortI (st1.2.map fun (q : Int × Bool) => q.1)) := lr_ints _
      have S94 : Sta F37 ([(a89, HO.lst ((sortI (st1.2.map fun (q : Int × Bool) => q.1)).map V.int)), (a21, HO.lst v42), (a3, HO.dK v44)] ++ R) _ := S39.new np92 _
      obtain rfl := Option.some.inj hm
      have S95 : Sta F37 ([(a89, HO.lst ((sortI (st1.2.map fun (q : Int × Bool) => q.1)).map V.int))] ++ R) _ := S94.pick [0] (by decide) rfl
      exact kk _ _ a89 ((sortI (st1.2.map fun (q : Int × Bool) => q.1)).map V.int) (s17.trans s38) S95 hl93

def sp_Gates_hangs_on (T : Txt K mg) : Sp := fun vs H Q _ => ∃ (F0 : Hp) (R : Own) (a_self0 : Addr) (dx_self0 : Addr) (x_self0 : M_Gates) (a_self0_rows0 : Addr) (v_self0_rows0 : List V) (a_self0_known0 : Addr) (v_self0_known0 : List (List Key × V)) (x_edge0 : Int) (r : (List Int)),
  vs = [V.ref a_self0, V.int x_edge0] ∧ (ov F0 R) a_self0 = some (HO.ins T.a_Gates dx_self0 (fl_Gates (V.ref a_self0_rows0) (V.ref a_self0_known0))) ∧ (ov F0 R) a_self0_rows0 = some (HO.lst v_self0_rows0) ∧ LR (rKT F0) v_self0_rows0 x_self0.rows ∧ (ov F0 R) a_self0_known0 = some (HO.dT v_self0_known0) ∧ KR id (rInt F0) v_self0_known0 x_self0.known ∧ Sta F0 ([] ++ R) H ∧ m_Gates_hangs_on x_self0 x_edge0 = some r ∧ ∀ (F1 : Hp) (H1 : Hp) (a_ret0p : Addr) (v_ret0p : List V), Same F0 F1 → Sta F1 ([(a_ret0p, HO.lst v_ret0p)] ++ R) H1 → LR (rInt F1) v_ret0p r → Q (V.ref a_ret0p) H1

theorem ok_Gates_hangs_on (T : Txt K mg) : FnOk P w K mg base CX0 2 T.a_Gates_hangs_on T.d_Gates_hangs_on ["self", "edge"] (sp_Gates_hangs_on T) := by
  refine T.F_Gates_hangs_on.ok sc_Gates_hangs_on (fun vs H Q E h => ?_) (fun cdv A outer s H vs Q E hr h => ?_)
  · obtain ⟨_, _, _, _, _, _, _, _, _, _, _, rfl, _⟩ := h
    rfl
  · obtain ⟨F0, R, a_self0, dx_self0, x_self0, a_self0_rows0, v_self0_rows0, a_self0_known0, v_self0_known0, x_edge0, r, rfl, hs_self0, hs_self0_rows0, hl_self0_rows0, hs_self0_known0, hl_self0_known0, S0, hm, kk⟩ := h
    have hu := hu_of hr
    unfold m_Gates_hangs_on at hm
    refine ⟨_, (pss_one (ps_ret (pe_callB cr_sortedI (by rfl) T.z_sorted (by decide +kernel) (pa_cons (pe_lc (own := [("k", 2)]) rfl sc_Gates_hangs_on.nd (pi_list (pe_meth (pv 0) T.cl_Gates T.h_Gates_cone (ok_Gates_cone T) (hr.mono (by decide)) T.b_Gates_cone .nil pass0 (pa_cons (pe_lst (pa_cons (pv 1) pa_nil)) pa_nil))) (blkOk_by (own := [("k", 2)]) (N := ["self", "edge", "k"]) (sc := defScope s_Gates_hangs_on) (by decide +kernel)) (fun _ _ _ _ _ => (pg_name (i := 2) sc_Gates_hangs_on.nd rfl (Or.inl rfl))) (fun _ _ _ _ _ => (pts_one (pt_cmpR oS_eq (pe_ix (ix_tupK K) (pe_ix (ix_listK K) (pe_fldK K (pv 0) rfl) (pv 2) (fun _ _ => rfl)) pe_int (fun _ _ => rfl)) pe_str (nomark _)))) (fun _ _ _ _ _ => (pe_ix (ix_tupK K) (pe_ix (ix_listK K) (pe_fldK K (pv 0) rfl) (pv 2) (fun _ _ => rfl)) pe_int (fun _ _ => rfl)))) pa_nil)))), ?_⟩
    refine ⟨_, rfl, _, _, _, rfl, (S0.bor (Same.refl _) (fun _ q => (List.mem_append_right _ q)) _ _ hs_self0), fl_Gates_no_cone, _, rfl, (by show 1 ≤ sizeLine; decide), ?_⟩
    intro a1 np2
    have hl3 : LR (rInt F0) [V.int x_edge0] ([x_edge0] : (List Int)) := ⟨rfl, trivial⟩
    have S4 : Sta F0 ([(a1, HO.lst [V.int x_edge0])] ++ R) _ := S0.new np2 _
    revert hm; refine bndI fun y5 e6 hm => ?_
    refine ⟨F0, ([(a1, HO.lst [V.int x_edge0])] ++ R), a_self0, dx_self0, x_self0, a_self0_rows0, v_self0_rows0, a_self0_known0, v_self0_known0, a1, [V.int x_edge0], ([x_edge0] : (List Int)), y5, rfl, (S4.ovR (Same.refl _) (fun _ q => (List.mem_append_right _ q)) _ _ hs_self0), (S4.ovR (Same.refl _) (fun _ q => (List.mem_append_right _ q)) _ _ hs_self0_rows0), hl_self0_rows0, (S4.ovR (Same.refl _) (fun _ q => (List.mem_append_right _ q)) _ _ hs_self0_known0), hl_self0_known0, (SqL.of (S4.getO 0 rfl)), hl3, S4, (by exact e6), fun F7 H8 a11 v12 s9 S10 hl13 => ?_⟩
    clear S0
    have S14 : Sta F7 ([(a11, HO.lst v12), (a1, HO.lst [V.int x_edge0])] ++ R) _ := S10
    revert hm; refine grdI fun g29 hm => ?_
    revert hm; refine bndI fun y58 e15 hm => ?_
    refine ⟨_, rfl, ⟨_, (SqL.of (S14.get 0 rfl))⟩, fun a27 np28 => lc_list (K := K) (a := a11) (xs := v12) (fun i H2 => ∃ (F20 : Hp) (v21 : List V) (acc22 : List Int) (r16 : List Int), Same F7 F20 ∧ Sta F20 ([(a27, HO.lst v21), (a11, HO.lst v12), (a1, HO.lst [V.int x_edge0])] ++ R) H2 ∧ LR (rInt F20) v21 acc22 ∧ acc22.length ≤ i ∧ lcO (fun x19 => (atI x_self0.rows x19).bind fun y38 =>
      (kStr y38 (0 : Int)).bind fun y45 =>
      if (decide (y45 = ("letter" : Str))) = true then ((atI x_self0.rows x19).bind fun y48 =>
      (kInt y48 (1 : Int)).bind fun y55 =>
      some (some y55)) else some none) (List.drop i y5) = some r16 ∧ y58 = acc22 ++ r16) ⟨F7, [], [], _, Same.refl _, S14.new np28 _, trivial, Nat.le_refl _, e15, rfl⟩ (by rintro i H2 _ ⟨F20, v21, acc22, r16, s23, S24, hl25, hn26, hr17, hy18⟩; exact (SqL.of (S24.get 1 rfl))) ?_ ?_⟩
    clear S10
    · rintro i v30 H2 hi ⟨F20, v21, acc22, r16, s23, S24, hl25, hn26, hr17, hy18⟩
      obtain ⟨x19, hx31, rx32⟩ := LR.getV hl13 hi
      rw [drop_cons hx31] at hr17
      revert hr17; refine lcI fun y33 r34 hm hr36 hc37 => ?_
      obtain rfl := rInt_e rx32
      refine ⟨rfl, ?_⟩
      revert hm; refine bndI fun y38 e39 hm => ?_
      obtain ⟨v40, ev41, rv42⟩ := LR.atI hl_self0_rows0 e39
      obtain ⟨a43, rfl, h44⟩ := rv42
      revert hm; refine bndI fun y45 e46 hm => ?_
      refine ⟨_, rfl, _, _, _, _, _, rfl, (S24.bor (s9.trans s23) (fun _ q => (List.mem_append_right _ q)) _ _ hs_self0), T.cl_Gates, T.n_Gates_rows, fl_Gates_rows, _, rfl, _, _, _, _, rfl, rfl, (SqL.mono (SqL.of hs_self0_rows0) (S24.bor (s9.trans s23) (fun _ q => (List.mem_append_right _ q)))), ev41, _, _, _, _, rfl, rfl, (SqT.of (S24.sub _ _ ((s9.trans s23) _ _ h44))), (kStr_at e46), _, _, rfl, rfl, _, rfl, ?_⟩
      by_cases c47 : (decide (y45 = ("letter" : Str))) = true
      · revert hm; refine ifTI c47 fun hm => ?_
        refine goT c47 ?_
        revert hm; refine bndI fun y48 e49 hm => ?_
        obtain ⟨v50, ev51, rv52⟩ := LR.atI hl_self0_rows0 e49
        obtain ⟨a53, rfl, h54⟩ := rv52
        revert hm; refine bndI fun y55 e56 hm => ?_
        refine ⟨_, rfl, _, _, _, _, _, rfl, (S24.bor (s9.trans s23) (fun _ q => (List.mem_append_right _ q)) _ _ hs_self0), T.cl_Gates, T.n_Gates_rows, fl_Gates_rows, _, rfl, _, _, _, _, rfl, rfl, (SqL.mono (SqL.of hs_self0_rows0) (S24.bor (s9.trans s23) (fun _ q => (List.mem_append_right _ q)))), ev51, _, _, _, _, rfl, rfl, (SqT.of (S24.sub _ _ ((s9.trans s23) _ _ h54))), (kInt_at e56), ?_⟩
        obtain rfl := Option.some.inj hm
        have hlt : v21.length < 16777216 := by rw [LR.length hl25]; have := (List.getElem?_eq_some_iff.mp hx31).1; have := of_decide_eq_true g29; omega
        have S57 : Sta F20 ([(a27, HO.lst (v21 ++ [V.int y55])), (a11, HO.lst v12), (a1, HO.lst [V.int x_edge0])] ++ R) _ := S24.set 0 rfl _
        exact ⟨_, (S24.get 0 rfl), hlt, F20, _, (acc22 ++ [y55]), r34, s23, S57, LR.snoc hl25 rfl, by rw [List.length_append]; exact Nat.succ_le_succ hn26, hr36, by rw [List.append_assoc]; exact hy18.trans (congrArg (acc22 ++ ·) hc37)⟩
      · revert hm; refine ifFI c47 fun hm => ?_
        refine goF c47 ?_
        obtain rfl := Option.some.inj hm
        exact ⟨F20, _, acc22, r34, s23, S24, hl25, Nat.le_succ_of_le hn26, hr36, hy18.trans (congrArg (acc22 ++ ·) hc37)⟩
    rintro H2 ⟨F20, v21, acc22, r16, s23, S24, hl25, hn26, hr17, hy18⟩
    rw [LR.dropEnd hl13] at hr17
    obtain rfl := Option.some.inj hr17
    rw [List.append_nil] at hy18
    subst hy18
    have S59 : Sta F20 ([(a27, HO.lst v21), (a11, HO.lst v12), (a1, HO.lst [V.int x_edge0])] ++ R) _ := S24
    refine ⟨_, y58, rfl, (by rw [← lr_map hl25]; exact (SqL.of (S59.get 0 rfl))), ?_⟩
    clear S24
    intro ys60 a61 pm62 pw63 np64
    obtain rfl := sortI_eq pm62 pw63
    have hl65 : LR (rInt F20) ((sortI y58).map V.int) (sortI y58) := lr_ints _
    have S66 : Sta F20 ([(a61, HO.lst ((sortI y58).map V.int)), (a27, HO.lst v21), (a11, HO.lst v12), (a1, HO.lst [V.int x_edge0])] ++ R) _ := S59.new np64 _
    obtain rfl := Option.some.inj hm
    have S67 : Sta F20 ([(a61, HO.lst ((sortI y58).map V.int))] ++ R) _ := S66.pick [0] (by decide) rfl
    exact kk _ _ a61 ((sortI y58).map V.int) (s9.trans s23) S67 hl65

def sp_Plan_misfit (T : Txt K mg) : Sp := fun vs H Q _ => ∃ (F0 : Hp) (R : Own) (a_self0 : Addr) (dx_self0 : Addr) (x_self0 : M_Plan) (a_self0_gates0 : Addr) (dx_self0_gates0 : Addr) (a_self0_gates0_rows0 : Addr) (v_self0_gates0_rows0 : List V) (a_self0_gates0_known0 : Addr) (v_self0_gates0_known0 : List (List Key × V)) (a_self0_table0 : Addr) (v_self0_table0 : List (Key × V)) (a_order0 : Addr) (v_order0 : List V) (x_order0 : (List (Int × Str))) (r : (Option Int)),
  vs = [V.ref a_self0, V.ref a_order0] ∧ LR (rKT F0) v_self0_gates0_rows0 x_self0.gates.rows ∧ KR id (rInt F0) v_self0_gates0_known0 x_self0.gates.known ∧ KR Sum.inl (rInt F0) v_self0_table0 x_self0.table ∧ SqL K (ov F0 R) a_order0 v_order0 ∧ LR ((rT2 K rInt rStr) F0) v_order0 x_order0 ∧ Sta F0 ([(a_self0, HO.ins T.a_Plan dx_self0 (fl_Plan (V.str x_self0.side) (V.ref a_self0_gates0) (V.ref a_self0_table0))), (a_self0_gates0, HO.ins T.a_Gates dx_self0_gates0 (fl_Gates (V.ref a_self0_gates0_rows0) (V.ref a_self0_gates0_known0))), (a_self0_gates0_rows0, HO.lst v_self0_gates0_rows0), (a_self0_gates0_known0, HO.dT v_self0_gates0_known0), (a_self0_table0, HO.dK v_self0_table0)] ++ R) H ∧ m_Plan_misfit x_self0 x_order0 = some r ∧ ∀ (F1 : Hp) (H1 : Hp) (v_ret0p : V), Same F0 F1 → Sta F1 ([(a_self0, HO.ins T.a_Plan dx_self0 (fl_Plan (V.str x_self0.side) (V.ref a_self0_gates0) (V.ref a_self0_table0))), (a_self0_gates0, HO.ins T.a_Gates dx_self0_gates0 (fl_Gates (V.ref a_self0_gates0_rows0) (V.ref a_self0_gates0_known0))), (a_self0_gates0_rows0, HO.lst v_self0_gates0_rows0), (a_self0_gates0_known0, HO.dT v_self0_gates0_known0), (a_self0_table0, HO.dK v_self0_table0)] ++ R) H1 → (rOpt rInt) F1 v_ret0p r → Q (v_ret0p) H1

theorem ok_Plan_misfit (T : Txt K mg) : FnOk P w K mg base CX0 3 T.a_Plan_misfit T.d_Plan_misfit ["self", "order"] (sp_Plan_misfit T) := by
  refine T.F_Plan_misfit.ok sc_Plan_misfit (fun vs H Q E h => ?_) (fun cdv A outer s H vs Q E hr h => ?_)
  · obtain ⟨_, _, _, _, _, _, _, _, _, _, _, _, _, _, _, _, _, rfl, _⟩ := h
    rfl
  · obtain ⟨F0, R, a_self0, dx_self0, x_self0, a_self0_gates0, dx_self0_gates0, a_self0_gates0_rows0, v_self0_gates0_rows0, a_self0_gates0_known0, v_self0_gates0_known0, a_self0_table0, v_self0_table0, a_order0, v_order0, x_order0, r, rfl, hl_self0_gates0_rows0, hl_self0_gates0_known0, hl_self0_table0, hs_order0, hl_order0, S0, hm, kk⟩ := h
    have hu := hu_of hr
    unfold m_Plan_misfit at hm
    refine ⟨_, (pss_cons (ps_set (i := 2) sc_Plan_misfit.nd rfl (Or.inl rfl) pe_dnewK) (pss_cons (ps_set (i := 3) sc_Plan_misfit.nd rfl (Or.inl rfl) pe_dnewK) (pss_cons (ps_for PassesOwn.never rfl (pi_list (pv 1)) (pg_tup rfl (pgs_cons (pg_name (i := 4) sc_Plan_misfit.nd rfl (Or.inl rfl)) (pgs_cons (pg_name (i := 5) sc_Plan_misfit.nd rfl (Or.inl rfl)) pgs_nil))) (pss_one (ps_if (pt_cmpR oS_eq (pv 5) (pe_call (ok_other T) (hr.mono (by decide)) rfl T.g_other T.F_other.kp T.b_other .nil pass0 (pa_cons (pe_fld (pv 0) rfl) pa_nil)) (nomark _)) (pss_one (ps_dput hu (pv 2) (pv 4) pe_bl rfl)) (pss_cons (ps_dput hu (pv 3) (pv 4) pe_bl rfl) (pss_cons (ps_if (pt_cmp (pc_dnotin hu (pv 4) (pe_fld (pv 0) rfl))) (pss_one (ps_ret (pv 4))) pss_nil) (pss_one (ps_for PassesOwn.never rfl (pi_list (pe_meth (pe_fld (pv 0) rfl) T.cl_Gates T.h_Gates_hangs_on (ok_Gates_hangs_on T) (hr.mono (by decide)) T.b_Gates_hangs_on .nil pass0 (pa_cons (pe_dget hu (pe_fld (pv 0) rfl) (pv 4) (fun _ _ => rfl)) pa_nil))) (pg_name (i := 6) sc_Plan_misfit.nd rfl (Or.inl rfl)) (pss_one (ps_if (pt_cmp (pc_dnotin hu (pv 6) (pv 2))) (pss_one (ps_ret (pv 4))) pss_nil))))))))) (pss_cons (ps_lock (ps_for PassesOwn.never rfl (pi_keys (pe_fld (pv 0) rfl)) (pg_name (i := 4) sc_Plan_misfit.nd rfl (Or.inl rfl)) (pss_one (ps_if (pt_cmp (pc_dnotin hu (pv 4) (pv 3))) (pss_one (ps_ret (pv 4))) pss_nil)))) (pss_one (ps_ret pe_non)))))), ?_⟩
    refine seqI fun N1 hN2 => ?_
    intro a3 np4
    have hl5 : KR Sum.inl (rBool F0) ([] : List (Key × V)) ([] : (List (Int × Bool))) := trivial
    have S6 : Sta F0 ([(a3, HO.dK []), (a_self0, HO.ins T.a_Plan dx_self0 (fl_Plan (V.str x_self0.side) (V.ref a_self0_gates0) (V.ref a_self0_table0))), (a_self0_gates0, HO.ins T.a_Gates dx_self0_gates0 (fl_Gates (V.ref a_self0_gates0_rows0) (V.ref a_self0_gates0_known0))), (a_self0_gates0_rows0, HO.lst v_self0_gates0_rows0), (a_self0_gates0_known0, HO.dT v_self0_gates0_known0), (a_self0_table0, HO.dK v_self0_table0)] ++ R) _ := S0.new np4 _
    refine hN2 _ _ ?_
    refine seqI fun N7 hN8 => ?_
    clear S0
    intro a9 np10
    have hl11 : KR Sum.inl (rBool F0) ([] : List (Key × V)) ([] : (List (Int × Bool))) := trivial
    have S12 : Sta F0 ([(a9, HO.dK []), (a3, HO.dK []), (a_self0, HO.ins T.a_Plan dx_self0 (fl_Plan (V.str x_self0.side) (V.ref a_self0_gates0) (V.ref a_self0_table0))), (a_self0_gates0, HO.ins T.a_Gates dx_self0_gates0 (fl_Gates (V.ref a_self0_gates0_rows0) (V.ref a_self0_gates0_known0))), (a_self0_gates0_rows0, HO.lst v_self0_gates0_rows0), (a_self0_gates0_known0, HO.dT v_self0_gates0_known0), (a_self0_table0, HO.dK v_self0_table0)] ++ R) _ := S6.new np10 _
    refine hN8 _ _ ?_
    refine seqI fun N13 hN14 => ?_
    revert hm; refine bndI fun y15 e16 hm17 => ?_
    refine ⟨_, rfl, _, rfl, ⟨_, (SqL.mono hs_order0 (S12.bor (Same.refl _) (fun _ q => (List.mem_append_right _ q))))⟩, for_list (K := K) (a := a_order0) (xs := v_order0) (fun i σ H2 => ∃ (st1 : ((List (Int × Bool)) × (List (Int × Bool)))) (F44 : Hp) (v50 : List (Key × V)) (v52 : List (Key × V)) (o47 : Option V) (o48 : Option V) (o49 : Option V), σ = [some (V.ref a_self0), some (V.ref a_order0), some (V.ref a3), some (V.ref a9), o47, o48, o49] ∧ Same F0 F44 ∧ Sta F44 ([(a9, HO.dK v50), (a3, HO.dK v52), (a_self0, HO.ins T.a_Plan dx_self0 (fl_Plan (V.str x_self0.side) (V.ref a_self0_gates0) (V.ref a_self0_table0))), (a_self0_gates0, HO.ins T.a_Gates dx_self0_gates0 (fl_Gates (V.ref a_self0_gates0_rows0) (V.ref a_self0_gates0_known0))), (a_self0_gates0_rows0, HO.lst v_self0_gates0_rows0), (a_self0_gates0_known0, HO.dT v_self0_gates0_known0), (a_self0_table0, HO.dK v_self0_table0)] ++ R) H2 ∧ KR Sum.inl (rBool F44) v50 st1.1 ∧ KR Sum.inl (rBool F44) v52 st1.2 ∧ m_Plan_misfit_l1 x_self0 (List.drop i x_order0) st1 = some y15) ⟨(([] : (List (Int × Bool))), ([] : (List (Int × Bool)))), F0, [], [], _, _, _, rfl, (Same.refl _), S12, hl11, hl5, e16⟩ (by rintro i σ H2 _ ⟨st1, F44, v50, v52, o47, o48, o49, rfl, s45, S46, hl51, hl53, _⟩; exact (SqL.mono hs_order0 (S46.bor s45 (fun _ q => (List.mem_append_right _ q))))) ?_ ?_⟩
    clear S6
    · rintro i v55 σ H2 hi ⟨st1, F44, v50, v52, o47, o48, o49, rfl, s45, S46, hl51, hl53, hm⟩
      obtain ⟨x54, hx56, rx57⟩ := LR.getV hl_order0 hi
      rw [drop_cons hx56, m_Plan_misfit_l1] at hm
      obtain ⟨a58, u60, u61, rfl, hs59, p62, p63⟩ := rx57
      obtain rfl := rInt_e p62
      obtain rfl := rStr_e p63
      refine ⟨_, _, rfl, (SqT.mono hs59 (s45.trans S46.sub)), rfl, _, _, rfl, _, _, rfl, rfl, ?_⟩
      refine ⟨_, rfl, _, rfl, _, _, _, _, _, rfl, (S46.get 2 rfl), T.cl_Plan, T.n_Plan_side, fl_Plan_side, x_self0.side, _, rfl, rfl, _, _, rfl, rfl, _, rfl, ?_⟩
      by_cases c64 : (decide (x54.2 = (m_other x_self0.side))) = true
      · revert hm; refine ifTI c64 fun hm => ?_
        refine goT c64 ?_
        revert hm; refine grdI fun g65 hm => ?_
        refine ⟨_, rfl, _, rfl, _, _, rfl, (DPut.k (k := Sum.inl x54.1) (S46.get 1 rfl) (by rw [KR.length hl53]; exact of_decide_eq_true g65)), ?_⟩
        have hl66 : KR Sum.inl (rBool F44) (putK v52 (Sum.inl x54.1) (V.bl true)) (mput st1.2 x54.1 true) := KR.put hl53 kinj_int rfl
        have S67 : Sta F44 ([(a9, HO.dK v50), (a3, HO.dK (putK v52 (Sum.inl x54.1) (V.bl true))), (a_self0, HO.ins T.a_Plan dx_self0 (fl_Plan (V.str x_self0.side) (V.ref a_self0_gates0) (V.ref a_self0_table0))), (a_self0_gates0, HO.ins T.a_Gates dx_self0_gates0 (fl_Gates (V.ref a_self0_gates0_rows0) (V.ref a_self0_gates0_known0))), (a_self0_gates0_rows0, HO.lst v_self0_gates0_rows0), (a_self0_gates0_known0, HO.dT v_self0_gates0_known0), (a_self0_table0, HO.dK v_self0_table0)] ++ R) _ := S46.set 1 rfl _
        exact ⟨(st1.1, (mput st1.2 x54.1 true)), F44, v50, (putK v52 (Sum.inl x54.1) (V.bl true)), _, _, _, rfl, s45, S67, hl51, hl66, hm⟩
      · revert hm; refine ifFI c64 fun hm => ?_
        refine goF c64 ?_
        refine seqI fun N68 hN69 => ?_
        revert hm; refine grdI fun g70 hm => ?_
        refine ⟨_, rfl, _, rfl, _, _, rfl, (DPut.k (k := Sum.inl x54.1) (S46.get 0 rfl) (by rw [KR.length hl51]; exact of_decide_eq_true g70)), ?_⟩
        have hl71 : KR Sum.inl (rBool F44) (putK v50 (Sum.inl x54.1) (V.bl true)) (mput st1.1 x54.1 true) := KR.put hl51 kinj_int rfl
        have S72 : Sta F44 ([(a9, HO.dK (putK v50 (Sum.inl x54.1) (V.bl true))), (a3, HO.dK v52), (a_self0, HO.ins T.a_Plan dx_self0 (fl_Plan (V.str x_self0.side) (V.ref a_self0_gates0) (V.ref a_self0_table0))), (a_self0_gates0, HO.ins T.a_Gates dx_self0_gates0 (fl_Gates (V.ref a_self0_gates0_rows0) (V.ref a_self0_gates0_known0))), (a_self0_gates0_rows0, HO.lst v_self0_gates0_rows0), (a_self0_gates0_known0, HO.dT v_self0_gates0_known0), (a_self0_table0, HO.dK v_self0_table0)] ++ R) _ := S46.set 0 rfl _
        refine hN69 _ _ ?_
        refine seqI fun N73 hN74 => ?_
        refine ⟨_, rfl, _, rfl, _, _, _, _, _, rfl, (S72.get 2 rfl), T.cl_Plan, T.n_Plan_table, fl_Plan_table, _, _, rfl, (DGet.k (k := Sum.inl x54.1) (S72.get 6 rfl)), ?_⟩
        clear S46
        rw [show _ = (!(mget x_self0.table x54.1).isSome) from (congrArg (!·) (KR.some_eq (KR.mono hl_self0_table0 s45) (kinj_int) x54.1))]
        refine ⟨_, rfl, ?_⟩
        by_cases c75 : (!(mget x_self0.table x54.1).isSome) = true
        · revert hm; refine ifTI c75 fun hm => ?_
          refine goT c75 ?_
          refine ⟨_, rfl, ?_⟩
          obtain rfl := Option.some.inj hm
          have hm := hm17
          obtain rfl := Option.some.inj hm
          have S76 : Sta F44 ([(a_self0, HO.ins T.a_Plan dx_self0 (fl_Plan (V.str x_self0.side) (V.ref a_self0_gates0) (V.ref a_self0_table0))), (a_self0_gates0, HO.ins T.a_Gates dx_self0_gates0 (fl_Gates (V.ref a_self0_gates0_rows0) (V.ref a_self0_gates0_known0))), (a_self0_gates0_rows0, HO.lst v_self0_gates0_rows0), (a_self0_gates0_known0, HO.dT v_self0_gates0_known0), (a_self0_table0, HO.dK v_self0_table0)] ++ R) _ := S72.pick [2, 3, 4, 5, 6] (by decide) rfl
          exact kk _ _ (V.int x54.1) s45 S76 (rOpt_some rfl)
        · revert hm; refine ifFI c75 fun hm => ?_
          refine goF c75 ?_
          refine hN74 _ _ ?_
          revert hm; refine bndI fun y80 e81 hm => ?_
          obtain ⟨v82, ev83, rv84⟩ := KR.get hl_self0_table0 kinj_int e81
          obtain rfl := rInt_e rv84
          revert hm; refine bndI fun y85 e86 hm => ?_
          refine ⟨_, rfl, _, _, _, _, _, rfl, (S72.get 2 rfl), T.cl_Plan, T.n_Plan_gates, fl_Plan_gates, _, _, _, rfl, (S72.get 3 rfl), fl_Gates_no_hangs_on, _, rfl, _, _, _, _, _, rfl, (S72.get 2 rfl), T.cl_Plan, T.n_Plan_table, fl_Plan_table, _, rfl, _, _, rfl, (dget_of (DGet.k (k := Sum.inl x54.1) (S72.get 6 rfl)) ev83), F44, ([(a9, HO.dK (putK v50 (Sum.inl x54.1) (V.bl true))), (a3, HO.dK v52), (a_self0, HO.ins T.a_Plan dx_self0 (fl_Plan (V.str x_self0.side) (V.ref a_self0_gates0) (V.ref a_self0_table0))), (a_self0_gates0, HO.ins T.a_Gates dx_self0_gates0 (fl_Gates (V.ref a_self0_gates0_rows0) (V.ref a_self0_gates0_known0))), (a_self0_gates0_rows0, HO.lst v_self0_gates0_rows0), (a_self0_gates0_known0, HO.dT v_self0_gates0_known0), (a_self0_table0, HO.dK v_self0_table0)] ++ R), a_self0_gates0, dx_self0_gates0, (M_Gates.mk x_self0.gates.rows x_self0.gates.known), a_self0_gates0_rows0, v_self0_gates0_rows0, a_self0_gates0_known0, v_self0_gates0_known0, y80, y85, rfl, (S72.getO 3 rfl), (S72.getO 4 rfl), (hl_self0_gates0_rows0.mono s45), (S72.getO 5 rfl), (KR.mono hl_self0_gates0_known0 s45), S72, (by exact e86), fun F87 H88 a91 v92 s89 S90 hl93 => ?_⟩
          have S94 : Sta F87 ([(a91, HO.lst v92), (a9, HO.dK (putK v50 (Sum.inl x54.1) (V.bl true))), (a3, HO.dK v52), (a_self0, HO.ins T.a_Plan dx_self0 (fl_Plan (V.str x_self0.side) (V.ref a_self0_gates0) (V.ref a_self0_table0))), (a_self0_gates0, HO.ins T.a_Gates dx_self0_gates0 (fl_Gates (V.ref a_self0_gates0_rows0) (V.ref a_self0_gates0_known0))), (a_self0_gates0_rows0, HO.lst v_self0_gates0_rows0), (a_self0_gates0_known0, HO.dT v_self0_gates0_known0), (a_self0_table0, HO.dK v_self0_table0)] ++ R) _ := S90
          revert hm; refine bndI fun y77 e78 hm79 => ?_
          refine ⟨_, rfl, ⟨_, (SqL.of (S94.get 0 rfl))⟩, for_list (K := K) (a := a91) (xs := v92) (fun i σ H2 => ∃ (st2 : Unit) (F107 : Hp) (o110 : Option V), σ = [some (V.ref a_self0), some (V.ref a_order0), some (V.ref a3), some (V.ref a9), some (V.int x54.1), some (V.str x54.2), o110] ∧ Same F87 F107 ∧ Sta F107 ([(a91, HO.lst v92), (a9, HO.dK (putK v50 (Sum.inl x54.1) (V.bl true))), (a3, HO.dK v52), (a_self0, HO.ins T.a_Plan dx_self0 (fl_Plan (V.str x_self0.side) (V.ref a_self0_gates0) (V.ref a_self0_table0))), (a_self0_gates0, HO.ins T.a_Gates dx_self0_gates0 (fl_Gates (V.ref a_self0_gates0_rows0) (V.ref a_self0_gates0_known0))), (a_self0_gates0_rows0, HO.lst v_self0_gates0_rows0), (a_self0_gates0_known0, HO.dT v_self0_gates0_known0), (a_self0_table0, HO.dK v_self0_table0)] ++ R) H2 ∧ m_Plan_misfit_l2 x54 st1 (List.drop i y85) st2 = some y77) ⟨(), F87, _, rfl, (Same.refl _), S94, e78⟩ (by rintro i σ H2 _ ⟨st2, F107, o110, rfl, s108, S109, _⟩; exact (SqL.of (S109.get 0 rfl))) ?_ ?_⟩
          clear S90
          · rintro i v112 σ H2 hi ⟨st2, F107, o110, rfl, s108, S109, hm⟩
            obtain ⟨x111, hx113, rx114⟩ := LR.getV hl93 hi
            rw [drop_cons hx113, m_Plan_misfit_l2] at hm
            obtain rfl := rInt_e rx114
            refine ⟨_, rfl, _, rfl, _, _, rfl, (DGet.k (k := Sum.inl x111) (S109.get 2 rfl)), ?_⟩
            rw [show _ = (!(mget st1.2 x111).isSome) from (congrArg (!·) (KR.some_eq (KR.mono hl53 (s89.trans s108)) (kinj_int) x111))]
            refine ⟨_, rfl, ?_⟩
            by_cases c115 : (!(mget st1.2 x111).isSome) = true
            · revert hm; refine ifTI c115 fun hm => ?_
              refine goT c115 ?_
              refine ⟨_, rfl, ?_⟩
              obtain rfl := Option.some.inj hm
              have hm := hm79
              obtain rfl := Option.some.inj hm
              have hm := hm17
              obtain rfl := Option.some.inj hm
              have S116 : Sta F107 ([(a_self0, HO.ins T.a_Plan dx_self0 (fl_Plan (V.str x_self0.side) (V.ref a_self0_gates0) (V.ref a_self0_table0))), (a_self0_gates0, HO.ins T.a_Gates dx_self0_gates0 (fl_Gates (V.ref a_self0_gates0_rows0) (V.ref a_self0_gates0_known0))), (a_self0_gates0_rows0, HO.lst v_self0_gates0_rows0), (a_self0_gates0_known0, HO.dT v_self0_gates0_known0), (a_self0_table0, HO.dK v_self0_table0)] ++ R) _ := S109.pick [3, 4, 5, 6, 7] (by decide) rfl
              exact kk _ _ (V.int x54.1) (s45.trans (s89.trans s108)) S116 (rOpt_some rfl)
            · revert hm; refine ifFI c115 fun hm => ?_
              refine goF c115 ?_
              exact ⟨(), F107, _, rfl, s108, S109, hm⟩
          · rintro σ H2 ⟨st2, F107, o110, rfl, s108, S109, hm⟩
            rw [LR.dropEnd hl93, m_Plan_misfit_l2] at hm
            obtain rfl := Option.some.inj hm
            have hm := hm79
            have S117 : Sta F107 ([(a9, HO.dK (putK v50 (Sum.inl x54.1) (V.bl true))), (a3, HO.dK v52), (a_self0, HO.ins T.a_Plan dx_self0 (fl_Plan (V.str x_self0.side) (V.ref a_self0_gates0) (V.ref a_self0_table0))), (a_self0_gates0, HO.ins T.a_Gates dx_self0_gates0 (fl_Gates (V.ref a_self0_gates0_rows0) (V.ref a_self0_gates0_known0))), (a_self0_gates0_rows0, HO.lst v_self0_gates0_rows0), (a_self0_gates0_known0, HO.dT v_self0_gates0_known0), (a_self0_table0, HO.dK v_self0_table0)] ++ R) _ := S109.pick [1, 2, 3, 4, 5, 6, 7] (by decide) rfl
            exact ⟨((mput st1.1 x54.1 true), st1.2), F107, (putK v50 (Sum.inl x54.1) (V.bl true)), v52, _, _, _, rfl, (s45.trans (s89.trans s108)), S117, (KR.mono hl71 (s89.trans s108)), (KR.mono hl53 (s89.trans s108)), hm⟩
    · rintro σ H2 ⟨st1, F44, v50, v52, o47, o48, o49, rfl, s45, S46, hl51, hl53, hm⟩
      rw [LR.dropEnd hl_order0, m_Plan_misfit_l1] at hm
      obtain rfl := Option.some.inj hm
      have hm := hm17
      refine hN14 _ _ ?_
      refine seqI fun N118 hN119 => ?_
      refine ⟨_, _, (S46.get 6 rfl), trivial, fun od123 => ?_⟩
      have S124 : Sta F44 ([(a9, HO.dK v50), (a3, HO.dK v52), (a_self0, HO.ins T.a_Plan dx_self0 (fl_Plan (V.str x_self0.side) (V.ref a_self0_gates0) (V.ref a_self0_table0))), (a_self0_gates0, HO.ins T.a_Gates dx_self0_gates0 (fl_Gates (V.ref a_self0_gates0_rows0) (V.ref a_self0_gates0_known0))), (a_self0_gates0_rows0, HO.lst v_self0_gates0_rows0), (a_self0_gates0_known0, HO.dT v_self0_gates0_known0), (a_self0_table0, HO.frz od123 (HO.dK v_self0_table0))] ++ R) _ := S46.set 6 rfl _
      revert hm; refine bndI fun y120 e121 hm122 => ?_
      refine ⟨_, rfl, _, _, _, _, _, rfl, (S124.get 2 rfl), T.cl_Plan, T.n_Plan_table, fl_Plan_table, _, _, rfl, .inl ⟨_, (S124.get 6 rfl), for_keys (kvs := v_self0_table0) (fun i σ H2 => ∃ (st3 : Unit) (F137 : Hp) (o140 : Option V), σ = [some (V.ref a_self0), some (V.ref a_order0), some (V.ref a3), some (V.ref a9), o140, o48, o49] ∧ Same F44 F137 ∧ Sta F137 ([(a9, HO.dK v50), (a3, HO.dK v52), (a_self0, HO.ins T.a_Plan dx_self0 (fl_Plan (V.str x_self0.side) (V.ref a_self0_gates0) (V.ref a_self0_table0))), (a_self0_gates0, HO.ins T.a_Gates dx_self0_gates0 (fl_Gates (V.ref a_self0_gates0_rows0) (V.ref a_self0_gates0_known0))), (a_self0_gates0_rows0, HO.lst v_self0_gates0_rows0), (a_self0_gates0_known0, HO.dT v_self0_gates0_known0), (a_self0_table0, HO.frz od123 (HO.dK v_self0_table0))] ++ R) H2 ∧ m_Plan_misfit_l3 st1 (List.drop i (x_self0.table.map fun (q : Int × Int) => q.1)) st3 = some y120) ⟨(), F44, _, rfl, (Same.refl _), S124, e121⟩ (by rintro i σ H2 ⟨st3, F137, o140, rfl, s138, S139, _⟩; exact S139.get 6 rfl) ?_ ?_⟩⟩
      clear S46
      · rintro i v142 σ H2 hi ⟨st3, F137, o140, rfl, s138, S139, hm⟩
        obtain ⟨x141, hx143, rx144⟩ := LR.getV (KR.keysLI (F := F44) (KR.mono hl_self0_table0 s45)) hi
        rw [drop_cons hx143, m_Plan_misfit_l3] at hm
        obtain rfl := rInt_e rx144
        refine ⟨_, rfl, _, rfl, _, _, rfl, (DGet.k (k := Sum.inl x141) (S139.get 0 rfl)), ?_⟩
        rw [show _ = (!(mget st1.1 x141).isSome) from (congrArg (!·) (KR.some_eq (KR.mono hl51 s138) (kinj_int) x141))]
        refine ⟨_, rfl, ?_⟩
        by_cases c145 : (!(mget st1.1 x141).isSome) = true
        · revert hm; refine ifTI c145 fun hm => ?_
          refine goT c145 ?_
          refine ⟨_, rfl, ?_⟩
          obtain rfl := Option.some.inj hm
          have hm := hm122
          refine ⟨(S139.get 6 rfl), ?_⟩
          have S146 : Sta F137 ([(a9, HO.dK v50), (a3, HO.dK v52), (a_self0, HO.ins T.a_Plan dx_self0 (fl_Plan (V.str x_self0.side) (V.ref a_self0_gates0) (V.ref a_self0_table0))), (a_self0_gates0, HO.ins T.a_Gates dx_self0_gates0 (fl_Gates (V.ref a_self0_gates0_rows0) (V.ref a_self0_gates0_known0))), (a_self0_gates0_rows0, HO.lst v_self0_gates0_rows0), (a_self0_gates0_known0, HO.dT v_self0_gates0_known0), (a_self0_table0, HO.dK v_self0_table0)] ++ R) _ := S139.set 6 rfl _
          obtain rfl := Option.some.inj hm
          have S147 : Sta F137 ([(a_self0, HO.ins T.a_Plan dx_self0 (fl_Plan (V.str x_self0.side) (V.ref a_self0_gates0) (V.ref a_self0_table0))), (a_self0_gates0, HO.ins T.a_Gates dx_self0_gates0 (fl_Gates (V.ref a_self0_gates0_rows0) (V.ref a_self0_gates0_known0))), (a_self0_gates0_rows0, HO.lst v_self0_gates0_rows0), (a_self0_gates0_known0, HO.dT v_self0_gates0_known0), (a_self0_table0, HO.dK v_self0_table0)] ++ R) _ := S146.pick [2, 3, 4, 5, 6] (by decide) rfl
          exact kk _ _ (V.int x141) (s45.trans s138) S147 (rOpt_some rfl)
        · revert hm; refine ifFI c145 fun hm => ?_
          refine goF c145 ?_
          exact ⟨(), F137, _, rfl, s138, S139, hm⟩
      · rintro σ H2 ⟨st3, F137, o140, rfl, s138, S139, hm⟩
        rw [LR.dropEnd (KR.keysLI (F := F44) (KR.mono hl_self0_table0 s45)), m_Plan_misfit_l3] at hm
        obtain rfl := Option.some.inj hm
        have hm := hm122
        refine ⟨(S139.get 6 rfl), ?_⟩
        have S148 : Sta F137 ([(a9, HO.dK v50), (a3, HO.dK v52), (a_self0, HO.ins T.a_Plan dx_self0 (fl_Plan (V.str x_self0.side) (V.ref a_self0_gates0) (V.ref a_self0_table0))), (a_self0_gates0, HO.ins T.a_Gates dx_self0_gates0 (fl_Gates (V.ref a_self0_gates0_rows0) (V.ref a_self0_gates0_known0))), (a_self0_gates0_rows0, HO.lst v_self0_gates0_rows0), (a_self0_gates0_known0, HO.dT v_self0_gates0_known0), (a_self0_table0, HO.dK v_self0_table0)] ++ R) _ := S139.set 6 rfl _
        refine hN119 _ _ ?_
        obtain rfl := Option.some.inj hm
        have S149 : Sta F137 ([(a_self0, HO.ins T.a_Plan dx_self0 (fl_Plan (V.str x_self0.side) (V.ref a_self0_gates0) (V.ref a_self0_table0))), (a_self0_gates0, HO.ins T.a_Gates dx_self0_gates0 (fl_Gates (V.ref a_self0_gates0_rows0) (V.ref a_self0_gates0_known0))), (a_self0_gates0_rows0, HO.lst v_self0_gates0_rows0), (a_self0_gates0_known0, HO.dT v_self0_gates0_known0), (a_self0_table0, HO.dK v_self0_table0)] ++ R) _ := S148.pick [2, 3, 4, 5, 6] (by decide) rfl
        exact kk _ _ V.non (s45.trans s138) S149 rfl

def sp_law_fault (T : Txt K mg) : Sp := fun vs H Q _ => ∃ (F0 : Hp) (R : Own) (a_script0 : Addr) (v_script0 : List V) (x_script0 : (List Int)) (a_source0 : Addr) (v_source0 : List V) (x_source0 : (List Int)) (a_gates0 : Addr) (dx_gates0 : Addr) (x_gates0 : M_Gates) (a_gates0_rows0 : Addr) (v_gates0_rows0 : List V) (a_gates0_known0 : Addr) (v_gates0_known0 : List (List Key × V)) (a_rows0 : Addr) (v_rows0 : List V) (x_rows0 : (List (List Key))) (a_order0 : Addr) (v_order0 : List V) (x_order0 : (List (Int × Str))) (x_side0 : Str) (a_table0 : Addr) (v_table0 : List (Key × V)) (x_table0 : (List (Int × Int))) (r : ((List Int) × M_Gates × (List (List Key)) × (List (Int × Int)))),
  vs = [V.ref a_script0, V.ref a_source0, V.ref a_gates0, V.ref a_rows0, V.ref a_order0, V.str x_side0, V.ref a_table0] ∧ SqL K F0 a_script0 v_script0 ∧ LR (rInt F0) v_script0 x_script0 ∧ LR (rInt F0) v_source0 x_source0 ∧ LR (rKT F0) v_gates0_rows0 x_gates0.rows ∧ KR id (rInt F0) v_gates0_known0 x_gates0.known ∧ LR (rKT F0) v_rows0 x_rows0 ∧ SqL K (ov F0 R) a_order0 v_order0 ∧ LR ((rT2 K rInt rStr) F0) v_order0 x_order0 ∧ KR Sum.inl (rInt F0) v_table0 x_table0 ∧ Sta F0 ([(a_source0, HO.lst v_source0), (a_gates0, HO.ins T.a_Gates dx_gates0 (fl_Gates (V.ref a_gates0_rows0) (V.ref a_gates0_known0))), (a_gates0_rows0, HO.lst v_gates0_rows0), (a_gates0_known0, HO.dT v_gates0_known0), (a_rows0, HO.lst v_rows0), (a_table0, HO.dK v_table0)] ++ R) H ∧ m_law_fault x_script0 x_source0 x_gates0 x_rows0 x_order0 x_side0 x_table0 = some r ∧ ∀ (F1 : Hp) (H1 : Hp) (v_source0p : List V) (a_gates0p_rows0 : Addr) (v_gates0p_rows0 : List V) (a_gates0p_known0 : Addr) (v_gates0p_known0 : List (List Key × V)) (v_rows0p : List V) (v_table0p : List (Key × V)), Same F0 F1 → Sta F1 ([(a_source0, HO.lst v_source0p), (a_gates0, HO.ins T.a_Gates dx_gates0 (fl_Gates (V.ref a_gates0p_rows0) (V.ref a_gates0p_known0))), (a_gates0p_rows0, HO.lst v_gates0p_rows0), (a_gates0p_known0, HO.dT v_gates0p_known0), (a_rows0, HO.lst v_rows0p), (a_table0, HO.dK v_table0p)] ++ R) H1 → LR (rInt F1) v_source0p r.1 → LR (rKT F1) v_gates0p_rows0 r.2.1.rows → KR id (rInt F1) v_gates0p_known0 r.2.1.known → LR (rKT F1) v_rows0p r.2.2.1 → KR Sum.inl (rInt F1) v_table0p r.2.2.2 → Q (V.non) H1

theorem ok_law_fault (T : Txt K mg) : FnOk P w K mg base CX0 4 T.a_law_fault T.d_law_fault ["script", "source", "gates", "rows", "order", "side", "table"] (sp_law_fault T) := by
  refine T.F_law_fault.ok sc_law_fault (fun vs H Q E h => ?_) (fun cdv A outer s H vs Q E hr h => ?_)
  · obtain ⟨_, _, _, _, _, _, _, _, _, _, _, _, _, _, _, _, _, _, _, _, _, _, _, _, _, _, rfl, _⟩ := h
    rfl
  · obtain ⟨F0, R, a_script0, v_script0, x_script0, a_source0, v_source0, x_source0, a_gates0, dx_gates0, x_gates0, a_gates0_rows0, v_gates0_rows0, a_gates0_known0, v_gates0_known0, a_rows0, v_rows0, x_rows0, a_order0, v_order0, x_order0, x_side0, a_table0, v_table0, x_table0, r, rfl, hs_script0, hl_script0, hl_source0, hl_gates0_rows0, hl_gates0_known0, hl_rows0, hs_order0, hl_order0, hl_table0, S0, hm, kk⟩ := h
    have hu := hu_of hr
    unfold m_law_fault at hm
    refine ⟨_, (pss_cons (ps_setLc (i := 7) (own := [("pair", 15)]) rfl sc_law_fault.nd rfl rfl (sw_true rfl rfl rfl (by decide +kernel)) (pi_list (pv 4)) (blkOk_by (own := [("pair", 15)]) (N := ["script", "source", "gates", "rows", "order", "side", "table", "own", "letter", "kind", "places", "behind", "wrong", "edge", "first", "pair", "k"]) (sc := defScope s_law_fault) (by decide +kernel)) (fun _ _ _ _ _ => (pg_name (i := 15) sc_law_fault.nd rfl (Or.inl rfl))) (fun _ _ _ _ _ => (pts_one (pt_cmpR oS_eq (pe_ix (ix_tupK K) (pv 15) pe_int (fun _ _ => rfl)) (pv 5) (nomark _)))) (fun _ _ _ _ _ => (pe_ix (ix_tupK K) (pv 15) pe_int (fun _ _ => rfl)))) (C8.pss_cut (ps_if (pt_cut (PW.pt (pw_and (pt_cmpR (op_neD hr.units) (pv 7) (pe_lst pa_nil) (nomark _)) (pw_and1 (pt_cmpR oI_eq (pe_call (ok_law_take T) (hr.mono (by decide)) rfl T.g_law_take T.F_law_take.kp T.b_law_take .nil pass0 (pa_cons (pv 0) (pa_cons (pv 1) (pa_cons pe_int pa_nil)))) pe_int (nomark _)))))) (pss_cons (ps_set (i := 8) sc_law_fault.nd rfl (Or.inr rfl) (pe_ix ix_list (pv 7) (pe_call (ok_law_take T) (hr.mono (by decide)) rfl T.g_law_take T.F_law_take.kp T.b_law_take .nil pass0 (pa_cons (pv 0) (pa_cons (pv 1) (pa_cons (pe_callB call_len_seq (by rfl) T.z_len PySem.boot_len (pa_cons (pv 7) pa_nil)) pa_nil)))) (fun _ _ => rfl))) (pss_cons (ps_set (i := 9) sc_law_fault.nd rfl (Or.inl rfl) (pe_call (ok_law_take T) (hr.mono (by decide)) rfl T.g_law_take T.F_law_take.kp T.b_law_take .nil pass0 (pa_cons (pv 0) (pa_cons (pv 1) (pa_cons pe_int pa_nil))))) (pss_cons (ps_setLc (i := 10) (own := [("k", 16)]) rfl sc_law_fault.nd rfl rfl (sw_true rfl rfl rfl (by decide +kernel)) (pi_range1 rfl T.z_range (pa_cons (pe_callB call_len_seq (by rfl) T.z_len PySem.boot_len (pa_cons (pv 4) pa_nil)) pa_nil)) (blkOk_by (own := [("k", 16)]) (N := ["script", "source", "gates", "rows", "order", "side", "table", "own", "letter", "kind", "places", "behind", "wrong", "edge", "first", "pair", "k"]) (sc := defScope s_law_fault) (by decide +kernel)) (fun _ _ _ _ _ => (pg_name (i := 16) sc_law_fault.nd rfl (Or.inl rfl))) (fun _ _ _ _ _ => (pts_one (pt_cmpR oI_eq (pe_ix (ix_tupK K) (pe_ix (ix_listK K) (pv 4) (pv 16) (fun _ _ => rfl)) pe_int (fun _ _ => rfl)) (pv 8) (nomark _)))) (fun _ _ _ _ _ => (pv 16))) (pss_cons (ps_setLc (i := 11) (own := [("pair", 15)]) rfl sc_law_fault.nd rfl rfl (sw_true rfl rfl rfl (by decide +kernel)) (pi_list (pe_slice sl_list (pv 4) (po_some (pe_op op_add (pe_ix ix_list (pv 10) pe_int (fun _ _ => rfl)) pe_int)) po_none)) (blkOk_by (own := [("pair", 15)]) (N := ["script", "source", "gates", "rows", "order", "side", "table", "own", "letter", "kind", "places", "behind", "wrong", "edge", "first", "pair", "k"]) (sc := defScope s_law_fault) (by decide +kernel)) (fun _ _ _ _ _ => (pg_name (i := 15) sc_law_fault.nd rfl (Or.inl rfl))) (fun _ _ _ _ _ => pts_nil) (fun _ _ _ _ _ => (pe_ix (ix_tupK K) (pv 15) pe_int (fun _ _ => rfl)))) (pss_cons (ps_set (i := 12) sc_law_fault.nd rfl (Or.inl rfl) (pv 8)) (C8.pss_cut (ps_if (pt_cmpR oI_eq (pv 9) pe_int (nomark _)) (pss_one (ps_set (i := 12) sc_law_fault.nd rfl (Or.inl rfl) (pe_ix ix_list (pv 7) (pe_call (ok_law_take T) (hr.mono (by decide)) rfl T.g_law_take T.F_law_take.kp T.b_law_take .nil pass0 (pa_cons (pv 0) (pa_cons (pv 1) (pa_cons (pe_callB call_len_seq (by rfl) T.z_len PySem.boot_len (pa_cons (pv 7) pa_nil)) pa_nil)))) (fun _ _ => rfl)))) pss_nil) (C8.pss_cut (ps_if (pt_cut (PW.pt (pw_and (pt_cmpR oI_eq (pv 9) pe_int (nomark _)) (pw_and1 (pt_cmpR (op_neD hr.units) (pv 11) (pe_lst pa_nil) (nomark _)))))) (pss_one (ps_set (i := 12) sc_law_fault.nd rfl (Or.inl rfl) (pe_ix ix_list (pv 11) (pe_call (ok_law_take T) (hr.mono (by decide)) rfl T.g_law_take T.F_law_take.kp T.b_law_take .nil pass0 (pa_cons (pv 0) (pa_cons (pv 1) (pa_cons (pe_callB call_len_seq (by rfl) T.z_len PySem.boot_len (pa_cons (pv 11) pa_nil)) pa_nil)))) (fun _ _ => rfl)))) pss_nil) (C8.pss_cut (ps_if (pt_cmpR oI_eq (pv 9) pe_int (nomark _)) (pss_one (ps_set (i := 12) sc_law_fault.nd rfl (Or.inl rfl) (pe_op op_add pe_int (pe_call (ok_law_take T) (hr.mono (by decide)) rfl T.g_law_take T.F_law_take.kp T.b_law_take .nil pass0 (pa_cons (pv 0) (pa_cons (pv 1) (pa_cons pe_int pa_nil))))))) pss_nil) (pss_one (ps_if (pt_cmpR oI_eq (pv 9) pe_int (nomark _)) (pss_one (ps_expr (pe_dpop1 (pv 6) (pv 8) ⟨rfl, rfl, rfl, rfl⟩))) (pss_cons (ps_set (i := 13) sc_law_fault.nd rfl (Or.inl rfl) (pe_call (ok_law_row T) (hr.mono (by decide)) rfl T.g_law_row T.F_law_row.kp T.b_law_row .nil pass0 (pa_cons (pv 3) (pa_cons (pe_tup (pa_cons pe_str (pa_cons (pv 12) pa_nil))) pa_nil)))) (pss_cons (ps_expr (pe_meth (pv 2) T.cl_Gates T.h_Gates_leaf (ok_Gates_leaf T) (hr.mono (by decide)) T.b_Gates_leaf .nil pass0 (pa_cons (pv 12) pa_nil))) (pss_cons (ps_set (i := 14) sc_law_fault.nd rfl (Or.inl rfl) (pe_call (ok_law_row T) (hr.mono (by decide)) rfl T.g_law_row T.F_law_row.kp T.b_law_row .nil pass0 (pa_cons (pv 3) (pa_cons (pe_tup (pa_cons pe_str (pa_cons pe_int pa_nil))) pa_nil)))) (pss_cons (ps_expr (pe_meth (pv 2) T.cl_Gates T.h_Gates_leaf (ok_Gates_leaf T) (hr.mono (by decide)) T.b_Gates_leaf .nil pass0 (pa_cons pe_int pa_nil))) (C8.pss_cut (ps_if (pt_cmpR oI_eq (pe_call (ok_law_take T) (hr.mono (by decide)) rfl T.g_law_take T.F_law_take.kp T.b_law_take .nil pass0 (pa_cons (pv 0) (pa_cons (pv 1) (pa_cons pe_int pa_nil)))) pe_int (nomark _)) (pss_one (ps_set (i := 13) sc_law_fault.nd rfl (Or.inl rfl) (pe_call (ok_law_both_of T) (hr.mono (by decide)) rfl T.g_law_both_of T.F_law_both_of.kp T.b_law_both_of .nil pass0 (pa_cons (pv 2) (pa_cons (pv 3) (pa_cons (pe_call (ok_law_opposite T) (hr.mono (by decide)) rfl T.g_law_opposite T.F_law_opposite.kp T.b_law_opposite .nil pass0 (pa_cons (pv 13) pa_nil)) (pa_cons (pv 14) pa_nil))))))) pss_nil) (pss_one (ps_dput hu (pv 6) (pv 8) (pv 13) rfl))))))))))))))))) pss_nil) (pss_one (ps_if (pt_cmpR oI_eq (pe_call (ok_law_take T) (hr.mono (by decide)) rfl T.g_law_take T.F_law_take.kp T.b_law_take .nil pass0 (pa_cons (pv 0) (pa_cons (pv 1) (pa_cons pe_int pa_nil)))) pe_int (nomark _)) (pss_cons (ps_dput hu (pv 6) (pe_op op_sub pe_int (pe_call (ok_law_take T) (hr.mono (by decide)) rfl T.g_law_take T.F_law_take.kp T.b_law_take .nil pass0 (pa_cons (pv 0) (pa_cons (pv 1) (pa_cons pe_int pa_nil))))) pe_int rfl) (pss_one (ps_if (pt_cmpR (op_neD hr.units) (pv 4) (pe_lst pa_nil) (nomark _)) (pss_one (ps_dput hu (pv 6) (pe_ix ix_tup (pe_ix ix_list (pv 4) (pe_call (ok_law_take T) (hr.mono (by decide)) rfl T.g_law_take T.F_law_take.kp T.b_law_take .nil pass0 (pa_cons (pv 0) (pa_cons (pv 1) (pa_cons (pe_callB call_len_seq (by rfl) T.z_len PySem.boot_len (pa_cons (pv 4) pa_nil)) pa_nil)))) (fun _ _ => rfl)) pe_int (fun _ _ => rfl)) pe_int rfl)) pss_nil))) pss_nil)))), ?_⟩
    refine seqI fun N1 hN2 => ?_
    revert hm; refine grdI fun g17 hm => ?_
    have e3 : lcO (fun x7 => if (decide (x7.2 = x_side0)) = true then (some (some x7.1)) else some none) x_order0 = some ((x_order0.filter fun x7 => (decide (x7.2 = x_side0))).map fun x7 => x7.1) := lc_filter (fun x7 => (decide (x7.2 = x_side0))) (fun x7 => x7.1) x_order0
    refine ⟨_, rfl, _, rfl, ⟨_, (SqL.mono hs_order0 (S0.bor (Same.refl _) (fun _ q => (List.mem_append_right _ q))))⟩, fun a15 np16 => lc_list (K := K) (a := a_order0) (xs := v_order0) (fun i H2 => ∃ (F8 : Hp) (v9 : List V) (acc10 : List Int) (r4 : List Int), Same F0 F8 ∧ Sta F8 ([(a15, HO.lst v9), (a_source0, HO.lst v_source0), (a_gates0, HO.ins T.a_Gates dx_gates0 (fl_Gates (V.ref a_gates0_rows0) (V.ref a_gates0_known0))), (a_gates0_rows0, HO.lst v_gates0_rows0), (a_gates0_known0, HO.dT v_gates0_known0), (a_rows0, HO.lst v_rows0), (a_table0, HO.dK v_table0)] ++ R) H2 ∧ LR (rInt F8) v9 acc10 ∧ acc10.length ≤ i ∧ lcO (fun x7 => if (decide (x7.2 = x_side0)) = true then (some (some x7.1)) else some none) (List.drop i x_order0) = some r4 ∧ ((x_order0.filter fun x7 => (decide (x7.2 = x_side0))).map fun x7 => x7.1) = acc10 ++ r4) ⟨F0, [], [], _, Same.refl _, S0.new np16 _, trivial, Nat.le_refl _, e3, rfl⟩ (by rintro i H2 _ ⟨F8, v9, acc10, r4, s11, S12, hl13, hn14, hr5, hy6⟩; exact (SqL.mono hs_order0 (S12.bor s11 (fun _ q => (List.mem_append_right _ q))))) ?_ ?_⟩
    · rintro i v18 H2 hi ⟨F8, v9, acc10, r4, s11, S12, hl13, hn14, hr5, hy6⟩
      obtain ⟨x7, hx19, rx20⟩ := LR.getV hl_order0 hi
      rw [drop_cons hx19] at hr5
      revert hr5; refine lcI fun y21 r22 hm hr24 hc25 => ?_
      obtain ⟨a26, u28, u29, rfl, hs27, p30, p31⟩ := rx20
      obtain rfl := rInt_e p30
      obtain rfl := rStr_e p31
      refine ⟨rfl, ?_⟩
      refine ⟨_, rfl, _, _, _, _, rfl, rfl, (SqT.mono hs27 (s11.trans S12.sub)), rfl, _, rfl, _, _, rfl, rfl, _, rfl, ?_⟩
      by_cases c32 : (decide (x7.2 = x_side0)) = true
      · revert hm; refine ifTI c32 fun hm => ?_
        refine goT c32 ?_
        refine ⟨_, rfl, _, _, _, _, rfl, rfl, (SqT.mono hs27 (s11.trans S12.sub)), rfl, ?_⟩
        obtain rfl := Option.some.inj hm
        have hlt : v9.length < 16777216 := by rw [LR.length hl13]; have := (List.getElem?_eq_some_iff.mp hx19).1; have := of_decide_eq_true g17; omega
        have S33 : Sta F8 ([(a15, HO.lst (v9 ++ [V.int x7.1])), (a_source0, HO.lst v_source0), (a_gates0, HO.ins T.a_Gates dx_gates0 (fl_Gates (V.ref a_gates0_rows0) (V.ref a_gates0_known0))), (a_gates0_rows0, HO.lst v_gates0_rows0), (a_gates0_known0, HO.dT v_gates0_known0), (a_rows0, HO.lst v_rows0), (a_table0, HO.dK v_table0)] ++ R) _ := S12.set 0 rfl _
        exact ⟨_, (S12.get 0 rfl), hlt, F8, _, (acc10 ++ [x7.1]), r22, s11, S33, LR.snoc hl13 rfl, by rw [List.length_append]; exact Nat.succ_le_succ hn14, hr24, by rw [List.append_assoc]; exact hy6.trans (congrArg (acc10 ++ ·) hc25)⟩
      · revert hm; refine ifFI c32 fun hm => ?_
        refine goF c32 ?_
        obtain rfl := Option.some.inj hm
        exact ⟨F8, _, acc10, r22, s11, S12, hl13, Nat.le_succ_of_le hn14, hr24, hy6.trans (congrArg (acc10 ++ ·) hc25)⟩
    rintro H2 ⟨F8, v9, acc10, r4, s11, S12, hl13, hn14, hr5, hy6⟩
    rw [LR.dropEnd hl_order0] at hr5
    obtain rfl := Option.some.inj hr5
    rw [List.append_nil] at hy6
    subst hy6
    have S34 : Sta F8 ([(a15, HO.lst v9), (a_source0, HO.lst v_source0), (a_gates0, HO.ins T.a_Gates dx_gates0 (fl_Gates (V.ref a_gates0_rows0) (V.ref a_gates0_known0))), (a_gates0_rows0, HO.lst v_gates0_rows0), (a_gates0_known0, HO.dT v_gates0_known0), (a_rows0, HO.lst v_rows0), (a_table0, HO.dK v_table0)] ++ R) _ := S12
    refine hN2 _ _ ?_
    revert hm; refine bndI fun y59 e60 hm => ?_
    refine ⟨fun σ H2 => ∃ (F35 : Hp) (v47 : List V) (a49 : Addr) (v50 : List V) (a52 : Addr) (v53 : List (List Key × V)) (v55 : List V) (v57 : List (Key × V)) (o38 : Option V) (o39 : Option V) (o40 : Option V) (o41 : Option V) (o42 : Option V) (o43 : Option V) (o44 : Option V) (o45 : Option V) (o46 : Option V), σ = [some (V.ref a_script0), some (V.ref a_source0), some (V.ref a_gates0), some (V.ref a_rows0), some (V.ref a_order0), some (V.str x_side0), some (V.ref a_table0), some (V.ref a15), o38, o39, o40, o41, o42, o43, o44, o45, o46] ∧ Same F8 F35 ∧ Sta F35 ([(a15, HO.lst v9), (a_source0, HO.lst v47), (a_gates0, HO.ins T.a_Gates dx_gates0 (fl_Gates (V.ref a49) (V.ref a52))), (a49, HO.lst v50), (a52, HO.dT v53), (a_rows0, HO.lst v55), (a_table0, HO.dK v57)] ++ R) H2 ∧ LR (rInt F35) v47 y59.1 ∧ LR (rKT F35) v50 y59.2.1.rows ∧ KR id (rInt F35) v53 y59.2.1.known ∧ LR (rKT F35) v55 y59.2.2.1 ∧ KR Sum.inl (rInt F35) v57 y59.2.2.2, ?_, ?_⟩
    · clear hm; have hm := e60; clear e60
      revert hm; refine bndI fun b61 e62 hm => ?_
      refine ⟨fun b H' => ∃ (F63 : Hp) (v66 : List V), Same F8 F63 ∧ Sta F63 ([(a15, HO.lst v9), (a_source0, HO.lst v66), (a_gates0, HO.ins T.a_Gates dx_gates0 (fl_Gates (V.ref a_gates0_rows0) (V.ref a_gates0_known0))), (a_gates0_rows0, HO.lst v_gates0_rows0), (a_gates0_known0, HO.dT v_gates0_known0), (a_rows0, HO.lst v_rows0), (a_table0, HO.dK v_table0)] ++ R) H' ∧ LR (rInt F63) v66 b61.2 ∧ b61.1 = b, ?_, ?_⟩
      · clear hm
        have hm := e62
        clear e62
        refine ⟨_, rfl, (by show 0 ≤ sizeLine; decide), ?_⟩
        intro a68 np69
        have hl70 : LR (rInt F8) [] ([] : (List Int)) := trivial
        have S71 : Sta F8 ([(a68, HO.lst []), (a15, HO.lst v9), (a_source0, HO.lst v_source0), (a_gates0, HO.ins T.a_Gates dx_gates0 (fl_Gates (V.ref a_gates0_rows0) (V.ref a_gates0_known0))), (a_gates0_rows0, HO.lst v_gates0_rows0), (a_gates0_known0, HO.dT v_gates0_known0), (a_rows0, HO.lst v_rows0), (a_table0, HO.dK v_table0)] ++ R) _ := S34.new np69 _
        refine ⟨_, _, (dat_dp (K := K) (r := (rLst K rInt)) ⟨_, _, rfl, (SqL.of (S71.get 1 rfl)), LR.mono hl13 S71.sub⟩), (dat_dp (K := K) (r := (rLst K rInt)) ⟨_, _, rfl, (SqL.of (S71.get 0 rfl)), LR.mono hl70 S71.sub⟩), (dat_shaped (K := K) (r := (rLst K rInt)) (Nat.le_of_ble_eq_true rfl) _ (DPl.pl _)), (dat_shaped (K := K) (r := (rLst K rInt)) (Nat.le_of_ble_eq_true rfl) _ (DPl.pl _)), ?_⟩
        clear S34
        rw [dat_eqv (K := K) (r := (rLst K rInt)) ((x_order0.filter fun x7 => (decide (x7.2 = x_side0))).map fun x7 => x7.1) ([] : (List Int))]
        refine ⟨_, rfl, ?_⟩
        by_cases c72 : (!decide (((x_order0.filter fun x7 => (decide (x7.2 = x_side0))).map fun x7 => x7.1) = ([] : (List Int)))) = true
        · revert hm; refine ifTI c72 fun hm => ?_
          refine goT c72 ?_
          have S73 : Sta F8 ([(a_source0, HO.lst v_source0), (a68, HO.lst []), (a15, HO.lst v9), (a_gates0, HO.ins T.a_Gates dx_gates0 (fl_Gates (V.ref a_gates0_rows0) (V.ref a_gates0_known0))), (a_gates0_rows0, HO.lst v_gates0_rows0), (a_gates0_known0, HO.dT v_gates0_known0), (a_rows0, HO.lst v_rows0), (a_table0, HO.dK v_table0)] ++ R) _ := S71.pick [2, 0, 1, 3, 4, 5, 6, 7] (by decide) rfl
          revert hm; refine bndI fun y74 e75 hm => ?_
          refine ⟨_, rfl, _, rfl, F8, ([(a68, HO.lst []), (a15, HO.lst v9), (a_gates0, HO.ins T.a_Gates dx_gates0 (fl_Gates (V.ref a_gates0_rows0) (V.ref a_gates0_known0))), (a_gates0_rows0, HO.lst v_gates0_rows0), (a_gates0_known0, HO.dT v_gates0_known0), (a_rows0, HO.lst v_rows0), (a_table0, HO.dK v_table0)] ++ R), a_script0, v_script0, x_script0, a_source0, v_source0, x_source0, (2 : Int), y74, rfl, (SqL.mono hs_script0 s11), ((hl_script0.mono s11)), (hl_source0.mono s11), S73, (by exact e75), fun F76 H77 v80 s78 S79 hl81 => ?_⟩
          clear S71
          have S82 : Sta F76 ([(a_source0, HO.lst v80), (a68, HO.lst []), (a15, HO.lst v9), (a_gates0, HO.ins T.a_Gates dx_gates0 (fl_Gates (V.ref a_gates0_rows0) (V.ref a_gates0_known0))), (a_gates0_rows0, HO.lst v_gates0_rows0), (a_gates0_known0, HO.dT v_gates0_known0), (a_rows0, HO.lst v_rows0), (a_table0, HO.dK v_table0)] ++ R) _ := S79
          refine ⟨_, _, rfl, rfl, _, rfl, ?_⟩
          clear S79
          obtain rfl := Option.some.inj hm
          have S83 : Sta F76 ([(a15, HO.lst v9), (a_source0, HO.lst v80), (a_gates0, HO.ins T.a_Gates dx_gates0 (fl_Gates (V.ref a_gates0_rows0) (V.ref a_gates0_known0))), (a_gates0_rows0, HO.lst v_gates0_rows0), (a_gates0_known0, HO.dT v_gates0_known0), (a_rows0, HO.lst v_rows0), (a_table0, HO.dK v_table0)] ++ R) _ := S82.pick [2, 0, 3, 4, 5, 6, 7] (by decide) rfl
          exact ⟨F76, v80, s78, S83, hl81, rfl⟩
        · revert hm; refine ifFI c72 fun hm => ?_
          obtain rfl := Option.some.inj hm
          have S84 : Sta F8 ([(a15, HO.lst v9), (a_source0, HO.lst v_source0), (a_gates0, HO.ins T.a_Gates dx_gates0 (fl_Gates (V.ref a_gates0_rows0) (V.ref a_gates0_known0))), (a_gates0_rows0, HO.lst v_gates0_rows0), (a_gates0_known0, HO.dT v_gates0_known0), (a_rows0, HO.lst v_rows0), (a_table0, HO.dK v_table0)] ++ R) _ := S71.pick [1, 2, 3, 4, 5, 6, 7] (by decide) rfl
          exact goF c72 ⟨F8, v_source0, (Same.refl _), S84, (hl_source0.mono s11), rfl⟩
      rintro b85 H86 ⟨F63, v66, s64, S65, hl67, rfl⟩
      by_cases c87 : b61.1 = true
      · revert hm; refine ifTI c87 fun hm => ?_
        refine goT c87 ?_
        refine seqI fun N88 hN89 => ?_
        refine ⟨_, rfl, _, rfl, _, rfl, _, rfl, _, _, rfl, .inl (SqL.of (S65.get 0 rfl)), ?_⟩
        rw [LR.length (hl13.mono s64)]
        have S90 : Sta F63 ([(a_source0, HO.lst v66), (a15, HO.lst v9), (a_gates0, HO.ins T.a_Gates dx_gates0 (fl_Gates (V.ref a_gates0_rows0) (V.ref a_gates0_known0))), (a_gates0_rows0, HO.lst v_gates0_rows0), (a_gates0_known0, HO.dT v_gates0_known0), (a_rows0, HO.lst v_rows0), (a_table0, HO.dK v_table0)] ++ R) _ := S65.pick [1, 0, 2, 3, 4, 5, 6] (by decide) rfl
        revert hm; refine bndI fun y91 e92 hm => ?_
        refine ⟨F63, ([(a15, HO.lst v9), (a_gates0, HO.ins T.a_Gates dx_gates0 (fl_Gates (V.ref a_gates0_rows0) (V.ref a_gates0_known0))), (a_gates0_rows0, HO.lst v_gates0_rows0), (a_gates0_known0, HO.dT v_gates0_known0), (a_rows0, HO.lst v_rows0), (a_table0, HO.dK v_table0)] ++ R), a_script0, v_script0, x_script0, a_source0, v66, b61.2, (((x_order0.filter fun x7 => (decide (x7.2 = x_side0))).map fun x7 => x7.1).length : Int), y91, rfl, (SqL.mono hs_script0 (s11.trans s64)), ((hl_script0.mono (s11.trans s64))), hl67, S90, (by exact e92), fun F93 H94 v97 s95 S96 hl98 => ?_⟩
        clear S65
        have S99 : Sta F93 ([(a_source0, HO.lst v97), (a15, HO.lst v9), (a_gates0, HO.ins T.a_Gates dx_gates0 (fl_Gates (V.ref a_gates0_rows0) (V.ref a_gates0_known0))), (a_gates0_rows0, HO.lst v_gates0_rows0), (a_gates0_known0, HO.dT v_gates0_known0), (a_rows0, HO.lst v_rows0), (a_table0, HO.dK v_table0)] ++ R) _ := S96
        revert hm; refine bndI fun y100 e101 hm => ?_
        obtain ⟨v102, ev103, rv104⟩ := LR.atI hl13 e101
        obtain rfl := rInt_e rv104
        refine ⟨_, _, _, _, rfl, rfl, (SqL.of (S99.get 1 rfl)), ev103, ?_⟩
        clear S96
        refine hN89 _ _ ?_
        refine seqI fun N105 hN106 => ?_
        revert hm; refine bndI fun y107 e108 hm => ?_
        refine ⟨_, rfl, _, rfl, F93, ([(a15, HO.lst v9), (a_gates0, HO.ins T.a_Gates dx_gates0 (fl_Gates (V.ref a_gates0_rows0) (V.ref a_gates0_known0))), (a_gates0_rows0, HO.lst v_gates0_rows0), (a_gates0_known0, HO.dT v_gates0_known0), (a_rows0, HO.lst v_rows0), (a_table0, HO.dK v_table0)] ++ R), a_script0, v_script0, x_script0, a_source0, v97, y91.2, (5 : Int), y107, rfl, (SqL.mono hs_script0 (s11.trans (s64.trans s95))), ((hl_script0.mono (s11.trans (s64.trans s95)))), hl98, S99, (by exact e108), fun F109 H110 v113 s111 S112 hl114 => ?_⟩
        have S115 : Sta F109 ([(a_source0, HO.lst v113), (a15, HO.lst v9), (a_gates0, HO.ins T.a_Gates dx_gates0 (fl_Gates (V.ref a_gates0_rows0) (V.ref a_gates0_known0))), (a_gates0_rows0, HO.lst v_gates0_rows0), (a_gates0_known0, HO.dT v_gates0_known0), (a_rows0, HO.lst v_rows0), (a_table0, HO.dK v_table0)] ++ R) _ := S112
        refine hN106 _ _ ?_
        refine seqI fun N116 hN117 => ?_
        refine ⟨_, rfl, _, _, rfl, .inl (SqL.mono hs_order0 (S115.bor (s11.trans (s64.trans (s95.trans s111))) (fun _ q => (List.mem_append_right _ q)))), ?_⟩
        clear S112
        rw [LR.length (hl_order0.mono (s11.trans (s64.trans (s95.trans s111))))]
        revert hm; refine grdI fun g118 hm => ?_
        revert hm; refine grdI fun g133 hm => ?_
        revert hm; refine bndI fun y155 e119 hm => ?_
        refine ⟨_, rfl, (rngOk_lo g118), (rngOk_hi g118), fun a131 np132 => lc_rng (lo := 0) (n := (x_order0.length : Int).toNat) (fun i H2 => ∃ (F124 : Hp) (v125 : List V) (acc126 : List Int) (r120 : List Int), Same F109 F124 ∧ Sta F124 ([(a131, HO.lst v125), (a_source0, HO.lst v113), (a15, HO.lst v9), (a_gates0, HO.ins T.a_Gates dx_gates0 (fl_Gates (V.ref a_gates0_rows0) (V.ref a_gates0_known0))), (a_gates0_rows0, HO.lst v_gates0_rows0), (a_gates0_known0, HO.dT v_gates0_known0), (a_rows0, HO.lst v_rows0), (a_table0, HO.dK v_table0)] ++ R) H2 ∧ LR (rInt F124) v125 acc126 ∧ acc126.length ≤ i ∧ lcO (fun x123 => (atI x_order0 x123).bind fun y142 =>
      if (decide (y142.1 = y100)) = true then (some (some x123)) else some none) (List.drop i (pyRange 0 (x_order0.length : Int).toNat)) = some r120 ∧ y155 = acc126 ++ r120) ⟨F109, [], [], _, Same.refl _, S115.new np132 _, trivial, Nat.le_refl _, e119, rfl⟩ ?_ ?_⟩
        · rintro i x123 H2 hi ⟨F124, v125, acc126, r120, s127, S128, hl129, hn130, hr121, hy122⟩
          have hx135 := hi
          rw [drop_cons hx135] at hr121
          revert hr121; refine lcI fun y137 r138 hm hr140 hc141 => ?_
          refine ⟨rfl, ?_⟩
          revert hm; refine bndI fun y142 e143 hm => ?_
          obtain ⟨v144, ev145, rv146⟩ := LR.atI hl_order0 e143
          obtain ⟨a147, u149, u150, rfl, hs148, p151, p152⟩ := rv146
          obtain rfl := rInt_e p151
          obtain rfl := rStr_e p152
          refine ⟨_, rfl, _, rfl, _, _, _, _, rfl, rfl, (SqL.mono hs_order0 (S128.bor (s11.trans (s64.trans (s95.trans (s111.trans s127)))) (fun _ q => (List.mem_append_right _ q)))), ev145, _, _, _, _, rfl, rfl, (SqT.mono hs148 ((s11.trans (s64.trans (s95.trans (s111.trans s127)))).trans S128.sub)), rfl, _, rfl, _, _, rfl, rfl, _, rfl, ?_⟩
          by_cases c153 : (decide (y142.1 = y100)) = true
          · revert hm; refine ifTI c153 fun hm => ?_
            refine goT c153 ?_
            refine ⟨_, rfl, ?_⟩
            obtain rfl := Option.some.inj hm
            have hlt : v125.length < 16777216 := by rw [LR.length hl129]; have := (List.getElem?_eq_some_iff.mp hx135).1; have := of_decide_eq_true g133; omega
            have S154 : Sta F124 ([(a131, HO.lst (v125 ++ [V.int x123])), (a_source0, HO.lst v113), (a15, HO.lst v9), (a_gates0, HO.ins T.a_Gates dx_gates0 (fl_Gates (V.ref a_gates0_rows0) (V.ref a_gates0_known0))), (a_gates0_rows0, HO.lst v_gates0_rows0), (a_gates0_known0, HO.dT v_gates0_known0), (a_rows0, HO.lst v_rows0), (a_table0, HO.dK v_table0)] ++ R) _ := S128.set 0 rfl _
            exact ⟨_, (S128.get 0 rfl), hlt, F124, _, (acc126 ++ [x123]), r138, s127, S154, LR.snoc hl129 rfl, by rw [List.length_append]; exact Nat.succ_le_succ hn130, hr140, by rw [List.append_assoc]; exact hy122.trans (congrArg (acc126 ++ ·) hc141)⟩
          · revert hm; refine ifFI c153 fun hm => ?_
            refine goF c153 ?_
            obtain rfl := Option.some.inj hm
            exact ⟨F124, _, acc126, r138, s127, S128, hl129, Nat.le_succ_of_le hn130, hr140, hy122.trans (congrArg (acc126 ++ ·) hc141)⟩
        rintro H2 ⟨F124, v125, acc126, r120, s127, S128, hl129, hn130, hr121, hy122⟩
        rw [drop_rng] at hr121
        obtain rfl := Option.some.inj hr121
        rw [List.append_nil] at hy122
        subst hy122
        have S156 : Sta F124 ([(a131, HO.lst v125), (a_source0, HO.lst v113), (a15, HO.lst v9), (a_gates0, HO.ins T.a_Gates dx_gates0 (fl_Gates (V.ref a_gates0_rows0) (V.ref a_gates0_known0))), (a_gates0_rows0, HO.lst v_gates0_rows0), (a_gates0_known0, HO.dT v_gates0_known0), (a_rows0, HO.lst v_rows0), (a_table0, HO.dK v_table0)] ++ R) _ := S128
        refine hN117 _ _ ?_
        refine seqI fun N157 hN158 => ?_
        revert hm; refine bndI fun y159 e160 hm => ?_
        obtain ⟨v161, ev162, rv163⟩ := LR.atI hl129 e160
        obtain rfl := rInt_e rv163
        refine ⟨_, rfl, _, rfl, _, _, _, _, rfl, rfl, (SqL.of (S156.get 0 rfl)), ev162, _, _, rfl, rfl, _, rfl, _, _, rfl, (SqL.mono hs_order0 (S156.bor (s11.trans (s64.trans (s95.trans (s111.trans s127)))) (fun _ q => (List.mem_append_right _ q)))), ?_⟩
        clear S128
        intro a164 np165
        have hl166 : LR ((rT2 K rInt rStr) F124) (cutV v_order0 (some (y159 + (1 : Int))) none) (cutL x_order0 (some (y159 + (1 : Int))) none) := LR.cut (hl_order0.mono (s11.trans (s64.trans (s95.trans (s111.trans s127))))) _ _
        have S167 : Sta F124 ([(a164, HO.lst (cutV v_order0 (some (y159 + (1 : Int))) none)), (a131, HO.lst v125), (a_source0, HO.lst v113), (a15, HO.lst v9), (a_gates0, HO.ins T.a_Gates dx_gates0 (fl_Gates (V.ref a_gates0_rows0) (V.ref a_gates0_known0))), (a_gates0_rows0, HO.lst v_gates0_rows0), (a_gates0_known0, HO.dT v_gates0_known0), (a_rows0, HO.lst v_rows0), (a_table0, HO.dK v_table0)] ++ R) _ := S156.new np165 _
        revert hm; refine grdI fun g182 hm => ?_
        have e168 : lcO (fun x172 => some (some x172.1)) (cutL x_order0 (some (y159 + (1 : Int))) none) = some ((cutL x_order0 (some (y159 + (1 : Int))) none).map fun x172 => x172.1) := lc_map (fun x172 => x172.1) (cutL x_order0 (some (y159 + (1 : Int))) none)
        refine ⟨_, rfl, ⟨_, (SqL.of (S167.get 0 rfl))⟩, fun a180 np181 => lc_list (K := K) (a := a164) (xs := (cutV v_order0 (some (y159 + (1 : Int))) none)) (fun i H2 => ∃ (F173 : Hp) (v174 : List V) (acc175 : List Int) (r169 : List Int), Same F124 F173 ∧ Sta F173 ([(a180, HO.lst v174), (a164, HO.lst (cutV v_order0 (some (y159 + (1 : Int))) none)), (a131, HO.lst v125), (a_source0, HO.lst v113), (a15, HO.lst v9), (a_gates0, HO.ins T.a_Gates dx_gates0 (fl_Gates (V.ref a_gates0_rows0) (V.ref a_gates0_known0))), (a_gates0_rows0, HO.lst v_gates0_rows0), (a_gates0_known0, HO.dT v_gates0_known0), (a_rows0, HO.lst v_rows0), (a_table0, HO.dK v_table0)] ++ R) H2 ∧ LR (rInt F173) v174 acc175 ∧ acc175.length ≤ i ∧ lcO (fun x172 => some (some x172.1)) (List.drop i (cutL x_order0 (some (y159 + (1 : Int))) none)) = some r169 ∧ ((cutL x_order0 (some (y159 + (1 : Int))) none).map fun x172 => x172.1) = acc175 ++ r169) ⟨F124, [], [], _, Same.refl _, S167.new np181 _, trivial, Nat.le_refl _, e168, rfl⟩ (by rintro i H2 _ ⟨F173, v174, acc175, r169, s176, S177, hl178, hn179, hr170, hy171⟩; exact (SqL.of (S177.get 1 rfl))) ?_ ?_⟩
        clear S156
        · rintro i v183 H2 hi ⟨F173, v174, acc175, r169, s176, S177, hl178, hn179, hr170, hy171⟩
          obtain ⟨x172, hx184, rx185⟩ := LR.getV hl166 hi
          rw [drop_cons hx184] at hr170
          revert hr170; refine lcI fun y186 r187 hm hr189 hc190 => ?_
          obtain ⟨a191, u193, u194, rfl, hs192, p195, p196⟩ := rx185
          obtain rfl := rInt_e p195
          obtain rfl := rStr_e p196
          refine ⟨rfl, ?_⟩
          refine tYesI ?_
          rw [if_pos rfl]
          refine ⟨_, rfl, _, _, _, _, rfl, rfl, (SqT.mono hs192 (s176.trans S177.sub)), rfl, ?_⟩
          obtain rfl := Option.some.inj hm
          have hlt : v174.length < 16777216 := by rw [LR.length hl178]; have := (List.getElem?_eq_some_iff.mp hx184).1; have := of_decide_eq_true g182; omega
          have S197 : Sta F173 ([(a180, HO.lst (v174 ++ [V.int x172.1])), (a164, HO.lst (cutV v_order0 (some (y159 + (1 : Int))) none)), (a131, HO.lst v125), (a_source0, HO.lst v113), (a15, HO.lst v9), (a_gates0, HO.ins T.a_Gates dx_gates0 (fl_Gates (V.ref a_gates0_rows0) (V.ref a_gates0_known0))), (a_gates0_rows0, HO.lst v_gates0_rows0), (a_gates0_known0, HO.dT v_gates0_known0), (a_rows0, HO.lst v_rows0), (a_table0, HO.dK v_table0)] ++ R) _ := S177.set 0 rfl _
          exact ⟨_, (S177.get 0 rfl), hlt, F173, _, (acc175 ++ [x172.1]), r187, s176, S197, LR.snoc hl178 rfl, by rw [List.length_append]; exact Nat.succ_le_succ hn179, hr189, by rw [List.append_assoc]; exact hy171.trans (congrArg (acc175 ++ ·) hc190)⟩
        rintro H2 ⟨F173, v174, acc175, r169, s176, S177, hl178, hn179, hr170, hy171⟩
        rw [LR.dropEnd hl166] at hr170
        obtain rfl := Option.some.inj hr170
        rw [List.append_nil] at hy171
        subst hy171
        have S198 : Sta F173 ([(a180, HO.lst v174), (a164, HO.lst (cutV v_order0 (some (y159 + (1 : Int))) none)), (a131, HO.lst v125), (a_source0, HO.lst v113), (a15, HO.lst v9), (a_gates0, HO.ins T.a_Gates dx_gates0 (fl_Gates (V.ref a_gates0_rows0) (V.ref a_gates0_known0))), (a_gates0_rows0, HO.lst v_gates0_rows0), (a_gates0_known0, HO.dT v_gates0_known0), (a_rows0, HO.lst v_rows0), (a_table0, HO.dK v_table0)] ++ R) _ := S177
        refine hN158 _ _ ?_
        refine seqI fun N199 hN200 => ?_
        refine ⟨_, rfl, ?_⟩
        clear S177
        refine hN200 _ _ ?_
        revert hm; refine bndI fun y206 e207 hm => ?_
        refine ⟨fun σ H2 => ∃ (F201 : Hp) (v204 : List V), σ = [some (V.ref a_script0), some (V.ref a_source0), some (V.ref a_gates0), some (V.ref a_rows0), some (V.ref a_order0), some (V.str x_side0), some (V.ref a_table0), some (V.ref a15), some (V.int y100), some (V.int y107.1), some (V.ref a131), some (V.ref a180), some (V.int y206.1), none, none, none, none] ∧ Same F173 F201 ∧ Sta F201 ([(a180, HO.lst v174), (a164, HO.lst (cutV v_order0 (some (y159 + (1 : Int))) none)), (a131, HO.lst v125), (a_source0, HO.lst v204), (a15, HO.lst v9), (a_gates0, HO.ins T.a_Gates dx_gates0 (fl_Gates (V.ref a_gates0_rows0) (V.ref a_gates0_known0))), (a_gates0_rows0, HO.lst v_gates0_rows0), (a_gates0_known0, HO.dT v_gates0_known0), (a_rows0, HO.lst v_rows0), (a_table0, HO.dK v_table0)] ++ R) H2 ∧ LR (rInt F201) v204 y206.2, ?_, ?_⟩
        · clear hm; have hm := e207; clear e207
          refine ⟨_, rfl, _, _, rfl, rfl, _, rfl, ?_⟩
          by_cases c208 : (decide (y107.1 = (1 : Int))) = true
          · revert hm; refine ifTI c208 fun hm => ?_
            refine goT c208 ?_
            refine ⟨_, rfl, _, rfl, _, rfl, _, rfl, _, _, rfl, .inl (SqL.of (S198.get 4 rfl)), ?_⟩
            rw [LR.length (hl13.mono (s64.trans (s95.trans (s111.trans (s127.trans s176)))))]
            have S209 : Sta F173 ([(a_source0, HO.lst v113), (a180, HO.lst v174), (a164, HO.lst (cutV v_order0 (some (y159 + (1 : Int))) none)), (a131, HO.lst v125), (a15, HO.lst v9), (a_gates0, HO.ins T.a_Gates dx_gates0 (fl_Gates (V.ref a_gates0_rows0) (V.ref a_gates0_known0))), (a_gates0_rows0, HO.lst v_gates0_rows0), (a_gates0_known0, HO.dT v_gates0_known0), (a_rows0, HO.lst v_rows0), (a_table0, HO.dK v_table0)] ++ R) _ := S198.pick [3, 0, 1, 2, 4, 5, 6, 7, 8, 9] (by decide) rfl
            revert hm; refine bndI fun y210 e211 hm => ?_
            refine ⟨F173, ([(a180, HO.lst v174), (a164, HO.lst (cutV v_order0 (some (y159 + (1 : Int))) none)), (a131, HO.lst v125), (a15, HO.lst v9), (a_gates0, HO.ins T.a_Gates dx_gates0 (fl_Gates (V.ref a_gates0_rows0) (V.ref a_gates0_known0))), (a_gates0_rows0, HO.lst v_gates0_rows0), (a_gates0_known0, HO.dT v_gates0_known0), (a_rows0, HO.lst v_rows0), (a_table0, HO.dK v_table0)] ++ R), a_script0, v_script0, x_script0, a_source0, v113, y107.2, (((x_order0.filter fun x7 => (decide (x7.2 = x_side0))).map fun x7 => x7.1).length : Int), y210, rfl, (SqL.mono hs_script0 (s11.trans (s64.trans (s95.trans (s111.trans (s127.trans s176)))))), ((hl_script0.mono (s11.trans (s64.trans (s95.trans (s111.trans (s127.trans s176))))))), (hl114.mono (s127.trans s176)), S209, (by exact e211), fun F212 H213 v216 s214 S215 hl217 => ?_⟩
            clear S198
            have S218 : Sta F212 ([(a_source0, HO.lst v216), (a180, HO.lst v174), (a164, HO.lst (cutV v_order0 (some (y159 + (1 : Int))) none)), (a131, HO.lst v125), (a15, HO.lst v9), (a_gates0, HO.ins T.a_Gates dx_gates0 (fl_Gates (V.ref a_gates0_rows0) (V.ref a_gates0_known0))), (a_gates0_rows0, HO.lst v_gates0_rows0), (a_gates0_known0, HO.dT v_gates0_known0), (a_rows0, HO.lst v_rows0), (a_table0, HO.dK v_table0)] ++ R) _ := S215
            revert hm; refine bndI fun y219 e220 hm => ?_
            obtain ⟨v221, ev222, rv223⟩ := LR.atI hl13 e220
            obtain rfl := rInt_e rv223
            refine ⟨_, _, _, _, rfl, rfl, (SqL.of (S218.get 4 rfl)), ev222, ?_⟩
            clear S215
            obtain rfl := Option.some.inj hm
            have S224 : Sta F212 ([(a180, HO.lst v174), (a164, HO.lst (cutV v_order0 (some (y159 + (1 : Int))) none)), (a131, HO.lst v125), (a_source0, HO.lst v216), (a15, HO.lst v9), (a_gates0, HO.ins T.a_Gates dx_gates0 (fl_Gates (V.ref a_gates0_rows0) (V.ref a_gates0_known0))), (a_gates0_rows0, HO.lst v_gates0_rows0), (a_gates0_known0, HO.dT v_gates0_known0), (a_rows0, HO.lst v_rows0), (a_table0, HO.dK v_table0)] ++ R) _ := S218.pick [1, 2, 3, 0, 4, 5, 6, 7, 8, 9] (by decide) rfl
            exact ⟨F212, v216, rfl, s214, S224, hl217⟩
          · revert hm; refine ifFI c208 fun hm => ?_
            refine goF c208 ?_
            obtain rfl := Option.some.inj hm
            exact ⟨F173, v113, rfl, (Same.refl _), S198, (hl114.mono (s127.trans s176))⟩
        · rintro σ H2 ⟨F201, v204, rfl, s202, S203, hl205⟩
          revert hm; refine bndI fun y230 e231 hm => ?_
          refine ⟨fun σ H2 => ∃ (F225 : Hp) (v228 : List V), σ = [some (V.ref a_script0), some (V.ref a_source0), some (V.ref a_gates0), some (V.ref a_rows0), some (V.ref a_order0), some (V.str x_side0), some (V.ref a_table0), some (V.ref a15), some (V.int y100), some (V.int y107.1), some (V.ref a131), some (V.ref a180), some (V.int y230.1), none, none, none, none] ∧ Same F201 F225 ∧ Sta F225 ([(a180, HO.lst v174), (a164, HO.lst (cutV v_order0 (some (y159 + (1 : Int))) none)), (a131, HO.lst v125), (a_source0, HO.lst v228), (a15, HO.lst v9), (a_gates0, HO.ins T.a_Gates dx_gates0 (fl_Gates (V.ref a_gates0_rows0) (V.ref a_gates0_known0))), (a_gates0_rows0, HO.lst v_gates0_rows0), (a_gates0_known0, HO.dT v_gates0_known0), (a_rows0, HO.lst v_rows0), (a_table0, HO.dK v_table0)] ++ R) H2 ∧ LR (rInt F225) v228 y230.2, ?_, ?_⟩
          · clear hm; have hm := e231; clear e231
            revert hm; refine bndI fun b232 e233 hm => ?_
            refine ⟨fun b H' => ∃ (F234 : Hp), Same F201 F234 ∧ Sta F234 ([(a180, HO.lst v174), (a164, HO.lst (cutV v_order0 (some (y159 + (1 : Int))) none)), (a131, HO.lst v125), (a_source0, HO.lst v204), (a15, HO.lst v9), (a_gates0, HO.ins T.a_Gates dx_gates0 (fl_Gates (V.ref a_gates0_rows0) (V.ref a_gates0_known0))), (a_gates0_rows0, HO.lst v_gates0_rows0), (a_gates0_known0, HO.dT v_gates0_known0), (a_rows0, HO.lst v_rows0), (a_table0, HO.dK v_table0)] ++ R) H' ∧ b232 = b, ?_, ?_⟩
            · clear hm
              have hm := e233
              clear e233
              refine ⟨_, rfl, _, _, rfl, rfl, _, rfl, ?_⟩
              by_cases c237 : (decide (y107.1 = (2 : Int))) = true
              · revert hm; refine ifTI c237 fun hm => ?_
                refine goT c237 ?_
                refine ⟨_, rfl, (by show 0 ≤ sizeLine; decide), ?_⟩
                intro a238 np239
                have hl240 : LR (rInt F201) [] ([] : (List Int)) := trivial
                have S241 : Sta F201 ([(a238, HO.lst []), (a180, HO.lst v174), (a164, HO.lst (cutV v_order0 (some (y159 + (1 : Int))) none)), (a131, HO.lst v125), (a_source0, HO.lst v204), (a15, HO.lst v9), (a_gates0, HO.ins T.a_Gates dx_gates0 (fl_Gates (V.ref a_gates0_rows0) (V.ref a_gates0_known0))), (a_gates0_rows0, HO.lst v_gates0_rows0), (a_gates0_known0, HO.dT v_gates0_known0), (a_rows0, HO.lst v_rows0), (a_table0, HO.dK v_table0)] ++ R) _ := S203.new np239 _
                refine ⟨_, _, (dat_dp (K := K) (r := (rLst K rInt)) ⟨_, _, rfl, (SqL.of (S241.get 1 rfl)), LR.mono (hl178.mono s202) S241.sub⟩), (dat_dp (K := K) (r := (rLst K rInt)) ⟨_, _, rfl, (SqL.of (S241.get 0 rfl)), LR.mono hl240 S241.sub⟩), (dat_shaped (K := K) (r := (rLst K rInt)) (Nat.le_of_ble_eq_true rfl) _ (DPl.pl _)), (dat_shaped (K := K) (r := (rLst K rInt)) (Nat.le_of_ble_eq_true rfl) _ (DPl.pl _)), ?_⟩
                clear S203
                rw [dat_eqv (K := K) (r := (rLst K rInt)) ((cutL x_order0 (some (y159 + (1 : Int))) none).map fun x172 => x172.1) ([] : (List Int))]
                refine ⟨_, rfl, ?_⟩
                obtain rfl := Option.some.inj hm
                have S242 : Sta F201 ([(a180, HO.lst v174), (a164, HO.lst (cutV v_order0 (some (y159 + (1 : Int))) none)), (a131, HO.lst v125), (a_source0, HO.lst v204), (a15, HO.lst v9), (a_gates0, HO.ins T.a_Gates dx_gates0 (fl_Gates (V.ref a_gates0_rows0) (V.ref a_gates0_known0))), (a_gates0_rows0, HO.lst v_gates0_rows0), (a_gates0_known0, HO.dT v_gates0_known0), (a_rows0, HO.lst v_rows0), (a_table0, HO.dK v_table0)] ++ R) _ := S241.pick [1, 2, 3, 4, 5, 6, 7, 8, 9, 10] (by decide) rfl
                exact ⟨F201, (Same.refl _), S242, rfl⟩
              · revert hm; refine ifFI c237 fun hm => ?_
                obtain rfl := Option.some.inj hm
                exact goF c237 ⟨F201, (Same.refl _), S203, rfl⟩
            rintro b243 H244 ⟨F234, s235, S236, rfl⟩
            by_cases c245 : b232 = true
            · revert hm; refine ifTI c245 fun hm => ?_
              refine goT c245 ?_
              refine ⟨_, rfl, _, rfl, _, rfl, _, rfl, _, _, rfl, .inl (SqL.of (S236.get 0 rfl)), ?_⟩
              rw [LR.length (hl178.mono (s202.trans s235))]
              have S246 : Sta F234 ([(a_source0, HO.lst v204), (a180, HO.lst v174), (a164, HO.lst (cutV v_order0 (some (y159 + (1 : Int))) none)), (a131, HO.lst v125), (a15, HO.lst v9), (a_gates0, HO.ins T.a_Gates dx_gates0 (fl_Gates (V.ref a_gates0_rows0) (V.ref a_gates0_known0))), (a_gates0_rows0, HO.lst v_gates0_rows0), (a_gates0_known0, HO.dT v_gates0_known0), (a_rows0, HO.lst v_rows0), (a_table0, HO.dK v_table0)] ++ R) _ := S236.pick [3, 0, 1, 2, 4, 5, 6, 7, 8, 9] (by decide) rfl
              revert hm; refine bndI fun y247 e248 hm => ?_
              refine ⟨F234, ([(a180, HO.lst v174), (a164, HO.lst (cutV v_order0 (some (y159 + (1 : Int))) none)), (a131, HO.lst v125), (a15, HO.lst v9), (a_gates0, HO.ins T.a_Gates dx_gates0 (fl_Gates (V.ref a_gates0_rows0) (V.ref a_gates0_known0))), (a_gates0_rows0, HO.lst v_gates0_rows0), (a_gates0_known0, HO.dT v_gates0_known0), (a_rows0, HO.lst v_rows0), (a_table0, HO.dK v_table0)] ++ R), a_script0, v_script0, x_script0, a_source0, v204, y206.2, (((cutL x_order0 (some (y159 + (1 : Int))) none).map fun x172 => x172.1).length : Int), y247, rfl, (SqL.mono hs_script0 (s11.trans (s64.trans (s95.trans (s111.trans (s127.trans (s176.trans (s202.trans s235)))))))), ((hl_script0.mono (s11.trans (s64.trans (s95.trans (s111.trans (s127.trans (s176.trans (s202.trans s235))))))))), (hl205.mono s235), S246, (by exact e248), fun F249 H250 v253 s251 S252 hl254 => ?_⟩
              clear S236
              have S255 : Sta F249 ([(a_source0, HO.lst v253), (a180, HO.lst v174), (a164, HO.lst (cutV v_order0 (some (y159 + (1 : Int))) none)), (a131, HO.lst v125), (a15, HO.lst v9), (a_gates0, HO.ins T.a_Gates dx_gates0 (fl_Gates (V.ref a_gates0_rows0) (V.ref a_gates0_known0))), (a_gates0_rows0, HO.lst v_gates0_rows0), (a_gates0_known0, HO.dT v_gates0_known0), (a_rows0, HO.lst v_rows0), (a_table0, HO.dK v_table0)] ++ R) _ := S252
              revert hm; refine bndI fun y256 e257 hm => ?_
              obtain ⟨v258, ev259, rv260⟩ := LR.atI hl178 e257
              obtain rfl := rInt_e rv260
              refine ⟨_, _, _, _, rfl, rfl, (SqL.of (S255.get 1 rfl)), ev259, ?_⟩
              clear S252
              obtain rfl := Option.some.inj hm
              have S261 : Sta F249 ([(a180, HO.lst v174), (a164, HO.lst (cutV v_order0 (some (y159 + (1 : Int))) none)), (a131, HO.lst v125), (a_source0, HO.lst v253), (a15, HO.lst v9), (a_gates0, HO.ins T.a_Gates dx_gates0 (fl_Gates (V.ref a_gates0_rows0) (V.ref a_gates0_known0))), (a_gates0_rows0, HO.lst v_gates0_rows0), (a_gates0_known0, HO.dT v_gates0_known0), (a_rows0, HO.lst v_rows0), (a_table0, HO.dK v_table0)] ++ R) _ := S255.pick [1, 2, 3, 0, 4, 5, 6, 7, 8, 9] (by decide) rfl
              exact ⟨F249, v253, rfl, (s235.trans s251), S261, hl254⟩
            · revert hm; refine ifFI c245 fun hm => ?_
              refine goF c245 ?_
              obtain rfl := Option.some.inj hm
              exact ⟨F234, v204, rfl, s235, S236, (hl205.mono s235)⟩
          · rintro σ H2 ⟨F225, v228, rfl, s226, S227, hl229⟩
            revert hm; refine bndI fun y267 e268 hm => ?_
            refine ⟨fun σ H2 => ∃ (F262 : Hp) (v265 : List V), σ = [some (V.ref a_script0), some (V.ref a_source0), some (V.ref a_gates0), some (V.ref a_rows0), some (V.ref a_order0), some (V.str x_side0), some (V.ref a_table0), some (V.ref a15), some (V.int y100), some (V.int y107.1), some (V.ref a131), some (V.ref a180), some (V.int y267.1), none, none, none, none] ∧ Same F225 F262 ∧ Sta F262 ([(a180, HO.lst v174), (a164, HO.lst (cutV v_order0 (some (y159 + (1 : Int))) none)), (a131, HO.lst v125), (a_source0, HO.lst v265), (a15, HO.lst v9), (a_gates0, HO.ins T.a_Gates dx_gates0 (fl_Gates (V.ref a_gates0_rows0) (V.ref a_gates0_known0))), (a_gates0_rows0, HO.lst v_gates0_rows0), (a_gates0_known0, HO.dT v_gates0_known0), (a_rows0, HO.lst v_rows0), (a_table0, HO.dK v_table0)] ++ R) H2 ∧ LR (rInt F262) v265 y267.2, ?_, ?_⟩
            · clear hm; have hm := e268; clear e268
              refine ⟨_, rfl, _, _, rfl, rfl, _, rfl, ?_⟩
              by_cases c269 : (decide (y107.1 = (3 : Int))) = true
              · revert hm; refine ifTI c269 fun hm => ?_
                refine goT c269 ?_
                have S270 : Sta F225 ([(a_source0, HO.lst v228), (a180, HO.lst v174), (a164, HO.lst (cutV v_order0 (some (y159 + (1 : Int))) none)), (a131, HO.lst v125), (a15, HO.lst v9), (a_gates0, HO.ins T.a_Gates dx_gates0 (fl_Gates (V.ref a_gates0_rows0) (V.ref a_gates0_known0))), (a_gates0_rows0, HO.lst v_gates0_rows0), (a_gates0_known0, HO.dT v_gates0_known0), (a_rows0, HO.lst v_rows0), (a_table0, HO.dK v_table0)] ++ R) _ := S227.pick [3, 0, 1, 2, 4, 5, 6, 7, 8, 9] (by decide) rfl
                revert hm; refine bndI fun y271 e272 hm => ?_
                refine ⟨_, rfl, _, rfl, F225, ([(a180, HO.lst v174), (a164, HO.lst (cutV v_order0 (some (y159 + (1 : Int))) none)), (a131, HO.lst v125), (a15, HO.lst v9), (a_gates0, HO.ins T.a_Gates dx_gates0 (fl_Gates (V.ref a_gates0_rows0) (V.ref a_gates0_known0))), (a_gates0_rows0, HO.lst v_gates0_rows0), (a_gates0_known0, HO.dT v_gates0_known0), (a_rows0, HO.lst v_rows0), (a_table0, HO.dK v_table0)] ++ R), a_script0, v_script0, x_script0, a_source0, v228, y230.2, (3 : Int), y271, rfl, (SqL.mono hs_script0 (s11.trans (s64.trans (s95.trans (s111.trans (s127.trans (s176.trans (s202.trans s226)))))))), ((hl_script0.mono (s11.trans (s64.trans (s95.trans (s111.trans (s127.trans (s176.trans (s202.trans s226))))))))), hl229, S270, (by exact e272), fun F273 H274 v277 s275 S276 hl278 => ?_⟩
                clear S227
                have S279 : Sta F273 ([(a_source0, HO.lst v277), (a180, HO.lst v174), (a164, HO.lst (cutV v_order0 (some (y159 + (1 : Int))) none)), (a131, HO.lst v125), (a15, HO.lst v9), (a_gates0, HO.ins T.a_Gates dx_gates0 (fl_Gates (V.ref a_gates0_rows0) (V.ref a_gates0_known0))), (a_gates0_rows0, HO.lst v_gates0_rows0), (a_gates0_known0, HO.dT v_gates0_known0), (a_rows0, HO.lst v_rows0), (a_table0, HO.dK v_table0)] ++ R) _ := S276
                refine ⟨_, _, rfl, rfl, ?_⟩
                clear S276
                obtain rfl := Option.some.inj hm
                have S280 : Sta F273 ([(a180, HO.lst v174), (a164, HO.lst (cutV v_order0 (some (y159 + (1 : Int))) none)), (a131, HO.lst v125), (a_source0, HO.lst v277), (a15, HO.lst v9), (a_gates0, HO.ins T.a_Gates dx_gates0 (fl_Gates (V.ref a_gates0_rows0) (V.ref a_gates0_known0))), (a_gates0_rows0, HO.lst v_gates0_rows0), (a_gates0_known0, HO.dT v_gates0_known0), (a_rows0, HO.lst v_rows0), (a_table0, HO.dK v_table0)] ++ R) _ := S279.pick [1, 2, 3, 0, 4, 5, 6, 7, 8, 9] (by decide) rfl
                exact ⟨F273, v277, rfl, s275, S280, hl278⟩
              · revert hm; refine ifFI c269 fun hm => ?_
                refine goF c269 ?_
                obtain rfl := Option.some.inj hm
                exact ⟨F225, v228, rfl, (Same.refl _), S227, hl229⟩
            · rintro σ H2 ⟨F262, v265, rfl, s263, S264, hl266⟩
              refine ⟨_, rfl, _, _, rfl, rfl, _, rfl, ?_⟩
              by_cases c281 : (decide (y107.1 = (4 : Int))) = true
              · revert hm; refine ifTI c281 fun hm => ?_
                refine goT c281 ?_
                revert hm; refine bndI fun y282 e283 hm => ?_
                refine ⟨_, rfl, _, rfl, (.inl ⟨_, .inl (S264.get 9 rfl)⟩), _, rfl, ?_⟩
                obtain ⟨v284, ev285, rv286⟩ := KR.get hl_table0 kinj_int e283
                obtain rfl := rInt_e rv286
                refine ⟨_, (Sum.inl y100), _, (S264.get 9 rfl), rfl, ev285, ?_⟩
                have hl287 : KR Sum.inl (rInt F262) (dropK v_table0 (Sum.inl y100)) (mdrop x_table0 y100) := KR.drop kinj_int _ (KR.mono hl_table0 (s11.trans (s64.trans (s95.trans (s111.trans (s127.trans (s176.trans (s202.trans (s226.trans s263)))))))))
                have S288 : Sta F262 ([(a180, HO.lst v174), (a164, HO.lst (cutV v_order0 (some (y159 + (1 : Int))) none)), (a131, HO.lst v125), (a_source0, HO.lst v265), (a15, HO.lst v9), (a_gates0, HO.ins T.a_Gates dx_gates0 (fl_Gates (V.ref a_gates0_rows0) (V.ref a_gates0_known0))), (a_gates0_rows0, HO.lst v_gates0_rows0), (a_gates0_known0, HO.dT v_gates0_known0), (a_rows0, HO.lst v_rows0), (a_table0, HO.dK (dropK v_table0 (Sum.inl y100)))] ++ R) _ := S264.set 9 rfl _
                obtain rfl := Option.some.inj hm
                have S289 : Sta F262 ([(a15, HO.lst v9), (a_source0, HO.lst v265), (a_gates0, HO.ins T.a_Gates dx_gates0 (fl_Gates (V.ref a_gates0_rows0) (V.ref a_gates0_known0))), (a_gates0_rows0, HO.lst v_gates0_rows0), (a_gates0_known0, HO.dT v_gates0_known0), (a_rows0, HO.lst v_rows0), (a_table0, HO.dK (dropK v_table0 (Sum.inl y100)))] ++ R) _ := S288.pick [4, 3, 5, 6, 7, 8, 9] (by decide) rfl
                exact ⟨F262, v265, a_gates0_rows0, v_gates0_rows0, a_gates0_known0, v_gates0_known0, v_rows0, (dropK v_table0 (Sum.inl y100)), _, _, _, _, _, _, _, _, _, rfl, (s64.trans (s95.trans (s111.trans (s127.trans (s176.trans (s202.trans (s226.trans s263))))))), S289, hl266, (hl_gates0_rows0.mono (s11.trans (s64.trans (s95.trans (s111.trans (s127.trans (s176.trans (s202.trans (s226.trans s263))))))))), (KR.mono hl_gates0_known0 (s11.trans (s64.trans (s95.trans (s111.trans (s127.trans (s176.trans (s202.trans (s226.trans s263))))))))), (hl_rows0.mono (s11.trans (s64.trans (s95.trans (s111.trans (s127.trans (s176.trans (s202.trans (s226.trans s263))))))))), hl287⟩
              · revert hm; refine ifFI c281 fun hm => ?_
                refine goF c281 ?_
                refine seqI fun N290 hN291 => ?_
                refine ⟨_, rfl, _, rfl, (by show 2 ≤ sizeLine; decide), ?_⟩
                intro a292 np293
                obtain ⟨F294, s295, S296, h297⟩ : ∃ F', Same F262 F' ∧ Sta F' ([(a180, HO.lst v174), (a164, HO.lst (cutV v_order0 (some (y159 + (1 : Int))) none)), (a131, HO.lst v125), (a_source0, HO.lst v265), (a15, HO.lst v9), (a_gates0, HO.ins T.a_Gates dx_gates0 (fl_Gates (V.ref a_gates0_rows0) (V.ref a_gates0_known0))), (a_gates0_rows0, HO.lst v_gates0_rows0), (a_gates0_known0, HO.dT v_gates0_known0), (a_rows0, HO.lst v_rows0), (a_table0, HO.dK v_table0)] ++ R) _ ∧ F' a292 = some (HO.tup (([Sum.inr ("letter" : Str), Sum.inl y267.1] : List Key).map kV)) := ⟨_, S264.sameF np293 _, S264.newF np293 _, upd_same⟩
                have S298 : Sta F294 ([(a_rows0, HO.lst v_rows0), (a180, HO.lst v174), (a164, HO.lst (cutV v_order0 (some (y159 + (1 : Int))) none)), (a131, HO.lst v125), (a_source0, HO.lst v265), (a15, HO.lst v9), (a_gates0, HO.ins T.a_Gates dx_gates0 (fl_Gates (V.ref a_gates0_rows0) (V.ref a_gates0_known0))), (a_gates0_rows0, HO.lst v_gates0_rows0), (a_gates0_known0, HO.dT v_gates0_known0), (a_table0, HO.dK v_table0)] ++ R) _ := S296.pick [8, 0, 1, 2, 3, 4, 5, 6, 7, 9] (by decide) rfl
                revert hm; refine bndI fun y299 e300 hm => ?_
                refine ⟨F294, ([(a180, HO.lst v174), (a164, HO.lst (cutV v_order0 (some (y159 + (1 : Int))) none)), (a131, HO.lst v125), (a_source0, HO.lst v265), (a15, HO.lst v9), (a_gates0, HO.ins T.a_Gates dx_gates0 (fl_Gates (V.ref a_gates0_rows0) (V.ref a_gates0_known0))), (a_gates0_rows0, HO.lst v_gates0_rows0), (a_gates0_known0, HO.dT v_gates0_known0), (a_table0, HO.dK v_table0)] ++ R), a_rows0, v_rows0, x_rows0, a292, ([Sum.inr ("letter" : Str), Sum.inl y267.1] : List Key), y299, rfl, (hl_rows0.mono (s11.trans (s64.trans (s95.trans (s111.trans (s127.trans (s176.trans (s202.trans (s226.trans (s263.trans s295)))))))))), ((Same.refl _) _ _ h297), S298, (by exact e300), fun F301 H302 v305 s303 S304 hl306 => ?_⟩
                clear S296
                have S307 : Sta F301 ([(a_rows0, HO.lst v305), (a180, HO.lst v174), (a164, HO.lst (cutV v_order0 (some (y159 + (1 : Int))) none)), (a131, HO.lst v125), (a_source0, HO.lst v265), (a15, HO.lst v9), (a_gates0, HO.ins T.a_Gates dx_gates0 (fl_Gates (V.ref a_gates0_rows0) (V.ref a_gates0_known0))), (a_gates0_rows0, HO.lst v_gates0_rows0), (a_gates0_known0, HO.dT v_gates0_known0), (a_table0, HO.dK v_table0)] ++ R) _ := S304
                refine hN291 _ _ ?_
                refine seqI fun N308 hN309 => ?_
                have S310 : Sta F301 ([(a_gates0, HO.ins T.a_Gates dx_gates0 (fl_Gates (V.ref a_gates0_rows0) (V.ref a_gates0_known0))), (a_gates0_rows0, HO.lst v_gates0_rows0), (a_gates0_known0, HO.dT v_gates0_known0), (a_rows0, HO.lst v305), (a180, HO.lst v174), (a164, HO.lst (cutV v_order0 (some (y159 + (1 : Int))) none)), (a131, HO.lst v125), (a_source0, HO.lst v265), (a15, HO.lst v9), (a_table0, HO.dK v_table0)] ++ R) _ := S307.pick [6, 7, 8, 0, 1, 2, 3, 4, 5, 9] (by decide) rfl
                revert hm; refine bndI fun y311 e312 hm => ?_
                refine ⟨_, rfl, _, _, _, rfl, (S307.get 6 rfl), fl_Gates_no_leaf, _, rfl, F301, ([(a_rows0, HO.lst v305), (a180, HO.lst v174), (a164, HO.lst (cutV v_order0 (some (y159 + (1 : Int))) none)), (a131, HO.lst v125), (a_source0, HO.lst v265), (a15, HO.lst v9), (a_table0, HO.dK v_table0)] ++ R), a_gates0, dx_gates0, (M_Gates.mk x_gates0.rows x_gates0.known), a_gates0_rows0, v_gates0_rows0, a_gates0_known0, v_gates0_known0, y267.1, y311, rfl, (hl_gates0_rows0.mono (s11.trans (s64.trans (s95.trans (s111.trans (s127.trans (s176.trans (s202.trans (s226.trans (s263.trans (s295.trans s303))))))))))), (KR.mono hl_gates0_known0 (s11.trans (s64.trans (s95.trans (s111.trans (s127.trans (s176.trans (s202.trans (s226.trans (s263.trans (s295.trans s303))))))))))), S310, (by exact e312), fun F313 H314 a317 v318 a320 v321 s315 S316 hl319 hl322 => ?_⟩
                clear S304 S307
                have S323 : Sta F313 ([(a_gates0, HO.ins T.a_Gates dx_gates0 (fl_Gates (V.ref a317) (V.ref a320))), (a317, HO.lst v318), (a320, HO.dT v321), (a_rows0, HO.lst v305), (a180, HO.lst v174), (a164, HO.lst (cutV v_order0 (some (y159 + (1 : Int))) none)), (a131, HO.lst v125), (a_source0, HO.lst v265), (a15, HO.lst v9), (a_table0, HO.dK v_table0)] ++ R) _ := S316
                refine hN309 _ _ ?_
                refine seqI fun N324 hN325 => ?_
                refine ⟨_, rfl, (by show 2 ≤ sizeLine; decide), ?_⟩
                clear S316
                intro a326 np327
                obtain ⟨F328, s329, S330, h331⟩ : ∃ F', Same F313 F' ∧ Sta F' ([(a_gates0, HO.ins T.a_Gates dx_gates0 (fl_Gates (V.ref a317) (V.ref a320))), (a317, HO.lst v318), (a320, HO.dT v321), (a_rows0, HO.lst v305), (a180, HO.lst v174), (a164, HO.lst (cutV v_order0 (some (y159 + (1 : Int))) none)), (a131, HO.lst v125), (a_source0, HO.lst v265), (a15, HO.lst v9), (a_table0, HO.dK v_table0)] ++ R) _ ∧ F' a326 = some (HO.tup (([Sum.inr ("letter" : Str), Sum.inl (600 : Int)] : List Key).map kV)) := ⟨_, S323.sameF np327 _, S323.newF np327 _, upd_same⟩
                have S332 : Sta F328 ([(a_rows0, HO.lst v305), (a_gates0, HO.ins T.a_Gates dx_gates0 (fl_Gates (V.ref a317) (V.ref a320))), (a317, HO.lst v318), (a320, HO.dT v321), (a180, HO.lst v174), (a164, HO.lst (cutV v_order0 (some (y159 + (1 : Int))) none)), (a131, HO.lst v125), (a_source0, HO.lst v265), (a15, HO.lst v9), (a_table0, HO.dK v_table0)] ++ R) _ := S330.pick [3, 0, 1, 2, 4, 5, 6, 7, 8, 9] (by decide) rfl
                revert hm; refine bndI fun y333 e334 hm => ?_
                refine ⟨F328, ([(a_gates0, HO.ins T.a_Gates dx_gates0 (fl_Gates (V.ref a317) (V.ref a320))), (a317, HO.lst v318), (a320, HO.dT v321), (a180, HO.lst v174), (a164, HO.lst (cutV v_order0 (some (y159 + (1 : Int))) none)), (a131, HO.lst v125), (a_source0, HO.lst v265), (a15, HO.lst v9), (a_table0, HO.dK v_table0)] ++ R), a_rows0, v305, y299.2, a326, ([Sum.inr ("letter" : Str), Sum.inl (600 : Int)] : List Key), y333, rfl, (hl306.mono (s315.trans s329)), ((Same.refl _) _ _ h331), S332, (by exact e334), fun F335 H336 v339 s337 S338 hl340 => ?_⟩
                clear S330
                have S341 : Sta F335 ([(a_rows0, HO.lst v339), (a_gates0, HO.ins T.a_Gates dx_gates0 (fl_Gates (V.ref a317) (V.ref a320))), (a317, HO.lst v318), (a320, HO.dT v321), (a180, HO.lst v174), (a164, HO.lst (cutV v_order0 (some (y159 + (1 : Int))) none)), (a131, HO.lst v125), (a_source0, HO.lst v265), (a15, HO.lst v9), (a_table0, HO.dK v_table0)] ++ R) _ := S338
                refine hN325 _ _ ?_
                refine seqI fun N342 hN343 => ?_
                have S344 : Sta F335 ([(a_gates0, HO.ins T.a_Gates dx_gates0 (fl_Gates (V.ref a317) (V.ref a320))), (a317, HO.lst v318), (a320, HO.dT v321), (a_rows0, HO.lst v339), (a180, HO.lst v174), (a164, HO.lst (cutV v_order0 (some (y159 + (1 : Int))) none)), (a131, HO.lst v125), (a_source0, HO.lst v265), (a15, HO.lst v9), (a_table0, HO.dK v_table0)] ++ R) _ := S341.pick [1, 2, 3, 0, 4, 5, 6, 7, 8, 9] (by decide) rfl
                revert hm; refine bndI fun y345 e346 hm => ?_
                refine ⟨_, rfl, _, _, _, rfl, (S341.get 1 rfl), fl_Gates_no_leaf, F335, ([(a_rows0, HO.lst v339), (a180, HO.lst v174), (a164, HO.lst (cutV v_order0 (some (y159 + (1 : Int))) none)), (a131, HO.lst v125), (a_source0, HO.lst v265), (a15, HO.lst v9), (a_table0, HO.dK v_table0)] ++ R), a_gates0, dx_gates0, (M_Gates.mk y311.2.rows y311.2.known), a317, v318, a320, v321, (600 : Int), y345, rfl, (hl319.mono (s329.trans s337)), (KR.mono hl322 (s329.trans s337)), S344, (by exact e346), fun F347 H348 a351 v352 a354 v355 s349 S350 hl353 hl356 => ?_⟩
                clear S338 S341
                have S357 : Sta F347 ([(a_gates0, HO.ins T.a_Gates dx_gates0 (fl_Gates (V.ref a351) (V.ref a354))), (a351, HO.lst v352), (a354, HO.dT v355), (a_rows0, HO.lst v339), (a180, HO.lst v174), (a164, HO.lst (cutV v_order0 (some (y159 + (1 : Int))) none)), (a131, HO.lst v125), (a_source0, HO.lst v265), (a15, HO.lst v9), (a_table0, HO.dK v_table0)] ++ R) _ := S350
                refine hN343 _ _ ?_
                revert hm; refine bndI fun y371 e372 hm => ?_
                refine ⟨fun σ H2 => ∃ (F358 : Hp) (a361 : Addr) (v362 : List V) (a364 : Addr) (v365 : List (List Key × V)) (v367 : List V) (v369 : List V), σ = [some (V.ref a_script0), some (V.ref a_source0), some (V.ref a_gates0), some (V.ref a_rows0), some (V.ref a_order0), some (V.str x_side0), some (V.ref a_table0), some (V.ref a15), some (V.int y100), some (V.int y107.1), some (V.ref a131), some (V.ref a180), some (V.int y267.1), some (V.int y371.1), some (V.int y333.1), none, none] ∧ Same F347 F358 ∧ Sta F358 ([(a_gates0, HO.ins T.a_Gates dx_gates0 (fl_Gates (V.ref a361) (V.ref a364))), (a361, HO.lst v362), (a364, HO.dT v365), (a_rows0, HO.lst v367), (a180, HO.lst v174), (a164, HO.lst (cutV v_order0 (some (y159 + (1 : Int))) none)), (a131, HO.lst v125), (a_source0, HO.lst v369), (a15, HO.lst v9), (a_table0, HO.dK v_table0)] ++ R) H2 ∧ LR (rKT F358) v362 y371.2.1.rows ∧ KR id (rInt F358) v365 y371.2.1.known ∧ LR (rKT F358) v367 y371.2.2.1 ∧ LR (rInt F358) v369 y371.2.2.2, ?_, ?_⟩
                · clear hm; have hm := e372; clear e372
                  have S373 : Sta F347 ([(a_source0, HO.lst v265), (a_gates0, HO.ins T.a_Gates dx_gates0 (fl_Gates (V.ref a351) (V.ref a354))), (a351, HO.lst v352), (a354, HO.dT v355), (a_rows0, HO.lst v339), (a180, HO.lst v174), (a164, HO.lst (cutV v_order0 (some (y159 + (1 : Int))) none)), (a131, HO.lst v125), (a15, HO.lst v9), (a_table0, HO.dK v_table0)] ++ R) _ := S357.pick [7, 0, 1, 2, 3, 4, 5, 6, 8, 9] (by decide) rfl
                  revert hm; refine bndI fun y374 e375 hm => ?_
                  refine ⟨_, rfl, _, rfl, F347, ([(a_gates0, HO.ins T.a_Gates dx_gates0 (fl_Gates (V.ref a351) (V.ref a354))), (a351, HO.lst v352), (a354, HO.dT v355), (a_rows0, HO.lst v339), (a180, HO.lst v174), (a164, HO.lst (cutV v_order0 (some (y159 + (1 : Int))) none)), (a131, HO.lst v125), (a15, HO.lst v9), (a_table0, HO.dK v_table0)] ++ R), a_script0, v_script0, x_script0, a_source0, v265, y267.2, (2 : Int), y374, rfl, (SqL.mono hs_script0 (s11.trans (s64.trans (s95.trans (s111.trans (s127.trans (s176.trans (s202.trans (s226.trans (s263.trans (s295.trans (s303.trans (s315.trans (s329.trans (s337.trans s349))))))))))))))), ((hl_script0.mono (s11.trans (s64.trans (s95.trans (s111.trans (s127.trans (s176.trans (s202.trans (s226.trans (s263.trans (s295.trans (s303.trans (s315.trans (s329.trans (s337.trans s349)))))))))))))))), (hl266.mono (s295.trans (s303.trans (s315.trans (s329.trans (s337.trans s349)))))), S373, (by exact e375), fun F376 H377 v380 s378 S379 hl381 => ?_⟩
                  clear S357
                  have S382 : Sta F376 ([(a_source0, HO.lst v380), (a_gates0, HO.ins T.a_Gates dx_gates0 (fl_Gates (V.ref a351) (V.ref a354))), (a351, HO.lst v352), (a354, HO.dT v355), (a_rows0, HO.lst v339), (a180, HO.lst v174), (a164, HO.lst (cutV v_order0 (some (y159 + (1 : Int))) none)), (a131, HO.lst v125), (a15, HO.lst v9), (a_table0, HO.dK v_table0)] ++ R) _ := S379
                  refine ⟨_, _, rfl, rfl, _, rfl, ?_⟩
                  clear S379
                  by_cases c383 : (decide (y374.1 = (1 : Int))) = true
                  · revert hm; refine ifTI c383 fun hm => ?_
                    refine goT c383 ?_
                    have S384 : Sta F376 ([(a_gates0, HO.ins T.a_Gates dx_gates0 (fl_Gates (V.ref a351) (V.ref a354))), (a351, HO.lst v352), (a354, HO.dT v355), (a_rows0, HO.lst v339), (a_source0, HO.lst v380), (a180, HO.lst v174), (a164, HO.lst (cutV v_order0 (some (y159 + (1 : Int))) none)), (a131, HO.lst v125), (a15, HO.lst v9), (a_table0, HO.dK v_table0)] ++ R) _ := S382.pick [1, 2, 3, 4, 0, 5, 6, 7, 8, 9] (by decide) rfl
                    revert hm; refine bndI fun y385 e386 hm => ?_
                    refine ⟨_, rfl, _, rfl, _, rfl, y299.1, _, rfl, rfl, _, rfl, F376, ([(a_source0, HO.lst v380), (a180, HO.lst v174), (a164, HO.lst (cutV v_order0 (some (y159 + (1 : Int))) none)), (a131, HO.lst v125), (a15, HO.lst v9), (a_table0, HO.dK v_table0)] ++ R), a_gates0, dx_gates0, (M_Gates.mk y345.2.rows y345.2.known), a351, v352, a354, v355, a_rows0, v339, y333.2, (m_law_opposite y299.1), y333.1, y385, rfl, (hl353.mono s378), (KR.mono hl356 s378), (hl340.mono (s349.trans s378)), S384, (by exact e386), fun F387 H388 a391 v392 a394 v395 v397 s389 S390 hl393 hl396 hl398 => ?_⟩
                    clear S382
                    have S399 : Sta F387 ([(a_gates0, HO.ins T.a_Gates dx_gates0 (fl_Gates (V.ref a391) (V.ref a394))), (a391, HO.lst v392), (a394, HO.dT v395), (a_rows0, HO.lst v397), (a_source0, HO.lst v380), (a180, HO.lst v174), (a164, HO.lst (cutV v_order0 (some (y159 + (1 : Int))) none)), (a131, HO.lst v125), (a15, HO.lst v9), (a_table0, HO.dK v_table0)] ++ R) _ := S390
                    obtain rfl := Option.some.inj hm
                    have S400 : Sta F387 ([(a_gates0, HO.ins T.a_Gates dx_gates0 (fl_Gates (V.ref a391) (V.ref a394))), (a391, HO.lst v392), (a394, HO.dT v395), (a_rows0, HO.lst v397), (a180, HO.lst v174), (a164, HO.lst (cutV v_order0 (some (y159 + (1 : Int))) none)), (a131, HO.lst v125), (a_source0, HO.lst v380), (a15, HO.lst v9), (a_table0, HO.dK v_table0)] ++ R) _ := S399.pick [0, 1, 2, 3, 5, 6, 7, 4, 8, 9] (by decide) rfl
                    exact ⟨F387, a391, v392, a394, v395, v397, v380, rfl, (s378.trans s389), S400, hl393, hl396, hl398, (hl381.mono s389)⟩
                  · revert hm; refine ifFI c383 fun hm => ?_
                    refine goF c383 ?_
                    obtain rfl := Option.some.inj hm
                    have S401 : Sta F376 ([(a_gates0, HO.ins T.a_Gates dx_gates0 (fl_Gates (V.ref a351) (V.ref a354))), (a351, HO.lst v352), (a354, HO.dT v355), (a_rows0, HO.lst v339), (a180, HO.lst v174), (a164, HO.lst (cutV v_order0 (some (y159 + (1 : Int))) none)), (a131, HO.lst v125), (a_source0, HO.lst v380), (a15, HO.lst v9), (a_table0, HO.dK v_table0)] ++ R) _ := S382.pick [1, 2, 3, 4, 5, 6, 7, 0, 8, 9] (by decide) rfl
                    exact ⟨F376, a351, v352, a354, v355, v339, v380, rfl, s378, S401, (hl353.mono s378), (KR.mono hl356 s378), (hl340.mono (s349.trans s378)), hl381⟩
                · rintro σ H2 ⟨F358, a361, v362, a364, v365, v367, v369, rfl, s359, S360, hl363, hl366, hl368, hl370⟩
                  revert hm; refine grdI fun g402 hm => ?_
                  refine ⟨_, rfl, _, rfl, _, rfl, _, _, rfl, (DPut.k (k := Sum.inl y100) (S360.get 9 rfl) (by rw [KR.length (KR.mono hl_table0 (s11.trans (s64.trans (s95.trans (s111.trans (s127.trans (s176.trans (s202.trans (s226.trans (s263.trans (s295.trans (s303.trans (s315.trans (s329.trans (s337.trans (s349.trans s359))))))))))))))))]; exact of_decide_eq_true g402)), ?_⟩
                  have hl403 : KR Sum.inl (rInt F358) (putK v_table0 (Sum.inl y100) (V.int y371.1)) (mput x_table0 y100 y371.1) := KR.put (KR.mono hl_table0 (s11.trans (s64.trans (s95.trans (s111.trans (s127.trans (s176.trans (s202.trans (s226.trans (s263.trans (s295.trans (s303.trans (s315.trans (s329.trans (s337.trans (s349.trans s359)))))))))))))))) kinj_int rfl
                  have S404 : Sta F358 ([(a_gates0, HO.ins T.a_Gates dx_gates0 (fl_Gates (V.ref a361) (V.ref a364))), (a361, HO.lst v362), (a364, HO.dT v365), (a_rows0, HO.lst v367), (a180, HO.lst v174), (a164, HO.lst (cutV v_order0 (some (y159 + (1 : Int))) none)), (a131, HO.lst v125), (a_source0, HO.lst v369), (a15, HO.lst v9), (a_table0, HO.dK (putK v_table0 (Sum.inl y100) (V.int y371.1)))] ++ R) _ := S360.set 9 rfl _
                  obtain rfl := Option.some.inj hm
                  have S405 : Sta F358 ([(a15, HO.lst v9), (a_source0, HO.lst v369), (a_gates0, HO.ins T.a_Gates dx_gates0 (fl_Gates (V.ref a361) (V.ref a364))), (a361, HO.lst v362), (a364, HO.dT v365), (a_rows0, HO.lst v367), (a_table0, HO.dK (putK v_table0 (Sum.inl y100) (V.int y371.1)))] ++ R) _ := S404.pick [8, 7, 0, 1, 2, 3, 9] (by decide) rfl
                  exact ⟨F358, v369, a361, v362, a364, v365, v367, (putK v_table0 (Sum.inl y100) (V.int y371.1)), _, _, _, _, _, _, _, _, _, rfl, (s64.trans (s95.trans (s111.trans (s127.trans (s176.trans (s202.trans (s226.trans (s263.trans (s295.trans (s303.trans (s315.trans (s329.trans (s337.trans (s349.trans s359)))))))))))))), S405, hl370, hl363, hl366, hl368, hl403⟩
      · revert hm; refine ifFI c87 fun hm => ?_
        refine goF c87 ?_
        obtain rfl := Option.some.inj hm
        exact ⟨F63, v66, a_gates0_rows0, v_gates0_rows0, a_gates0_known0, v_gates0_known0, v_rows0, v_table0, _, _, _, _, _, _, _, _, _, rfl, s64, S65, hl67, (hl_gates0_rows0.mono (s11.trans s64)), (KR.mono hl_gates0_known0 (s11.trans s64)), (hl_rows0.mono (s11.trans s64)), (KR.mono hl_table0 (s11.trans s64))⟩
    · rintro σ H2 ⟨F35, v47, a49, v50, a52, v53, v55, v57, o38, o39, o40, o41, o42, o43, o44, o45, o46, rfl, s36, S37, hl48, hl51, hl54, hl56, hl58⟩
      have S406 : Sta F35 ([(a_source0, HO.lst v47), (a15, HO.lst v9), (a_gates0, HO.ins T.a_Gates dx_gates0 (fl_Gates (V.ref a49) (V.ref a52))), (a49, HO.lst v50), (a52, HO.dT v53), (a_rows0, HO.lst v55), (a_table0, HO.dK v57)] ++ R) _ := S37.pick [1, 0, 2, 3, 4, 5, 6] (by decide) rfl
      revert hm; refine bndI fun y407 e408 hm => ?_
      refine ⟨_, rfl, _, rfl, F35, ([(a15, HO.lst v9), (a_gates0, HO.ins T.a_Gates dx_gates0 (fl_Gates (V.ref a49) (V.ref a52))), (a49, HO.lst v50), (a52, HO.dT v53), (a_rows0, HO.lst v55), (a_table0, HO.dK v57)] ++ R), a_script0, v_script0, x_script0, a_source0, v47, y59.1, (4 : Int), y407, rfl, (SqL.mono hs_script0 (s11.trans s36)), ((hl_script0.mono (s11.trans s36))), hl48, S406, (by exact e408), fun F409 H410 v413 s411 S412 hl414 => ?_⟩
      clear S37
      have S415 : Sta F409 ([(a_source0, HO.lst v413), (a15, HO.lst v9), (a_gates0, HO.ins T.a_Gates dx_gates0 (fl_Gates (V.ref a49) (V.ref a52))), (a49, HO.lst v50), (a52, HO.dT v53), (a_rows0, HO.lst v55), (a_table0, HO.dK v57)] ++ R) _ := S412
      refine ⟨_, _, rfl, rfl, _, rfl, ?_⟩
      clear S412
      by_cases c416 : (decide (y407.1 = (3 : Int))) = true
      · revert hm; refine ifTI c416 fun hm => ?_
        refine goT c416 ?_
        refine seqI fun N417 hN418 => ?_
        revert hm; refine bndI fun y419 e420 hm => ?_
        refine ⟨_, rfl, _, rfl, _, rfl, F409, ([(a15, HO.lst v9), (a_gates0, HO.ins T.a_Gates dx_gates0 (fl_Gates (V.ref a49) (V.ref a52))), (a49, HO.lst v50), (a52, HO.dT v53), (a_rows0, HO.lst v55), (a_table0, HO.dK v57)] ++ R), a_script0, v_script0, x_script0, a_source0, v413, y407.2, (3 : Int), y419, rfl, (SqL.mono hs_script0 (s11.trans (s36.trans s411))), ((hl_script0.mono (s11.trans (s36.trans s411)))), hl414, S415, (by exact e420), fun F421 H422 v425 s423 S424 hl426 => ?_⟩
        have S427 : Sta F421 ([(a_source0, HO.lst v425), (a15, HO.lst v9), (a_gates0, HO.ins T.a_Gates dx_gates0 (fl_Gates (V.ref a49) (V.ref a52))), (a49, HO.lst v50), (a52, HO.dT v53), (a_rows0, HO.lst v55), (a_table0, HO.dK v57)] ++ R) _ := S424
        revert hm; refine grdI fun g428 hm => ?_
        refine ⟨_, _, rfl, rfl, _, _, rfl, (DPut.k (k := Sum.inl ((900 : Int) - y419.1)) (S427.get 6 rfl) (by rw [KR.length (KR.mono hl58 (s411.trans s423))]; exact of_decide_eq_true g428)), ?_⟩
        clear S424
        have hl429 : KR Sum.inl (rInt F421) (putK v57 (Sum.inl ((900 : Int) - y419.1)) (V.int 1)) (mput y59.2.2.2 ((900 : Int) - y419.1) (1 : Int)) := KR.put (KR.mono hl58 (s411.trans s423)) kinj_int rfl
        have S430 : Sta F421 ([(a_source0, HO.lst v425), (a15, HO.lst v9), (a_gates0, HO.ins T.a_Gates dx_gates0 (fl_Gates (V.ref a49) (V.ref a52))), (a49, HO.lst v50), (a52, HO.dT v53), (a_rows0, HO.lst v55), (a_table0, HO.dK (putK v57 (Sum.inl ((900 : Int) - y419.1)) (V.int 1)))] ++ R) _ := S427.set 6 rfl _
        refine hN418 _ _ ?_
        refine ⟨_, rfl, (by show 0 ≤ sizeLine; decide), ?_⟩
        clear S427
        intro a431 np432
        have hl433 : LR ((rT2 K rInt rStr) F421) [] ([] : (List (Int × Str))) := trivial
        have S434 : Sta F421 ([(a431, HO.lst []), (a_source0, HO.lst v425), (a15, HO.lst v9), (a_gates0, HO.ins T.a_Gates dx_gates0 (fl_Gates (V.ref a49) (V.ref a52))), (a49, HO.lst v50), (a52, HO.dT v53), (a_rows0, HO.lst v55), (a_table0, HO.dK (putK v57 (Sum.inl ((900 : Int) - y419.1)) (V.int 1)))] ++ R) _ := S430.new np432 _
        revert hm; refine grdI fun g435 hm => ?_
        revert hm; refine grdI fun g436 hm => ?_
        refine ⟨_, _, (dat_dp (K := K) (r := (rLst K (rT2 K rInt rStr))) ⟨_, _, rfl, (SqL.mono hs_order0 (S434.bor (s11.trans (s36.trans (s411.trans s423))) (fun _ q => (List.mem_append_right _ q)))), LR.mono (hl_order0.mono (s11.trans (s36.trans (s411.trans s423)))) S434.sub⟩), (dat_dp (K := K) (r := (rLst K (rT2 K rInt rStr))) ⟨_, _, rfl, (SqL.of (S434.get 0 rfl)), LR.mono hl433 S434.sub⟩), (dat_shaped (K := K) (r := (rLst K (rT2 K rInt rStr))) (Nat.le_of_ble_eq_true rfl) _ g435), (dat_shaped (K := K) (r := (rLst K (rT2 K rInt rStr))) (Nat.le_of_ble_eq_true rfl) _ g436), ?_⟩
        clear S430
        rw [dat_eqv (K := K) (r := (rLst K (rT2 K rInt rStr))) x_order0 ([] : (List (Int × Str)))]
        refine ⟨_, rfl, ?_⟩
        by_cases c437 : (!decide (x_order0 = ([] : (List (Int × Str))))) = true
        · revert hm; refine ifTI c437 fun hm => ?_
          refine goT c437 ?_
          refine ⟨_, rfl, _, rfl, _, rfl, _, rfl, _, rfl, _, _, rfl, .inl (SqL.mono hs_order0 (S434.bor (s11.trans (s36.trans (s411.trans s423))) (fun _ q => (List.mem_append_right _ q)))), ?_⟩
          rw [LR.length (hl_order0.mono (s11.trans (s36.trans (s411.trans s423))))]
          have S438 : Sta F421 ([(a_source0, HO.lst v425), (a431, HO.lst []), (a15, HO.lst v9), (a_gates0, HO.ins T.a_Gates dx_gates0 (fl_Gates (V.ref a49) (V.ref a52))), (a49, HO.lst v50), (a52, HO.dT v53), (a_rows0, HO.lst v55), (a_table0, HO.dK (putK v57 (Sum.inl ((900 : Int) - y419.1)) (V.int 1)))] ++ R) _ := S434.pick [1, 0, 2, 3, 4, 5, 6, 7] (by decide) rfl
          revert hm; refine bndI fun y439 e440 hm => ?_
          refine ⟨F421, ([(a431, HO.lst []), (a15, HO.lst v9), (a_gates0, HO.ins T.a_Gates dx_gates0 (fl_Gates (V.ref a49) (V.ref a52))), (a49, HO.lst v50), (a52, HO.dT v53), (a_rows0, HO.lst v55), (a_table0, HO.dK (putK v57 (Sum.inl ((900 : Int) - y419.1)) (V.int 1)))] ++ R), a_script0, v_script0, x_script0, a_source0, v425, y419.2, (x_order0.length : Int), y439, rfl, (SqL.mono hs_script0 (s11.trans (s36.trans (s411.trans s423)))), ((hl_script0.mono (s11.trans (s36.trans (s411.trans s423))))), hl426, S438, (by exact e440), fun F441 H442 v445 s443 S444 hl446 => ?_⟩
          clear S434
          have S447 : Sta F441 ([(a_source0, HO.lst v445), (a431, HO.lst []), (a15, HO.lst v9), (a_gates0, HO.ins T.a_Gates dx_gates0 (fl_Gates (V.ref a49) (V.ref a52))), (a49, HO.lst v50), (a52, HO.dT v53), (a_rows0, HO.lst v55), (a_table0, HO.dK (putK v57 (Sum.inl ((900 : Int) - y419.1)) (V.int 1)))] ++ R) _ := S444
          revert hm; refine bndI fun y448 e449 hm => ?_
          obtain ⟨v450, ev451, rv452⟩ := LR.atI hl_order0 e449
          obtain ⟨a453, u455, u456, rfl, hs454, p457, p458⟩ := rv452
          obtain rfl := rInt_e p457
          obtain rfl := rStr_e p458
          revert hm; refine grdI fun g459 hm => ?_
          refine ⟨_, _, _, _, rfl, rfl, (SqL.mono hs_order0 (S447.bor (s11.trans (s36.trans (s411.trans (s423.trans s443)))) (fun _ q => (List.mem_append_right _ q)))), ev451, _, _, _, _, rfl, rfl, (SqT.mono hs454 ((s11.trans (s36.trans (s411.trans (s423.trans s443)))).trans S447.sub)), rfl, _, _, rfl, (DPut.k (k := Sum.inl y448.1) (S447.get 7 rfl) (by rw [KR.length (KR.mono hl429 s443)]; exact of_decide_eq_true g459)), ?_⟩
          clear S444
          have hl460 : KR Sum.inl (rInt F441) (putK (putK v57 (Sum.inl ((900 : Int) - y419.1)) (V.int 1)) (Sum.inl y448.1) (V.int 0)) (mput (mput y59.2.2.2 ((900 : Int) - y419.1) (1 : Int)) y448.1 (0 : Int)) := KR.put (KR.mono hl429 s443) kinj_int rfl
          have S461 : Sta F441 ([(a_source0, HO.lst v445), (a431, HO.lst []), (a15, HO.lst v9), (a_gates0, HO.ins T.a_Gates dx_gates0 (fl_Gates (V.ref a49) (V.ref a52))), (a49, HO.lst v50), (a52, HO.dT v53), (a_rows0, HO.lst v55), (a_table0, HO.dK (putK (putK v57 (Sum.inl ((900 : Int) - y419.1)) (V.int 1)) (Sum.inl y448.1) (V.int 0)))] ++ R) _ := S447.set 7 rfl _
          obtain rfl := Option.some.inj hm
          have S462 : Sta F441 ([(a_source0, HO.lst v445), (a_gates0, HO.ins T.a_Gates dx_gates0 (fl_Gates (V.ref a49) (V.ref a52))), (a49, HO.lst v50), (a52, HO.dT v53), (a_rows0, HO.lst v55), (a_table0, HO.dK (putK (putK v57 (Sum.inl ((900 : Int) - y419.1)) (V.int 1)) (Sum.inl y448.1) (V.int 0)))] ++ R) _ := S461.pick [0, 3, 4, 5, 6, 7] (by decide) rfl
          exact kk _ _ v445 a49 v50 a52 v53 v55 (putK (putK v57 (Sum.inl ((900 : Int) - y419.1)) (V.int 1)) (Sum.inl y448.1) (V.int 0)) (s11.trans (s36.trans (s411.trans (s423.trans s443)))) S462 hl446 (hl51.mono (s411.trans (s423.trans s443))) (KR.mono hl54 (s411.trans (s423.trans s443))) (hl56.mono (s411.trans (s423.trans s443))) hl460
        · revert hm; refine ifFI c437 fun hm => ?_
          refine goF c437 ?_
          obtain rfl := Option.some.inj hm
          have S463 : Sta F421 ([(a_source0, HO.lst v425), (a_gates0, HO.ins T.a_Gates dx_gates0 (fl_Gates (V.ref a49) (V.ref a52))), (a49, HO.lst v50), (a52, HO.dT v53), (a_rows0, HO.lst v55), (a_table0, HO.dK (putK v57 (Sum.inl ((900 : Int) - y419.1)) (V.int 1)))] ++ R) _ := S434.pick [1, 3, 4, 5, 6, 7] (by decide) rfl
          exact kk _ _ v425 a49 v50 a52 v53 v55 (putK v57 (Sum.inl ((900 : Int) - y419.1)) (V.int 1)) (s11.trans (s36.trans (s411.trans s423))) S463 hl426 (hl51.mono (s411.trans s423)) (KR.mono hl54 (s411.trans s423)) (hl56.mono (s411.trans s423)) hl429
      · revert hm; refine ifFI c416 fun hm => ?_
        refine goF c416 ?_
        obtain rfl := Option.some.inj hm
        have S464 : Sta F409 ([(a_source0, HO.lst v413), (a_gates0, HO.ins T.a_Gates dx_gates0 (fl_Gates (V.ref a49) (V.ref a52))), (a49, HO.lst v50), (a52, HO.dT v53), (a_rows0, HO.lst v55), (a_table0, HO.dK v57)] ++ R) _ := S415.pick [0, 2, 3, 4, 5, 6] (by decide) rfl
        exact kk _ _ v413 a49 v50 a52 v53 v55 v57 (s11.trans (s36.trans s411)) S464 hl414 (hl51.mono s411) (KR.mono hl54 s411) (hl56.mono s411) (KR.mono hl58 s411)

def sp_law_reached (T : Txt K mg) : Sp := fun vs H Q _ => ∃ (F0 : Hp) (R : Own) (a_rows0 : Addr) (v_rows0 : List V) (x_rows0 : (List (List Key))) (a_edges0 : Addr) (v_edges0 : List V) (x_edges0 : (List Int)) (r : (List Int)),
  vs = [V.ref a_rows0, V.ref a_edges0] ∧ SqL K (ov F0 R) a_rows0 v_rows0 ∧ LR (rKT F0) v_rows0 x_rows0 ∧ SqL K (ov F0 R) a_edges0 v_edges0 ∧ LR (rInt F0) v_edges0 x_edges0 ∧ Sta F0 ([] ++ R) H ∧ m_law_reached x_rows0 x_edges0 = some r ∧ ∀ (F1 : Hp) (H1 : Hp) (a_ret0p : Addr) (v_ret0p : List V), Same F0 F1 → Sta F1 ([(a_ret0p, HO.lst v_ret0p)] ++ R) H1 → LR (rInt F1) v_ret0p r → Q (V.ref a_ret0p) H1

theorem ok_law_reached (T : Txt K mg) : FnOk P w K mg base CX0 1 T.a_law_reached T.d_law_reached ["rows", "edges"] (sp_law_reached T) := by
  refine T.F_law_reached.ok sc_law_reached (fun vs H Q E h => ?_) (fun cdv A outer s H vs Q E hr h => ?_)
  · obtain ⟨_, _, _, _, _, _, _, _, _, rfl, _⟩ := h
    rfl
  · obtain ⟨F0, R, a_rows0, v_rows0, x_rows0, a_edges0, v_edges0, x_edges0, r, rfl, hs_rows0, hl_rows0, hs_edges0, hl_edges0, S0, hm, kk⟩ := h
    have hu := hu_of hr
    unfold m_law_reached at hm
    refine ⟨_, (pss_cons (ps_set (i := 2) sc_law_reached.nd rfl (Or.inr rfl) (pe_lc (own := [("row", 5)]) rfl sc_law_reached.nd (pi_list (pv 0)) (blkOk_by (own := [("row", 5)]) (N := ["rows", "edges", "flags", "edge", "k", "row"]) (sc := defScope s_law_reached) (by decide +kernel)) (fun _ _ _ _ _ => (pg_name (i := 5) sc_law_reached.nd rfl (Or.inl rfl))) (fun _ _ _ _ _ => pts_nil) (fun _ _ _ _ _ => pe_bl))) (pss_cons (ps_for PassesOwn.never rfl (pi_list (pv 1)) (pg_name (i := 3) sc_law_reached.nd rfl (Or.inl rfl)) (pss_one (ps_asg pe_bl (pg_sub (pv 2) (pe_op op_fdiv (pv 3) pe_int) set_list)))) (pss_cons (ps_for PassesOwn.never rfl (pi_range3 rfl T.z_range (pa_cons (pe_op op_sub (pe_callB call_len_seq (by rfl) T.z_len PySem.boot_len (pa_cons (pv 0) pa_nil)) pe_int) (pa_cons pe_int (pa_cons (pe_un un_neg pe_int) pa_nil)))) (pg_name (i := 4) sc_law_reached.nd rfl (Or.inl rfl)) (pss_one (ps_if (pt_pure (PW.pt (pw_and (pt_val (pe_ix ix_list (pv 2) (pv 4) (fun _ _ => rfl))) (pw_and1 (pt_cmpR oS_eq (pe_ix ix_tup (pe_ix ix_list (pv 0) (pv 4) (fun _ _ => rfl)) pe_int (fun _ _ => rfl)) pe_str (nomark _)))))) (pss_cons (ps_asg pe_bl (pg_sub (pv 2) (pe_op op_fdiv (pe_ix ix_tup (pe_ix ix_list (pv 0) (pv 4) (fun _ _ => rfl)) pe_int (fun _ _ => rfl)) pe_int) set_list)) (pss_one (ps_asg pe_bl (pg_sub (pv 2) (pe_op op_fdiv (pe_ix ix_tup (pe_ix ix_list (pv 0) (pv 4) (fun _ _ => rfl)) pe_int (fun _ _ => rfl)) pe_int) set_list)))) pss_nil))) (pss_one (ps_ret (pe_lc (own := [("k", 4)]) rfl sc_law_reached.nd (pi_range2 rfl T.z_range (pa_cons pe_int (pa_cons (pe_callB call_len_seq (by rfl) T.z_len PySem.boot_len (pa_cons (pv 0) pa_nil)) pa_nil))) (blkOk_by (own := [("k", 4)]) (N := ["rows", "edges", "flags", "edge", "k", "row"]) (sc := defScope s_law_reached) (by decide +kernel)) (fun _ _ _ _ _ => (pg_name (i := 4) sc_law_reached.nd rfl (Or.inl rfl))) (fun _ _ _ _ _ => (pts_one (pt_val (pe_ix (ix_listK K) (pv 2) (pv 4) (fun _ _ => rfl))))) (fun _ _ _ _ _ => (pv 4)))))))), ?_⟩
    refine seqI fun N1 hN2 => ?_
    revert hm; refine grdI fun g17 hm => ?_
    have e3 : lcO (fun x7 => some (some false)) x_rows0 = some (x_rows0.map fun x7 => false) := lc_map (fun x7 => false) x_rows0
    refine ⟨_, rfl, _, rfl, ⟨_, (SqL.mono hs_rows0 (S0.bor (Same.refl _) (fun _ q => (List.mem_append_right _ q))))⟩, fun a15 np16 => lc_list (K := K) (a := a_rows0) (xs := v_rows0) (fun i H2 => ∃ (F8 : Hp) (v9 : List V) (acc10 : List Bool) (r4 : List Bool), Same F0 F8 ∧ Sta F8 ([(a15, HO.lst v9)] ++ R) H2 ∧ LR (rBool F8) v9 acc10 ∧ acc10.length ≤ i ∧ lcO (fun x7 => some (some false)) (List.drop i x_rows0) = some r4 ∧ (x_rows0.map fun x7 => false) = acc10 ++ r4) ⟨F0, [], [], _, Same.refl _, S0.new np16 _, trivial, Nat.le_refl _, e3, rfl⟩ (by rintro i H2 _ ⟨F8, v9, acc10, r4, s11, S12, hl13, hn14, hr5, hy6⟩; exact (SqL.mono hs_rows0 (S12.bor s11 (fun _ q => (List.mem_append_right _ q))))) ?_ ?_⟩
    · rintro i v18 H2 hi ⟨F8, v9, acc10, r4, s11, S12, hl13, hn14, hr5, hy6⟩
      obtain ⟨x7, hx19, rx20⟩ := LR.getV hl_rows0 hi
      rw [drop_cons hx19] at hr5
      revert hr5; refine lcI fun y21 r22 hm hr24 hc25 => ?_
      obtain ⟨a26, rfl, h27⟩ := rx20
      refine ⟨rfl, ?_⟩
      refine tYesI ?_
      rw [if_pos rfl]
      obtain rfl := Option.some.inj hm
      have hlt : v9.length < 16777216 := by rw [LR.length hl13]; have := (List.getElem?_eq_some_iff.mp hx19).1; have := of_decide_eq_true g17; omega
      have S28 : Sta F8 ([(a15, HO.lst (v9 ++ [V.bl false]))] ++ R) _ := S12.set 0 rfl _
      exact ⟨_, (S12.get 0 rfl), hlt, F8, _, (acc10 ++ [false]), r22, s11, S28, LR.snoc hl13 rfl, by rw [List.length_append]; exact Nat.succ_le_succ hn14, hr24, by rw [List.append_assoc]; exact hy6.trans (congrArg (acc10 ++ ·) hc25)⟩
    rintro H2 ⟨F8, v9, acc10, r4, s11, S12, hl13, hn14, hr5, hy6⟩
    rw [LR.dropEnd hl_rows0] at hr5
    obtain rfl := Option.some.inj hr5
    rw [List.append_nil] at hy6
    subst hy6
    have S29 : Sta F8 ([(a15, HO.lst v9)] ++ R) _ := S12
    refine hN2 _ _ ?_
    refine seqI fun N30 hN31 => ?_
    revert hm; refine bndI fun y32 e33 hm34 => ?_
    refine ⟨_, rfl, _, rfl, ⟨_, (SqL.mono hs_edges0 (S29.bor s11 (fun _ q => (List.mem_append_right _ q))))⟩, for_list (K := K) (a := a_edges0) (xs := v_edges0) (fun i σ H2 => ∃ (st1 : (List Bool)) (F51 : Hp) (v55 : List V) (o54 : Option V), σ = [some (V.ref a_rows0), some (V.ref a_edges0), some (V.ref a15), o54, none, none] ∧ Same F8 F51 ∧ Sta F51 ([(a15, HO.lst v55)] ++ R) H2 ∧ LR (rBool F51) v55 st1 ∧ m_law_reached_l1 (List.drop i x_edges0) st1 = some y32) ⟨(x_rows0.map fun x7 => false), F8, v9, _, rfl, (Same.refl _), S29, hl13, e33⟩ (by rintro i σ H2 _ ⟨st1, F51, v55, o54, rfl, s52, S53, hl56, _⟩; exact (SqL.mono hs_edges0 (S53.bor (s11.trans s52) (fun _ q => (List.mem_append_right _ q))))) ?_ ?_⟩
    clear S12
    · rintro i v58 σ H2 hi ⟨st1, F51, v55, o54, rfl, s52, S53, hl56, hm⟩
      obtain ⟨x57, hx59, rx60⟩ := LR.getV hl_edges0 hi
      rw [drop_cons hx59, m_law_reached_l1] at hm
      obtain rfl := rInt_e rx60
      revert hm; refine bndI fun j61 e62 hm => ?_
      refine ⟨_, rfl, _, rfl, _, _, rfl, rfl, ⟨by decide, by decide⟩, _, _, _, _, rfl, rfl, (S53.get 0 rfl), (by rw [LR.length hl56]; exact e62), ?_⟩
      have hl63 : LR (rBool F51) (v55.set j61 (V.bl true)) (st1.set j61 true) := LR.set hl56 rfl
      have S64 : Sta F51 ([(a15, HO.lst (v55.set j61 (V.bl true)))] ++ R) _ := S53.set 0 rfl _
      exact ⟨(st1.set j61 true), F51, (v55.set j61 (V.bl true)), _, rfl, s52, S64, hl63, hm⟩
    · rintro σ H2 ⟨st1, F51, v55, o54, rfl, s52, S53, hl56, hm⟩
      rw [LR.dropEnd hl_edges0, m_law_reached_l1] at hm
      obtain rfl := Option.some.inj hm
      have hm := hm34
      refine hN31 _ _ ?_
      refine seqI fun N65 hN66 => ?_
      refine ⟨_, rfl, _, _, rfl, .inl (SqL.mono hs_rows0 (S53.bor (s11.trans s52) (fun _ q => (List.mem_append_right _ q)))), ?_⟩
      rw [LR.length (hl_rows0.mono (s11.trans s52))]
      revert hm; refine grdI fun g70 hm => ?_
      revert hm; refine bndI fun y67 e68 hm69 => ?_
      refine ⟨_, _, rfl, rfl, _, rfl, _, _, _, _, rfl, (rng2_neg g70), for_rngC (lo := ((x_rows0.length : Int) - (1 : Int))) (c := -1) (n := (((x_rows0.length : Int) - (1 : Int)) - (0 : Int)).toNat) (fun i σ H2 => ∃ (st2 : (List Bool)) (F87 : Hp) (v91 : List V) (o90 : Option V), σ = [some (V.ref a_rows0), some (V.ref a_edges0), some (V.ref a15), o54, o90, none] ∧ Same F51 F87 ∧ Sta F87 ([(a15, HO.lst v91)] ++ R) H2 ∧ LR (rBool F87) v91 st2 ∧ m_law_reached_l2 x_rows0 (List.drop i (pyRangeC ((x_rows0.length : Int) - (1 : Int)) (-1) (((x_rows0.length : Int) - (1 : Int)) - (0 : Int)).toNat)) st2 = some y67) ⟨st1, F51, v55, _, rfl, (Same.refl _), S53, hl56, e68⟩ ?_ ?_⟩
      · rintro i x93 σ H2 hi ⟨st2, F87, v91, o90, rfl, s88, S89, hl92, hm⟩
        rw [drop_cons hi, m_law_reached_l2] at hm
        revert hm; refine bndI fun b95 e96 hm => ?_
        refine ⟨b95, ?_, ?_⟩
        · clear hm
          have hm := e96
          clear e96
          revert hm; refine bndI fun y97 e98 hm => ?_
          obtain ⟨v99, ev100, rv101⟩ := LR.atI hl92 e98
          obtain rfl := rBool_e rv101
          refine ⟨_, rfl, _, rfl, _, _, _, _, rfl, rfl, (SqL.of (S89.get 0 rfl)), ev100, _, rfl, ?_⟩
          by_cases c102 : y97 = true
          · revert hm; refine ifTI c102 fun hm => ?_
            refine goT c102 ?_
            revert hm; refine bndI fun y103 e104 hm => ?_
            obtain ⟨v105, ev106, rv107⟩ := LR.atI hl_rows0 e104
            obtain ⟨a108, rfl, h109⟩ := rv107
            revert hm; refine bndI fun y110 e111 hm => ?_
            refine ⟨_, rfl, _, rfl, _, _, _, _, rfl, rfl, (SqL.mono hs_rows0 (S89.bor (s11.trans (s52.trans s88)) (fun _ q => (List.mem_append_right _ q)))), ev106, _, _, _, _, rfl, rfl, (SqT.of (S89.sub _ _ ((s11.trans (s52.trans s88)) _ _ h109))), (kStr_at e111), _, _, rfl, rfl, _, rfl, ?_⟩
            exact ⟨Option.some.inj hm, rfl⟩
          · revert hm; refine ifFI c102 fun hm => ?_
            exact goF c102 ⟨Option.some.inj hm, rfl⟩
        by_cases c112 : b95 = true
        · revert hm; refine ifTI c112 fun hm => ?_
          refine goT c112 ?_
          refine seqI fun N113 hN114 => ?_
          revert hm; refine bndI fun y115 e116 hm => ?_
          obtain ⟨v117, ev118, rv119⟩ := LR.atI hl_rows0 e116
          obtain ⟨a120, rfl, h121⟩ := rv119
          revert hm; refine bndI fun y122 e123 hm => ?_
          revert hm; refine bndI fun j124 e125 hm => ?_
          refine ⟨_, rfl, _, rfl, _, rfl, _, _, _, _, rfl, rfl, (SqL.mono hs_rows0 (S89.bor (s11.trans (s52.trans s88)) (fun _ q => (List.mem_append_right _ q)))), ev118, _, _, _, _, rfl, rfl, (SqT.of (S89.sub _ _ ((s11.trans (s52.trans s88)) _ _ h121))), (kInt_at e123), _, _, rfl, rfl, ⟨by decide, by decide⟩, _, _, _, _, rfl, rfl, (S89.get 0 rfl), (by rw [LR.length hl92]; exact e125), ?_⟩
          have hl126 : LR (rBool F87) (v91.set j124 (V.bl true)) (st2.set j124 true) := LR.set hl92 rfl
          have S127 : Sta F87 ([(a15, HO.lst (v91.set j124 (V.bl true)))] ++ R) _ := S89.set 0 rfl _
          refine hN114 _ _ ?_
          revert hm; refine bndI fun y128 e129 hm => ?_
          obtain ⟨v130, ev131, rv132⟩ := LR.atI hl_rows0 e129
          obtain ⟨a133, rfl, h134⟩ := rv132
          revert hm; refine bndI fun y135 e136 hm => ?_
          revert hm; refine bndI fun j137 e138 hm => ?_
          refine ⟨_, rfl, _, rfl, _, rfl, _, _, _, _, rfl, rfl, (SqL.mono hs_rows0 (S127.bor (s11.trans (s52.trans s88)) (fun _ q => (List.mem_append_right _ q)))), ev131, _, _, _, _, rfl, rfl, (SqT.of (S127.sub _ _ ((s11.trans (s52.trans s88)) _ _ h134))), (kInt_at e136), _, _, rfl, rfl, ⟨by decide, by decide⟩, _, _, _, _, rfl, rfl, (S127.get 0 rfl), (by rw [LR.length hl126]; exact e138), ?_⟩
          clear S89
          have hl139 : LR (rBool F87) ((v91.set j124 (V.bl true)).set j137 (V.bl true)) ((st2.set j124 true).set j137 true) := LR.set hl126 rfl
          have S140 : Sta F87 ([(a15, HO.lst ((v91.set j124 (V.bl true)).set j137 (V.bl true)))] ++ R) _ := S127.set 0 rfl _
          exact ⟨((st2.set j124 true).set j137 true), F87, ((v91.set j124 (V.bl true)).set j137 (V.bl true)), _, rfl, s88, S140, hl139, hm⟩
        · revert hm; refine ifFI c112 fun hm => ?_
          refine goF c112 ?_
          exact ⟨st2, F87, v91, _, rfl, s88, S89, hl92, hm⟩
      · rintro σ H2 ⟨st2, F87, v91, o90, rfl, s88, S89, hl92, hm⟩
        rw [drop_rngC, m_law_reached_l2] at hm
        obtain rfl := Option.some.inj hm
        have hm := hm69
        refine hN66 _ _ ?_
        refine ⟨_, rfl, _, _, rfl, .inl (SqL.mono hs_rows0 (S89.bor (s11.trans (s52.trans s88)) (fun _ q => (List.mem_append_right _ q)))), ?_⟩
        rw [LR.length (hl_rows0.mono (s11.trans (s52.trans s88)))]
        revert hm; refine grdI fun g141 hm => ?_
        revert hm; refine grdI fun g156 hm => ?_
        revert hm; refine bndI fun y172 e142 hm => ?_
        refine ⟨_, _, rfl, (rng2Ok_ok g141), fun a154 np155 => lc_rng (lo := (1 : Int)) (n := ((x_rows0.length : Int) - (1 : Int)).toNat) (fun i H2 => ∃ (F147 : Hp) (v148 : List V) (acc149 : List Int) (r143 : List Int), Same F87 F147 ∧ Sta F147 ([(a154, HO.lst v148), (a15, HO.lst v91)] ++ R) H2 ∧ LR (rInt F147) v148 acc149 ∧ acc149.length ≤ i ∧ lcO (fun x146 => (atI st2 x146).bind fun y165 =>
      if y165 = true then (some (some x146)) else some none) (List.drop i (pyRange (1 : Int) ((x_rows0.length : Int) - (1 : Int)).toNat)) = some r143 ∧ y172 = acc149 ++ r143) ⟨F87, [], [], _, Same.refl _, S89.new np155 _, trivial, Nat.le_refl _, e142, rfl⟩ ?_ ?_⟩
        · rintro i x146 H2 hi ⟨F147, v148, acc149, r143, s150, S151, hl152, hn153, hr144, hy145⟩
          have hx158 := hi
          rw [drop_cons hx158] at hr144
          revert hr144; refine lcI fun y160 r161 hm hr163 hc164 => ?_
          refine ⟨rfl, ?_⟩
          revert hm; refine bndI fun y165 e166 hm => ?_
          obtain ⟨v167, ev168, rv169⟩ := LR.atI hl92 e166
          obtain rfl := rBool_e rv169
          refine ⟨_, rfl, _, rfl, _, _, _, _, rfl, rfl, (SqL.of (S151.get 1 rfl)), ev168, _, rfl, ?_⟩
          by_cases c170 : y165 = true
          · revert hm; refine ifTI c170 fun hm => ?_
            refine goT c170 ?_
            refine ⟨_, rfl, ?_⟩
            obtain rfl := Option.some.inj hm
            have hlt : v148.length < 16777216 := by rw [LR.length hl152]; have := (List.getElem?_eq_some_iff.mp hx158).1; have := of_decide_eq_true g156; omega
            have S171 : Sta F147 ([(a154, HO.lst (v148 ++ [V.int x146])), (a15, HO.lst v91)] ++ R) _ := S151.set 0 rfl _
            exact ⟨_, (S151.get 0 rfl), hlt, F147, _, (acc149 ++ [x146]), r161, s150, S171, LR.snoc hl152 rfl, by rw [List.length_append]; exact Nat.succ_le_succ hn153, hr163, by rw [List.append_assoc]; exact hy145.trans (congrArg (acc149 ++ ·) hc164)⟩
          · revert hm; refine ifFI c170 fun hm => ?_
            refine goF c170 ?_
            obtain rfl := Option.some.inj hm
            exact ⟨F147, _, acc149, r161, s150, S151, hl152, Nat.le_succ_of_le hn153, hr163, hy145.trans (congrArg (acc149 ++ ·) hc164)⟩
        rintro H2 ⟨F147, v148, acc149, r143, s150, S151, hl152, hn153, hr144, hy145⟩
        rw [drop_rng] at hr144
        obtain rfl := Option.some.inj hr144
        rw [List.append_nil] at hy145
        subst hy145
        have S173 : Sta F147 ([(a154, HO.lst v148), (a15, HO.lst v91)] ++ R) _ := S151
        obtain rfl := Option.some.inj hm
        have S174 : Sta F147 ([(a154, HO.lst v148)] ++ R) _ := S173.pick [0] (by decide) rfl
        exact kk _ _ a154 v148 (s11.trans (s52.trans (s88.trans s150))) S174 hl152

def sp_law_misfit (T : Txt K mg) : Sp := fun vs H Q _ => ∃ (F0 : Hp) (R : Own) (a_rows0 : Addr) (v_rows0 : List V) (x_rows0 : (List (List Key))) (a_order0 : Addr) (v_order0 : List V) (x_order0 : (List (Int × Str))) (x_side0 : Str) (a_table0 : Addr) (v_table0 : List (Key × V)) (x_table0 : (List (Int × Int))) (r : (Option Int)),
  vs = [V.ref a_rows0, V.ref a_order0, V.str x_side0, V.ref a_table0] ∧ SqL K (ov F0 R) a_rows0 v_rows0 ∧ LR (rKT F0) v_rows0 x_rows0 ∧ SqL K (ov F0 R) a_order0 v_order0 ∧ LR ((rT2 K rInt rStr) F0) v_order0 x_order0 ∧ KR Sum.inl (rInt F0) v_table0 x_table0 ∧ Sta F0 ([(a_table0, HO.dK v_table0)] ++ R) H ∧ m_law_misfit x_rows0 x_order0 x_side0 x_table0 = some r ∧ ∀ (F1 : Hp) (H1 : Hp) (v_ret0p : V), Same F0 F1 → Sta F1 ([(a_table0, HO.dK v_table0)] ++ R) H1 → (rOpt rInt) F1 v_ret0p r → Q (v_ret0p) H1

theorem ok_law_misfit (T : Txt K mg) : FnOk P w K mg base CX0 2 T.a_law_misfit T.d_law_misfit ["rows", "order", "side", "table"] (sp_law_misfit T) := by
  refine T.F_law_misfit.ok sc_law_misfit (fun vs H Q E h => ?_) (fun cdv A outer s H vs Q E hr h => ?_)
  · obtain ⟨_, _, _, _, _, _, _, _, _, _, _, _, _, rfl, _⟩ := h
    rfl
  · obtain ⟨F0, R, a_rows0, v_rows0, x_rows0, a_order0, v_order0, x_order0, x_side0, a_table0, v_table0, x_table0, r, rfl, hs_rows0, hl_rows0, hs_order0, hl_order0, hl_table0, S0, hm, kk⟩ := h
    have hu := hu_of hr
    unfold m_law_misfit at hm
    refine ⟨_, (pss_cons (ps_set (i := 4) sc_law_misfit.nd rfl (Or.inl rfl) (pe_lst pa_nil)) (pss_cons (ps_set (i := 5) sc_law_misfit.nd rfl (Or.inl rfl) (pe_lst pa_nil)) (pss_cons (ps_for PassesOwn.never rfl (pi_list (pv 1)) (pg_tup rfl (pgs_cons (pg_name (i := 6) sc_law_misfit.nd rfl (Or.inl rfl)) (pgs_cons (pg_name (i := 7) sc_law_misfit.nd rfl (Or.inl rfl)) pgs_nil))) (pss_one (ps_if (pt_cmpR oS_ne (pv 7) (pv 2) (nomark _)) (pss_one (ps_expr (pe_bm PySem.F.plainAttrs_list PySem.F.slot_list_append PySem.F.type_list_append mt_append (pv 4) (pa_cons (pv 6) pa_nil)))) (pss_cons (ps_expr (pe_bm PySem.F.plainAttrs_list PySem.F.slot_list_append PySem.F.type_list_append mt_append (pv 5) (pa_cons (pv 6) pa_nil))) (pss_cons (ps_if (pt_cmp (pc_dnotin hu (pv 6) (pv 3))) (pss_one (ps_ret (pv 6))) pss_nil) (pss_one (ps_for PassesOwn.never rfl (pi_list (pe_call (ok_law_reached T) (hr.mono (by decide)) rfl T.g_law_reached T.F_law_reached.kp T.b_law_reached .nil pass0 (pa_cons (pv 0) (pa_cons (pe_lst (pa_cons (pe_dget hu (pv 3) (pv 6) (fun _ _ => rfl)) pa_nil)) pa_nil)))) (pg_name (i := 8) sc_law_misfit.nd rfl (Or.inl rfl)) (pss_one (ps_if (pt_pure (PW.pt (pw_and (pt_cmpR oS_eq (pe_ix ix_tup (pe_ix ix_list (pv 0) (pv 8) (fun _ _ => rfl)) pe_int (fun _ _ => rfl)) pe_str (nomark _)) (pw_and1 (pt_cmpR (op_notIn_seq) (pe_ix ix_tup (pe_ix ix_list (pv 0) (pv 8) (fun _ _ => rfl)) pe_int (fun _ _ => rfl)) (pv 4) (by rfl)))))) (pss_one (ps_ret (pv 6))) pss_nil))))))))) (pss_cons (ps_for PassesOwn.never rfl (pi_list (pe_callB cr_sortedI (by rfl) T.z_sorted (by decide +kernel) (pa_cons (pe_lock (pe_lc (own := [("key", 9)]) rfl sc_law_misfit.nd (pi_keys (pv 3)) (blkOk_by (own := [("key", 9)]) (N := ["rows", "order", "side", "table", "ahead", "own", "letter", "owner", "k", "key"]) (sc := defScope s_law_misfit) (by decide +kernel)) (fun _ _ _ _ _ => (pg_name (i := 9) sc_law_misfit.nd rfl (Or.inl rfl))) (fun _ _ _ _ _ => pts_nil) (fun _ _ _ _ _ => (pv 9)))) pa_nil))) (pg_name (i := 6) sc_law_misfit.nd rfl (Or.inl rfl)) (pss_one (ps_if (pt_cmpR (op_notIn_seq) (pv 6) (pv 5) (by rfl)) (pss_one (ps_ret (pv 6))) pss_nil))) (pss_one (ps_ret pe_non)))))), ?_⟩
    refine seqI fun N1 hN2 => ?_
    refine ⟨(by show 0 ≤ sizeLine; decide), ?_⟩
    intro a3 np4
    have hl5 : LR (rInt F0) [] ([] : (List Int)) := trivial
    have S6 : Sta F0 ([(a3, HO.lst []), (a_table0, HO.dK v_table0)] ++ R) _ := S0.new np4 _
    refine hN2 _ _ ?_
    refine seqI fun N7 hN8 => ?_
    refine ⟨(by show 0 ≤ sizeLine; decide), ?_⟩
    clear S0
    intro a9 np10
    have hl11 : LR (rInt F0) [] ([] : (List Int)) := trivial
    have S12 : Sta F0 ([(a9, HO.lst []), (a3, HO.lst []), (a_table0, HO.dK v_table0)] ++ R) _ := S6.new np10 _
    refine hN8 _ _ ?_
    refine seqI fun N13 hN14 => ?_
    revert hm; refine bndI fun y15 e16 hm17 => ?_
    refine ⟨_, rfl, _, rfl, ⟨_, (SqL.mono hs_order0 (S12.bor (Same.refl _) (fun _ q => (List.mem_append_right _ q))))⟩, for_list (K := K) (a := a_order0) (xs := v_order0) (fun i σ H2 => ∃ (st1 : ((List Int) × (List Int))) (F44 : Hp) (v50 : List V) (v52 : List V) (o47 : Option V) (o48 : Option V) (o49 : Option V), σ = [some (V.ref a_rows0), some (V.ref a_order0), some (V.str x_side0), some (V.ref a_table0), some (V.ref a3), some (V.ref a9), o47, o48, o49, none] ∧ Same F0 F44 ∧ Sta F44 ([(a9, HO.lst v50), (a3, HO.lst v52), (a_table0, HO.dK v_table0)] ++ R) H2 ∧ LR (rInt F44) v50 st1.1 ∧ LR (rInt F44) v52 st1.2 ∧ m_law_misfit_l1 x_rows0 x_side0 x_table0 (List.drop i x_order0) st1 = some y15) ⟨(([] : (List Int)), ([] : (List Int))), F0, [], [], _, _, _, rfl, (Same.refl _), S12, hl11, hl5, e16⟩ (by rintro i σ H2 _ ⟨st1, F44, v50, v52, o47, o48, o49, rfl, s45, S46, hl51, hl53, _⟩; exact (SqL.mono hs_order0 (S46.bor s45 (fun _ q => (List.mem_append_right _ q))))) ?_ ?_⟩
    clear S6
    · rintro i v55 σ H2 hi ⟨st1, F44, v50, v52, o47, o48, o49, rfl, s45, S46, hl51, hl53, hm⟩
      obtain ⟨x54, hx56, rx57⟩ := LR.getV hl_order0 hi
      rw [drop_cons hx56, m_law_misfit_l1] at hm
      obtain ⟨a58, u60, u61, rfl, hs59, p62, p63⟩ := rx57
      obtain rfl := rInt_e p62
      obtain rfl := rStr_e p63
      refine ⟨_, _, rfl, (SqT.mono hs59 (s45.trans S46.sub)), rfl, _, _, rfl, _, _, rfl, rfl, ?_⟩
      refine ⟨_, rfl, _, rfl, _, _, rfl, rfl, _, rfl, ?_⟩
      by_cases c64 : (!decide (x54.2 = x_side0)) = true
      · revert hm; refine ifTI c64 fun hm => ?_
        refine goT c64 ?_
        revert hm; refine grdI fun g65 hm => ?_
        refine ⟨_, rfl, .inl ⟨rfl, _, (SqL.of (S46.get 1 rfl))⟩, _, rfl, _, _, _, rfl, rfl, (S46.get 1 rfl), (by rw [LR.length hl53]; exact of_decide_eq_true g65), ?_⟩
        have hl66 : LR (rInt F44) (v52 ++ [V.int x54.1]) (st1.2 ++ [x54.1]) := LR.snoc hl53 rfl
        have S67 : Sta F44 ([(a9, HO.lst v50), (a3, HO.lst (v52 ++ [V.int x54.1])), (a_table0, HO.dK v_table0)] ++ R) _ := S46.set 1 rfl _
        exact ⟨(st1.1, (st1.2 ++ [x54.1])), F44, v50, (v52 ++ [V.int x54.1]), _, _, _, rfl, s45, S67, hl51, hl66, hm⟩
      · revert hm; refine ifFI c64 fun hm => ?_
        refine goF c64 ?_
        refine seqI fun N68 hN69 => ?_
        revert hm; refine grdI fun g70 hm => ?_
        refine ⟨_, rfl, .inl ⟨rfl, _, (SqL.of (S46.get 0 rfl))⟩, _, rfl, _, _, _, rfl, rfl, (S46.get 0 rfl), (by rw [LR.length hl51]; exact of_decide_eq_true g70), ?_⟩
        have hl71 : LR (rInt F44) (v50 ++ [V.int x54.1]) (st1.1 ++ [x54.1]) := LR.snoc hl51 rfl
        have S72 : Sta F44 ([(a9, HO.lst (v50 ++ [V.int x54.1])), (a3, HO.lst v52), (a_table0, HO.dK v_table0)] ++ R) _ := S46.set 0 rfl _
        refine hN69 _ _ ?_
        refine seqI fun N73 hN74 => ?_
        refine ⟨_, rfl, _, rfl, _, _, rfl, (DGet.k (k := Sum.inl x54.1) (S72.get 2 rfl)), ?_⟩
        clear S46
        rw [show _ = (!(mget x_table0 x54.1).isSome) from (congrArg (!·) (KR.some_eq (KR.mono hl_table0 s45) (kinj_int) x54.1))]
        refine ⟨_, rfl, ?_⟩
        by_cases c75 : (!(mget x_table0 x54.1).isSome) = true
        · revert hm; refine ifTI c75 fun hm => ?_
          refine goT c75 ?_
          refine ⟨_, rfl, ?_⟩
          obtain rfl := Option.some.inj hm
          have hm := hm17
          obtain rfl := Option.some.inj hm
          have S76 : Sta F44 ([(a_table0, HO.dK v_table0)] ++ R) _ := S72.pick [2] (by decide) rfl
          exact kk _ _ (V.int x54.1) s45 S76 (rOpt_some rfl)
        · revert hm; refine ifFI c75 fun hm => ?_
          refine goF c75 ?_
          refine hN74 _ _ ?_
          revert hm; refine bndI fun y80 e81 hm => ?_
          obtain ⟨v82, ev83, rv84⟩ := KR.get hl_table0 kinj_int e81
          obtain rfl := rInt_e rv84
          refine ⟨_, rfl, _, rfl, _, rfl, _, _, rfl, (dget_of (DGet.k (k := Sum.inl x54.1) (S72.get 2 rfl)) ev83), (by show 1 ≤ sizeLine; decide), ?_⟩
          intro a85 np86
          have hl87 : LR (rInt F44) [V.int y80] ([y80] : (List Int)) := ⟨rfl, trivial⟩
          have S88 : Sta F44 ([(a85, HO.lst [V.int y80]), (a9, HO.lst (v50 ++ [V.int x54.1])), (a3, HO.lst v52), (a_table0, HO.dK v_table0)] ++ R) _ := S72.new np86 _
          revert hm; refine bndI fun y89 e90 hm => ?_
          refine ⟨F44, ([(a85, HO.lst [V.int y80]), (a9, HO.lst (v50 ++ [V.int x54.1])), (a3, HO.lst v52), (a_table0, HO.dK v_table0)] ++ R), a_rows0, v_rows0, x_rows0, a85, [V.int y80], ([y80] : (List Int)), y89, rfl, (SqL.mono hs_rows0 (S88.ovR s45 (fun _ q => (List.mem_append_right _ q)))), (hl_rows0.mono s45), (SqL.of (S88.getO 0 rfl)), hl87, S88, (by exact e90), fun F91 H92 a95 v96 s93 S94 hl97 => ?_⟩
          clear S72
          have S98 : Sta F91 ([(a95, HO.lst v96), (a85, HO.lst [V.int y80]), (a9, HO.lst (v50 ++ [V.int x54.1])), (a3, HO.lst v52), (a_table0, HO.dK v_table0)] ++ R) _ := S94
          revert hm; refine bndI fun y77 e78 hm79 => ?_
          refine ⟨_, rfl, ⟨_, (SqL.of (S98.get 0 rfl))⟩, for_list (K := K) (a := a95) (xs := v96) (fun i σ H2 => ∃ (st2 : Unit) (F111 : Hp) (o114 : Option V), σ = [some (V.ref a_rows0), some (V.ref a_order0), some (V.str x_side0), some (V.ref a_table0), some (V.ref a3), some (V.ref a9), some (V.int x54.1), some (V.str x54.2), o114, none] ∧ Same F91 F111 ∧ Sta F111 ([(a95, HO.lst v96), (a85, HO.lst [V.int y80]), (a9, HO.lst (v50 ++ [V.int x54.1])), (a3, HO.lst v52), (a_table0, HO.dK v_table0)] ++ R) H2 ∧ m_law_misfit_l2 x_rows0 x54 st1 (List.drop i y89) st2 = some y77) ⟨(), F91, _, rfl, (Same.refl _), S98, e78⟩ (by rintro i σ H2 _ ⟨st2, F111, o114, rfl, s112, S113, _⟩; exact (SqL.of (S113.get 0 rfl))) ?_ ?_⟩
          clear S94
          · rintro i v116 σ H2 hi ⟨st2, F111, o114, rfl, s112, S113, hm⟩
            obtain ⟨x115, hx117, rx118⟩ := LR.getV hl97 hi
            rw [drop_cons hx117, m_law_misfit_l2] at hm
            obtain rfl := rInt_e rx118
            revert hm; refine bndI fun b119 e120 hm => ?_
            refine ⟨b119, ?_, ?_⟩
            · clear hm
              have hm := e120
              clear e120
              revert hm; refine bndI fun y121 e122 hm => ?_
              obtain ⟨v123, ev124, rv125⟩ := LR.atI hl_rows0 e122
              obtain ⟨a126, rfl, h127⟩ := rv125
              revert hm; refine bndI fun y128 e129 hm => ?_
              refine ⟨_, rfl, _, rfl, _, _, _, _, rfl, rfl, (SqL.mono hs_rows0 (S113.bor (s45.trans (s93.trans s112)) (fun _ q => (List.mem_append_right _ q)))), ev124, _, _, _, _, rfl, rfl, (SqT.of (S113.sub _ _ ((s45.trans (s93.trans s112)) _ _ h127))), (kStr_at e129), _, _, rfl, rfl, _, rfl, ?_⟩
              by_cases c130 : (decide (y128 = ("letter" : Str))) = true
              · revert hm; refine ifTI c130 fun hm => ?_
                refine goT c130 ?_
                revert hm; refine bndI fun y131 e132 hm => ?_
                obtain ⟨v133, ev134, rv135⟩ := LR.atI hl_rows0 e132
                obtain ⟨a136, rfl, h137⟩ := rv135
                revert hm; refine bndI fun y138 e139 hm => ?_
                refine ⟨_, rfl, _, rfl, _, _, _, _, rfl, rfl, (SqL.mono hs_rows0 (S113.bor (s45.trans (s93.trans s112)) (fun _ q => (List.mem_append_right _ q)))), ev134, _, _, _, _, rfl, rfl, (SqT.of (S113.sub _ _ ((s45.trans (s93.trans s112)) _ _ h137))), (kInt_at e139), _, rfl, _, _, rfl, (.inl (SqL.of (S113.get 3 rfl))), rfl, (ints_in y138 (hl53.mono (s93.trans s112))).2, ?_⟩
                rw [show _ = (!decide (y138 ∈ st1.2)) from (congrArg (!·) (ints_in y138 (hl53.mono (s93.trans s112))).1)]
                refine ⟨_, rfl, ?_⟩
                exact ⟨Option.some.inj hm, rfl⟩
              · revert hm; refine ifFI c130 fun hm => ?_
                exact goF c130 ⟨Option.some.inj hm, rfl⟩
            by_cases c140 : b119 = true
            · revert hm; refine ifTI c140 fun hm => ?_
              refine goT c140 ?_
              refine ⟨_, rfl, ?_⟩
              obtain rfl := Option.some.inj hm
              have hm := hm79
              obtain rfl := Option.some.inj hm
              have hm := hm17
              obtain rfl := Option.some.inj hm
              have S141 : Sta F111 ([(a_table0, HO.dK v_table0)] ++ R) _ := S113.pick [4] (by decide) rfl
              exact kk _ _ (V.int x54.1) (s45.trans (s93.trans s112)) S141 (rOpt_some rfl)
            · revert hm; refine ifFI c140 fun hm => ?_
              refine goF c140 ?_
              exact ⟨(), F111, _, rfl, s112, S113, hm⟩
          · rintro σ H2 ⟨st2, F111, o114, rfl, s112, S113, hm⟩
            rw [LR.dropEnd hl97, m_law_misfit_l2] at hm
            obtain rfl := Option.some.inj hm
            have hm := hm79
            have S142 : Sta F111 ([(a9, HO.lst (v50 ++ [V.int x54.1])), (a3, HO.lst v52), (a_table0, HO.dK v_table0)] ++ R) _ := S113.pick [2, 3, 4] (by decide) rfl
            exact ⟨((st1.1 ++ [x54.1]), st1.2), F111, (v50 ++ [V.int x54.1]), v52, _, _, _, rfl, (s45.trans (s93.trans s112)), S142, (hl71.mono (s93.trans s112)), (hl53.mono (s93.trans s112)), hm⟩
    · rintro σ H2 ⟨st1, F44, v50, v52, o47, o48, o49, rfl, s45, S46, hl51, hl53, hm⟩
      rw [LR.dropEnd hl_order0, m_law_misfit_l1] at hm
      obtain rfl := Option.some.inj hm
      have hm := hm17
      refine hN14 _ _ ?_
      refine seqI fun N143 hN144 => ?_
      refine ⟨_, _, (S46.get 2 rfl), trivial, fun od148 => ?_⟩
      have S149 : Sta F44 ([(a9, HO.lst v50), (a3, HO.lst v52), (a_table0, HO.frz od148 (HO.dK v_table0))] ++ R) _ := S46.set 2 rfl _
      revert hm; refine grdI fun g164 hm => ?_
      have e150 : lcO (fun x154 => some (some x154)) (x_table0.map fun (q : Int × Int) => q.1) = some ((x_table0.map fun (q : Int × Int) => q.1).map fun x154 => x154) := lc_map (fun x154 => x154) (x_table0.map fun (q : Int × Int) => q.1)
      refine ⟨_, rfl, _, _, rfl, .inl ⟨_, (S149.get 2 rfl), fun a162 np163 => lc_keys (kvs := v_table0) (fun i H2 => ∃ (F155 : Hp) (v156 : List V) (acc157 : List Int) (r151 : List Int), Same F44 F155 ∧ Sta F155 ([(a162, HO.lst v156), (a9, HO.lst v50), (a3, HO.lst v52), (a_table0, HO.frz od148 (HO.dK v_table0))] ++ R) H2 ∧ LR (rInt F155) v156 acc157 ∧ acc157.length ≤ i ∧ lcO (fun x154 => some (some x154)) (List.drop i (x_table0.map fun (q : Int × Int) => q.1)) = some r151 ∧ ((x_table0.map fun (q : Int × Int) => q.1).map fun x154 => x154) = acc157 ++ r151) ⟨F44, [], [], _, Same.refl _, S149.new np163 _, trivial, Nat.le_refl _, e150, rfl⟩ (by rintro i H2 _ ⟨F155, v156, acc157, r151, s158, S159, hl160, hn161, hr152, hy153⟩; exact S159.get 3 rfl) ?_ ?_⟩⟩
      clear S46
      · rintro i v165 H2 hi ⟨F155, v156, acc157, r151, s158, S159, hl160, hn161, hr152, hy153⟩
        obtain ⟨x154, hx166, rx167⟩ := LR.getV (KR.keysLI (F := F44) (KR.mono hl_table0 s45)) hi
        rw [drop_cons hx166] at hr152
        revert hr152; refine lcI fun y168 r169 hm hr171 hc172 => ?_
        obtain rfl := rInt_e rx167
        refine ⟨rfl, ?_⟩
        refine tYesI ?_
        rw [if_pos rfl]
        refine ⟨_, rfl, ?_⟩
        obtain rfl := Option.some.inj hm
        have hlt : v156.length < 16777216 := by rw [LR.length hl160]; have := (List.getElem?_eq_some_iff.mp hx166).1; have := of_decide_eq_true g164; omega
        have S173 : Sta F155 ([(a162, HO.lst (v156 ++ [V.int x154])), (a9, HO.lst v50), (a3, HO.lst v52), (a_table0, HO.frz od148 (HO.dK v_table0))] ++ R) _ := S159.set 0 rfl _
        exact ⟨_, (S159.get 0 rfl), hlt, F155, _, (acc157 ++ [x154]), r169, s158, S173, LR.snoc hl160 rfl, by rw [List.length_append]; exact Nat.succ_le_succ hn161, hr171, by rw [List.append_assoc]; exact hy153.trans (congrArg (acc157 ++ ·) hc172)⟩
      rintro H2 ⟨F155, v156, acc157, r151, s158, S159, hl160, hn161, hr152, hy153⟩
      rw [LR.dropEnd (KR.keysLI (F := F44) (KR.mono hl_table0 s45))] at hr152
      obtain rfl := Option.some.inj hr152
      rw [List.append_nil] at hy153
      subst hy153
      have S174 : Sta F155 ([(a162, HO.lst v156), (a9, HO.lst v50), (a3, HO.lst v52), (a_table0, HO.frz od148 (HO.dK v_table0))] ++ R) _ := S159
      refine ⟨(S174.get 3 rfl), ?_⟩
      have S175 : Sta F155 ([(a162, HO.lst v156), (a9, HO.lst v50), (a3, HO.lst v52), (a_table0, HO.dK v_table0)] ++ R) _ := S174.set 3 rfl _
      refine ⟨_, ((x_table0.map fun (q : Int × Int) => q.1).map fun x154 => x154), rfl, (by rw [← lr_map hl160]; exact (SqL.of (S175.get 0 rfl))), ?_⟩
      clear S159 S174
      intro ys176 a177 pm178 pw179 np180
      obtain rfl := sortI_eq pm178 pw179
      have hl181 : LR (rInt F155) ((sortI ((x_table0.map fun (q : Int × Int) => q.1).map fun x154 => x154)).map V.int) (sortI ((x_table0.map fun (q : Int × Int) => q.1).map fun x154 => x154)) := lr_ints _
      have S182 : Sta F155 ([(a177, HO.lst ((sortI ((x_table0.map fun (q : Int × Int) => q.1).map fun x154 => x154)).map V.int)), (a162, HO.lst v156), (a9, HO.lst v50), (a3, HO.lst v52), (a_table0, HO.dK v_table0)] ++ R) _ := S175.new np180 _
      revert hm; refine bndI fun y145 e146 hm147 => ?_
      refine ⟨_, rfl, ⟨_, (SqL.of (S182.get 0 rfl))⟩, for_list (K := K) (a := a177) (xs := ((sortI ((x_table0.map fun (q : Int × Int) => q.1).map fun x154 => x154)).map V.int)) (fun i σ H2 => ∃ (st3 : Unit) (F195 : Hp) (o198 : Option V), σ = [some (V.ref a_rows0), some (V.ref a_order0), some (V.str x_side0), some (V.ref a_table0), some (V.ref a3), some (V.ref a9), o198, o48, o49, none] ∧ Same F155 F195 ∧ Sta F195 ([(a177, HO.lst ((sortI ((x_table0.map fun (q : Int × Int) => q.1).map fun x154 => x154)).map V.int)), (a162, HO.lst v156), (a9, HO.lst v50), (a3, HO.lst v52), (a_table0, HO.dK v_table0)] ++ R) H2 ∧ m_law_misfit_l3 st1 (List.drop i (sortI ((x_table0.map fun (q : Int × Int) => q.1).map fun x154 => x154))) st3 = some y145) ⟨(), F155, _, rfl, (Same.refl _), S182, e146⟩ (by rintro i σ H2 _ ⟨st3, F195, o198, rfl, s196, S197, _⟩; exact (SqL.of (S197.get 0 rfl))) ?_ ?_⟩
      clear S175
      · rintro i v200 σ H2 hi ⟨st3, F195, o198, rfl, s196, S197, hm⟩
        obtain ⟨x199, hx201, rx202⟩ := LR.getV hl181 hi
        rw [drop_cons hx201, m_law_misfit_l3] at hm
        obtain rfl := rInt_e rx202
        refine ⟨_, rfl, _, rfl, _, _, rfl, (.inl (SqL.of (S197.get 2 rfl))), rfl, (ints_in x199 (hl51.mono (s158.trans s196))).2, ?_⟩
        rw [show _ = (!decide (x199 ∈ st1.1)) from (congrArg (!·) (ints_in x199 (hl51.mono (s158.trans s196))).1)]
        refine ⟨_, rfl, ?_⟩
        by_cases c203 : (!decide (x199 ∈ st1.1)) = true
        · revert hm; refine ifTI c203 fun hm => ?_
          refine goT c203 ?_
          refine ⟨_, rfl, ?_⟩
          obtain rfl := Option.some.inj hm
          have hm := hm147
          obtain rfl := Option.some.inj hm
          have S204 : Sta F195 ([(a_table0, HO.dK v_table0)] ++ R) _ := S197.pick [4] (by decide) rfl
          exact kk _ _ (V.int x199) (s45.trans (s158.trans s196)) S204 (rOpt_some rfl)
        · revert hm; refine ifFI c203 fun hm => ?_
          refine goF c203 ?_
          exact ⟨(), F195, _, rfl, s196, S197, hm⟩
      · rintro σ H2 ⟨st3, F195, o198, rfl, s196, S197, hm⟩
        rw [LR.dropEnd hl181, m_law_misfit_l3] at hm
        obtain rfl := Option.some.inj hm
        have hm := hm147
        refine hN144 _ _ ?_
        obtain rfl := Option.some.inj hm
        have S205 : Sta F195 ([(a_table0, HO.dK v_table0)] ++ R) _ := S197.pick [4] (by decide) rfl
        exact kk _ _ V.non (s45.trans (s158.trans s196)) S205 rfl

def sp_Gates_gate_rows (T : Txt K mg) : Sp := fun vs H Q _ => ∃ (F0 : Hp) (R : Own) (a_self0 : Addr) (dx_self0 : Addr) (x_self0 : M_Gates) (a_self0_rows0 : Addr) (v_self0_rows0 : List V) (a_self0_known0 : Addr) (v_self0_known0 : List (List Key × V)) (a_edges0 : Addr) (v_edges0 : List V) (x_edges0 : (List Int)) (r : (List Int)),
  vs = [V.ref a_self0, V.ref a_edges0] ∧ (ov F0 R) a_self0 = some (HO.ins T.a_Gates dx_self0 (fl_Gates (V.ref a_self0_rows0) (V.ref a_self0_known0))) ∧ (ov F0 R) a_self0_rows0 = some (HO.lst v_self0_rows0) ∧ LR (rKT F0) v_self0_rows0 x_self0.rows ∧ (ov F0 R) a_self0_known0 = some (HO.dT v_self0_known0) ∧ KR id (rInt F0) v_self0_known0 x_self0.known ∧ SqL K (ov F0 R) a_edges0 v_edges0 ∧ LR (rInt F0) v_edges0 x_edges0 ∧ Sta F0 ([] ++ R) H ∧ m_Gates_gate_rows x_self0 x_edges0 = some r ∧ ∀ (F1 : Hp) (H1 : Hp) (a_ret0p : Addr) (v_ret0p : List V), Same F0 F1 → Sta F1 ([(a_ret0p, HO.lst v_ret0p)] ++ R) H1 → LR (rInt F1) v_ret0p r → Q (V.ref a_ret0p) H1

theorem ok_Gates_gate_rows (T : Txt K mg) : FnOk P w K mg base CX0 2 T.a_Gates_gate_rows T.d_Gates_gate_rows ["self", "edges"] (sp_Gates_gate_rows T) := by
  refine T.F_Gates_gate_rows.ok sc_Gates_gate_rows (fun vs H Q E h => ?_) (fun cdv A outer s H vs Q E hr h => ?_)
  · obtain ⟨_, _, _, _, _, _, _, _, _, _, _, _, _, rfl, _⟩ := h
    rfl
  · obtain ⟨F0, R, a_self0, dx_self0, x_self0, a_self0_rows0, v_self0_rows0, a_self0_known0, v_self0_known0, a_edges0, v_edges0, x_edges0, r, rfl, hs_self0, hs_self0_rows0, hl_self0_rows0, hs_self0_known0, hl_self0_known0, hs_edges0, hl_edges0, S0, hm, kk⟩ := h
    have hu := hu_of hr
    unfold m_Gates_gate_rows at hm
    refine ⟨_, (pss_one (ps_ret (pe_lc (own := [("k", 2)]) rfl sc_Gates_gate_rows.nd (pi_list (pe_meth (pv 0) T.cl_Gates T.h_Gates_cone (ok_Gates_cone T) (hr.mono (by decide)) T.b_Gates_cone .nil pass0 (pa_cons (pv 1) pa_nil))) (blkOk_by (own := [("k", 2)]) (N := ["self", "edges", "k"]) (sc := defScope s_Gates_gate_rows) (by decide +kernel)) (fun _ _ _ _ _ => (pg_name (i := 2) sc_Gates_gate_rows.nd rfl (Or.inl rfl))) (fun _ _ _ _ _ => (pts_one (pt_cmpR oS_eq (pe_ix (ix_tupK K) (pe_ix (ix_listK K) (pe_fldK K (pv 0) rfl) (pv 2) (fun _ _ => rfl)) pe_int (fun _ _ => rfl)) pe_str (nomark _)))) (fun _ _ _ _ _ => (pv 2))))), ?_⟩
    revert hm; refine bndI fun y1 e2 hm => ?_
    refine ⟨_, rfl, _, _, _, rfl, (S0.bor (Same.refl _) (fun _ q => (List.mem_append_right _ q)) _ _ hs_self0), fl_Gates_no_cone, _, rfl, F0, ([] ++ R), a_self0, dx_self0, x_self0, a_self0_rows0, v_self0_rows0, a_self0_known0, v_self0_known0, a_edges0, v_edges0, x_edges0, y1, rfl, (S0.ovR (Same.refl _) (fun _ q => (List.mem_append_right _ q)) _ _ hs_self0), (S0.ovR (Same.refl _) (fun _ q => (List.mem_append_right _ q)) _ _ hs_self0_rows0), hl_self0_rows0, (S0.ovR (Same.refl _) (fun _ q => (List.mem_append_right _ q)) _ _ hs_self0_known0), hl_self0_known0, (SqL.mono hs_edges0 (S0.ovR (Same.refl _) (fun _ q => (List.mem_append_right _ q)))), hl_edges0, S0, (by exact e2), fun F3 H4 a7 v8 s5 S6 hl9 => ?_⟩
    have S10 : Sta F3 ([(a7, HO.lst v8)] ++ R) _ := S6
    revert hm; refine grdI fun g25 hm => ?_
    revert hm; refine bndI fun y45 e11 hm => ?_
    refine ⟨_, rfl, ⟨_, (SqL.of (S10.get 0 rfl))⟩, fun a23 np24 => lc_list (K := K) (a := a7) (xs := v8) (fun i H2 => ∃ (F16 : Hp) (v17 : List V) (acc18 : List Int) (r12 : List Int), Same F3 F16 ∧ Sta F16 ([(a23, HO.lst v17), (a7, HO.lst v8)] ++ R) H2 ∧ LR (rInt F16) v17 acc18 ∧ acc18.length ≤ i ∧ lcO (fun x15 => (atI x_self0.rows x15).bind fun y34 =>
      (kStr y34 (0 : Int)).bind fun y41 =>
      if (decide (y41 = ("both" : Str))) = true then (some (some x15)) else some none) (List.drop i y1) = some r12 ∧ y45 = acc18 ++ r12) ⟨F3, [], [], _, Same.refl _, S10.new np24 _, trivial, Nat.le_refl _, e11, rfl⟩ (by rintro i H2 _ ⟨F16, v17, acc18, r12, s19, S20, hl21, hn22, hr13, hy14⟩; exact (SqL.of (S20.get 1 rfl))) ?_ ?_⟩
    clear S6
    · rintro i v26 H2 hi ⟨F16, v17, acc18, r12, s19, S20, hl21, hn22, hr13, hy14⟩
      obtain ⟨x15, hx27, rx28⟩ := LR.getV hl9 hi
      rw [drop_cons hx27] at hr13
      revert hr13; refine lcI fun y29 r30 hm hr32 hc33 => ?_
      obtain rfl := rInt_e rx28
      refine ⟨rfl, ?_⟩
      revert hm; refine bndI fun y34 e35 hm => ?_
      obtain ⟨v36, ev37, rv38⟩ := LR.atI hl_self0_rows0 e35
      obtain ⟨a39, rfl, h40⟩ := rv38
      revert hm; refine bndI fun y41 e42 hm => ?_
      refine ⟨_, rfl, _, _, _, _, _, rfl, (S20.bor (s5.trans s19) (fun _ q => (List.mem_append_right _ q)) _ _ hs_self0), T.cl_Gates, T.n_Gates_rows, fl_Gates_rows, _, rfl, _, _, _, _, rfl, rfl, (SqL.mono (SqL.of hs_self0_rows0) (S20.bor (s5.trans s19) (fun _ q => (List.mem_append_right _ q)))), ev37, _, _, _, _, rfl, rfl, (SqT.of (S20.sub _ _ ((s5.trans s19) _ _ h40))), (kStr_at e42), _, _, rfl, rfl, _, rfl, ?_⟩
      by_cases c43 : (decide (y41 = ("both" : Str))) = true
      · revert hm; refine ifTI c43 fun hm => ?_
        refine goT c43 ?_
        refine ⟨_, rfl, ?_⟩
        obtain rfl := Option.some.inj hm
        have hlt : v17.length < 16777216 := by rw [LR.length hl21]; have := (List.getElem?_eq_some_iff.mp hx27).1; have := of_decide_eq_true g25; omega
        have S44 : Sta F16 ([(a23, HO.lst (v17 ++ [V.int x15])), (a7, HO.lst v8)] ++ R) _ := S20.set 0 rfl _
        exact ⟨_, (S20.get 0 rfl), hlt, F16, _, (acc18 ++ [x15]), r30, s19, S44, LR.snoc hl21 rfl, by rw [List.length_append]; exact Nat.succ_le_succ hn22, hr32, by rw [List.append_assoc]; exact hy14.trans (congrArg (acc18 ++ ·) hc33)⟩
      · revert hm; refine ifFI c43 fun hm => ?_
        refine goF c43 ?_
        obtain rfl := Option.some.inj hm
        exact ⟨F16, _, acc18, r30, s19, S20, hl21, Nat.le_succ_of_le hn22, hr32, hy14.trans (congrArg (acc18 ++ ·) hc33)⟩
    rintro H2 ⟨F16, v17, acc18, r12, s19, S20, hl21, hn22, hr13, hy14⟩
    rw [LR.dropEnd hl9] at hr13
    obtain rfl := Option.some.inj hr13
    rw [List.append_nil] at hy14
    subst hy14
    have S46 : Sta F16 ([(a23, HO.lst v17), (a7, HO.lst v8)] ++ R) _ := S20
    obtain rfl := Option.some.inj hm
    have S47 : Sta F16 ([(a23, HO.lst v17)] ++ R) _ := S46.pick [0] (by decide) rfl
    exact kk _ _ a23 v17 (s5.trans s19) S47 hl21

def sp_Plan_edges (T : Txt K mg) : Sp := fun vs H Q _ => ∃ (F0 : Hp) (R : Own) (a_self0 : Addr) (dx_self0 : Addr) (x_self0 : M_Plan) (a_self0_gates0 : Addr) (dx_self0_gates0 : Addr) (a_self0_gates0_rows0 : Addr) (v_self0_gates0_rows0 : List V) (a_self0_gates0_known0 : Addr) (v_self0_gates0_known0 : List (List Key × V)) (a_self0_table0 : Addr) (v_self0_table0 : List (Key × V)) (r : (List Int)),
  vs = [V.ref a_self0] ∧ LR (rKT F0) v_self0_gates0_rows0 x_self0.gates.rows ∧ KR id (rInt F0) v_self0_gates0_known0 x_self0.gates.known ∧ KR Sum.inl (rInt F0) v_self0_table0 x_self0.table ∧ Sta F0 ([(a_self0, HO.ins T.a_Plan dx_self0 (fl_Plan (V.str x_self0.side) (V.ref a_self0_gates0) (V.ref a_self0_table0))), (a_self0_gates0, HO.ins T.a_Gates dx_self0_gates0 (fl_Gates (V.ref a_self0_gates0_rows0) (V.ref a_self0_gates0_known0))), (a_self0_gates0_rows0, HO.lst v_self0_gates0_rows0), (a_self0_gates0_known0, HO.dT v_self0_gates0_known0), (a_self0_table0, HO.dK v_self0_table0)] ++ R) H ∧ m_Plan_edges x_self0 = some r ∧ ∀ (F1 : Hp) (H1 : Hp) (a_ret0p : Addr) (v_ret0p : List V), Same F0 F1 → Sta F1 ([(a_ret0p, HO.lst v_ret0p), (a_self0, HO.ins T.a_Plan dx_self0 (fl_Plan (V.str x_self0.side) (V.ref a_self0_gates0) (V.ref a_self0_table0))), (a_self0_gates0, HO.ins T.a_Gates dx_self0_gates0 (fl_Gates (V.ref a_self0_gates0_rows0) (V.ref a_self0_gates0_known0))), (a_self0_gates0_rows0, HO.lst v_self0_gates0_rows0), (a_self0_gates0_known0, HO.dT v_self0_gates0_known0), (a_self0_table0, HO.dK v_self0_table0)] ++ R) H1 → LR (rInt F1) v_ret0p r → Q (V.ref a_ret0p) H1

theorem ok_Plan_edges (T : Txt K mg) : FnOk P w K mg base CX0 1 T.a_Plan_edges T.d_Plan_edges ["self"] (sp_Plan_edges T) := by
  refine T.F_Plan_edges.ok sc_Plan_edges (fun vs H Q E h => ?_) (fun cdv A outer s H vs Q E hr h => ?_)
  · obtain ⟨_, _, _, _, _, _, _, _, _, _, _, _, _, _, rfl, _⟩ := h
    rfl
  · obtain ⟨F0, R, a_self0, dx_self0, x_self0, a_self0_gates0, dx_self0_gates0, a_self0_gates0_rows0, v_self0_gates0_rows0, a_self0_gates0_known0, v_self0_gates0_known0, a_self0_table0, v_self0_table0, r, rfl, hl_self0_gates0_rows0, hl_self0_gates0_known0, hl_self0_table0, S0, hm, kk⟩ := h
    have hu := hu_of hr
    unfold m_Plan_edges at hm
    refine ⟨_, (pss_one (ps_ret (pe_lock (pe_lc (own := [("letter", 1)]) rfl sc_Plan_edges.nd (pi_keys (pe_fld (pv 0) rfl)) (blkOk_by (own := [("letter", 1)]) (N := ["self", "letter"]) (sc := defScope s_Plan_edges) (by decide +kernel)) (fun _ _ _ _ _ => (pg_name (i := 1) sc_Plan_edges.nd rfl (Or.inl rfl))) (fun _ _ _ _ _ => pts_nil) (fun _ _ _ _ _ => (pe_dget hu (pe_fldK K (pv 0) rfl) (pv 1) (fun _ _ => rfl))))))), ?_⟩
    refine ⟨_, _, (S0.get 4 rfl), trivial, fun od1 => ?_⟩
    have S2 : Sta F0 ([(a_self0, HO.ins T.a_Plan dx_self0 (fl_Plan (V.str x_self0.side) (V.ref a_self0_gates0) (V.ref a_self0_table0))), (a_self0_gates0, HO.ins T.a_Gates dx_self0_gates0 (fl_Gates (V.ref a_self0_gates0_rows0) (V.ref a_self0_gates0_known0))), (a_self0_gates0_rows0, HO.lst v_self0_gates0_rows0), (a_self0_gates0_known0, HO.dT v_self0_gates0_known0), (a_self0_table0, HO.frz od1 (HO.dK v_self0_table0))] ++ R) _ := S0.set 4 rfl _
    revert hm; refine grdI fun g17 hm => ?_
    revert hm; refine bndI fun y32 e3 hm => ?_
    refine ⟨_, rfl, _, _, _, _, _, rfl, (S2.get 0 rfl), T.cl_Plan, T.n_Plan_table, fl_Plan_table, _, _, rfl, .inl ⟨_, (S2.get 4 rfl), fun a15 np16 => lc_keys (kvs := v_self0_table0) (fun i H2 => ∃ (F8 : Hp) (v9 : List V) (acc10 : List Int) (r4 : List Int), Same F0 F8 ∧ Sta F8 ([(a15, HO.lst v9), (a_self0, HO.ins T.a_Plan dx_self0 (fl_Plan (V.str x_self0.side) (V.ref a_self0_gates0) (V.ref a_self0_table0))), (a_self0_gates0, HO.ins T.a_Gates dx_self0_gates0 (fl_Gates (V.ref a_self0_gates0_rows0) (V.ref a_self0_gates0_known0))), (a_self0_gates0_rows0, HO.lst v_self0_gates0_rows0), (a_self0_gates0_known0, HO.dT v_self0_gates0_known0), (a_self0_table0, HO.frz od1 (HO.dK v_self0_table0))] ++ R) H2 ∧ LR (rInt F8) v9 acc10 ∧ acc10.length ≤ i ∧ lcO (fun x7 => (mget x_self0.table x7).bind fun y26 =>
      some (some y26)) (List.drop i (x_self0.table.map fun (q : Int × Int) => q.1)) = some r4 ∧ y32 = acc10 ++ r4) ⟨F0, [], [], _, Same.refl _, S2.new np16 _, trivial, Nat.le_refl _, e3, rfl⟩ (by rintro i H2 _ ⟨F8, v9, acc10, r4, s11, S12, hl13, hn14, hr5, hy6⟩; exact S12.get 5 rfl) ?_ ?_⟩⟩
    clear S0
    · rintro i v18 H2 hi ⟨F8, v9, acc10, r4, s11, S12, hl13, hn14, hr5, hy6⟩
      obtain ⟨x7, hx19, rx20⟩ := LR.getV (KR.keysLI (F := F0) hl_self0_table0) hi
      rw [drop_cons hx19] at hr5
      revert hr5; refine lcI fun y21 r22 hm hr24 hc25 => ?_
      obtain rfl := rInt_e rx20
      refine ⟨rfl, ?_⟩
      refine tYesI ?_
      rw [if_pos rfl]
      revert hm; refine bndI fun y26 e27 hm => ?_
      obtain ⟨v28, ev29, rv30⟩ := KR.get hl_self0_table0 kinj_int e27
      obtain rfl := rInt_e rv30
      refine ⟨_, rfl, _, _, _, _, _, rfl, (S12.get 1 rfl), T.cl_Plan, T.n_Plan_table, fl_Plan_table, _, rfl, _, _, rfl, (dget_of (DGet.kf (k := Sum.inl x7) (S12.get 5 rfl)) ev29), ?_⟩
      obtain rfl := Option.some.inj hm
      have hlt : v9.length < 16777216 := by rw [LR.length hl13]; have := (List.getElem?_eq_some_iff.mp hx19).1; have := of_decide_eq_true g17; omega
      have S31 : Sta F8 ([(a15, HO.lst (v9 ++ [V.int y26])), (a_self0, HO.ins T.a_Plan dx_self0 (fl_Plan (V.str x_self0.side) (V.ref a_self0_gates0) (V.ref a_self0_table0))), (a_self0_gates0, HO.ins T.a_Gates dx_self0_gates0 (fl_Gates (V.ref a_self0_gates0_rows0) (V.ref a_self0_gates0_known0))), (a_self0_gates0_rows0, HO.lst v_self0_gates0_rows0), (a_self0_gates0_known0, HO.dT v_self0_gates0_known0), (a_self0_table0, HO.frz od1 (HO.dK v_self0_table0))] ++ R) _ := S12.set 0 rfl _
      exact ⟨_, (S12.get 0 rfl), hlt, F8, _, (acc10 ++ [y26]), r22, s11, S31, LR.snoc hl13 rfl, by rw [List.length_append]; exact Nat.succ_le_succ hn14, hr24, by rw [List.append_assoc]; exact hy6.trans (congrArg (acc10 ++ ·) hc25)⟩
    rintro H2 ⟨F8, v9, acc10, r4, s11, S12, hl13, hn14, hr5, hy6⟩
    rw [LR.dropEnd (KR.keysLI (F := F0) hl_self0_table0)] at hr5
    obtain rfl := Option.some.inj hr5
    rw [List.append_nil] at hy6
    subst hy6
    have S33 : Sta F8 ([(a15, HO.lst v9), (a_self0, HO.ins T.a_Plan dx_self0 (fl_Plan (V.str x_self0.side) (V.ref a_self0_gates0) (V.ref a_self0_table0))), (a_self0_gates0, HO.ins T.a_Gates dx_self0_gates0 (fl_Gates (V.ref a_self0_gates0_rows0) (V.ref a_self0_gates0_known0))), (a_self0_gates0_rows0, HO.lst v_self0_gates0_rows0), (a_self0_gates0_known0, HO.dT v_self0_gates0_known0), (a_self0_table0, HO.frz od1 (HO.dK v_self0_table0))] ++ R) _ := S12
    refine ⟨(S33.get 5 rfl), ?_⟩
    have S34 : Sta F8 ([(a15, HO.lst v9), (a_self0, HO.ins T.a_Plan dx_self0 (fl_Plan (V.str x_self0.side) (V.ref a_self0_gates0) (V.ref a_self0_table0))), (a_self0_gates0, HO.ins T.a_Gates dx_self0_gates0 (fl_Gates (V.ref a_self0_gates0_rows0) (V.ref a_self0_gates0_known0))), (a_self0_gates0_rows0, HO.lst v_self0_gates0_rows0), (a_self0_gates0_known0, HO.dT v_self0_gates0_known0), (a_self0_table0, HO.dK v_self0_table0)] ++ R) _ := S33.set 5 rfl _
    obtain rfl := Option.some.inj hm
    exact kk _ _ a15 v9 s11 S34 hl13

def sp_Plan_gate_count (T : Txt K mg) : Sp := fun vs H Q _ => ∃ (F0 : Hp) (R : Own) (a_self0 : Addr) (dx_self0 : Addr) (x_self0 : M_Plan) (a_self0_gates0 : Addr) (dx_self0_gates0 : Addr) (a_self0_gates0_rows0 : Addr) (v_self0_gates0_rows0 : List V) (a_self0_gates0_known0 : Addr) (v_self0_gates0_known0 : List (List Key × V)) (a_self0_table0 : Addr) (v_self0_table0 : List (Key × V)) (r : Int),
  vs = [V.ref a_self0] ∧ LR (rKT F0) v_self0_gates0_rows0 x_self0.gates.rows ∧ KR id (rInt F0) v_self0_gates0_known0 x_self0.gates.known ∧ KR Sum.inl (rInt F0) v_self0_table0 x_self0.table ∧ Sta F0 ([(a_self0, HO.ins T.a_Plan dx_self0 (fl_Plan (V.str x_self0.side) (V.ref a_self0_gates0) (V.ref a_self0_table0))), (a_self0_gates0, HO.ins T.a_Gates dx_self0_gates0 (fl_Gates (V.ref a_self0_gates0_rows0) (V.ref a_self0_gates0_known0))), (a_self0_gates0_rows0, HO.lst v_self0_gates0_rows0), (a_self0_gates0_known0, HO.dT v_self0_gates0_known0), (a_self0_table0, HO.dK v_self0_table0)] ++ R) H ∧ m_Plan_gate_count x_self0 = some r ∧ ∀ (F1 : Hp) (H1 : Hp), Same F0 F1 → Sta F1 ([(a_self0, HO.ins T.a_Plan dx_self0 (fl_Plan (V.str x_self0.side) (V.ref a_self0_gates0) (V.ref a_self0_table0))), (a_self0_gates0, HO.ins T.a_Gates dx_self0_gates0 (fl_Gates (V.ref a_self0_gates0_rows0) (V.ref a_self0_gates0_known0))), (a_self0_gates0_rows0, HO.lst v_self0_gates0_rows0), (a_self0_gates0_known0, HO.dT v_self0_gates0_known0), (a_self0_table0, HO.dK v_self0_table0)] ++ R) H1 → Q (V.int r) H1

theorem ok_Plan_gate_count (T : Txt K mg) : FnOk P w K mg base CX0 3 T.a_Plan_gate_count T.d_Plan_gate_count ["self"] (sp_Plan_gate_count T) := by
  refine T.F_Plan_gate_count.ok sc_Plan_gate_count (fun vs H Q E h => ?_) (fun cdv A outer s H vs Q E hr h => ?_)
  · obtain ⟨_, _, _, _, _, _, _, _, _, _, _, _, _, _, rfl, _⟩ := h
    rfl
  · obtain ⟨F0, R, a_self0, dx_self0, x_self0, a_self0_gates0, dx_self0_gates0, a_self0_gates0_rows0, v_self0_gates0_rows0, a_self0_gates0_known0, v_self0_gates0_known0, a_self0_table0, v_self0_table0, r, rfl, hl_self0_gates0_rows0, hl_self0_gates0_known0, hl_self0_table0, S0, hm, kk⟩ := h
    have hu := hu_of hr
    unfold m_Plan_gate_count at hm
    refine ⟨_, (pss_one (ps_ret (pe_callB call_len_seq (by rfl) T.z_len PySem.boot_len (pa_cons (pe_meth (pe_fld (pv 0) rfl) T.cl_Gates T.h_Gates_gate_rows (ok_Gates_gate_rows T) (hr.mono (by decide)) T.b_Gates_gate_rows .nil pass0 (pa_cons (pe_meth0 (pv 0) T.cl_Plan T.h_Plan_edges (ok_Plan_edges T) (hr.mono (by decide)) T.b_Plan_edges .nil pass0) pa_nil)) pa_nil)))), ?_⟩
    revert hm; refine bndI fun y1 e2 hm => ?_
    refine ⟨_, rfl, _, _, _, _, _, rfl, (S0.get 0 rfl), T.cl_Plan, T.n_Plan_gates, fl_Plan_gates, _, _, _, rfl, (S0.get 1 rfl), fl_Gates_no_gate_rows, _, rfl, _, _, _, rfl, (S0.get 0 rfl), fl_Plan_no_edges, F0, ([] ++ R), a_self0, dx_self0, (M_Plan.mk x_self0.side (M_Gates.mk x_self0.gates.rows x_self0.gates.known) x_self0.table), a_self0_gates0, dx_self0_gates0, a_self0_gates0_rows0, v_self0_gates0_rows0, a_self0_gates0_known0, v_self0_gates0_known0, a_self0_table0, v_self0_table0, y1, rfl, hl_self0_gates0_rows0, hl_self0_gates0_known0, hl_self0_table0, S0, (by exact e2), fun F3 H4 a7 v8 s5 S6 hl9 => ?_⟩
    have S10 : Sta F3 ([(a7, HO.lst v8), (a_self0, HO.ins T.a_Plan dx_self0 (fl_Plan (V.str x_self0.side) (V.ref a_self0_gates0) (V.ref a_self0_table0))), (a_self0_gates0, HO.ins T.a_Gates dx_self0_gates0 (fl_Gates (V.ref a_self0_gates0_rows0) (V.ref a_self0_gates0_known0))), (a_self0_gates0_rows0, HO.lst v_self0_gates0_rows0), (a_self0_gates0_known0, HO.dT v_self0_gates0_known0), (a_self0_table0, HO.dK v_self0_table0)] ++ R) _ := S6
    revert hm; refine bndI fun y11 e12 hm => ?_
    refine ⟨F3, ([(a7, HO.lst v8), (a_self0, HO.ins T.a_Plan dx_self0 (fl_Plan (V.str x_self0.side) (V.ref a_self0_gates0) (V.ref a_self0_table0))), (a_self0_gates0, HO.ins T.a_Gates dx_self0_gates0 (fl_Gates (V.ref a_self0_gates0_rows0) (V.ref a_self0_gates0_known0))), (a_self0_gates0_rows0, HO.lst v_self0_gates0_rows0), (a_self0_gates0_known0, HO.dT v_self0_gates0_known0), (a_self0_table0, HO.dK v_self0_table0)] ++ R), a_self0_gates0, dx_self0_gates0, (M_Gates.mk x_self0.gates.rows x_self0.gates.known), a_self0_gates0_rows0, v_self0_gates0_rows0, a_self0_gates0_known0, v_self0_gates0_known0, a7, v8, y1, y11, rfl, (S10.getO 2 rfl), (S10.getO 3 rfl), (hl_self0_gates0_rows0.mono s5), (S10.getO 4 rfl), (KR.mono hl_self0_gates0_known0 s5), (SqL.of (S10.getO 0 rfl)), hl9, S10, (by exact e12), fun F13 H14 a17 v18 s15 S16 hl19 => ?_⟩
    clear S6
    have S20 : Sta F13 ([(a17, HO.lst v18), (a7, HO.lst v8), (a_self0, HO.ins T.a_Plan dx_self0 (fl_Plan (V.str x_self0.side) (V.ref a_self0_gates0) (V.ref a_self0_table0))), (a_self0_gates0, HO.ins T.a_Gates dx_self0_gates0 (fl_Gates (V.ref a_self0_gates0_rows0) (V.ref a_self0_gates0_known0))), (a_self0_gates0_rows0, HO.lst v_self0_gates0_rows0), (a_self0_gates0_known0, HO.dT v_self0_gates0_known0), (a_self0_table0, HO.dK v_self0_table0)] ++ R) _ := S16
    refine ⟨_, _, rfl, .inl (SqL.of (S20.get 0 rfl)), ?_⟩
    clear S16
    rw [LR.length hl19]
    obtain rfl := Option.some.inj hm
    have S21 : Sta F13 ([(a_self0, HO.ins T.a_Plan dx_self0 (fl_Plan (V.str x_self0.side) (V.ref a_self0_gates0) (V.ref a_self0_table0))), (a_self0_gates0, HO.ins T.a_Gates dx_self0_gates0 (fl_Gates (V.ref a_self0_gates0_rows0) (V.ref a_self0_gates0_known0))), (a_self0_gates0_rows0, HO.lst v_self0_gates0_rows0), (a_self0_gates0_known0, HO.dT v_self0_gates0_known0), (a_self0_table0, HO.dK v_self0_table0)] ++ R) _ := S20.pick [2, 3, 4, 5, 6] (by decide) rfl
    exact kk _ _ (s5.trans s15) S21

def sp_Gates_worths (T : Txt K mg) : Sp := fun vs H Q _ => ∃ (F0 : Hp) (R : Own) (a_self0 : Addr) (dx_self0 : Addr) (x_self0 : M_Gates) (a_self0_rows0 : Addr) (v_self0_rows0 : List V) (a_self0_known0 : Addr) (v_self0_known0 : List (List Key × V)) (a_edges0 : Addr) (v_edges0 : List V) (x_edges0 : (List Int)) (a_choices0 : Addr) (v_choices0 : List (Key × V)) (x_choices0 : (List (Int × Bool))) (r : (List Bool)),
  vs = [V.ref a_self0, V.ref a_edges0, V.ref a_choices0] ∧ (ov F0 R) a_self0 = some (HO.ins T.a_Gates dx_self0 (fl_Gates (V.ref a_self0_rows0) (V.ref a_self0_known0))) ∧ (ov F0 R) a_self0_rows0 = some (HO.lst v_self0_rows0) ∧ LR (rKT F0) v_self0_rows0 x_self0.rows ∧ (ov F0 R) a_self0_known0 = some (HO.dT v_self0_known0) ∧ KR id (rInt F0) v_self0_known0 x_self0.known ∧ SqL K (ov F0 R) a_edges0 v_edges0 ∧ LR (rInt F0) v_edges0 x_edges0 ∧ (ov F0 R) a_choices0 = some (HO.dK v_choices0) ∧ KR Sum.inl (rBool F0) v_choices0 x_choices0 ∧ Sta F0 ([] ++ R) H ∧ m_Gates_worths x_self0 x_edges0 x_choices0 = some r ∧ ∀ (F1 : Hp) (H1 : Hp) (a_ret0p : Addr) (v_ret0p : List V), Same F0 F1 → Sta F1 ([(a_ret0p, HO.lst v_ret0p)] ++ R) H1 → LR (rBool F1) v_ret0p r → Q (V.ref a_ret0p) H1

theorem ok_Gates_worths (T : Txt K mg) : FnOk P w K mg base CX0 2 T.a_Gates_worths T.d_Gates_worths ["self", "edges", "choices"] (sp_Gates_worths T) := by
  refine T.F_Gates_worths.ok sc_Gates_worths (fun vs H Q E h => ?_) (fun cdv A outer s H vs Q E hr h => ?_)
  · obtain ⟨_, _, _, _, _, _, _, _, _, _, _, _, _, _, _, _, rfl, _⟩ := h
    rfl
  · obtain ⟨F0, R, a_self0, dx_self0, x_self0, a_self0_rows0, v_self0_rows0, a_self0_known0, v_self0_known0, a_edges0, v_edges0, x_edges0, a_choices0, v_choices0, x_choices0, r, rfl, hs_self0, hs_self0_rows0, hl_self0_rows0, hs_self0_known0, hl_self0_known0, hs_edges0, hl_edges0, hs_choices0, hl_choices0, S0, hm, kk⟩ := h
    have hu := hu_of hr
    unfold m_Gates_worths at hm
    refine ⟨_, (pss_cons (ps_set (i := 3) sc_Gates_worths.nd rfl (Or.inr rfl) (pe_disp (pps_cons pe_int pe_bl pps_nil) (by rfl) (by rfl) (fun z => by cases z) (by decide))) (pss_cons (ps_for PassesOwn.never rfl (pi_list (pe_meth (pv 0) T.cl_Gates T.h_Gates_cone (ok_Gates_cone T) (hr.mono (by decide)) T.b_Gates_cone .nil pass0 (pa_cons (pv 1) pa_nil))) (pg_name (i := 4) sc_Gates_worths.nd rfl (Or.inl rfl)) (pss_cons (ps_set (i := 5) sc_Gates_worths.nd rfl (Or.inl rfl) (pe_ix ix_list (pe_fld (pv 0) rfl) (pv 4) (fun _ _ => rfl))) (pss_one (ps_if (pt_cmpR oS_eq (pe_ix ix_tup (pv 5) pe_int (fun _ _ => rfl)) pe_str (nomark _)) (pss_one (ps_dput hu (pv 3) (pv 4) (pe_dget hu (pv 2) (pe_ix ix_tup (pv 5) pe_int (fun _ _ => rfl)) (fun _ _ => rfl)) rfl)) (pss_cons (ps_set (i := 6) sc_Gates_worths.nd rfl (Or.inl rfl) (pe_cmpR oB_ne (pe_dget hu (pv 3) (pe_op op_fdiv (pe_ix ix_tup (pv 5) pe_int (fun _ _ => rfl)) pe_int) (fun _ _ => rfl)) (pe_cmpR oI_eq (pe_op op_and (pe_ix ix_tup (pv 5) pe_int (fun _ _ => rfl)) pe_int) pe_int (nomark _)) (nomark _))) (pss_cons (ps_set (i := 7) sc_Gates_worths.nd rfl (Or.inl rfl) (pe_cmpR oB_ne (pe_dget hu (pv 3) (pe_op op_fdiv (pe_ix ix_tup (pv 5) pe_int (fun _ _ => rfl)) pe_int) (fun _ _ => rfl)) (pe_cmpR oI_eq (pe_op op_and (pe_ix ix_tup (pv 5) pe_int (fun _ _ => rfl)) pe_int) pe_int (nomark _)) (nomark _))) (pss_one (ps_dput hu (pv 3) (pv 4) (pe_pure (pe_and (pv 6) (pe_one (pv 7)))) rfl)))))))) (pss_one (ps_ret (pe_lc (own := [("edge", 8)]) rfl sc_Gates_worths.nd (pi_list (pv 1)) (blkOk_by (own := [("edge", 8)]) (N := ["self", "edges", "choices", "truth", "k", "row", "left", "right", "edge"]) (sc := defScope s_Gates_worths) (by decide +kernel)) (fun _ _ _ _ _ => (pg_name (i := 8) sc_Gates_worths.nd rfl (Or.inl rfl))) (fun _ _ _ _ _ => pts_nil) (fun _ _ _ _ _ => (pe_cmpR oB_ne (pe_dget hu (pv 3) (pe_op op_fdiv (pv 8) pe_int) (fun _ _ => rfl)) (pe_cmpR oI_eq (pe_op op_and (pv 8) pe_int) pe_int (nomark _)) (nomark _)))))))), ?_⟩
    refine seqI fun N1 hN2 => ?_
    intro a3 np4
    have hl5 : KR Sum.inl (rBool F0) ([] : List (Key × V)) ([] : (List (Int × Bool))) := trivial
    have S6 : Sta F0 ([(a3, HO.dK [])] ++ R) _ := S0.new np4 _
    refine ⟨(S6.get 0 rfl), ([(Sum.inl 0, V.bl false)] : List (Key × V)), rfl, (by decide), ?_⟩
    clear S0
    have hl7 : KR Sum.inl (rBool F0) ([(Sum.inl 0, V.bl false)] : List (Key × V)) ([(0, false)] : (List (Int × Bool))) := (KR.cons rfl rfl KR.nil)
    have S8 : Sta F0 ([(a3, HO.dK ([(Sum.inl 0, V.bl false)] : List (Key × V)))] ++ R) _ := S6.set 0 rfl _
    refine hN2 _ _ ?_
    refine seqI fun N9 hN10 => ?_
    revert hm; refine bndI fun y14 e15 hm => ?_
    refine ⟨_, rfl, _, _, _, rfl, (S8.bor (Same.refl _) (fun _ q => (List.mem_append_right _ q)) _ _ hs_self0), fl_Gates_no_cone, _, rfl, F0, ([(a3, HO.dK ([(Sum.inl 0, V.bl false)] : List (Key × V)))] ++ R), a_self0, dx_self0, x_self0, a_self0_rows0, v_self0_rows0, a_self0_known0, v_self0_known0, a_edges0, v_edges0, x_edges0, y14, rfl, (S8.ovR (Same.refl _) (fun _ q => (List.mem_append_right _ q)) _ _ hs_self0), (S8.ovR (Same.refl _) (fun _ q => (List.mem_append_right _ q)) _ _ hs_self0_rows0), hl_self0_rows0, (S8.ovR (Same.refl _) (fun _ q => (List.mem_append_right _ q)) _ _ hs_self0_known0), hl_self0_known0, (SqL.mono hs_edges0 (S8.ovR (Same.refl _) (fun _ q => (List.mem_append_right _ q)))), hl_edges0, S8, (by exact e15), fun F16 H17 a20 v21 s18 S19 hl22 => ?_⟩
    clear S6
    have S23 : Sta F16 ([(a20, HO.lst v21), (a3, HO.dK ([(Sum.inl 0, V.bl false)] : List (Key × V)))] ++ R) _ := S19
    revert hm; refine bndI fun y11 e12 hm13 => ?_
    refine ⟨_, rfl, ⟨_, (SqL.of (S23.get 0 rfl))⟩, for_list (K := K) (a := a20) (xs := v21) (fun i σ H2 => ∃ (st1 : (List (Int × Bool))) (F49 : Hp) (v56 : List (Key × V)) (o52 : Option V) (o53 : Option V) (o54 : Option V) (o55 : Option V), σ = [some (V.ref a_self0), some (V.ref a_edges0), some (V.ref a_choices0), some (V.ref a3), o52, o53, o54, o55, none] ∧ Same F16 F49 ∧ Sta F49 ([(a20, HO.lst v21), (a3, HO.dK v56)] ++ R) H2 ∧ KR Sum.inl (rBool F49) v56 st1 ∧ m_Gates_worths_l1 x_self0 x_choices0 (List.drop i y14) st1 = some y11) ⟨([(0, false)] : (List (Int × Bool))), F16, ([(Sum.inl 0, V.bl false)] : List (Key × V)), _, _, _, _, rfl, (Same.refl _), S23, (KR.mono hl7 s18), e12⟩ (by rintro i σ H2 _ ⟨st1, F49, v56, o52, o53, o54, o55, rfl, s50, S51, hl57, _⟩; exact (SqL.of (S51.get 0 rfl))) ?_ ?_⟩
    clear S19
    · rintro i v59 σ H2 hi ⟨st1, F49, v56, o52, o53, o54, o55, rfl, s50, S51, hl57, hm⟩
      obtain ⟨x58, hx60, rx61⟩ := LR.getV hl22 hi
      rw [drop_cons hx60, m_Gates_worths_l1] at hm
      obtain rfl := rInt_e rx61
      refine seqI fun N62 hN63 => ?_
      revert hm; refine bndI fun y64 e65 hm => ?_
      obtain ⟨v66, ev67, rv68⟩ := LR.atI hl_self0_rows0 e65
      obtain ⟨a69, rfl, h70⟩ := rv68
      refine ⟨_, rfl, _, _, _, _, _, rfl, (S51.bor (s18.trans s50) (fun _ q => (List.mem_append_right _ q)) _ _ hs_self0), T.cl_Gates, T.n_Gates_rows, fl_Gates_rows, _, rfl, _, _, _, _, rfl, rfl, (SqL.mono (SqL.of hs_self0_rows0) (S51.bor (s18.trans s50) (fun _ q => (List.mem_append_right _ q)))), ev67, ?_⟩
      refine hN63 _ _ ?_
      revert hm; refine bndI fun y71 e72 hm => ?_
      refine ⟨_, rfl, _, _, _, _, rfl, rfl, (SqT.of (S51.sub _ _ ((s18.trans s50) _ _ h70))), (kStr_at e72), _, _, rfl, rfl, _, rfl, ?_⟩
      by_cases c73 : (decide (y71 = ("letter" : Str))) = true
      · revert hm; refine ifTI c73 fun hm => ?_
        refine goT c73 ?_
        revert hm; refine bndI fun y74 e75 hm => ?_
        revert hm; refine bndI fun y76 e77 hm => ?_
        obtain ⟨v78, ev79, rv80⟩ := KR.get hl_choices0 kinj_int e77
        obtain rfl := rBool_e rv80
        revert hm; refine grdI fun g81 hm => ?_
        refine ⟨_, rfl, _, rfl, _, _, _, _, rfl, rfl, (SqT.of (S51.sub _ _ ((s18.trans s50) _ _ h70))), (kInt_at e75), _, _, rfl, (dget_of (DGet.k (k := Sum.inl y74) (S51.bor (s18.trans s50) (fun _ q => (List.mem_append_right _ q)) _ _ hs_choices0)) ev79), _, rfl, _, rfl, _, _, rfl, (DPut.k (k := Sum.inl x58) (S51.get 1 rfl) (by rw [KR.length hl57]; exact of_decide_eq_true g81)), ?_⟩
        have hl82 : KR Sum.inl (rBool F49) (putK v56 (Sum.inl x58) (V.bl y76)) (mput st1 x58 y76) := KR.put hl57 kinj_int rfl
        have S83 : Sta F49 ([(a20, HO.lst v21), (a3, HO.dK (putK v56 (Sum.inl x58) (V.bl y76)))] ++ R) _ := S51.set 1 rfl _
        exact ⟨(mput st1 x58 y76), F49, (putK v56 (Sum.inl x58) (V.bl y76)), _, _, _, _, rfl, s50, S83, hl82, hm⟩
      · revert hm; refine ifFI c73 fun hm => ?_
        refine goF c73 ?_
        refine seqI fun N84 hN85 => ?_
        revert hm; refine bndI fun y86 e87 hm => ?_
        revert hm; refine bndI fun y88 e89 hm => ?_
        obtain ⟨v90, ev91, rv92⟩ := KR.get hl57 kinj_int e89
        obtain rfl := rBool_e rv92
        revert hm; refine bndI fun y93 e94 hm => ?_
        refine ⟨_, rfl, _, rfl, _, _, _, _, rfl, rfl, (SqT.of (S51.sub _ _ ((s18.trans s50) _ _ h70))), (kInt_at e87), _, _, rfl, rfl, ⟨by decide, by decide⟩, _, _, rfl, (dget_of (DGet.k (k := Sum.inl (y86 / (2 : Int))) (S51.get 1 rfl)) ev91), _, rfl, _, _, _, _, rfl, rfl, (SqT.of (S51.sub _ _ ((s18.trans s50) _ _ h70))), (kInt_at e94), _, _, rfl, rfl, _, _, rfl, rfl, _, _, rfl, rfl, ?_⟩
        refine hN85 _ _ ?_
        refine seqI fun N95 hN96 => ?_
        revert hm; refine bndI fun y97 e98 hm => ?_
        revert hm; refine bndI fun y99 e100 hm => ?_
        obtain ⟨v101, ev102, rv103⟩ := KR.get hl57 kinj_int e100
        obtain rfl := rBool_e rv103
        revert hm; refine bndI fun y104 e105 hm => ?_
        refine ⟨_, rfl, _, rfl, _, _, _, _, rfl, rfl, (SqT.of (S51.sub _ _ ((s18.trans s50) _ _ h70))), (kInt_at e98), _, _, rfl, rfl, ⟨by decide, by decide⟩, _, _, rfl, (dget_of (DGet.k (k := Sum.inl (y97 / (2 : Int))) (S51.get 1 rfl)) ev102), _, rfl, _, _, _, _, rfl, rfl, (SqT.of (S51.sub _ _ ((s18.trans s50) _ _ h70))), (kInt_at e105), _, _, rfl, rfl, _, _, rfl, rfl, _, _, rfl, rfl, ?_⟩
        refine hN96 _ _ ?_
        refine ⟨V.bl ((!decide (y88 = (decide ((Builtin.bitAnd y93 (1 : Int)) = (1 : Int))))) && (!decide (y99 = (decide ((Builtin.bitAnd y104 (1 : Int)) = (1 : Int)))))), ?_, ?_⟩
        · refine ⟨_, rfl, _, rfl, ?_⟩
          by_cases c106 : (!decide (y88 = (decide ((Builtin.bitAnd y93 (1 : Int)) = (1 : Int))))) = true
          · refine goT c106 ?_
            refine ⟨_, rfl, ?_⟩
            exact ⟨by simp [c106], rfl⟩
          · exact goF c106 ⟨by simp [c106], rfl⟩
        revert hm; refine grdI fun g107 hm => ?_
        refine ⟨_, rfl, _, rfl, _, _, rfl, (DPut.k (k := Sum.inl x58) (S51.get 1 rfl) (by rw [KR.length hl57]; exact of_decide_eq_true g107)), ?_⟩
        have hl108 : KR Sum.inl (rBool F49) (putK v56 (Sum.inl x58) (V.bl ((!decide (y88 = (decide ((Builtin.bitAnd y93 (1 : Int)) = (1 : Int))))) && (!decide (y99 = (decide ((Builtin.bitAnd y104 (1 : Int)) = (1 : Int)))))))) (mput st1 x58 ((!decide (y88 = (decide ((Builtin.bitAnd y93 (1 : Int)) = (1 : Int))))) && (!decide (y99 = (decide ((Builtin.bitAnd y104 (1 : Int)) = (1 : Int))))))) := KR.put hl57 kinj_int rfl
        have S109 : Sta F49 ([(a20, HO.lst v21), (a3, HO.dK (putK v56 (Sum.inl x58) (V.bl ((!decide (y88 = (decide ((Builtin.bitAnd y93 (1 : Int)) = (1 : Int))))) && (!decide (y99 = (decide ((Builtin.bitAnd y104 (1 : Int)) = (1 : Int)))))))))] ++ R) _ := S51.set 1 rfl _
        exact ⟨(mput st1 x58 ((!decide (y88 = (decide ((Builtin.bitAnd y93 (1 : Int)) = (1 : Int))))) && (!decide (y99 = (decide ((Builtin.bitAnd y104 (1 : Int)) = (1 : Int))))))), F49, (putK v56 (Sum.inl x58) (V.bl ((!decide (y88 = (decide ((Builtin.bitAnd y93 (1 : Int)) = (1 : Int))))) && (!decide (y99 = (decide ((Builtin.bitAnd y104 (1 : Int)) = (1 : Int)))))))), _, _, _, _, rfl, s50, S109, hl108, hm⟩
    · rintro σ H2 ⟨st1, F49, v56, o52, o53, o54, o55, rfl, s50, S51, hl57, hm⟩
      rw [LR.dropEnd hl22, m_Gates_worths_l1] at hm
      obtain rfl := Option.some.inj hm
      have hm := hm13
      refine hN10 _ _ ?_
      revert hm; refine grdI fun g124 hm => ?_
      revert hm; refine bndI fun y139 e110 hm => ?_
      refine ⟨_, rfl, _, rfl, ⟨_, (SqL.mono hs_edges0 (S51.bor (s18.trans s50) (fun _ q => (List.mem_append_right _ q))))⟩, fun a122 np123 => lc_list (K := K) (a := a_edges0) (xs := v_edges0) (fun i H2 => ∃ (F115 : Hp) (v116 : List V) (acc117 : List Bool) (r111 : List Bool), Same F49 F115 ∧ Sta F115 ([(a122, HO.lst v116), (a20, HO.lst v21), (a3, HO.dK v56)] ++ R) H2 ∧ LR (rBool F115) v116 acc117 ∧ acc117.length ≤ i ∧ lcO (fun x114 => (mget st1 (x114 / (2 : Int))).bind fun y133 =>
      some (some (!decide (y133 = (decide ((Builtin.bitAnd x114 (1 : Int)) = (1 : Int))))))) (List.drop i x_edges0) = some r111 ∧ y139 = acc117 ++ r111) ⟨F49, [], [], _, Same.refl _, S51.new np123 _, trivial, Nat.le_refl _, e110, rfl⟩ (by rintro i H2 _ ⟨F115, v116, acc117, r111, s118, S119, hl120, hn121, hr112, hy113⟩; exact (SqL.mono hs_edges0 (S119.bor (s18.trans (s50.trans s118)) (fun _ q => (List.mem_append_right _ q))))) ?_ ?_⟩
      · rintro i v125 H2 hi ⟨F115, v116, acc117, r111, s118, S119, hl120, hn121, hr112, hy113⟩
        obtain ⟨x114, hx126, rx127⟩ := LR.getV hl_edges0 hi
        rw [drop_cons hx126] at hr112
        revert hr112; refine lcI fun y128 r129 hm hr131 hc132 => ?_
        obtain rfl := rInt_e rx127
        refine ⟨rfl, ?_⟩
        refine tYesI ?_
        rw [if_pos rfl]
        revert hm; refine bndI fun y133 e134 hm => ?_
        obtain ⟨v135, ev136, rv137⟩ := KR.get hl57 kinj_int e134
        obtain rfl := rBool_e rv137
        refine ⟨_, rfl, _, rfl, _, _, rfl, rfl, ⟨by decide, by decide⟩, _, _, rfl, (dget_of (DGet.k (k := Sum.inl (x114 / (2 : Int))) (S119.get 2 rfl)) ev136), _, rfl, _, _, rfl, rfl, _, _, rfl, rfl, _, _, rfl, rfl, ?_⟩
        obtain rfl := Option.some.inj hm
        have hlt : v116.length < 16777216 := by rw [LR.length hl120]; have := (List.getElem?_eq_some_iff.mp hx126).1; have := of_decide_eq_true g124; omega
        have S138 : Sta F115 ([(a122, HO.lst (v116 ++ [V.bl (!decide (y133 = (decide ((Builtin.bitAnd x114 (1 : Int)) = (1 : Int)))))])), (a20, HO.lst v21), (a3, HO.dK v56)] ++ R) _ := S119.set 0 rfl _
        exact ⟨_, (S119.get 0 rfl), hlt, F115, _, (acc117 ++ [(!decide (y133 = (decide ((Builtin.bitAnd x114 (1 : Int)) = (1 : Int)))))]), r129, s118, S138, LR.snoc hl120 rfl, by rw [List.length_append]; exact Nat.succ_le_succ hn121, hr131, by rw [List.append_assoc]; exact hy113.trans (congrArg (acc117 ++ ·) hc132)⟩
      rintro H2 ⟨F115, v116, acc117, r111, s118, S119, hl120, hn121, hr112, hy113⟩
      rw [LR.dropEnd hl_edges0] at hr112
      obtain rfl := Option.some.inj hr112
      rw [List.append_nil] at hy113
      subst hy113
      have S140 : Sta F115 ([(a122, HO.lst v116), (a20, HO.lst v21), (a3, HO.dK v56)] ++ R) _ := S119
      obtain rfl := Option.some.inj hm
      have S141 : Sta F115 ([(a122, HO.lst v116)] ++ R) _ := S140.pick [0] (by decide) rfl
      exact kk _ _ a122 v116 (s18.trans (s50.trans s118)) S141 hl120

def sp_Plan_answers (T : Txt K mg) : Sp := fun vs H Q _ => ∃ (F0 : Hp) (R : Own) (a_self0 : Addr) (dx_self0 : Addr) (x_self0 : M_Plan) (a_self0_gates0 : Addr) (dx_self0_gates0 : Addr) (a_self0_gates0_rows0 : Addr) (v_self0_gates0_rows0 : List V) (a_self0_gates0_known0 : Addr) (v_self0_gates0_known0 : List (List Key × V)) (a_self0_table0 : Addr) (v_self0_table0 : List (Key × V)) (a_given0 : Addr) (v_given0 : List (Key × V)) (x_given0 : (List (Int × Bool))) (r : (List (Int × Bool))),
  vs = [V.ref a_self0, V.ref a_given0] ∧ LR (rKT F0) v_self0_gates0_rows0 x_self0.gates.rows ∧ KR id (rInt F0) v_self0_gates0_known0 x_self0.gates.known ∧ KR Sum.inl (rInt F0) v_self0_table0 x_self0.table ∧ (ov F0 R) a_given0 = some (HO.dK v_given0) ∧ KR Sum.inl (rBool F0) v_given0 x_given0 ∧ Sta F0 ([(a_self0, HO.ins T.a_Plan dx_self0 (fl_Plan (V.str x_self0.side) (V.ref a_self0_gates0) (V.ref a_self0_table0))), (a_self0_gates0, HO.ins T.a_Gates dx_self0_gates0 (fl_Gates (V.ref a_self0_gates0_rows0) (V.ref a_self0_gates0_known0))), (a_self0_gates0_rows0, HO.lst v_self0_gates0_rows0), (a_self0_gates0_known0, HO.dT v_self0_gates0_known0), (a_self0_table0, HO.dK v_self0_table0)] ++ R) H ∧ m_Plan_answers x_self0 x_given0 = some r ∧ ∀ (F1 : Hp) (H1 : Hp) (a_ret0p : Addr) (v_ret0p : List (Key × V)), Same F0 F1 → Sta F1 ([(a_ret0p, HO.dK v_ret0p), (a_self0, HO.ins T.a_Plan dx_self0 (fl_Plan (V.str x_self0.side) (V.ref a_self0_gates0) (V.ref a_self0_table0))), (a_self0_gates0, HO.ins T.a_Gates dx_self0_gates0 (fl_Gates (V.ref a_self0_gates0_rows0) (V.ref a_self0_gates0_known0))), (a_self0_gates0_rows0, HO.lst v_self0_gates0_rows0), (a_self0_gates0_known0, HO.dT v_self0_gates0_known0), (a_self0_table0, HO.dK v_self0_table0)] ++ R) H1 → KR Sum.inl (rBool F1) v_ret0p r → Q (V.ref a_ret0p) H1

theorem ok_Plan_answers (T : Txt K mg) : FnOk P w K mg base CX0 3 T.a_Plan_answers T.d_Plan_answers ["self", "given"] (sp_Plan_answers T) := by
  refine T.F_Plan_answers.ok sc_Plan_answers (fun vs H Q E h => ?_) (fun cdv A outer s H vs Q E hr h => ?_)
  · obtain ⟨_, _, _, _, _, _, _, _, _, _, _, _, _, _, _, _, _, rfl, _⟩ := h
    rfl
  · obtain ⟨F0, R, a_self0, dx_self0, x_self0, a_self0_gates0, dx_self0_gates0, a_self0_gates0_rows0, v_self0_gates0_rows0, a_self0_gates0_known0, v_self0_gates0_known0, a_self0_table0, v_self0_table0, a_given0, v_given0, x_given0, r, rfl, hl_self0_gates0_rows0, hl_self0_gates0_known0, hl_self0_table0, hs_given0, hl_given0, S0, hm, kk⟩ := h
    have hu := hu_of hr
    unfold m_Plan_answers at hm
    refine ⟨_, (pss_cons (ps_set (i := 2) sc_Plan_answers.nd rfl (Or.inl rfl) (pe_meth (pe_fld (pv 0) rfl) T.cl_Gates T.h_Gates_worths (ok_Gates_worths T) (hr.mono (by decide)) T.b_Gates_worths .nil pass0 (pa_cons (pe_meth0 (pv 0) T.cl_Plan T.h_Plan_edges (ok_Plan_edges T) (hr.mono (by decide)) T.b_Plan_edges .nil pass0) (pa_cons (pv 1) pa_nil)))) (pss_one (ps_ret (pe_lock (pe_dc (own := [("letter", 3), ("value", 4)]) rfl sc_Plan_answers.nd (pi_zipD rfl T.z_zip (pa_cons (pe_fld (pv 0) rfl) (pa_cons (pv 2) pa_nil))) (blkOk_by (own := [("letter", 3), ("value", 4)]) (N := ["self", "given", "values", "letter", "value"]) (sc := defScope s_Plan_answers) (by decide +kernel)) (fun _ _ _ _ _ => (pg_tupK K 2 rfl (pgs_cons (pg_name (i := 3) sc_Plan_answers.nd rfl (Or.inl rfl)) (pgs_cons (pg_name (i := 4) sc_Plan_answers.nd rfl (Or.inl rfl)) pgs_nil)))) (fun _ _ _ _ _ => pts_nil) (fun _ _ _ _ _ => (pv 3)) (fun _ _ _ _ _ => (pv 4))))))), ?_⟩
    refine seqI fun N1 hN2 => ?_
    revert hm; refine bndI fun y3 e4 hm => ?_
    refine ⟨_, rfl, _, _, _, _, _, rfl, (S0.get 0 rfl), T.cl_Plan, T.n_Plan_gates, fl_Plan_gates, _, _, _, rfl, (S0.get 1 rfl), fl_Gates_no_worths, _, rfl, _, _, _, rfl, (S0.get 0 rfl), fl_Plan_no_edges, F0, ([] ++ R), a_self0, dx_self0, (M_Plan.mk x_self0.side (M_Gates.mk x_self0.gates.rows x_self0.gates.known) x_self0.table), a_self0_gates0, dx_self0_gates0, a_self0_gates0_rows0, v_self0_gates0_rows0, a_self0_gates0_known0, v_self0_gates0_known0, a_self0_table0, v_self0_table0, y3, rfl, hl_self0_gates0_rows0, hl_self0_gates0_known0, hl_self0_table0, S0, (by exact e4), fun F5 H6 a9 v10 s7 S8 hl11 => ?_⟩
    have S12 : Sta F5 ([(a9, HO.lst v10), (a_self0, HO.ins T.a_Plan dx_self0 (fl_Plan (V.str x_self0.side) (V.ref a_self0_gates0) (V.ref a_self0_table0))), (a_self0_gates0, HO.ins T.a_Gates dx_self0_gates0 (fl_Gates (V.ref a_self0_gates0_rows0) (V.ref a_self0_gates0_known0))), (a_self0_gates0_rows0, HO.lst v_self0_gates0_rows0), (a_self0_gates0_known0, HO.dT v_self0_gates0_known0), (a_self0_table0, HO.dK v_self0_table0)] ++ R) _ := S8
    revert hm; refine bndI fun y13 e14 hm => ?_
    refine ⟨_, rfl, F5, ([(a9, HO.lst v10), (a_self0, HO.ins T.a_Plan dx_self0 (fl_Plan (V.str x_self0.side) (V.ref a_self0_gates0) (V.ref a_self0_table0))), (a_self0_gates0, HO.ins T.a_Gates dx_self0_gates0 (fl_Gates (V.ref a_self0_gates0_rows0) (V.ref a_self0_gates0_known0))), (a_self0_gates0_rows0, HO.lst v_self0_gates0_rows0), (a_self0_gates0_known0, HO.dT v_self0_gates0_known0), (a_self0_table0, HO.dK v_self0_table0)] ++ R), a_self0_gates0, dx_self0_gates0, (M_Gates.mk x_self0.gates.rows x_self0.gates.known), a_self0_gates0_rows0, v_self0_gates0_rows0, a_self0_gates0_known0, v_self0_gates0_known0, a9, v10, y3, a_given0, v_given0, x_given0, y13, rfl, (S12.getO 2 rfl), (S12.getO 3 rfl), (hl_self0_gates0_rows0.mono s7), (S12.getO 4 rfl), (KR.mono hl_self0_gates0_known0 s7), (SqL.of (S12.getO 0 rfl)), hl11, (S12.ovR s7 (fun _ q => (List.mem_append_right _ q)) _ _ hs_given0), (KR.mono hl_given0 s7), S12, (by exact e14), fun F15 H16 a19 v20 s17 S18 hl21 => ?_⟩
    clear S8
    have S22 : Sta F15 ([(a19, HO.lst v20), (a9, HO.lst v10), (a_self0, HO.ins T.a_Plan dx_self0 (fl_Plan (V.str x_self0.side) (V.ref a_self0_gates0) (V.ref a_self0_table0))), (a_self0_gates0, HO.ins T.a_Gates dx_self0_gates0 (fl_Gates (V.ref a_self0_gates0_rows0) (V.ref a_self0_gates0_known0))), (a_self0_gates0_rows0, HO.lst v_self0_gates0_rows0), (a_self0_gates0_known0, HO.dT v_self0_gates0_known0), (a_self0_table0, HO.dK v_self0_table0)] ++ R) _ := S18
    refine hN2 _ _ ?_
    refine ⟨_, _, (S22.get 6 rfl), trivial, fun od23 => ?_⟩
    have S24 : Sta F15 ([(a19, HO.lst v20), (a9, HO.lst v10), (a_self0, HO.ins T.a_Plan dx_self0 (fl_Plan (V.str x_self0.side) (V.ref a_self0_gates0) (V.ref a_self0_table0))), (a_self0_gates0, HO.ins T.a_Gates dx_self0_gates0 (fl_Gates (V.ref a_self0_gates0_rows0) (V.ref a_self0_gates0_known0))), (a_self0_gates0_rows0, HO.lst v_self0_gates0_rows0), (a_self0_gates0_known0, HO.dT v_self0_gates0_known0), (a_self0_table0, HO.frz od23 (HO.dK v_self0_table0))] ++ R) _ := S22.set 6 rfl _
    revert hm; refine grdI fun g25 hm => ?_
    refine ⟨_, rfl, _, _, _, _, _, rfl, (S24.get 2 rfl), T.cl_Plan, T.n_Plan_table, fl_Plan_table, _, rfl, ?_⟩
    clear S18 S22
    have hl27 := KR.keysLI (F := F15) (KR.mono hl_self0_table0 (s7.trans s17))
    have hl28 := hl21
    have c26 : v_self0_table0.length = v20.length := zipD_len (KR.mono hl_self0_table0 (s7.trans s17)) hl28 g25
    revert hm; refine grdI fun g43 hm => ?_
    revert hm; refine bndI fun y62 e29 hm => ?_
    refine ⟨_, _, _, _, _, rfl, (S24.get 6 rfl), (SqL.of (S24.get 0 rfl)), fun a41 np42 => dc_pr (walk_zipD (ys := v20) c26) prZipD (fun i H2 => ∃ (F34 : Hp) (v35 : List (Key × V)) (acc36 : (List (Int × Bool))), Same F15 F34 ∧ Sta F34 ([(a41, HO.dK v35), (a19, HO.lst v20), (a9, HO.lst v10), (a_self0, HO.ins T.a_Plan dx_self0 (fl_Plan (V.str x_self0.side) (V.ref a_self0_gates0) (V.ref a_self0_table0))), (a_self0_gates0, HO.ins T.a_Gates dx_self0_gates0 (fl_Gates (V.ref a_self0_gates0_rows0) (V.ref a_self0_gates0_known0))), (a_self0_gates0_rows0, HO.lst v_self0_gates0_rows0), (a_self0_gates0_known0, HO.dT v_self0_gates0_known0), (a_self0_table0, HO.frz od23 (HO.dK v_self0_table0))] ++ R) H2 ∧ KR Sum.inl (rBool F34) v35 acc36 ∧ acc36.length ≤ i ∧ dcO (fun x33 => some (some (x33.1, x33.2))) acc36 (List.drop i (((x_self0.table.map fun (q : Int × Int) => q.1)).zip y13)) = some y62) ⟨F15, [], [], Same.refl _, S24.new np42 _, trivial, Nat.le_refl _, e29⟩ (by rintro i H2 _ ⟨F34, v35, acc36, s37, S38, hl39, hn40, hr31⟩; exact ⟨(S38.get 7 rfl), (SqL.of (S38.get 1 rfl))⟩) ?_ ?_⟩
    · rintro i v44 v52 a54 H2 hi hi56 ⟨F34, v35, acc36, s37, S38, hl39, hn40, hr31⟩ np55
      obtain ⟨x33, hx45, rx46, rx53⟩ := zget2 hl27 hl28 hi hi56
      rw [drop_cons hx45] at hr31
      revert hr31; refine dcI fun y47 hm hr50 => ?_
      obtain ⟨F57, s58, S59, h60⟩ : ∃ F', Same F34 F' ∧ Sta F' ([(a41, HO.dK v35), (a19, HO.lst v20), (a9, HO.lst v10), (a_self0, HO.ins T.a_Plan dx_self0 (fl_Plan (V.str x_self0.side) (V.ref a_self0_gates0) (V.ref a_self0_table0))), (a_self0_gates0, HO.ins T.a_Gates dx_self0_gates0 (fl_Gates (V.ref a_self0_gates0_rows0) (V.ref a_self0_gates0_known0))), (a_self0_gates0_rows0, HO.lst v_self0_gates0_rows0), (a_self0_gates0_known0, HO.dT v_self0_gates0_known0), (a_self0_table0, HO.frz od23 (HO.dK v_self0_table0))] ++ R) _ ∧ F' a54 = some (HO.tup [v44, v52]) := ⟨_, S38.sameF np55 _, S38.newF np55 _, upd_same⟩
      obtain rfl := rInt_e rx46
      obtain rfl := rBool_e rx53
      refine ⟨_, _, rfl, (SqT.mono (SqT.of h60) ((Same.refl _).trans S59.sub)), rfl, _, _, rfl, _, _, rfl, rfl, rfl, ?_⟩
      refine tYesI ?_
      rw [if_pos rfl]
      refine ⟨_, rfl, _, rfl, ?_⟩
      obtain rfl := Option.some.inj hm
      have hlt : v35.length < 16777216 := by rw [KR.length hl39]; have := (List.getElem?_eq_some_iff.mp hx45).1; have := of_decide_eq_true g43; omega
      have S61 : Sta F57 ([(a41, HO.dK (putK v35 (Sum.inl x33.1) (V.bl x33.2))), (a19, HO.lst v20), (a9, HO.lst v10), (a_self0, HO.ins T.a_Plan dx_self0 (fl_Plan (V.str x_self0.side) (V.ref a_self0_gates0) (V.ref a_self0_table0))), (a_self0_gates0, HO.ins T.a_Gates dx_self0_gates0 (fl_Gates (V.ref a_self0_gates0_rows0) (V.ref a_self0_gates0_known0))), (a_self0_gates0_rows0, HO.lst v_self0_gates0_rows0), (a_self0_gates0_known0, HO.dT v_self0_gates0_known0), (a_self0_table0, HO.frz od23 (HO.dK v_self0_table0))] ++ R) _ := S59.set 0 rfl _
      exact ⟨_, (Sum.inl x33.1), rfl, (S59.get 0 rfl), hlt, F57, _, (mput acc36 x33.1 x33.2), (s37.trans s58), S61, KR.put (KR.mono hl39 s58) kinj_int rfl, mput_leI hn40, hr50⟩
    rintro H2 ⟨F34, v35, acc36, s37, S38, hl39, hn40, hr31⟩
    rw [zdrop hl27 hl28 (by rw [List.length_map, c26, Nat.min_self])] at hr31
    obtain rfl := (Option.some.inj hr31).symm
    have S63 : Sta F34 ([(a41, HO.dK v35), (a19, HO.lst v20), (a9, HO.lst v10), (a_self0, HO.ins T.a_Plan dx_self0 (fl_Plan (V.str x_self0.side) (V.ref a_self0_gates0) (V.ref a_self0_table0))), (a_self0_gates0, HO.ins T.a_Gates dx_self0_gates0 (fl_Gates (V.ref a_self0_gates0_rows0) (V.ref a_self0_gates0_known0))), (a_self0_gates0_rows0, HO.lst v_self0_gates0_rows0), (a_self0_gates0_known0, HO.dT v_self0_gates0_known0), (a_self0_table0, HO.frz od23 (HO.dK v_self0_table0))] ++ R) _ := S38
    refine ⟨(S63.get 7 rfl), ?_⟩
    have S64 : Sta F34 ([(a41, HO.dK v35), (a19, HO.lst v20), (a9, HO.lst v10), (a_self0, HO.ins T.a_Plan dx_self0 (fl_Plan (V.str x_self0.side) (V.ref a_self0_gates0) (V.ref a_self0_table0))), (a_self0_gates0, HO.ins T.a_Gates dx_self0_gates0 (fl_Gates (V.ref a_self0_gates0_rows0) (V.ref a_self0_gates0_known0))), (a_self0_gates0_rows0, HO.lst v_self0_gates0_rows0), (a_self0_gates0_known0, HO.dT v_self0_gates0_known0), (a_self0_table0, HO.dK v_self0_table0)] ++ R) _ := S63.set 7 rfl _
    obtain rfl := Option.some.inj hm
    have S65 : Sta F34 ([(a41, HO.dK v35), (a_self0, HO.ins T.a_Plan dx_self0 (fl_Plan (V.str x_self0.side) (V.ref a_self0_gates0) (V.ref a_self0_table0))), (a_self0_gates0, HO.ins T.a_Gates dx_self0_gates0 (fl_Gates (V.ref a_self0_gates0_rows0) (V.ref a_self0_gates0_known0))), (a_self0_gates0_rows0, HO.lst v_self0_gates0_rows0), (a_self0_gates0_known0, HO.dT v_self0_gates0_known0), (a_self0_table0, HO.dK v_self0_table0)] ++ R) _ := S64.pick [0, 3, 4, 5, 6, 7] (by decide) rfl
    exact kk _ _ a41 v35 (s7.trans (s17.trans s37)) S65 hl39

def sp_law_value (T : Txt K mg) : Sp := fun vs H Q _ => ∃ (F0 : Hp) (R : Own) (a_truths0 : Addr) (v_truths0 : List V) (x_truths0 : (List Bool)) (x_edge0 : Int) (r : Bool),
  vs = [V.ref a_truths0, V.int x_edge0] ∧ SqL K (ov F0 R) a_truths0 v_truths0 ∧ LR (rBool F0) v_truths0 x_truths0 ∧ Sta F0 ([] ++ R) H ∧ m_law_value x_truths0 x_edge0 = some r ∧ Q (V.bl r) H

theorem ok_law_value (T : Txt K mg) : FnOk P w K mg base CX0 1 T.a_law_value T.d_law_value ["truths", "edge"] (sp_law_value T) := by
  refine T.F_law_value.ok sc_law_value (fun vs H Q E h => ?_) (fun cdv A outer s H vs Q E hr h => ?_)
  · obtain ⟨_, _, _, _, _, _, _, rfl, _⟩ := h
    rfl
  · obtain ⟨F0, R, a_truths0, v_truths0, x_truths0, x_edge0, r, rfl, hs_truths0, hl_truths0, S0, hm, kk⟩ := h
    have hu := hu_of hr
    unfold m_law_value at hm
    refine ⟨_, (pss_one (ps_ret (pe_cmpR oB_ne (pe_ix ix_list (pv 0) (pe_op op_fdiv (pv 1) pe_int) (fun _ _ => rfl)) (pe_cmpR oI_eq (pe_op op_mod (pe_callTy call_int1 (by rfl) T.z_int (by decide +kernel) (pa_cons (pv 1) pa_nil)) pe_int) pe_int (nomark _)) (nomark _)))), ?_⟩
    revert hm; refine bndI fun y1 e2 hm => ?_
    obtain ⟨v3, ev4, rv5⟩ := LR.atI hl_truths0 e2
    obtain rfl := rBool_e rv5
    refine ⟨_, rfl, _, rfl, _, _, rfl, rfl, ⟨by decide, by decide⟩, _, _, _, _, rfl, rfl, (SqL.mono hs_truths0 (S0.bor (Same.refl _) (fun _ q => (List.mem_append_right _ q)))), ev4, _, rfl, ?_⟩
    refine .inl ⟨_, rfl, ?_⟩
    refine ⟨_, _, rfl, rfl, (by show (0 : Int) < 2; decide), _, _, rfl, rfl, _, _, rfl, rfl, ?_⟩
    obtain rfl := Option.some.inj hm
    exact kk

def sp_law_truths (T : Txt K mg) : Sp := fun vs H Q _ => ∃ (F0 : Hp) (R : Own) (a_rows0 : Addr) (v_rows0 : List V) (x_rows0 : (List (List Key))) (a_choices0 : Addr) (v_choices0 : List (Key × V)) (x_choices0 : (List (Int × Bool))) (r : (List Bool)),
  vs = [V.ref a_rows0, V.ref a_choices0] ∧ SqL K (ov F0 R) a_rows0 v_rows0 ∧ LR (rKT F0) v_rows0 x_rows0 ∧ (ov F0 R) a_choices0 = some (HO.dK v_choices0) ∧ KR Sum.inl (rBool F0) v_choices0 x_choices0 ∧ Sta F0 ([] ++ R) H ∧ m_law_truths x_rows0 x_choices0 = some r ∧ ∀ (F1 : Hp) (H1 : Hp) (a_ret0p : Addr) (v_ret0p : List V), Same F0 F1 → Sta F1 ([(a_ret0p, HO.lst v_ret0p)] ++ R) H1 → LR (rBool F1) v_ret0p r → Q (V.ref a_ret0p) H1

theorem ok_law_truths (T : Txt K mg) : FnOk P w K mg base CX0 2 T.a_law_truths T.d_law_truths ["rows", "choices"] (sp_law_truths T) := by
  refine T.F_law_truths.ok sc_law_truths (fun vs H Q E h => ?_) (fun cdv A outer s H vs Q E hr h => ?_)
  · obtain ⟨_, _, _, _, _, _, _, _, _, rfl, _⟩ := h
    rfl
  · obtain ⟨F0, R, a_rows0, v_rows0, x_rows0, a_choices0, v_choices0, x_choices0, r, rfl, hs_rows0, hl_rows0, hs_choices0, hl_choices0, S0, hm, kk⟩ := h
    have hu := hu_of hr
    unfold m_law_truths at hm
    refine ⟨_, (pss_cons (ps_set (i := 2) sc_law_truths.nd rfl (Or.inl rfl) (pe_lst (pa_cons pe_bl pa_nil))) (pss_cons (ps_for PassesOwn.never rfl (pi_range2 rfl T.z_range (pa_cons pe_int (pa_cons (pe_callB call_len_seq (by rfl) T.z_len PySem.boot_len (pa_cons (pv 0) pa_nil)) pa_nil))) (pg_name (i := 3) sc_law_truths.nd rfl (Or.inl rfl)) (pss_cons (ps_set (i := 4) sc_law_truths.nd rfl (Or.inl rfl) (pe_ix ix_list (pv 0) (pv 3) (fun _ _ => rfl))) (pss_one (ps_if (pt_cmpR oS_eq (pe_ix ix_tup (pv 4) pe_int (fun _ _ => rfl)) pe_str (nomark _)) (pss_one (ps_expr (pe_bm PySem.F.plainAttrs_list PySem.F.slot_list_append PySem.F.type_list_append mt_append (pv 2) (pa_cons (pe_dget2 hu (pv 1) (pe_ix ix_tup (pv 4) pe_int (fun _ _ => rfl)) pe_bl ⟨rfl, rfl, rfl, rfl⟩) pa_nil)))) (pss_one (ps_expr (pe_bm PySem.F.plainAttrs_list PySem.F.slot_list_append PySem.F.type_list_append mt_append (pv 2) (pa_cons (pe_pure (pe_and (pe_call (ok_law_value T) (hr.mono (by decide)) rfl T.g_law_value T.F_law_value.kp T.b_law_value .nil pass0 (pa_cons (pv 2) (pa_cons (pe_ix ix_tup (pv 4) pe_int (fun _ _ => rfl)) pa_nil))) (pe_one (pe_call (ok_law_value T) (hr.mono (by decide)) rfl T.g_law_value T.F_law_value.kp T.b_law_value .nil pass0 (pa_cons (pv 2) (pa_cons (pe_ix ix_tup (pv 4) pe_int (fun _ _ => rfl)) pa_nil)))))) pa_nil)))))))) (pss_one (ps_ret (pv 2))))), ?_⟩
    refine seqI fun N1 hN2 => ?_
    refine ⟨(by show 1 ≤ sizeLine; decide), ?_⟩
    intro a3 np4
    have hl5 : LR (rBool F0) [V.bl false] ([false] : (List Bool)) := ⟨rfl, trivial⟩
    have S6 : Sta F0 ([(a3, HO.lst [V.bl false])] ++ R) _ := S0.new np4 _
    refine hN2 _ _ ?_
    refine seqI fun N7 hN8 => ?_
    refine ⟨_, rfl, _, _, rfl, .inl (SqL.mono hs_rows0 (S6.bor (Same.refl _) (fun _ q => (List.mem_append_right _ q)))), ?_⟩
    clear S0
    rw [LR.length hl_rows0]
    revert hm; refine grdI fun g12 hm => ?_
    revert hm; refine bndI fun y9 e10 hm11 => ?_
    refine ⟨_, _, rfl, (rng2Ok_ok g12), for_rng (lo := (1 : Int)) (n := ((x_rows0.length : Int) - (1 : Int)).toNat) (fun i σ H2 => ∃ (st1 : (List Bool)) (F32 : Hp) (v37 : List V) (o35 : Option V) (o36 : Option V), σ = [some (V.ref a_rows0), some (V.ref a_choices0), some (V.ref a3), o35, o36] ∧ Same F0 F32 ∧ Sta F32 ([(a3, HO.lst v37)] ++ R) H2 ∧ LR (rBool F32) v37 st1 ∧ m_law_truths_l1 x_rows0 x_choices0 (List.drop i (pyRange (1 : Int) ((x_rows0.length : Int) - (1 : Int)).toNat)) st1 = some y9) ⟨([false] : (List Bool)), F0, [V.bl false], _, _, rfl, (Same.refl _), S6, hl5, e10⟩ ?_ ?_⟩
    · rintro i x39 σ H2 hi ⟨st1, F32, v37, o35, o36, rfl, s33, S34, hl38, hm⟩
      rw [drop_cons hi, m_law_truths_l1] at hm
      refine seqI fun N41 hN42 => ?_
      revert hm; refine bndI fun y43 e44 hm => ?_
      obtain ⟨v45, ev46, rv47⟩ := LR.atI hl_rows0 e44
      obtain ⟨a48, rfl, h49⟩ := rv47
      refine ⟨_, rfl, _, rfl, _, _, _, _, rfl, rfl, (SqL.mono hs_rows0 (S34.bor s33 (fun _ q => (List.mem_append_right _ q)))), ev46, ?_⟩
      refine hN42 _ _ ?_
      revert hm; refine bndI fun y50 e51 hm => ?_
      refine ⟨_, rfl, _, _, _, _, rfl, rfl, (SqT.of (S34.sub _ _ (s33 _ _ h49))), (kStr_at e51), _, _, rfl, rfl, _, rfl, ?_⟩
      by_cases c52 : (decide (y50 = ("letter" : Str))) = true
      · revert hm; refine ifTI c52 fun hm => ?_
        refine goT c52 ?_
        revert hm; refine bndI fun y53 e54 hm => ?_
        refine ⟨_, rfl, .inl ⟨rfl, _, (SqL.of (S34.get 0 rfl))⟩, _, rfl, _, rfl, (.inl ⟨_, .inl (S34.bor s33 (fun _ q => (List.mem_append_right _ q)) _ _ hs_choices0)⟩), _, rfl, _, _, _, _, rfl, rfl, (SqT.of (S34.sub _ _ (s33 _ _ h49))), (kInt_at e54), _, (DGet.k (k := Sum.inl y53) (S34.bor s33 (fun _ q => (List.mem_append_right _ q)) _ _ hs_choices0)), ?_⟩
        rw [show _ = V.bl ((mget x_choices0 y53).getD false) from KR.getD_bool (KR.mono hl_choices0 s33) kinj_int y53 false]
        revert hm; refine grdI fun g55 hm => ?_
        refine ⟨_, _, _, rfl, rfl, (S34.get 0 rfl), (by rw [LR.length hl38]; exact of_decide_eq_true g55), ?_⟩
        have hl56 : LR (rBool F32) (v37 ++ [V.bl ((mget x_choices0 y53).getD false)]) (st1 ++ [((mget x_choices0 y53).getD false)]) := LR.snoc hl38 rfl
        have S57 : Sta F32 ([(a3, HO.lst (v37 ++ [V.bl ((mget x_choices0 y53).getD false)]))] ++ R) _ := S34.set 0 rfl _
        exact ⟨(st1 ++ [((mget x_choices0 y53).getD false)]), F32, (v37 ++ [V.bl ((mget x_choices0 y53).getD false)]), _, _, rfl, s33, S57, hl56, hm⟩
      · revert hm; refine ifFI c52 fun hm => ?_
        refine goF c52 ?_
        refine ⟨_, rfl, .inl ⟨rfl, _, (SqL.of (S34.get 0 rfl))⟩, ?_⟩
        revert hm; refine bndI fun b58 e59 hm => ?_
        refine ⟨V.bl b58, ?_, ?_⟩
        · clear hm
          have hm := e59
          clear e59
          revert hm; refine bndI fun y60 e61 hm => ?_
          revert hm; refine bndI fun y62 e63 hm => ?_
          refine ⟨_, rfl, _, rfl, _, _, _, _, rfl, rfl, (SqT.of (S34.sub _ _ (s33 _ _ h49))), (kInt_at e61), F32, ([(a3, HO.lst v37)] ++ R), a3, v37, st1, y60, y62, rfl, (SqL.of (S34.getO 0 rfl)), hl38, S34, (by exact e63), _, rfl, ?_⟩
          by_cases c64 : y62 = true
          · revert hm; refine ifTI c64 fun hm => ?_
            refine goT c64 ?_
            revert hm; refine bndI fun y65 e66 hm => ?_
            revert hm; refine bndI fun y67 e68 hm => ?_
            refine ⟨_, rfl, _, rfl, _, _, _, _, rfl, rfl, (SqT.of (S34.sub _ _ (s33 _ _ h49))), (kInt_at e66), F32, ([(a3, HO.lst v37)] ++ R), a3, v37, st1, y65, y67, rfl, (SqL.of (S34.getO 0 rfl)), hl38, S34, (by exact e68), ?_⟩
            exact ⟨congrArg V.bl (Option.some.inj hm), rfl⟩
          · revert hm; refine ifFI c64 fun hm => ?_
            exact goF c64 ⟨congrArg V.bl (Option.some.inj hm), rfl⟩
        revert hm; refine grdI fun g69 hm => ?_
        refine ⟨_, _, _, rfl, rfl, (S34.get 0 rfl), (by rw [LR.length hl38]; exact of_decide_eq_true g69), ?_⟩
        have hl70 : LR (rBool F32) (v37 ++ [V.bl b58]) (st1 ++ [b58]) := LR.snoc hl38 rfl
        have S71 : Sta F32 ([(a3, HO.lst (v37 ++ [V.bl b58]))] ++ R) _ := S34.set 0 rfl _
        exact ⟨(st1 ++ [b58]), F32, (v37 ++ [V.bl b58]), _, _, rfl, s33, S71, hl70, hm⟩
    · rintro σ H2 ⟨st1, F32, v37, o35, o36, rfl, s33, S34, hl38, hm⟩
      rw [drop_rng, m_law_truths_l1] at hm
      obtain rfl := Option.some.inj hm
      have hm := hm11
      refine hN8 _ _ ?_
      refine ⟨_, rfl, ?_⟩
      obtain rfl := Option.some.inj hm
      exact kk _ _ a3 v37 s33 S34 hl38

def sp_law_answers (T : Txt K mg) : Sp := fun vs H Q _ => ∃ (F0 : Hp) (R : Own) (a_plan0 : Addr) (dx_plan0 : Addr) (x_plan0 : M_Plan) (a_plan0_gates0 : Addr) (dx_plan0_gates0 : Addr) (a_plan0_gates0_rows0 : Addr) (v_plan0_gates0_rows0 : List V) (a_plan0_gates0_known0 : Addr) (v_plan0_gates0_known0 : List (List Key × V)) (a_plan0_table0 : Addr) (v_plan0_table0 : List (Key × V)) (a_rows0 : Addr) (v_rows0 : List V) (x_rows0 : (List (List Key))) (a_table0 : Addr) (v_table0 : List (Key × V)) (x_table0 : (List (Int × Int))) (a_given0 : Addr) (v_given0 : List (Key × V)) (x_given0 : (List (Int × Bool))) (r : Bool),
  vs = [V.ref a_plan0, V.ref a_rows0, V.ref a_table0, V.ref a_given0] ∧ LR (rKT F0) v_plan0_gates0_rows0 x_plan0.gates.rows ∧ KR id (rInt F0) v_plan0_gates0_known0 x_plan0.gates.known ∧ KR Sum.inl (rInt F0) v_plan0_table0 x_plan0.table ∧ SqL K (ov F0 R) a_rows0 v_rows0 ∧ LR (rKT F0) v_rows0 x_rows0 ∧ KR Sum.inl (rInt F0) v_table0 x_table0 ∧ (ov F0 R) a_given0 = some (HO.dK v_given0) ∧ KR Sum.inl (rBool F0) v_given0 x_given0 ∧ Sta F0 ([(a_plan0, HO.ins T.a_Plan dx_plan0 (fl_Plan (V.str x_plan0.side) (V.ref a_plan0_gates0) (V.ref a_plan0_table0))), (a_plan0_gates0, HO.ins T.a_Gates dx_plan0_gates0 (fl_Gates (V.ref a_plan0_gates0_rows0) (V.ref a_plan0_gates0_known0))), (a_plan0_gates0_rows0, HO.lst v_plan0_gates0_rows0), (a_plan0_gates0_known0, HO.dT v_plan0_gates0_known0), (a_plan0_table0, HO.dK v_plan0_table0), (a_table0, HO.dK v_table0)] ++ R) H ∧ m_law_answers x_plan0 x_rows0 x_table0 x_given0 = some r ∧ ∀ (F1 : Hp) (H1 : Hp), Same F0 F1 → Sta F1 ([(a_plan0, HO.ins T.a_Plan dx_plan0 (fl_Plan (V.str x_plan0.side) (V.ref a_plan0_gates0) (V.ref a_plan0_table0))), (a_plan0_gates0, HO.ins T.a_Gates dx_plan0_gates0 (fl_Gates (V.ref a_plan0_gates0_rows0) (V.ref a_plan0_gates0_known0))), (a_plan0_gates0_rows0, HO.lst v_plan0_gates0_rows0), (a_plan0_gates0_known0, HO.dT v_plan0_gates0_known0), (a_plan0_table0, HO.dK v_plan0_table0), (a_table0, HO.dK v_table0)] ++ R) H1 → Q (V.bl r) H1

theorem ok_law_answers (T : Txt K mg) : FnOk P w K mg base CX0 4 T.a_law_answers T.d_law_answers ["plan", "rows", "table", "given"] (sp_law_answers T) := by
  refine T.F_law_answers.ok sc_law_answers (fun vs H Q E h => ?_) (fun cdv A outer s H vs Q E hr h => ?_)
  · obtain ⟨_, _, _, _, _, _, _, _, _, _, _, _, _, _, _, _, _, _, _, _, _, _, _, rfl, _⟩ := h
    rfl
  · obtain ⟨F0, R, a_plan0, dx_plan0, x_plan0, a_plan0_gates0, dx_plan0_gates0, a_plan0_gates0_rows0, v_plan0_gates0_rows0, a_plan0_gates0_known0, v_plan0_gates0_known0, a_plan0_table0, v_plan0_table0, a_rows0, v_rows0, x_rows0, a_table0, v_table0, x_table0, a_given0, v_given0, x_given0, r, rfl, hl_plan0_gates0_rows0, hl_plan0_gates0_known0, hl_plan0_table0, hs_rows0, hl_rows0, hl_table0, hs_given0, hl_given0, S0, hm, kk⟩ := h
    have hu := hu_of hr
    unfold m_law_answers at hm
    refine ⟨_, (pss_cons (ps_set (i := 4) sc_law_answers.nd rfl (Or.inl rfl) (pe_meth (pv 0) T.cl_Plan T.h_Plan_answers (ok_Plan_answers T) (hr.mono (by decide)) T.b_Plan_answers .nil pass0 (pa_cons (pe_callTy call_dictD (by rfl) T.z_dict (by decide +kernel) (pa_cons (pv 3) pa_nil)) pa_nil))) (pss_cons (ps_if (pt_pure (PW.pt (pw_or (pt_not (pt_val (pe_callB call_isi (by rfl) T.z_isinstance (by decide +kernel) (pa_cons (pv 4) (pa_cons (pe_bltn (v := .ty "dict") (by rfl) T.z_dict (by decide +kernel) rfl) pa_nil))))) (pw_or1 (pt_cmpR oI_ne (pe_callB call_lenD (by rfl) T.z_len PySem.boot_len (pa_cons (pv 4) pa_nil)) (pe_callB call_lenD (by rfl) T.z_len PySem.boot_len (pa_cons (pv 2) pa_nil)) (nomark _)))))) (pss_one (ps_ret pe_bl)) pss_nil) (pss_cons (ps_set (i := 5) sc_law_answers.nd rfl (Or.inl rfl) (pe_call (ok_law_truths T) (hr.mono (by decide)) rfl T.g_law_truths T.F_law_truths.kp T.b_law_truths .nil pass0 (pa_cons (pv 1) (pa_cons (pv 3) pa_nil)))) (pss_cons (ps_lock (ps_for PassesOwn.never rfl (pi_keys (pv 2)) (pg_name (i := 6) sc_law_answers.nd rfl (Or.inl rfl)) (pss_cons (ps_if (pt_pure (PW.pt (pw_or (pt_cmp (pc_dnotin hu (pv 6) (pv 4))) (pw_or1 (pt_not (pt_val (pe_callB call_isi (by rfl) T.z_isinstance (by decide +kernel) (pa_cons (pe_dget hu (pv 4) (pv 6) (fun _ _ => rfl)) (pa_cons (pe_bltn (v := .ty "bool") (by rfl) T.z_bool (by decide +kernel) rfl) pa_nil))))))))) (pss_one (ps_ret pe_bl)) pss_nil) (pss_one (ps_if (pt_cmpR oB_ne (pe_dget hu (pv 4) (pv 6) (fun _ _ => rfl)) (pe_call (ok_law_value T) (hr.mono (by decide)) rfl T.g_law_value T.F_law_value.kp T.b_law_value .nil pass0 (pa_cons (pv 5) (pa_cons (pe_dget hu (pv 2) (pv 6) (fun _ _ => rfl)) pa_nil))) (nomark _)) (pss_one (ps_ret pe_bl)) pss_nil))))) (pss_one (ps_ret pe_bl)))))), ?_⟩
    refine seqI fun N1 hN2 => ?_
    refine ⟨_, rfl, _, _, _, rfl, (S0.get 0 rfl), fl_Plan_no_answers, _, rfl, _, _, rfl, (.inl (S0.bor (Same.refl _) (fun _ q => (List.mem_append_right _ q)) _ _ hs_given0)), ?_⟩
    intro a3 np4
    have hl5 := hl_given0
    have S6 : Sta F0 ([(a3, HO.dK v_given0), (a_plan0, HO.ins T.a_Plan dx_plan0 (fl_Plan (V.str x_plan0.side) (V.ref a_plan0_gates0) (V.ref a_plan0_table0))), (a_plan0_gates0, HO.ins T.a_Gates dx_plan0_gates0 (fl_Gates (V.ref a_plan0_gates0_rows0) (V.ref a_plan0_gates0_known0))), (a_plan0_gates0_rows0, HO.lst v_plan0_gates0_rows0), (a_plan0_gates0_known0, HO.dT v_plan0_gates0_known0), (a_plan0_table0, HO.dK v_plan0_table0), (a_table0, HO.dK v_table0)] ++ R) _ := S0.new np4 _
    have S7 : Sta F0 ([(a_plan0, HO.ins T.a_Plan dx_plan0 (fl_Plan (V.str x_plan0.side) (V.ref a_plan0_gates0) (V.ref a_plan0_table0))), (a_plan0_gates0, HO.ins T.a_Gates dx_plan0_gates0 (fl_Gates (V.ref a_plan0_gates0_rows0) (V.ref a_plan0_gates0_known0))), (a_plan0_gates0_rows0, HO.lst v_plan0_gates0_rows0), (a_plan0_gates0_known0, HO.dT v_plan0_gates0_known0), (a_plan0_table0, HO.dK v_plan0_table0), (a3, HO.dK v_given0), (a_table0, HO.dK v_table0)] ++ R) _ := S6.pick [1, 2, 3, 4, 5, 0, 6] (by decide) rfl
    revert hm; refine bndI fun y8 e9 hm => ?_
    refine ⟨F0, ([(a3, HO.dK v_given0), (a_table0, HO.dK v_table0)] ++ R), a_plan0, dx_plan0, (M_Plan.mk x_plan0.side (M_Gates.mk x_plan0.gates.rows x_plan0.gates.known) x_plan0.table), a_plan0_gates0, dx_plan0_gates0, a_plan0_gates0_rows0, v_plan0_gates0_rows0, a_plan0_gates0_known0, v_plan0_gates0_known0, a_plan0_table0, v_plan0_table0, a3, v_given0, x_given0, y8, rfl, hl_plan0_gates0_rows0, hl_plan0_gates0_known0, hl_plan0_table0, (S7.tl.tl.tl.tl.tl.getO 0 rfl), hl5, S7, (by exact e9), fun F10 H11 a14 v15 s12 S13 hl16 => ?_⟩
    clear S0 S6
    have S17 : Sta F10 ([(a14, HO.dK v15), (a_plan0, HO.ins T.a_Plan dx_plan0 (fl_Plan (V.str x_plan0.side) (V.ref a_plan0_gates0) (V.ref a_plan0_table0))), (a_plan0_gates0, HO.ins T.a_Gates dx_plan0_gates0 (fl_Gates (V.ref a_plan0_gates0_rows0) (V.ref a_plan0_gates0_known0))), (a_plan0_gates0_rows0, HO.lst v_plan0_gates0_rows0), (a_plan0_gates0_known0, HO.dT v_plan0_gates0_known0), (a_plan0_table0, HO.dK v_plan0_table0), (a3, HO.dK v_given0), (a_table0, HO.dK v_table0)] ++ R) _ := S13
    refine hN2 _ _ ?_
    refine seqI fun N18 hN19 => ?_
    refine ⟨(!decide ((y8.length : Int) = (x_table0.length : Int))), ?_, ?_⟩
    · refine ⟨_, rfl, _, _, _, _, _, rfl, .ty _, (.base (.dK (S17.get 0 rfl))), (by first | rfl | exact PySem.W.kitOne_builtin rfl | decide +kernel), _, rfl, ?_⟩
      refine iteF ?_
      refine ⟨_, rfl, _, _, rfl, (S17.get 0 rfl), ?_⟩
      rw [KR.length hl16]
      refine ⟨_, rfl, _, _, rfl, (S17.get 7 rfl), ?_⟩
      rw [KR.length (KR.mono hl_table0 s12)]
      refine ⟨_, _, rfl, rfl, _, rfl, ?_⟩
      exact ⟨rfl, rfl⟩
    by_cases c20 : (!decide ((y8.length : Int) = (x_table0.length : Int))) = true
    · revert hm; refine ifTI c20 fun hm => ?_
      refine goT c20 ?_
      obtain rfl := Option.some.inj hm
      have S21 : Sta F10 ([(a_plan0, HO.ins T.a_Plan dx_plan0 (fl_Plan (V.str x_plan0.side) (V.ref a_plan0_gates0) (V.ref a_plan0_table0))), (a_plan0_gates0, HO.ins T.a_Gates dx_plan0_gates0 (fl_Gates (V.ref a_plan0_gates0_rows0) (V.ref a_plan0_gates0_known0))), (a_plan0_gates0_rows0, HO.lst v_plan0_gates0_rows0), (a_plan0_gates0_known0, HO.dT v_plan0_gates0_known0), (a_plan0_table0, HO.dK v_plan0_table0), (a_table0, HO.dK v_table0)] ++ R) _ := S17.pick [1, 2, 3, 4, 5, 7] (by decide) rfl
      exact kk _ _ s12 S21
    · revert hm; refine ifFI c20 fun hm => ?_
      refine goF c20 ?_
      refine hN19 _ _ ?_
      refine seqI fun N22 hN23 => ?_
      revert hm; refine bndI fun y24 e25 hm => ?_
      refine ⟨_, rfl, _, rfl, F10, ([(a14, HO.dK v15), (a_plan0, HO.ins T.a_Plan dx_plan0 (fl_Plan (V.str x_plan0.side) (V.ref a_plan0_gates0) (V.ref a_plan0_table0))), (a_plan0_gates0, HO.ins T.a_Gates dx_plan0_gates0 (fl_Gates (V.ref a_plan0_gates0_rows0) (V.ref a_plan0_gates0_known0))), (a_plan0_gates0_rows0, HO.lst v_plan0_gates0_rows0), (a_plan0_gates0_known0, HO.dT v_plan0_gates0_known0), (a_plan0_table0, HO.dK v_plan0_table0), (a3, HO.dK v_given0), (a_table0, HO.dK v_table0)] ++ R), a_rows0, v_rows0, x_rows0, a_given0, v_given0, x_given0, y24, rfl, (SqL.mono hs_rows0 (S17.ovR s12 (fun _ q => (List.mem_append_right _ q)))), (hl_rows0.mono s12), (S17.ovR s12 (fun _ q => (List.mem_append_right _ q)) _ _ hs_given0), (KR.mono hl_given0 s12), S17, (by exact e25), fun F26 H27 a30 v31 s28 S29 hl32 => ?_⟩
      have S33 : Sta F26 ([(a30, HO.lst v31), (a14, HO.dK v15), (a_plan0, HO.ins T.a_Plan dx_plan0 (fl_Plan (V.str x_plan0.side) (V.ref a_plan0_gates0) (V.ref a_plan0_table0))), (a_plan0_gates0, HO.ins T.a_Gates dx_plan0_gates0 (fl_Gates (V.ref a_plan0_gates0_rows0) (V.ref a_plan0_gates0_known0))), (a_plan0_gates0_rows0, HO.lst v_plan0_gates0_rows0), (a_plan0_gates0_known0, HO.dT v_plan0_gates0_known0), (a_plan0_table0, HO.dK v_plan0_table0), (a3, HO.dK v_given0), (a_table0, HO.dK v_table0)] ++ R) _ := S29
      refine hN23 _ _ ?_
      refine seqI fun N34 hN35 => ?_
      refine ⟨_, _, (S33.get 8 rfl), trivial, fun od39 => ?_⟩
      have S40 : Sta F26 ([(a30, HO.lst v31), (a14, HO.dK v15), (a_plan0, HO.ins T.a_Plan dx_plan0 (fl_Plan (V.str x_plan0.side) (V.ref a_plan0_gates0) (V.ref a_plan0_table0))), (a_plan0_gates0, HO.ins T.a_Gates dx_plan0_gates0 (fl_Gates (V.ref a_plan0_gates0_rows0) (V.ref a_plan0_gates0_known0))), (a_plan0_gates0_rows0, HO.lst v_plan0_gates0_rows0), (a_plan0_gates0_known0, HO.dT v_plan0_gates0_known0), (a_plan0_table0, HO.dK v_plan0_table0), (a3, HO.dK v_given0), (a_table0, HO.frz od39 (HO.dK v_table0))] ++ R) _ := S33.set 8 rfl _
      revert hm; refine bndI fun y36 e37 hm38 => ?_
      refine ⟨_, rfl, _, _, rfl, .inl ⟨_, (S40.get 8 rfl), for_keys (kvs := v_table0) (fun i σ H2 => ∃ (st1 : Unit) (F53 : Hp) (o56 : Option V), σ = [some (V.ref a_plan0), some (V.ref a_rows0), some (V.ref a_table0), some (V.ref a_given0), some (V.ref a14), some (V.ref a30), o56] ∧ Same F26 F53 ∧ Sta F53 ([(a30, HO.lst v31), (a14, HO.dK v15), (a_plan0, HO.ins T.a_Plan dx_plan0 (fl_Plan (V.str x_plan0.side) (V.ref a_plan0_gates0) (V.ref a_plan0_table0))), (a_plan0_gates0, HO.ins T.a_Gates dx_plan0_gates0 (fl_Gates (V.ref a_plan0_gates0_rows0) (V.ref a_plan0_gates0_known0))), (a_plan0_gates0_rows0, HO.lst v_plan0_gates0_rows0), (a_plan0_gates0_known0, HO.dT v_plan0_gates0_known0), (a_plan0_table0, HO.dK v_plan0_table0), (a3, HO.dK v_given0), (a_table0, HO.frz od39 (HO.dK v_table0))] ++ R) H2 ∧ m_law_answers_l1 x_table0 y8 y24 (List.drop i (x_table0.map fun (q : Int × Int) => q.1)) st1 = some y36) ⟨(), F26, _, rfl, (Same.refl _), S40, e37⟩ (by rintro i σ H2 ⟨st1, F53, o56, rfl, s54, S55, _⟩; exact S55.get 8 rfl) ?_ ?_⟩⟩
      clear S29 S33
      · rintro i v58 σ H2 hi ⟨st1, F53, o56, rfl, s54, S55, hm⟩
        obtain ⟨x57, hx59, rx60⟩ := LR.getV (KR.keysLI (F := F26) (KR.mono hl_table0 (s12.trans s28))) hi
        rw [drop_cons hx59, m_law_answers_l1] at hm
        obtain rfl := rInt_e rx60
        refine seqI fun N61 hN62 => ?_
        revert hm; refine bndI fun b63 e64 hm => ?_
        refine ⟨b63, ?_, ?_⟩
        · clear hm
          have hm := e64
          clear e64
          refine ⟨_, rfl, _, rfl, _, _, rfl, (DGet.k (k := Sum.inl x57) (S55.get 1 rfl)), ?_⟩
          rw [show _ = (!(mget y8 x57).isSome) from (congrArg (!·) (KR.some_eq (KR.mono hl16 (s28.trans s54)) (kinj_int) x57))]
          refine ⟨_, rfl, ?_⟩
          by_cases c65 : (!(mget y8 x57).isSome) = true
          · revert hm; refine ifTI c65 fun hm => ?_
            exact goT c65 ⟨Option.some.inj hm, rfl⟩
          · revert hm; refine ifFI c65 fun hm => ?_
            refine goF c65 ?_
            revert hm; refine bndI fun y66 e67 hm => ?_
            obtain ⟨v68, ev69, rv70⟩ := KR.get hl16 kinj_int e67
            obtain rfl := rBool_e rv70
            refine ⟨_, rfl, _, rfl, _, _, rfl, (dget_of (DGet.k (k := Sum.inl x57) (S55.get 1 rfl)) ev69), _, _, _, _, _, rfl, .ty _, (.base (.bl _)), (by first | rfl | exact PySem.W.kitOne_builtin rfl | decide +kernel), _, rfl, ?_⟩
            exact ⟨Option.some.inj hm, rfl⟩
        by_cases c71 : b63 = true
        · revert hm; refine ifTI c71 fun hm => ?_
          refine goT c71 ?_
          obtain rfl := Option.some.inj hm
          have hm := hm38
          refine ⟨(S55.get 8 rfl), ?_⟩
          have S72 : Sta F53 ([(a30, HO.lst v31), (a14, HO.dK v15), (a_plan0, HO.ins T.a_Plan dx_plan0 (fl_Plan (V.str x_plan0.side) (V.ref a_plan0_gates0) (V.ref a_plan0_table0))), (a_plan0_gates0, HO.ins T.a_Gates dx_plan0_gates0 (fl_Gates (V.ref a_plan0_gates0_rows0) (V.ref a_plan0_gates0_known0))), (a_plan0_gates0_rows0, HO.lst v_plan0_gates0_rows0), (a_plan0_gates0_known0, HO.dT v_plan0_gates0_known0), (a_plan0_table0, HO.dK v_plan0_table0), (a3, HO.dK v_given0), (a_table0, HO.dK v_table0)] ++ R) _ := S55.set 8 rfl _
          obtain rfl := Option.some.inj hm
          have S73 : Sta F53 ([(a_plan0, HO.ins T.a_Plan dx_plan0 (fl_Plan (V.str x_plan0.side) (V.ref a_plan0_gates0) (V.ref a_plan0_table0))), (a_plan0_gates0, HO.ins T.a_Gates dx_plan0_gates0 (fl_Gates (V.ref a_plan0_gates0_rows0) (V.ref a_plan0_gates0_known0))), (a_plan0_gates0_rows0, HO.lst v_plan0_gates0_rows0), (a_plan0_gates0_known0, HO.dT v_plan0_gates0_known0), (a_plan0_table0, HO.dK v_plan0_table0), (a_table0, HO.dK v_table0)] ++ R) _ := S72.pick [2, 3, 4, 5, 6, 8] (by decide) rfl
          exact kk _ _ (s12.trans (s28.trans s54)) S73
        · revert hm; refine ifFI c71 fun hm => ?_
          refine goF c71 ?_
          refine hN62 _ _ ?_
          revert hm; refine bndI fun y74 e75 hm => ?_
          obtain ⟨v76, ev77, rv78⟩ := KR.get hl16 kinj_int e75
          obtain rfl := rBool_e rv78
          revert hm; refine bndI fun y79 e80 hm => ?_
          obtain ⟨v81, ev82, rv83⟩ := KR.get hl_table0 kinj_int e80
          obtain rfl := rInt_e rv83
          revert hm; refine bndI fun y84 e85 hm => ?_
          refine ⟨_, rfl, _, rfl, _, _, rfl, (dget_of (DGet.k (k := Sum.inl x57) (S55.get 1 rfl)) ev77), _, rfl, _, rfl, _, rfl, _, _, rfl, (dget_of (DGet.kf (k := Sum.inl x57) (S55.get 8 rfl)) ev82), F53, ([(a30, HO.lst v31), (a14, HO.dK v15), (a_plan0, HO.ins T.a_Plan dx_plan0 (fl_Plan (V.str x_plan0.side) (V.ref a_plan0_gates0) (V.ref a_plan0_table0))), (a_plan0_gates0, HO.ins T.a_Gates dx_plan0_gates0 (fl_Gates (V.ref a_plan0_gates0_rows0) (V.ref a_plan0_gates0_known0))), (a_plan0_gates0_rows0, HO.lst v_plan0_gates0_rows0), (a_plan0_gates0_known0, HO.dT v_plan0_gates0_known0), (a_plan0_table0, HO.dK v_plan0_table0), (a3, HO.dK v_given0), (a_table0, HO.frz od39 (HO.dK v_table0))] ++ R), a30, v31, y24, y79, y84, rfl, (SqL.of (S55.getO 0 rfl)), (hl32.mono s54), S55, (by exact e85), _, _, rfl, rfl, _, rfl, ?_⟩
          by_cases c86 : (!decide (y74 = y84)) = true
          · revert hm; refine ifTI c86 fun hm => ?_
            refine goT c86 ?_
            obtain rfl := Option.some.inj hm
            have hm := hm38
            refine ⟨(S55.get 8 rfl), ?_⟩
            have S87 : Sta F53 ([(a30, HO.lst v31), (a14, HO.dK v15), (a_plan0, HO.ins T.a_Plan dx_plan0 (fl_Plan (V.str x_plan0.side) (V.ref a_plan0_gates0) (V.ref a_plan0_table0))), (a_plan0_gates0, HO.ins T.a_Gates dx_plan0_gates0 (fl_Gates (V.ref a_plan0_gates0_rows0) (V.ref a_plan0_gates0_known0))), (a_plan0_gates0_rows0, HO.lst v_plan0_gates0_rows0), (a_plan0_gates0_known0, HO.dT v_plan0_gates0_known0), (a_plan0_table0, HO.dK v_plan0_table0), (a3, HO.dK v_given0), (a_table0, HO.dK v_table0)] ++ R) _ := S55.set 8 rfl _
            obtain rfl := Option.some.inj hm
            have S88 : Sta F53 ([(a_plan0, HO.ins T.a_Plan dx_plan0 (fl_Plan (V.str x_plan0.side) (V.ref a_plan0_gates0) (V.ref a_plan0_table0))), (a_plan0_gates0, HO.ins T.a_Gates dx_plan0_gates0 (fl_Gates (V.ref a_plan0_gates0_rows0) (V.ref a_plan0_gates0_known0))), (a_plan0_gates0_rows0, HO.lst v_plan0_gates0_rows0), (a_plan0_gates0_known0, HO.dT v_plan0_gates0_known0), (a_plan0_table0, HO.dK v_plan0_table0), (a_table0, HO.dK v_table0)] ++ R) _ := S87.pick [2, 3, 4, 5, 6, 8] (by decide) rfl
            exact kk _ _ (s12.trans (s28.trans s54)) S88
          · revert hm; refine ifFI c86 fun hm => ?_
            refine goF c86 ?_
            exact ⟨(), F53, _, rfl, s54, S55, hm⟩
      · rintro σ H2 ⟨st1, F53, o56, rfl, s54, S55, hm⟩
        rw [LR.dropEnd (KR.keysLI (F := F26) (KR.mono hl_table0 (s12.trans s28))), m_law_answers_l1] at hm
        obtain rfl := Option.some.inj hm
        have hm := hm38
        refine ⟨(S55.get 8 rfl), ?_⟩
        have S89 : Sta F53 ([(a30, HO.lst v31), (a14, HO.dK v15), (a_plan0, HO.ins T.a_Plan dx_plan0 (fl_Plan (V.str x_plan0.side) (V.ref a_plan0_gates0) (V.ref a_plan0_table0))), (a_plan0_gates0, HO.ins T.a_Gates dx_plan0_gates0 (fl_Gates (V.ref a_plan0_gates0_rows0) (V.ref a_plan0_gates0_known0))), (a_plan0_gates0_rows0, HO.lst v_plan0_gates0_rows0), (a_plan0_gates0_known0, HO.dT v_plan0_gates0_known0), (a_plan0_table0, HO.dK v_plan0_table0), (a3, HO.dK v_given0), (a_table0, HO.dK v_table0)] ++ R) _ := S55.set 8 rfl _
        refine hN35 _ _ ?_
        obtain rfl := Option.some.inj hm
        have S90 : Sta F53 ([(a_plan0, HO.ins T.a_Plan dx_plan0 (fl_Plan (V.str x_plan0.side) (V.ref a_plan0_gates0) (V.ref a_plan0_table0))), (a_plan0_gates0, HO.ins T.a_Gates dx_plan0_gates0 (fl_Gates (V.ref a_plan0_gates0_rows0) (V.ref a_plan0_gates0_known0))), (a_plan0_gates0_rows0, HO.lst v_plan0_gates0_rows0), (a_plan0_gates0_known0, HO.dT v_plan0_gates0_known0), (a_plan0_table0, HO.dK v_plan0_table0), (a_table0, HO.dK v_table0)] ++ R) _ := S89.pick [2, 3, 4, 5, 6, 8] (by decide) rfl
        exact kk _ _ (s12.trans (s28.trans s54)) S90

def sp_law (T : Txt K mg) : Sp := fun vs H Q _ => ∃ (F0 : Hp) (R : Own) (a_script0 : Addr) (v_script0 : List V) (x_script0 : (List Int)) (r : Bool),
  vs = [V.ref a_script0] ∧ SqL K F0 a_script0 v_script0 ∧ LR (rInt F0) v_script0 x_script0 ∧ Sta F0 ([] ++ R) H ∧ m_law x_script0 = some r ∧ ∀ (F1 : Hp) (H1 : Hp), Same F0 F1 → Sta F1 ([] ++ R) H1 → Q (V.bl r) H1

theorem ok_law (T : Txt K mg) : FnOk P w K mg base CX0 5 T.a_law T.d_law ["script"] (sp_law T) := by
  refine T.F_law.ok sc_law (fun vs H Q E h => ?_) (fun cdv A outer s H vs Q E hr h => ?_)
  · obtain ⟨_, _, _, _, _, _, rfl, _⟩ := h
    rfl
  · obtain ⟨F0, R, a_script0, v_script0, x_script0, r, rfl, hs_script0, hl_script0, S0, hm, kk⟩ := h
    have hu := hu_of hr
    unfold m_law at hm
    refine ⟨_, (pss_cons (ps_set (i := 1) sc_law.nd rfl (Or.inl rfl) (pe_lst (pa_cons pe_int (pa_cons pe_int (pa_cons (pe_call (ok_law_seed T) (hr.mono (by decide)) rfl T.g_law_seed T.F_law_seed.kp T.b_law_seed .nil pass0 (pa_cons (pv 0) pa_nil)) pa_nil))))) (pss_cons (ps_set (i := 2) sc_law.nd rfl (Or.inl rfl) (pe_call (ok_law_order T) (hr.mono (by decide)) rfl T.g_law_order T.F_law_order.kp T.b_law_order .nil pass0 (pa_cons (pv 0) (pa_cons (pv 1) pa_nil)))) (pss_cons (ps_set (i := 3) sc_law.nd rfl (Or.inl rfl) (pe_ix ix_list (pe_lst (pa_cons pe_str (pa_cons pe_str pa_nil))) (pe_call (ok_law_take T) (hr.mono (by decide)) rfl T.g_law_take T.F_law_take.kp T.b_law_take .nil pass0 (pa_cons (pv 0) (pa_cons (pv 1) (pa_cons pe_int pa_nil)))) (fun _ _ => rfl))) (pss_cons (ps_set (i := 4) sc_law.nd rfl (Or.inl rfl) (pe_make0 T.mk_Gates (ok_Gates_init T) (hr.mono (by decide)) rfl T.g_Gates T.b_Gates_init .nil pass0)) (pss_cons (ps_set (i := 5) sc_law.nd rfl (Or.inr rfl) (pe_lst (pa_cons (pe_tup (pa_cons pe_str pa_nil)) pa_nil))) (pss_cons (ps_set (i := 6) sc_law.nd rfl (Or.inr rfl) pe_dnewK) (pss_cons (ps_set (i := 7) sc_law.nd rfl (Or.inl rfl) (pe_lst pa_nil)) (pss_cons (ps_for PassesOwn.never rfl (pi_list (pv 2)) (pg_tup rfl (pgs_cons (pg_name (i := 8) sc_law.nd rfl (Or.inl rfl)) (pgs_cons (pg_name (i := 9) sc_law.nd rfl (Or.inl rfl)) pgs_nil))) (pss_one (ps_if (pt_cmpR oS_eq (pv 9) (pv 3) (nomark _)) (pss_one (ps_dput hu (pv 6) (pv 8) (pe_call (ok_law_edge T) (hr.mono (by decide)) rfl T.g_law_edge T.F_law_edge.kp T.b_law_edge .nil pass0 (pa_cons (pv 0) (pa_cons (pv 1) (pa_cons (pv 4) (pa_cons (pv 5) (pa_cons (pv 7) pa_nil)))))) rfl)) (pss_one (ps_expr (pe_bm PySem.F.plainAttrs_list PySem.F.slot_list_append PySem.F.type_list_append mt_append (pv 7) (pa_cons (pv 8) pa_nil))))))) (pss_cons (ps_if (pt_cmpR op_notN (pe_meth (pe_make T.mk_Plan (ok_Plan_init T) (hr.mono (by decide)) rfl T.g_Plan T.b_Plan_init .nil pass0 (pa_cons (pv 3) (pa_cons (pv 4) (pa_cons (pv 6) pa_nil)))) T.cl_Plan T.h_Plan_misfit (ok_Plan_misfit T) (hr.mono (by decide)) T.b_Plan_misfit .nil pass0 (pa_cons (pe_callTy call_list_of (by rfl) T.z_list (by decide +kernel) (pa_cons (pv 2) pa_nil)) pa_nil)) pe_non (nomark _)) (pss_one ps_never) pss_nil) (pss_cons (ps_expr (pe_call (ok_law_fault T) (hr.mono (by decide)) rfl T.g_law_fault T.F_law_fault.kp T.b_law_fault .nil pass0 (pa_cons (pv 0) (pa_cons (pv 1) (pa_cons (pv 4) (pa_cons (pv 5) (pa_cons (pv 2) (pa_cons (pv 3) (pa_cons (pv 6) pa_nil))))))))) (pss_cons (ps_set (i := 10) sc_law.nd rfl (Or.inl rfl) (pe_callTy call_dictD (by rfl) T.z_dict (by decide +kernel) (pa_cons (pv 6) pa_nil))) (pss_cons (ps_set (i := 11) sc_law.nd rfl (Or.inl rfl) (pe_make T.mk_Plan (ok_Plan_init T) (hr.mono (by decide)) rfl T.g_Plan T.b_Plan_init .nil pass0 (pa_cons (pv 3) (pa_cons (pv 4) (pa_cons (pv 10) pa_nil))))) (pss_cons (ps_dput hu (pv 10) pe_int pe_int rfl) (pss_cons (ps_if (pt_pure (PW.pt (pw_or (pt_cmpR oS_ne (pe_fld (pv 11) rfl) (pv 3) (nomark _)) (pw_or (pt_cmpR (op_ne_dictA hr.units0) (pe_fld (pv 11) rfl) (pv 6) (nomark _)) (pw_or (pt_cmpR (op_neD hr.units) (pe_fld (pv 4) rfl) (pv 5) (nomark _)) (pw_or1 (pt_cmpR (op_neD hr.units) (pe_fld (pe_fld (pv 11) rfl) rfl) (pv 5) (nomark _)))))))) (pss_one ps_never) pss_nil) (pss_cons (ps_set (i := 12) sc_law.nd rfl (Or.inl rfl) (pe_call (ok_law_misfit T) (hr.mono (by decide)) rfl T.g_law_misfit T.F_law_misfit.kp T.b_law_misfit .nil pass0 (pa_cons (pv 5) (pa_cons (pv 2) (pa_cons (pv 3) (pa_cons (pv 6) pa_nil)))))) (pss_cons (ps_set (i := 13) sc_law.nd rfl (Or.inl rfl) (pe_meth (pv 11) T.cl_Plan T.h_Plan_misfit (ok_Plan_misfit T) (hr.mono (by decide)) T.b_Plan_misfit .nil pass0 (pa_cons (pe_callTy call_list_of (by rfl) T.z_list (by decide +kernel) (pa_cons (pv 2) pa_nil)) pa_nil))) (pss_cons (ps_if (pt_pure (PW.pt (pw_and (pt_cmpR op_isN (pv 12) pe_non (nomark _)) (pw_and1 (pt_cmpR op_notN (pv 13) pe_non (nomark _)))))) (pss_one ps_never) pss_nil) (pss_cons (ps_if (pt_pure (PW.pt (pw_and (pt_cmpR op_notN (pv 12) pe_non (nomark _)) (pw_and1 (pt_pure (PW.pt (pw_or (pt_not (pt_val (pe_callB call_isi (by rfl) T.z_isinstance (by decide +kernel) (pa_cons (pv 13) (pa_cons (pe_bltn (v := .ty "int") (by rfl) T.z_int (by decide +kernel) rfl) pa_nil))))) (pw_or1 (pt_cmpR oI_ne (pv 13) (pv 12) (nomark _)))))))))) (pss_one ps_never) pss_nil) (pss_cons (ps_set (i := 14) sc_law.nd rfl (Or.inl rfl) (pe_meth0 (pv 11) T.cl_Plan T.h_Plan_gate_count (ok_Plan_gate_count T) (hr.mono (by decide)) T.b_Plan_gate_count .nil pass0)) (pss_cons (ps_setLc (i := 15) (own := [("k", 17)]) rfl sc_law.nd rfl rfl (sw_true rfl rfl rfl (by decide +kernel)) (pi_list (pe_call (ok_law_reached T) (hr.mono (by decide)) rfl T.g_law_reached T.F_law_reached.kp T.b_law_reached .nil pass0 (pa_cons (pv 5) (pa_cons (pe_lock (pe_lc (own := [("key", 18)]) rfl sc_law.nd (pi_keys (pv 6)) (blkOk_by (own := [("key", 18)]) (N := ["script", "source", "order", "side", "gates", "rows", "table", "ahead", "letter", "owner", "handed", "plan", "due", "got", "count", "both", "given", "k", "key"]) (sc := defScope s_law) (by decide +kernel)) (fun _ _ _ _ _ => (pg_name (i := 18) sc_law.nd rfl (Or.inl rfl))) (fun _ _ _ _ _ => pts_nil) (fun _ _ _ _ _ => (pe_dget hu (pv 6) (pv 18) (fun _ _ => rfl))))) pa_nil)))) (blkOk_by (own := [("k", 17)]) (N := ["script", "source", "order", "side", "gates", "rows", "table", "ahead", "letter", "owner", "handed", "plan", "due", "got", "count", "both", "given", "k", "key"]) (sc := defScope s_law) (by decide +kernel)) (fun _ _ _ _ _ => (pg_name (i := 17) sc_law.nd rfl (Or.inl rfl))) (fun _ _ _ _ _ => (pts_one (pt_cmpR oS_eq (pe_ix (ix_tupK K) (pe_ix (ix_listK K) (pv 5) (pv 17) (fun _ _ => rfl)) pe_int (fun _ _ => rfl)) pe_str (nomark _)))) (fun _ _ _ _ _ => (pv 17))) (pss_cons (ps_if (pt_pure (PW.pt (pw_or (pt_not (pt_val (pe_callB call_isi (by rfl) T.z_isinstance (by decide +kernel) (pa_cons (pv 14) (pa_cons (pe_bltn (v := .ty "int") (by rfl) T.z_int (by decide +kernel) rfl) pa_nil))))) (pw_or (pt_val (pe_callB call_isi (by rfl) T.z_isinstance (by decide +kernel) (pa_cons (pv 14) (pa_cons (pe_bltn (v := .ty "bool") (by rfl) T.z_bool (by decide +kernel) rfl) pa_nil)))) (pw_or1 (pt_cmpR oI_ne (pv 14) (pe_callB call_len_seq (by rfl) T.z_len PySem.boot_len (pa_cons (pv 15) pa_nil)) (nomark _))))))) (pss_one ps_never) pss_nil) (pss_cons (ps_if (pt_cmpR op_notN (pv 12) pe_non (nomark _)) (pss_one (ps_ret pe_bl)) pss_nil) (pss_cons (ps_set (i := 16) sc_law.nd rfl (Or.inl rfl) pe_dnewK) (pss_cons (ps_for PassesOwn.never rfl (pi_list (pv 2)) (pg_tup rfl (pgs_cons (pg_name (i := 8) sc_law.nd rfl (Or.inl rfl)) (pgs_cons (pg_name (i := 9) sc_law.nd rfl (Or.inl rfl)) pgs_nil))) (pss_one (ps_if (pt_cmpR oS_ne (pv 9) (pv 3) (nomark _)) (pss_one (ps_dput hu (pv 16) (pv 8) (pe_cmpR oI_eq (pe_call (ok_law_take T) (hr.mono (by decide)) rfl T.g_law_take T.F_law_take.kp T.b_law_take .nil pass0 (pa_cons (pv 0) (pa_cons (pv 1) (pa_cons pe_int pa_nil)))) pe_int (nomark _)) rfl)) pss_nil))) (pss_cons (ps_if (pt_not (pt_val (pe_call (ok_law_answers T) (hr.mono (by decide)) rfl T.g_law_answers T.F_law_answers.kp T.b_law_answers .nil pass0 (pa_cons (pv 11) (pa_cons (pv 5) (pa_cons (pv 6) (pa_cons (pv 16) pa_nil))))))) (pss_one ps_never) pss_nil) (pss_cons (ps_for PassesOwn.never rfl (pi_list (pe_callTy (call_listD rfl) (by rfl) T.z_list (by decide +kernel) (pa_cons (pv 16) pa_nil))) (pg_name (i := 8) sc_law.nd rfl (Or.inl rfl)) (pss_one (ps_dput hu (pv 16) (pv 8) (pe_not (pe_dget hu (pv 16) (pv 8) (fun _ _ => rfl))) rfl))) (pss_one (ps_ret (pe_call (ok_law_answers T) (hr.mono (by decide)) rfl T.g_law_answers T.F_law_answers.kp T.b_law_answers .nil pass0 (pa_cons (pv 11) (pa_cons (pv 5) (pa_cons (pv 6) (pa_cons (pv 16) pa_nil))))))))))))))))))))))))))))))))), ?_⟩
    refine seqI fun N1 hN2 => ?_
    revert hm; refine bndI fun y3 e4 hm => ?_
    refine ⟨_, rfl, F0, ([] ++ R), a_script0, v_script0, x_script0, y3, rfl, (SqL.mono hs_script0 (Same.refl _)), (hl_script0), S0, (by exact e4), (by show 3 ≤ sizeLine; decide), ?_⟩
    intro a5 np6
    have hl7 : LR (rInt F0) [V.int 0, V.int 0, V.int y3] ([(0 : Int), (0 : Int), y3] : (List Int)) := ⟨rfl, rfl, rfl, trivial⟩
    have S8 : Sta F0 ([(a5, HO.lst [V.int 0, V.int 0, V.int y3])] ++ R) _ := S0.new np6 _
    refine hN2 _ _ ?_
    refine seqI fun N9 hN10 => ?_
    revert hm; refine bndI fun y11 e12 hm => ?_
    refine ⟨_, rfl, _, rfl, F0, ([] ++ R), a_script0, v_script0, x_script0, a5, [V.int 0, V.int 0, V.int y3], ([(0 : Int), (0 : Int), y3] : (List Int)), y11, rfl, (SqL.mono hs_script0 (Same.refl _)), (hl_script0), hl7, S8, (by exact e12), fun F13 H14 v17 a19 v20 s15 S16 hl18 hl21 => ?_⟩
    clear S0
    have S22 : Sta F13 ([(a19, HO.lst v20), (a5, HO.lst v17)] ++ R) _ := S16
    refine hN10 _ _ ?_
    refine seqI fun N23 hN24 => ?_
    refine ⟨(by show 2 ≤ sizeLine; decide), ?_⟩
    clear S16
    intro a25 np26
    have hl27 : LR (rStr F13) [V.str "some", V.str "all"] ([("some" : Str), ("all" : Str)] : (List Str)) := ⟨rfl, rfl, trivial⟩
    have S28 : Sta F13 ([(a25, HO.lst [V.str "some", V.str "all"]), (a19, HO.lst v20), (a5, HO.lst v17)] ++ R) _ := S22.new np26 _
    have S29 : Sta F13 ([(a5, HO.lst v17), (a25, HO.lst [V.str "some", V.str "all"]), (a19, HO.lst v20)] ++ R) _ := S28.pick [2, 0, 1] (by decide) rfl
    revert hm; refine bndI fun y30 e31 hm => ?_
    refine ⟨_, rfl, _, rfl, F13, ([(a25, HO.lst [V.str "some", V.str "all"]), (a19, HO.lst v20)] ++ R), a_script0, v_script0, x_script0, a5, v17, y11.2, (2 : Int), y30, rfl, (SqL.mono hs_script0 s15), ((hl_script0.mono s15)), hl18, S29, (by exact e31), fun F32 H33 v36 s34 S35 hl37 => ?_⟩
    clear S22 S28
    have S38 : Sta F32 ([(a5, HO.lst v36), (a25, HO.lst [V.str "some", V.str "all"]), (a19, HO.lst v20)] ++ R) _ := S35
    revert hm; refine bndI fun y39 e40 hm => ?_
    obtain ⟨v41, ev42, rv43⟩ := LR.atI hl27 e40
    obtain rfl := rStr_e rv43
    refine ⟨_, _, _, _, rfl, rfl, (SqL.of (S38.get 1 rfl)), ev42, ?_⟩
    clear S35
    refine hN24 _ _ ?_
    refine seqI fun N44 hN45 => ?_
    intro a46 dx47 nx48 ndx49 nex50
    obtain ⟨F51, s52, S53⟩ : ∃ F', Same F32 F' ∧ Sta F' ([(a46, HO.ins T.a_Gates dx47 []), (a5, HO.lst v36), (a25, HO.lst [V.str "some", V.str "all"]), (a19, HO.lst v20)] ++ R) _ := ⟨_, S38.sameF ndx49 (HO.own a46), (S38.newF ndx49 (HO.own a46)).new (by rw [upd_ne nex50.symm]; exact nx48) (HO.ins T.a_Gates dx47 [])⟩
    refine ⟨F51, ([(a5, HO.lst v36), (a25, HO.lst [V.str "some", V.str "all"]), (a19, HO.lst v20)] ++ R), a46, dx47, _, rfl, S53, rfl, fun F54 H55 a58 v59 a61 v62 s56 S57 hl60 hl63 => ⟨rfl, ?_⟩⟩
    have S64 : Sta F54 ([(a46, HO.ins T.a_Gates dx47 (fl_Gates (V.ref a58) (V.ref a61))), (a58, HO.lst v59), (a61, HO.dT v62), (a5, HO.lst v36), (a25, HO.lst [V.str "some", V.str "all"]), (a19, HO.lst v20)] ++ R) _ := S57
    refine hN45 _ _ ?_
    refine seqI fun N65 hN66 => ?_
    refine ⟨(by show 1 ≤ sizeLine; decide), ?_⟩
    clear S57
    intro a67 np68
    obtain ⟨F69, s70, S71, h72⟩ : ∃ F', Same F54 F' ∧ Sta F' ([(a46, HO.ins T.a_Gates dx47 (fl_Gates (V.ref a58) (V.ref a61))), (a58, HO.lst v59), (a61, HO.dT v62), (a5, HO.lst v36), (a25, HO.lst [V.str "some", V.str "all"]), (a19, HO.lst v20)] ++ R) _ ∧ F' a67 = some (HO.tup (([Sum.inr ("no" : Str)] : List Key).map kV)) := ⟨_, S64.sameF np68 _, S64.newF np68 _, upd_same⟩
    refine ⟨(by show 1 ≤ sizeLine; decide), ?_⟩
    intro a73 np74
    have hl75 : LR (rKT F69) [V.ref a67] ([([Sum.inr ("no" : Str)] : List Key)] : (List (List Key))) := ⟨⟨_, rfl, (Same.refl _) _ _ h72⟩, trivial⟩
    have S76 : Sta F69 ([(a73, HO.lst [V.ref a67]), (a46, HO.ins T.a_Gates dx47 (fl_Gates (V.ref a58) (V.ref a61))), (a58, HO.lst v59), (a61, HO.dT v62), (a5, HO.lst v36), (a25, HO.lst [V.str "some", V.str "all"]), (a19, HO.lst v20)] ++ R) _ := S71.new np74 _
    refine hN66 _ _ ?_
    refine seqI fun N77 hN78 => ?_
    clear S71
    intro a79 np80
    have hl81 : KR Sum.inl (rInt F69) ([] : List (Key × V)) ([] : (List (Int × Int))) := trivial
    have S82 : Sta F69 ([(a79, HO.dK []), (a73, HO.lst [V.ref a67]), (a46, HO.ins T.a_Gates dx47 (fl_Gates (V.ref a58) (V.ref a61))), (a58, HO.lst v59), (a61, HO.dT v62), (a5, HO.lst v36), (a25, HO.lst [V.str "some", V.str "all"]), (a19, HO.lst v20)] ++ R) _ := S76.new np80 _
    refine hN78 _ _ ?_
    refine seqI fun N83 hN84 => ?_
    refine ⟨(by show 0 ≤ sizeLine; decide), ?_⟩
    clear S76
    intro a85 np86
    have hl87 : LR (rInt F69) [] ([] : (List Int)) := trivial
    have S88 : Sta F69 ([(a85, HO.lst []), (a79, HO.dK []), (a73, HO.lst [V.ref a67]), (a46, HO.ins T.a_Gates dx47 (fl_Gates (V.ref a58) (V.ref a61))), (a58, HO.lst v59), (a61, HO.dT v62), (a5, HO.lst v36), (a25, HO.lst [V.str "some", V.str "all"]), (a19, HO.lst v20)] ++ R) _ := S82.new np86 _
    refine hN84 _ _ ?_
    refine seqI fun N89 hN90 => ?_
    revert hm; refine bndI fun y91 e92 hm93 => ?_
    refine ⟨_, rfl, _, rfl, ⟨_, (SqL.of (S88.get 8 rfl))⟩, for_list (K := K) (a := a19) (xs := v20) (fun i σ H2 => ∃ (st1 : ((List Int) × (List (Int × Int)) × (List (List Key)) × M_Gates × (List Int))) (F137 : Hp) (v142 : List V) (v144 : List (Key × V)) (v146 : List V) (a148 : Addr) (v149 : List V) (a151 : Addr) (v152 : List (List Key × V)) (v154 : List V) (o140 : Option V) (o141 : Option V), σ = [some (V.ref a_script0), some (V.ref a5), some (V.ref a19), some (V.str y39), some (V.ref a46), some (V.ref a73), some (V.ref a79), some (V.ref a85), o140, o141, none, none, none, none, none, none, none, none, none] ∧ Same F69 F137 ∧ Sta F137 ([(a85, HO.lst v142), (a79, HO.dK v144), (a73, HO.lst v146), (a46, HO.ins T.a_Gates dx47 (fl_Gates (V.ref a148) (V.ref a151))), (a148, HO.lst v149), (a151, HO.dT v152), (a5, HO.lst v154), (a25, HO.lst [V.str "some", V.str "all"]), (a19, HO.lst v20)] ++ R) H2 ∧ LR (rInt F137) v142 st1.1 ∧ KR Sum.inl (rInt F137) v144 st1.2.1 ∧ LR (rKT F137) v146 st1.2.2.1 ∧ LR (rKT F137) v149 st1.2.2.2.1.rows ∧ KR id (rInt F137) v152 st1.2.2.2.1.known ∧ LR (rInt F137) v154 st1.2.2.2.2 ∧ m_law_l1 x_script0 y39 (List.drop i y11.1) st1 = some y91) ⟨(([] : (List Int)), ([] : (List (Int × Int))), ([([Sum.inr ("no" : Str)] : List Key)] : (List (List Key))), (M_Gates.mk ((m_Gates_init).rows) ((m_Gates_init).known)), y30.2), F69, [], [], [V.ref a67], a58, v59, a61, v62, v36, _, _, rfl, (Same.refl _), S88, hl87, hl81, hl75, (hl60.mono s70), (KR.mono hl63 s70), (hl37.mono (s52.trans (s56.trans s70))), e92⟩ (by rintro i σ H2 _ ⟨st1, F137, v142, v144, v146, a148, v149, a151, v152, v154, o140, o141, rfl, s138, S139, hl143, hl145, hl147, hl150, hl153, hl155, _⟩; exact (SqL.of (S139.get 8 rfl))) ?_ ?_⟩
    clear S82
    · rintro i v157 σ H2 hi ⟨st1, F137, v142, v144, v146, a148, v149, a151, v152, v154, o140, o141, rfl, s138, S139, hl143, hl145, hl147, hl150, hl153, hl155, hm⟩
      obtain ⟨x156, hx158, rx159⟩ := LR.getV hl21 hi
      rw [drop_cons hx158, m_law_l1] at hm
      obtain ⟨a160, u162, u163, rfl, hs161, p164, p165⟩ := rx159
      obtain rfl := rInt_e p164
      obtain rfl := rStr_e p165
      refine ⟨_, _, rfl, (SqT.mono hs161 ((s34.trans (s52.trans (s56.trans (s70.trans s138)))).trans S139.sub)), rfl, _, _, rfl, _, _, rfl, rfl, ?_⟩
      refine ⟨_, rfl, _, rfl, _, _, rfl, rfl, _, rfl, ?_⟩
      by_cases c166 : (decide (x156.2 = y39)) = true
      · revert hm; refine ifTI c166 fun hm => ?_
        refine goT c166 ?_
        have S167 : Sta F137 ([(a5, HO.lst v154), (a46, HO.ins T.a_Gates dx47 (fl_Gates (V.ref a148) (V.ref a151))), (a148, HO.lst v149), (a151, HO.dT v152), (a73, HO.lst v146), (a85, HO.lst v142), (a79, HO.dK v144), (a25, HO.lst [V.str "some", V.str "all"]), (a19, HO.lst v20)] ++ R) _ := S139.pick [6, 3, 4, 5, 2, 0, 1, 7, 8] (by decide) rfl
        revert hm; refine bndI fun y168 e169 hm => ?_
        refine ⟨_, rfl, _, rfl, _, rfl, _, rfl, _, rfl, F137, ([(a85, HO.lst v142), (a79, HO.dK v144), (a25, HO.lst [V.str "some", V.str "all"]), (a19, HO.lst v20)] ++ R), a_script0, v_script0, x_script0, a5, v154, st1.2.2.2.2, a46, dx47, (M_Gates.mk st1.2.2.2.1.rows st1.2.2.2.1.known), a148, v149, a151, v152, a73, v146, st1.2.2.1, a85, v142, st1.1, y168, rfl, (SqL.mono hs_script0 (s15.trans (s34.trans (s52.trans (s56.trans (s70.trans s138)))))), ((hl_script0.mono (s15.trans (s34.trans (s52.trans (s56.trans (s70.trans s138))))))), hl155, hl150, hl153, hl147, (SqL.of (S167.tl.tl.tl.tl.tl.getO 0 rfl)), hl143, S167, (by exact e169), fun F170 H171 v174 a176 v177 a179 v180 v182 s172 S173 hl175 hl178 hl181 hl183 => ?_⟩
        clear S139
        have S184 : Sta F170 ([(a5, HO.lst v174), (a46, HO.ins T.a_Gates dx47 (fl_Gates (V.ref a176) (V.ref a179))), (a176, HO.lst v177), (a179, HO.dT v180), (a73, HO.lst v182), (a85, HO.lst v142), (a79, HO.dK v144), (a25, HO.lst [V.str "some", V.str "all"]), (a19, HO.lst v20)] ++ R) _ := S173
        revert hm; refine grdI fun g185 hm => ?_
        refine ⟨_, rfl, _, rfl, _, _, rfl, (DPut.k (k := Sum.inl x156.1) (S184.get 6 rfl) (by rw [KR.length (KR.mono hl145 s172)]; exact of_decide_eq_true g185)), ?_⟩
        clear S173
        have hl186 : KR Sum.inl (rInt F170) (putK v144 (Sum.inl x156.1) (V.int y168.1)) (mput st1.2.1 x156.1 y168.1) := KR.put (KR.mono hl145 s172) kinj_int rfl
        have S187 : Sta F170 ([(a5, HO.lst v174), (a46, HO.ins T.a_Gates dx47 (fl_Gates (V.ref a176) (V.ref a179))), (a176, HO.lst v177), (a179, HO.dT v180), (a73, HO.lst v182), (a85, HO.lst v142), (a79, HO.dK (putK v144 (Sum.inl x156.1) (V.int y168.1))), (a25, HO.lst [V.str "some", V.str "all"]), (a19, HO.lst v20)] ++ R) _ := S184.set 6 rfl _
        have S188 : Sta F170 ([(a85, HO.lst v142), (a79, HO.dK (putK v144 (Sum.inl x156.1) (V.int y168.1))), (a73, HO.lst v182), (a46, HO.ins T.a_Gates dx47 (fl_Gates (V.ref a176) (V.ref a179))), (a176, HO.lst v177), (a179, HO.dT v180), (a5, HO.lst v174), (a25, HO.lst [V.str "some", V.str "all"]), (a19, HO.lst v20)] ++ R) _ := S187.pick [5, 6, 4, 1, 2, 3, 0, 7, 8] (by decide) rfl
        exact ⟨(st1.1, (mput st1.2.1 x156.1 y168.1), y168.2.2.2, (M_Gates.mk y168.2.2.1.rows y168.2.2.1.known), y168.2.1), F170, v142, (putK v144 (Sum.inl x156.1) (V.int y168.1)), v182, a176, v177, a179, v180, v174, _, _, rfl, (s138.trans s172), S188, (hl143.mono s172), hl186, hl183, hl178, hl181, hl175, hm⟩
      · revert hm; refine ifFI c166 fun hm => ?_
        refine goF c166 ?_
        revert hm; refine grdI fun g189 hm => ?_
        refine ⟨_, rfl, .inl ⟨rfl, _, (SqL.of (S139.get 0 rfl))⟩, _, rfl, _, _, _, rfl, rfl, (S139.get 0 rfl), (by rw [LR.length hl143]; exact of_decide_eq_true g189), ?_⟩
        have hl190 : LR (rInt F137) (v142 ++ [V.int x156.1]) (st1.1 ++ [x156.1]) := LR.snoc hl143 rfl
        have S191 : Sta F137 ([(a85, HO.lst (v142 ++ [V.int x156.1])), (a79, HO.dK v144), (a73, HO.lst v146), (a46, HO.ins T.a_Gates dx47 (fl_Gates (V.ref a148) (V.ref a151))), (a148, HO.lst v149), (a151, HO.dT v152), (a5, HO.lst v154), (a25, HO.lst [V.str "some", V.str "all"]), (a19, HO.lst v20)] ++ R) _ := S139.set 0 rfl _
        exact ⟨((st1.1 ++ [x156.1]), st1.2.1, st1.2.2.1, (M_Gates.mk st1.2.2.2.1.rows st1.2.2.2.1.known), st1.2.2.2.2), F137, (v142 ++ [V.int x156.1]), v144, v146, a148, v149, a151, v152, v154, _, _, rfl, s138, S191, hl190, hl145, hl147, hl150, hl153, hl155, hm⟩
    · rintro σ H2 ⟨st1, F137, v142, v144, v146, a148, v149, a151, v152, v154, o140, o141, rfl, s138, S139, hl143, hl145, hl147, hl150, hl153, hl155, hm⟩
      rw [LR.dropEnd hl21, m_law_l1] at hm
      obtain rfl := Option.some.inj hm
      have hm := hm93
      refine hN90 _ _ ?_
      refine seqI fun N192 hN193 => ?_
      refine ⟨_, rfl, _, rfl, _, rfl, ?_⟩
      intro a194 dx195 nx196 ndx197 nex198
      obtain ⟨F199, s200, S201⟩ : ∃ F', Same F137 F' ∧ Sta F' ([(a194, HO.ins T.a_Plan dx195 []), (a85, HO.lst v142), (a79, HO.dK v144), (a73, HO.lst v146), (a46, HO.ins T.a_Gates dx47 (fl_Gates (V.ref a148) (V.ref a151))), (a148, HO.lst v149), (a151, HO.dT v152), (a5, HO.lst v154), (a25, HO.lst [V.str "some", V.str "all"]), (a19, HO.lst v20)] ++ R) _ := ⟨_, S139.sameF ndx197 (HO.own a194), (S139.newF ndx197 (HO.own a194)).new (by rw [upd_ne nex198.symm]; exact nx196) (HO.ins T.a_Plan dx195 [])⟩
      have S202 : Sta F199 ([(a194, HO.ins T.a_Plan dx195 ([])), (a46, HO.ins T.a_Gates dx47 (fl_Gates (V.ref a148) (V.ref a151))), (a148, HO.lst v149), (a151, HO.dT v152), (a85, HO.lst v142), (a79, HO.dK v144), (a73, HO.lst v146), (a5, HO.lst v154), (a25, HO.lst [V.str "some", V.str "all"]), (a19, HO.lst v20)] ++ R) _ := S201.pick [0, 4, 5, 6, 1, 2, 3, 7, 8, 9] (by decide) rfl
      revert hm; refine bndI fun y203 e204 hm => ?_
      refine ⟨F199, ([(a85, HO.lst v142), (a79, HO.dK v144), (a73, HO.lst v146), (a5, HO.lst v154), (a25, HO.lst [V.str "some", V.str "all"]), (a19, HO.lst v20)] ++ R), a194, dx195, y39, a46, dx47, (M_Gates.mk st1.2.2.2.1.rows st1.2.2.2.1.known), a148, v149, a151, v152, a79, v144, st1.2.1, y203, rfl, (hl150.mono s200), (KR.mono hl153 s200), (S202.tl.tl.tl.tl.getO 1 rfl), (KR.mono hl145 s200), S202, (by exact e204), fun F205 H206 a209 v210 s207 S208 hl211 => ⟨rfl, ?_⟩⟩
      clear S201
      have S212 : Sta F205 ([(a194, HO.ins T.a_Plan dx195 (fl_Plan (V.str y203.side) (V.ref a46) (V.ref a209))), (a46, HO.ins T.a_Gates dx47 (fl_Gates (V.ref a148) (V.ref a151))), (a148, HO.lst v149), (a151, HO.dT v152), (a209, HO.dK v210), (a85, HO.lst v142), (a79, HO.dK v144), (a73, HO.lst v146), (a5, HO.lst v154), (a25, HO.lst [V.str "some", V.str "all"]), (a19, HO.lst v20)] ++ R) _ := S208
      refine ⟨_, _, _, rfl, (S212.get 0 rfl), fl_Plan_no_misfit, _, rfl, _, _, rfl, .inl (SqL.of (S212.get 10 rfl)), ?_⟩
      clear S208
      intro a213 np214
      have hl215 := (hl21.mono (s34.trans (s52.trans (s56.trans (s70.trans (s138.trans (s200.trans s207)))))))
      have S216 : Sta F205 ([(a213, HO.lst v20), (a194, HO.ins T.a_Plan dx195 (fl_Plan (V.str y203.side) (V.ref a46) (V.ref a209))), (a46, HO.ins T.a_Gates dx47 (fl_Gates (V.ref a148) (V.ref a151))), (a148, HO.lst v149), (a151, HO.dT v152), (a209, HO.dK v210), (a85, HO.lst v142), (a79, HO.dK v144), (a73, HO.lst v146), (a5, HO.lst v154), (a25, HO.lst [V.str "some", V.str "all"]), (a19, HO.lst v20)] ++ R) _ := S212.new np214 _
      have S217 : Sta F205 ([(a194, HO.ins T.a_Plan dx195 (fl_Plan (V.str y203.side) (V.ref a46) (V.ref a209))), (a46, HO.ins T.a_Gates dx47 (fl_Gates (V.ref a148) (V.ref a151))), (a148, HO.lst v149), (a151, HO.dT v152), (a209, HO.dK v210), (a213, HO.lst v20), (a85, HO.lst v142), (a79, HO.dK v144), (a73, HO.lst v146), (a5, HO.lst v154), (a25, HO.lst [V.str "some", V.str "all"]), (a19, HO.lst v20)] ++ R) _ := S216.pick [1, 2, 3, 4, 5, 0, 6, 7, 8, 9, 10, 11] (by decide) rfl
      revert hm; refine bndI fun y218 e219 hm => ?_
      refine ⟨F205, ([(a213, HO.lst v20), (a85, HO.lst v142), (a79, HO.dK v144), (a73, HO.lst v146), (a5, HO.lst v154), (a25, HO.lst [V.str "some", V.str "all"]), (a19, HO.lst v20)] ++ R), a194, dx195, (M_Plan.mk y203.side (M_Gates.mk st1.2.2.2.1.rows st1.2.2.2.1.known) y203.table), a46, dx47, a148, v149, a151, v152, a209, v210, a213, v20, y11.1, y218, rfl, (hl150.mono (s200.trans s207)), (KR.mono hl153 (s200.trans s207)), hl211, (SqL.of (S217.tl.tl.tl.tl.tl.getO 0 rfl)), hl215, S217, (by exact e219), fun F220 H221 v224 s222 S223 p225 => ?_⟩
      clear S212 S216
      have S226 : Sta F220 ([(a194, HO.ins T.a_Plan dx195 (fl_Plan (V.str y203.side) (V.ref a46) (V.ref a209))), (a46, HO.ins T.a_Gates dx47 (fl_Gates (V.ref a148) (V.ref a151))), (a148, HO.lst v149), (a151, HO.dT v152), (a209, HO.dK v210), (a213, HO.lst v20), (a85, HO.lst v142), (a79, HO.dK v144), (a73, HO.lst v146), (a5, HO.lst v154), (a25, HO.lst [V.str "some", V.str "all"]), (a19, HO.lst v20)] ++ R) _ := S223
      refine ⟨rfl, ?_⟩
      clear S223
      rw [show _ = (!(y218).isNone) from (congrArg (!·) (opt_isN (r := rInt) (F := F220) p225))]
      refine ⟨_, rfl, ?_⟩
      by_cases c227 : (!(y218).isNone) = true
      · revert hm; refine ifTI c227 fun hm => ?_
        cases hm
      · revert hm; refine ifFI c227 fun hm => ?_
        refine goF c227 ?_
        refine hN193 _ _ ?_
        refine seqI fun N228 hN229 => ?_
        have S230 : Sta F220 ([(a5, HO.lst v154), (a46, HO.ins T.a_Gates dx47 (fl_Gates (V.ref a148) (V.ref a151))), (a148, HO.lst v149), (a151, HO.dT v152), (a73, HO.lst v146), (a79, HO.dK v144), (a194, HO.ins T.a_Plan dx195 (fl_Plan (V.str y203.side) (V.ref a46) (V.ref a209))), (a209, HO.dK v210), (a213, HO.lst v20), (a85, HO.lst v142), (a25, HO.lst [V.str "some", V.str "all"]), (a19, HO.lst v20)] ++ R) _ := S226.pick [9, 1, 2, 3, 8, 7, 0, 4, 5, 6, 10, 11] (by decide) rfl
        revert hm; refine bndI fun y231 e232 hm => ?_
        refine ⟨_, rfl, _, rfl, _, rfl, _, rfl, _, rfl, _, rfl, _, rfl, F220, ([(a194, HO.ins T.a_Plan dx195 (fl_Plan (V.str y203.side) (V.ref a46) (V.ref a209))), (a209, HO.dK v210), (a213, HO.lst v20), (a85, HO.lst v142), (a25, HO.lst [V.str "some", V.str "all"]), (a19, HO.lst v20)] ++ R), a_script0, v_script0, x_script0, a5, v154, st1.2.2.2.2, a46, dx47, (M_Gates.mk st1.2.2.2.1.rows st1.2.2.2.1.known), a148, v149, a151, v152, a73, v146, st1.2.2.1, a19, v20, y11.1, y39, a79, v144, st1.2.1, y231, rfl, (SqL.mono hs_script0 (s15.trans (s34.trans (s52.trans (s56.trans (s70.trans (s138.trans (s200.trans (s207.trans s222))))))))), ((hl_script0.mono (s15.trans (s34.trans (s52.trans (s56.trans (s70.trans (s138.trans (s200.trans (s207.trans s222)))))))))), (hl155.mono (s200.trans (s207.trans s222))), (hl150.mono (s200.trans (s207.trans s222))), (KR.mono hl153 (s200.trans (s207.trans s222))), (hl147.mono (s200.trans (s207.trans s222))), (SqL.of (S230.tl.tl.tl.tl.tl.tl.getO 5 rfl)), (hl21.mono (s34.trans (s52.trans (s56.trans (s70.trans (s138.trans (s200.trans (s207.trans s222)))))))), (KR.mono hl145 (s200.trans (s207.trans s222))), S230, (by exact e232), fun F233 H234 v237 a239 v240 a242 v243 v245 v247 s235 S236 hl238 hl241 hl244 hl246 hl248 => ?_⟩
        clear S226
        have S249 : Sta F233 ([(a5, HO.lst v237), (a46, HO.ins T.a_Gates dx47 (fl_Gates (V.ref a239) (V.ref a242))), (a239, HO.lst v240), (a242, HO.dT v243), (a73, HO.lst v245), (a79, HO.dK v247), (a194, HO.ins T.a_Plan dx195 (fl_Plan (V.str y203.side) (V.ref a46) (V.ref a209))), (a209, HO.dK v210), (a213, HO.lst v20), (a85, HO.lst v142), (a25, HO.lst [V.str "some", V.str "all"]), (a19, HO.lst v20)] ++ R) _ := S236
        refine hN229 _ _ ?_
        refine seqI fun N250 hN251 => ?_
        refine ⟨_, rfl, _, _, rfl, (.inl (S249.get 5 rfl)), ?_⟩
        clear S236
        intro a252 np253
        have hl254 := hl248
        have S255 : Sta F233 ([(a252, HO.dK v247), (a5, HO.lst v237), (a46, HO.ins T.a_Gates dx47 (fl_Gates (V.ref a239) (V.ref a242))), (a239, HO.lst v240), (a242, HO.dT v243), (a73, HO.lst v245), (a79, HO.dK v247), (a194, HO.ins T.a_Plan dx195 (fl_Plan (V.str y203.side) (V.ref a46) (V.ref a209))), (a209, HO.dK v210), (a213, HO.lst v20), (a85, HO.lst v142), (a25, HO.lst [V.str "some", V.str "all"]), (a19, HO.lst v20)] ++ R) _ := S249.new np253 _
        refine hN251 _ _ ?_
        refine seqI fun N256 hN257 => ?_
        refine ⟨_, rfl, _, rfl, _, rfl, ?_⟩
        clear S249
        intro a258 dx259 nx260 ndx261 nex262
        obtain ⟨F263, s264, S265⟩ : ∃ F', Same F233 F' ∧ Sta F' ([(a258, HO.ins T.a_Plan dx259 []), (a252, HO.dK v247), (a5, HO.lst v237), (a46, HO.ins T.a_Gates dx47 (fl_Gates (V.ref a239) (V.ref a242))), (a239, HO.lst v240), (a242, HO.dT v243), (a73, HO.lst v245), (a79, HO.dK v247), (a194, HO.ins T.a_Plan dx195 (fl_Plan (V.str y203.side) (V.ref a46) (V.ref a209))), (a209, HO.dK v210), (a213, HO.lst v20), (a85, HO.lst v142), (a25, HO.lst [V.str "some", V.str "all"]), (a19, HO.lst v20)] ++ R) _ := ⟨_, S255.sameF ndx261 (HO.own a258), (S255.newF ndx261 (HO.own a258)).new (by rw [upd_ne nex262.symm]; exact nx260) (HO.ins T.a_Plan dx259 [])⟩
        have S266 : Sta F263 ([(a258, HO.ins T.a_Plan dx259 ([])), (a46, HO.ins T.a_Gates dx47 (fl_Gates (V.ref a239) (V.ref a242))), (a239, HO.lst v240), (a242, HO.dT v243), (a252, HO.dK v247), (a5, HO.lst v237), (a73, HO.lst v245), (a79, HO.dK v247), (a194, HO.ins T.a_Plan dx195 (fl_Plan (V.str y203.side) (V.ref a46) (V.ref a209))), (a209, HO.dK v210), (a213, HO.lst v20), (a85, HO.lst v142), (a25, HO.lst [V.str "some", V.str "all"]), (a19, HO.lst v20)] ++ R) _ := S265.pick [0, 3, 4, 5, 1, 2, 6, 7, 8, 9, 10, 11, 12, 13] (by decide) rfl
        revert hm; refine bndI fun y267 e268 hm => ?_
        refine ⟨F263, ([(a252, HO.dK v247), (a5, HO.lst v237), (a73, HO.lst v245), (a79, HO.dK v247), (a194, HO.ins T.a_Plan dx195 (fl_Plan (V.str y203.side) (V.ref a46) (V.ref a209))), (a209, HO.dK v210), (a213, HO.lst v20), (a85, HO.lst v142), (a25, HO.lst [V.str "some", V.str "all"]), (a19, HO.lst v20)] ++ R), a258, dx259, y39, a46, dx47, (M_Gates.mk y231.2.1.rows y231.2.1.known), a239, v240, a242, v243, a252, v247, y231.2.2.2, y267, rfl, (hl241.mono s264), (KR.mono hl244 s264), (S266.tl.tl.tl.tl.getO 0 rfl), (KR.mono hl254 s264), S266, (by exact e268), fun F269 H270 a273 v274 s271 S272 hl275 => ⟨rfl, ?_⟩⟩
        clear S265
        have S276 : Sta F269 ([(a258, HO.ins T.a_Plan dx259 (fl_Plan (V.str y267.side) (V.ref a46) (V.ref a273))), (a46, HO.ins T.a_Gates dx47 (fl_Gates (V.ref a239) (V.ref a242))), (a239, HO.lst v240), (a242, HO.dT v243), (a273, HO.dK v274), (a252, HO.dK v247), (a5, HO.lst v237), (a73, HO.lst v245), (a79, HO.dK v247), (a194, HO.ins T.a_Plan dx195 (fl_Plan (V.str y203.side) (V.ref a46) (V.ref a209))), (a209, HO.dK v210), (a213, HO.lst v20), (a85, HO.lst v142), (a25, HO.lst [V.str "some", V.str "all"]), (a19, HO.lst v20)] ++ R) _ := S272
        refine hN257 _ _ ?_
        refine seqI fun N277 hN278 => ?_
        revert hm; refine grdI fun g279 hm => ?_
        refine ⟨_, rfl, _, _, rfl, (DPut.k (k := Sum.inl (901 : Int)) (S276.get 5 rfl) (by rw [KR.length (KR.mono hl254 (s264.trans s271))]; exact of_decide_eq_true g279)), ?_⟩
        clear S272
        have hl280 : KR Sum.inl (rInt F269) (putK v247 (Sum.inl (901 : Int)) (V.int 0)) (mput y231.2.2.2 (901 : Int) (0 : Int)) := KR.put (KR.mono hl254 (s264.trans s271)) kinj_int rfl
        have S281 : Sta F269 ([(a258, HO.ins T.a_Plan dx259 (fl_Plan (V.str y267.side) (V.ref a46) (V.ref a273))), (a46, HO.ins T.a_Gates dx47 (fl_Gates (V.ref a239) (V.ref a242))), (a239, HO.lst v240), (a242, HO.dT v243), (a273, HO.dK v274), (a252, HO.dK (putK v247 (Sum.inl (901 : Int)) (V.int 0))), (a5, HO.lst v237), (a73, HO.lst v245), (a79, HO.dK v247), (a194, HO.ins T.a_Plan dx195 (fl_Plan (V.str y203.side) (V.ref a46) (V.ref a209))), (a209, HO.dK v210), (a213, HO.lst v20), (a85, HO.lst v142), (a25, HO.lst [V.str "some", V.str "all"]), (a19, HO.lst v20)] ++ R) _ := S276.set 5 rfl _
        refine hN278 _ _ ?_
        refine seqI fun N282 hN283 => ?_
        revert hm; refine bndI fun b284 e285 hm => ?_
        refine ⟨b284, ?_, ?_⟩
        · clear hm
          have hm := e285
          clear e285
          refine ⟨_, rfl, _, _, _, _, _, rfl, (S281.get 0 rfl), T.cl_Plan, T.n_Plan_side, fl_Plan_side, _, rfl, _, _, rfl, rfl, _, rfl, ?_⟩
          by_cases c286 : (!decide (y267.side = y39)) = true
          · revert hm; refine ifTI c286 fun hm => ?_
            exact goT c286 ⟨Option.some.inj hm, rfl⟩
          · revert hm; refine ifFI c286 fun hm => ?_
            refine goF c286 ?_
            revert hm; refine grdI fun g287 hm => ?_
            refine ⟨_, rfl, _, _, _, _, _, rfl, (S281.get 0 rfl), T.cl_Plan, T.n_Plan_table, fl_Plan_table, _, rfl, _, _, _, _, rfl, rfl, (S281.get 4 rfl), (S281.get 8 rfl), (dictEq_int kinj_int hl275 (KR.mono hl248 (s264.trans s271)) g287).1, (dictEq_int kinj_int hl275 (KR.mono hl248 (s264.trans s271)) g287).2, _, rfl, ?_⟩
            refine iteF ?_
            revert hm; refine grdI fun g288 hm => ?_
            revert hm; refine grdI fun g289 hm => ?_
            refine ⟨_, rfl, _, _, _, _, _, rfl, (S281.get 1 rfl), T.cl_Gates, T.n_Gates_rows, fl_Gates_rows, _, rfl, _, _, (dat_dp (K := K) (r := (rLst K rKT)) ⟨_, _, rfl, (SqL.of (S281.get 2 rfl)), LR.mono (hl241.mono (s264.trans s271)) S281.sub⟩), (dat_dp (K := K) (r := (rLst K rKT)) ⟨_, _, rfl, (SqL.of (S281.get 7 rfl)), LR.mono (hl246.mono (s264.trans s271)) S281.sub⟩), (dat_shaped (K := K) (r := (rLst K rKT)) (Nat.le_of_ble_eq_true rfl) _ g288), (dat_shaped (K := K) (r := (rLst K rKT)) (Nat.le_of_ble_eq_true rfl) _ g289), ?_⟩
            rw [dat_eqv (K := K) (r := (rLst K rKT)) y231.2.1.rows y231.2.2.1]
            refine ⟨_, rfl, ?_⟩
            by_cases c290 : (!decide (y231.2.1.rows = y231.2.2.1)) = true
            · revert hm; refine ifTI c290 fun hm => ?_
              exact goT c290 ⟨Option.some.inj hm, rfl⟩
            · revert hm; refine ifFI c290 fun hm => ?_
              refine goF c290 ?_
              revert hm; refine grdI fun g291 hm => ?_
              revert hm; refine grdI fun g292 hm => ?_
              refine ⟨_, rfl, _, _, _, _, _, rfl, (S281.get 0 rfl), T.cl_Plan, T.n_Plan_gates, fl_Plan_gates, _, _, _, _, _, rfl, (S281.get 1 rfl), T.cl_Gates, T.n_Gates_rows, fl_Gates_rows, _, rfl, _, _, (dat_dp (K := K) (r := (rLst K rKT)) ⟨_, _, rfl, (SqL.of (S281.get 2 rfl)), LR.mono (hl241.mono (s264.trans s271)) S281.sub⟩), (dat_dp (K := K) (r := (rLst K rKT)) ⟨_, _, rfl, (SqL.of (S281.get 7 rfl)), LR.mono (hl246.mono (s264.trans s271)) S281.sub⟩), (dat_shaped (K := K) (r := (rLst K rKT)) (Nat.le_of_ble_eq_true rfl) _ g291), (dat_shaped (K := K) (r := (rLst K rKT)) (Nat.le_of_ble_eq_true rfl) _ g292), ?_⟩
              rw [dat_eqv (K := K) (r := (rLst K rKT)) y231.2.1.rows y231.2.2.1]
              refine ⟨_, rfl, ?_⟩
              exact ⟨Option.some.inj hm, rfl⟩
        by_cases c293 : b284 = true
        · revert hm; refine ifTI c293 fun hm => ?_
          cases hm
        · revert hm; refine ifFI c293 fun hm => ?_
          refine goF c293 ?_
          refine hN283 _ _ ?_
          refine seqI fun N294 hN295 => ?_
          have S296 : Sta F269 ([(a79, HO.dK v247), (a258, HO.ins T.a_Plan dx259 (fl_Plan (V.str y267.side) (V.ref a46) (V.ref a273))), (a46, HO.ins T.a_Gates dx47 (fl_Gates (V.ref a239) (V.ref a242))), (a239, HO.lst v240), (a242, HO.dT v243), (a273, HO.dK v274), (a252, HO.dK (putK v247 (Sum.inl (901 : Int)) (V.int 0))), (a5, HO.lst v237), (a73, HO.lst v245), (a194, HO.ins T.a_Plan dx195 (fl_Plan (V.str y203.side) (V.ref a46) (V.ref a209))), (a209, HO.dK v210), (a213, HO.lst v20), (a85, HO.lst v142), (a25, HO.lst [V.str "some", V.str "all"]), (a19, HO.lst v20)] ++ R) _ := S281.pick [8, 0, 1, 2, 3, 4, 5, 6, 7, 9, 10, 11, 12, 13, 14] (by decide) rfl
          revert hm; refine bndI fun y297 e298 hm => ?_
          refine ⟨_, rfl, _, rfl, _, rfl, _, rfl, F269, ([(a258, HO.ins T.a_Plan dx259 (fl_Plan (V.str y267.side) (V.ref a46) (V.ref a273))), (a46, HO.ins T.a_Gates dx47 (fl_Gates (V.ref a239) (V.ref a242))), (a239, HO.lst v240), (a242, HO.dT v243), (a273, HO.dK v274), (a252, HO.dK (putK v247 (Sum.inl (901 : Int)) (V.int 0))), (a5, HO.lst v237), (a73, HO.lst v245), (a194, HO.ins T.a_Plan dx195 (fl_Plan (V.str y203.side) (V.ref a46) (V.ref a209))), (a209, HO.dK v210), (a213, HO.lst v20), (a85, HO.lst v142), (a25, HO.lst [V.str "some", V.str "all"]), (a19, HO.lst v20)] ++ R), a73, v245, y231.2.2.1, a19, v20, y11.1, y39, a79, v247, y231.2.2.2, y297, rfl, (SqL.of (S296.tl.getO 7 rfl)), (hl246.mono (s264.trans s271)), (SqL.of (S296.tl.getO 13 rfl)), (hl21.mono (s34.trans (s52.trans (s56.trans (s70.trans (s138.trans (s200.trans (s207.trans (s222.trans (s235.trans (s264.trans s271))))))))))), (KR.mono hl248 (s264.trans s271)), S296, (by exact e298), fun F299 H300 v303 s301 S302 p304 => ?_⟩
          clear S281
          have S305 : Sta F299 ([(a79, HO.dK v247), (a258, HO.ins T.a_Plan dx259 (fl_Plan (V.str y267.side) (V.ref a46) (V.ref a273))), (a46, HO.ins T.a_Gates dx47 (fl_Gates (V.ref a239) (V.ref a242))), (a239, HO.lst v240), (a242, HO.dT v243), (a273, HO.dK v274), (a252, HO.dK (putK v247 (Sum.inl (901 : Int)) (V.int 0))), (a5, HO.lst v237), (a73, HO.lst v245), (a194, HO.ins T.a_Plan dx195 (fl_Plan (V.str y203.side) (V.ref a46) (V.ref a209))), (a209, HO.dK v210), (a213, HO.lst v20), (a85, HO.lst v142), (a25, HO.lst [V.str "some", V.str "all"]), (a19, HO.lst v20)] ++ R) _ := S302
          refine hN295 _ _ ?_
          refine seqI fun N306 hN307 => ?_
          refine ⟨_, rfl, _, _, _, rfl, (S305.get 1 rfl), fl_Plan_no_misfit, _, rfl, _, _, rfl, .inl (SqL.of (S305.get 14 rfl)), ?_⟩
          clear S302
          intro a308 np309
          have hl310 := (hl21.mono (s34.trans (s52.trans (s56.trans (s70.trans (s138.trans (s200.trans (s207.trans (s222.trans (s235.trans (s264.trans (s271.trans s301))))))))))))
          have S311 : Sta F299 ([(a308, HO.lst v20), (a79, HO.dK v247), (a258, HO.ins T.a_Plan dx259 (fl_Plan (V.str y267.side) (V.ref a46) (V.ref a273))), (a46, HO.ins T.a_Gates dx47 (fl_Gates (V.ref a239) (V.ref a242))), (a239, HO.lst v240), (a242, HO.dT v243), (a273, HO.dK v274), (a252, HO.dK (putK v247 (Sum.inl (901 : Int)) (V.int 0))), (a5, HO.lst v237), (a73, HO.lst v245), (a194, HO.ins T.a_Plan dx195 (fl_Plan (V.str y203.side) (V.ref a46) (V.ref a209))), (a209, HO.dK v210), (a213, HO.lst v20), (a85, HO.lst v142), (a25, HO.lst [V.str "some", V.str "all"]), (a19, HO.lst v20)] ++ R) _ := S305.new np309 _
          have S312 : Sta F299 ([(a258, HO.ins T.a_Plan dx259 (fl_Plan (V.str y267.side) (V.ref a46) (V.ref a273))), (a46, HO.ins T.a_Gates dx47 (fl_Gates (V.ref a239) (V.ref a242))), (a239, HO.lst v240), (a242, HO.dT v243), (a273, HO.dK v274), (a308, HO.lst v20), (a79, HO.dK v247), (a252, HO.dK (putK v247 (Sum.inl (901 : Int)) (V.int 0))), (a5, HO.lst v237), (a73, HO.lst v245), (a194, HO.ins T.a_Plan dx195 (fl_Plan (V.str y203.side) (V.ref a46) (V.ref a209))), (a209, HO.dK v210), (a213, HO.lst v20), (a85, HO.lst v142), (a25, HO.lst [V.str "some", V.str "all"]), (a19, HO.lst v20)] ++ R) _ := S311.pick [2, 3, 4, 5, 6, 0, 1, 7, 8, 9, 10, 11, 12, 13, 14, 15] (by decide) rfl
          revert hm; refine bndI fun y313 e314 hm => ?_
          refine ⟨F299, ([(a308, HO.lst v20), (a79, HO.dK v247), (a252, HO.dK (putK v247 (Sum.inl (901 : Int)) (V.int 0))), (a5, HO.lst v237), (a73, HO.lst v245), (a194, HO.ins T.a_Plan dx195 (fl_Plan (V.str y203.side) (V.ref a46) (V.ref a209))), (a209, HO.dK v210), (a213, HO.lst v20), (a85, HO.lst v142), (a25, HO.lst [V.str "some", V.str "all"]), (a19, HO.lst v20)] ++ R), a258, dx259, (M_Plan.mk y267.side (M_Gates.mk y231.2.1.rows y231.2.1.known) y267.table), a46, dx47, a239, v240, a242, v243, a273, v274, a308, v20, y11.1, y313, rfl, (hl241.mono (s264.trans (s271.trans s301))), (KR.mono hl244 (s264.trans (s271.trans s301))), (KR.mono hl275 s301), (SqL.of (S312.tl.tl.tl.tl.tl.getO 0 rfl)), hl310, S312, (by exact e314), fun F315 H316 v319 s317 S318 p320 => ?_⟩
          clear S305 S311
          have S321 : Sta F315 ([(a258, HO.ins T.a_Plan dx259 (fl_Plan (V.str y267.side) (V.ref a46) (V.ref a273))), (a46, HO.ins T.a_Gates dx47 (fl_Gates (V.ref a239) (V.ref a242))), (a239, HO.lst v240), (a242, HO.dT v243), (a273, HO.dK v274), (a308, HO.lst v20), (a79, HO.dK v247), (a252, HO.dK (putK v247 (Sum.inl (901 : Int)) (V.int 0))), (a5, HO.lst v237), (a73, HO.lst v245), (a194, HO.ins T.a_Plan dx195 (fl_Plan (V.str y203.side) (V.ref a46) (V.ref a209))), (a209, HO.dK v210), (a213, HO.lst v20), (a85, HO.lst v142), (a25, HO.lst [V.str "some", V.str "all"]), (a19, HO.lst v20)] ++ R) _ := S318
          refine hN307 _ _ ?_
          refine seqI fun N322 hN323 => ?_
          refine ⟨(((y297).isNone) && (!(y313).isNone)), ?_, ?_⟩
          · refine ⟨_, rfl, rfl, ?_⟩
            rw [show _ = (y297).isNone from (opt_isN (r := rInt) (F := F299) p304)]
            refine ⟨_, rfl, ?_⟩
            by_cases c324 : (y297).isNone = true
            · refine goT c324 ?_
              refine ⟨_, rfl, rfl, ?_⟩
              rw [show _ = (!(y313).isNone) from (congrArg (!·) (opt_isN (r := rInt) (F := F315) p320))]
              refine ⟨_, rfl, ?_⟩
              exact ⟨by simp [c324], rfl⟩
            · exact goF c324 ⟨by simp [c324], rfl⟩
          by_cases c325 : (((y297).isNone) && (!(y313).isNone)) = true
          · revert hm; refine ifTI c325 fun hm => ?_
            cases hm
          · revert hm; refine ifFI c325 fun hm => ?_
            refine goF c325 ?_
            refine hN323 _ _ ?_
            refine seqI fun N326 hN327 => ?_
            revert hm; refine bndI fun b328 e329 hm => ?_
            refine ⟨b328, ?_, ?_⟩
            · clear hm
              have hm := e329
              clear e329
              refine ⟨_, rfl, rfl, ?_⟩
              rw [show _ = (!(y297).isNone) from (congrArg (!·) (opt_isN (r := rInt) (F := F299) p304))]
              refine ⟨_, rfl, ?_⟩
              by_cases c330 : (!(y297).isNone) = true
              · revert hm; refine ifTI c330 fun hm => ?_
                refine goT c330 ?_
                revert hm; refine bndI fun b331 e332 hm => ?_
                refine ⟨b331, ?_, ?_⟩
                · clear hm
                  have hm := e332
                  clear e332
                  refine ⟨_, rfl, _, _, _, _, _, rfl, .ty _, (tyx_opt (T := "int") p320 (fun h => by obtain rfl := rInt_e h; exact .base (.int _))), (kit_optY (by decide +kernel) (by decide +kernel)), _, rfl, ?_⟩
                  by_cases c333 : (!(y313).isSome) = true
                  · revert hm; refine ifTI c333 fun hm => ?_
                    exact goT c333 ⟨Option.some.inj hm, rfl⟩
                  · revert hm; refine ifFI c333 fun hm => ?_
                    refine goF c333 ?_
                    refine ⟨_, rfl, _, rfl, ?_⟩
                    revert hm; refine bndI fun z334 e335 hm => ?_
                    have p336 := (rOpt_un e335 p320)
                    obtain rfl := rInt_e p336
                    revert hm; refine bndI fun z337 e338 hm => ?_
                    have p339 := (rOpt_un e338 p304)
                    obtain rfl := rInt_e p339
                    refine ⟨_, _, rfl, rfl, _, rfl, ?_⟩
                    exact ⟨Option.some.inj hm, rfl⟩
                exact ⟨Option.some.inj hm, rfl⟩
              · revert hm; refine ifFI c330 fun hm => ?_
                exact goF c330 ⟨Option.some.inj hm, rfl⟩
            by_cases c340 : b328 = true
            · revert hm; refine ifTI c340 fun hm => ?_
              cases hm
            · revert hm; refine ifFI c340 fun hm => ?_
              refine goF c340 ?_
              refine hN327 _ _ ?_
              refine seqI fun N341 hN342 => ?_
              revert hm; refine bndI fun y343 e344 hm => ?_
              refine ⟨_, rfl, _, _, _, rfl, (S321.get 0 rfl), fl_Plan_no_gate_count, F315, ([(a308, HO.lst v20), (a79, HO.dK v247), (a252, HO.dK (putK v247 (Sum.inl (901 : Int)) (V.int 0))), (a5, HO.lst v237), (a73, HO.lst v245), (a194, HO.ins T.a_Plan dx195 (fl_Plan (V.str y203.side) (V.ref a46) (V.ref a209))), (a209, HO.dK v210), (a213, HO.lst v20), (a85, HO.lst v142), (a25, HO.lst [V.str "some", V.str "all"]), (a19, HO.lst v20)] ++ R), a258, dx259, (M_Plan.mk y267.side (M_Gates.mk y231.2.1.rows y231.2.1.known) y267.table), a46, dx47, a239, v240, a242, v243, a273, v274, y343, rfl, (hl241.mono (s264.trans (s271.trans (s301.trans s317)))), (KR.mono hl244 (s264.trans (s271.trans (s301.trans s317)))), (KR.mono hl275 (s301.trans s317)), S321, (by exact e344), fun F345 H346 s347 S348 => ?_⟩
              have S349 : Sta F345 ([(a258, HO.ins T.a_Plan dx259 (fl_Plan (V.str y267.side) (V.ref a46) (V.ref a273))), (a46, HO.ins T.a_Gates dx47 (fl_Gates (V.ref a239) (V.ref a242))), (a239, HO.lst v240), (a242, HO.dT v243), (a273, HO.dK v274), (a308, HO.lst v20), (a79, HO.dK v247), (a252, HO.dK (putK v247 (Sum.inl (901 : Int)) (V.int 0))), (a5, HO.lst v237), (a73, HO.lst v245), (a194, HO.ins T.a_Plan dx195 (fl_Plan (V.str y203.side) (V.ref a46) (V.ref a209))), (a209, HO.dK v210), (a213, HO.lst v20), (a85, HO.lst v142), (a25, HO.lst [V.str "some", V.str "all"]), (a19, HO.lst v20)] ++ R) _ := S348
              refine hN342 _ _ ?_
              refine seqI fun N350 hN351 => ?_
              refine ⟨_, rfl, ?_⟩
              clear S348
              refine ⟨_, _, (S349.get 6 rfl), trivial, fun od352 => ?_⟩
              have S353 : Sta F345 ([(a258, HO.ins T.a_Plan dx259 (fl_Plan (V.str y267.side) (V.ref a46) (V.ref a273))), (a46, HO.ins T.a_Gates dx47 (fl_Gates (V.ref a239) (V.ref a242))), (a239, HO.lst v240), (a242, HO.dT v243), (a273, HO.dK v274), (a308, HO.lst v20), (a79, HO.frz od352 (HO.dK v247)), (a252, HO.dK (putK v247 (Sum.inl (901 : Int)) (V.int 0))), (a5, HO.lst v237), (a73, HO.lst v245), (a194, HO.ins T.a_Plan dx195 (fl_Plan (V.str y203.side) (V.ref a46) (V.ref a209))), (a209, HO.dK v210), (a213, HO.lst v20), (a85, HO.lst v142), (a25, HO.lst [V.str "some", V.str "all"]), (a19, HO.lst v20)] ++ R) _ := S349.set 6 rfl _
              revert hm; refine grdI fun g368 hm => ?_
              revert hm; refine bndI fun y383 e354 hm => ?_
              refine ⟨_, rfl, _, _, rfl, .inl ⟨_, (S353.get 6 rfl), fun a366 np367 => lc_keys (kvs := v247) (fun i H2 => ∃ (F359 : Hp) (v360 : List V) (acc361 : List Int) (r355 : List Int), Same F345 F359 ∧ Sta F359 ([(a366, HO.lst v360), (a258, HO.ins T.a_Plan dx259 (fl_Plan (V.str y267.side) (V.ref a46) (V.ref a273))), (a46, HO.ins T.a_Gates dx47 (fl_Gates (V.ref a239) (V.ref a242))), (a239, HO.lst v240), (a242, HO.dT v243), (a273, HO.dK v274), (a308, HO.lst v20), (a79, HO.frz od352 (HO.dK v247)), (a252, HO.dK (putK v247 (Sum.inl (901 : Int)) (V.int 0))), (a5, HO.lst v237), (a73, HO.lst v245), (a194, HO.ins T.a_Plan dx195 (fl_Plan (V.str y203.side) (V.ref a46) (V.ref a209))), (a209, HO.dK v210), (a213, HO.lst v20), (a85, HO.lst v142), (a25, HO.lst [V.str "some", V.str "all"]), (a19, HO.lst v20)] ++ R) H2 ∧ LR (rInt F359) v360 acc361 ∧ acc361.length ≤ i ∧ lcO (fun x358 => (mget y231.2.2.2 x358).bind fun y377 =>
      some (some y377)) (List.drop i (y231.2.2.2.map fun (q : Int × Int) => q.1)) = some r355 ∧ y383 = acc361 ++ r355) ⟨F345, [], [], _, Same.refl _, S353.new np367 _, trivial, Nat.le_refl _, e354, rfl⟩ (by rintro i H2 _ ⟨F359, v360, acc361, r355, s362, S363, hl364, hn365, hr356, hy357⟩; exact S363.get 7 rfl) ?_ ?_⟩⟩
              clear S349
              · rintro i v369 H2 hi ⟨F359, v360, acc361, r355, s362, S363, hl364, hn365, hr356, hy357⟩
                obtain ⟨x358, hx370, rx371⟩ := LR.getV (KR.keysLI (F := F345) (KR.mono hl248 (s264.trans (s271.trans (s301.trans (s317.trans s347)))))) hi
                rw [drop_cons hx370] at hr356
                revert hr356; refine lcI fun y372 r373 hm hr375 hc376 => ?_
                obtain rfl := rInt_e rx371
                refine ⟨rfl, ?_⟩
                refine tYesI ?_
                rw [if_pos rfl]
                revert hm; refine bndI fun y377 e378 hm => ?_
                obtain ⟨v379, ev380, rv381⟩ := KR.get hl248 kinj_int e378
                obtain rfl := rInt_e rv381
                refine ⟨_, rfl, _, rfl, _, _, rfl, (dget_of (DGet.kf (k := Sum.inl x358) (S363.get 7 rfl)) ev380), ?_⟩
                obtain rfl := Option.some.inj hm
                have hlt : v360.length < 16777216 := by rw [LR.length hl364]; have := (List.getElem?_eq_some_iff.mp hx370).1; have := of_decide_eq_true g368; omega
                have S382 : Sta F359 ([(a366, HO.lst (v360 ++ [V.int y377])), (a258, HO.ins T.a_Plan dx259 (fl_Plan (V.str y267.side) (V.ref a46) (V.ref a273))), (a46, HO.ins T.a_Gates dx47 (fl_Gates (V.ref a239) (V.ref a242))), (a239, HO.lst v240), (a242, HO.dT v243), (a273, HO.dK v274), (a308, HO.lst v20), (a79, HO.frz od352 (HO.dK v247)), (a252, HO.dK (putK v247 (Sum.inl (901 : Int)) (V.int 0))), (a5, HO.lst v237), (a73, HO.lst v245), (a194, HO.ins T.a_Plan dx195 (fl_Plan (V.str y203.side) (V.ref a46) (V.ref a209))), (a209, HO.dK v210), (a213, HO.lst v20), (a85, HO.lst v142), (a25, HO.lst [V.str "some", V.str "all"]), (a19, HO.lst v20)] ++ R) _ := S363.set 0 rfl _
                exact ⟨_, (S363.get 0 rfl), hlt, F359, _, (acc361 ++ [y377]), r373, s362, S382, LR.snoc hl364 rfl, by rw [List.length_append]; exact Nat.succ_le_succ hn365, hr375, by rw [List.append_assoc]; exact hy357.trans (congrArg (acc361 ++ ·) hc376)⟩
              rintro H2 ⟨F359, v360, acc361, r355, s362, S363, hl364, hn365, hr356, hy357⟩
              rw [LR.dropEnd (KR.keysLI (F := F345) (KR.mono hl248 (s264.trans (s271.trans (s301.trans (s317.trans s347))))))] at hr356
              obtain rfl := Option.some.inj hr356
              rw [List.append_nil] at hy357
              subst hy357
              have S384 : Sta F359 ([(a366, HO.lst v360), (a258, HO.ins T.a_Plan dx259 (fl_Plan (V.str y267.side) (V.ref a46) (V.ref a273))), (a46, HO.ins T.a_Gates dx47 (fl_Gates (V.ref a239) (V.ref a242))), (a239, HO.lst v240), (a242, HO.dT v243), (a273, HO.dK v274), (a308, HO.lst v20), (a79, HO.frz od352 (HO.dK v247)), (a252, HO.dK (putK v247 (Sum.inl (901 : Int)) (V.int 0))), (a5, HO.lst v237), (a73, HO.lst v245), (a194, HO.ins T.a_Plan dx195 (fl_Plan (V.str y203.side) (V.ref a46) (V.ref a209))), (a209, HO.dK v210), (a213, HO.lst v20), (a85, HO.lst v142), (a25, HO.lst [V.str "some", V.str "all"]), (a19, HO.lst v20)] ++ R) _ := S363
              refine ⟨(S384.get 7 rfl), ?_⟩
              have S385 : Sta F359 ([(a366, HO.lst v360), (a258, HO.ins T.a_Plan dx259 (fl_Plan (V.str y267.side) (V.ref a46) (V.ref a273))), (a46, HO.ins T.a_Gates dx47 (fl_Gates (V.ref a239) (V.ref a242))), (a239, HO.lst v240), (a242, HO.dT v243), (a273, HO.dK v274), (a308, HO.lst v20), (a79, HO.dK v247), (a252, HO.dK (putK v247 (Sum.inl (901 : Int)) (V.int 0))), (a5, HO.lst v237), (a73, HO.lst v245), (a194, HO.ins T.a_Plan dx195 (fl_Plan (V.str y203.side) (V.ref a46) (V.ref a209))), (a209, HO.dK v210), (a213, HO.lst v20), (a85, HO.lst v142), (a25, HO.lst [V.str "some", V.str "all"]), (a19, HO.lst v20)] ++ R) _ := S384.set 7 rfl _
              revert hm; refine bndI fun y386 e387 hm => ?_
              refine ⟨F359, ([(a366, HO.lst v360), (a258, HO.ins T.a_Plan dx259 (fl_Plan (V.str y267.side) (V.ref a46) (V.ref a273))), (a46, HO.ins T.a_Gates dx47 (fl_Gates (V.ref a239) (V.ref a242))), (a239, HO.lst v240), (a242, HO.dT v243), (a273, HO.dK v274), (a308, HO.lst v20), (a79, HO.dK v247), (a252, HO.dK (putK v247 (Sum.inl (901 : Int)) (V.int 0))), (a5, HO.lst v237), (a73, HO.lst v245), (a194, HO.ins T.a_Plan dx195 (fl_Plan (V.str y203.side) (V.ref a46) (V.ref a209))), (a209, HO.dK v210), (a213, HO.lst v20), (a85, HO.lst v142), (a25, HO.lst [V.str "some", V.str "all"]), (a19, HO.lst v20)] ++ R), a73, v245, y231.2.2.1, a366, v360, y383, y386, rfl, (SqL.of (S385.getO 10 rfl)), (hl246.mono (s264.trans (s271.trans (s301.trans (s317.trans (s347.trans s362)))))), (SqL.of (S385.getO 0 rfl)), hl364, S385, (by exact e387), fun F388 H389 a392 v393 s390 S391 hl394 => ?_⟩
              clear S363 S384
              have S395 : Sta F388 ([(a392, HO.lst v393), (a366, HO.lst v360), (a258, HO.ins T.a_Plan dx259 (fl_Plan (V.str y267.side) (V.ref a46) (V.ref a273))), (a46, HO.ins T.a_Gates dx47 (fl_Gates (V.ref a239) (V.ref a242))), (a239, HO.lst v240), (a242, HO.dT v243), (a273, HO.dK v274), (a308, HO.lst v20), (a79, HO.dK v247), (a252, HO.dK (putK v247 (Sum.inl (901 : Int)) (V.int 0))), (a5, HO.lst v237), (a73, HO.lst v245), (a194, HO.ins T.a_Plan dx195 (fl_Plan (V.str y203.side) (V.ref a46) (V.ref a209))), (a209, HO.dK v210), (a213, HO.lst v20), (a85, HO.lst v142), (a25, HO.lst [V.str "some", V.str "all"]), (a19, HO.lst v20)] ++ R) _ := S391
              revert hm; refine grdI fun g410 hm => ?_
              revert hm; refine bndI fun y430 e396 hm => ?_
              refine ⟨_, rfl, ⟨_, (SqL.of (S395.get 0 rfl))⟩, fun a408 np409 => lc_list (K := K) (a := a392) (xs := v393) (fun i H2 => ∃ (F401 : Hp) (v402 : List V) (acc403 : List Int) (r397 : List Int), Same F388 F401 ∧ Sta F401 ([(a408, HO.lst v402), (a392, HO.lst v393), (a366, HO.lst v360), (a258, HO.ins T.a_Plan dx259 (fl_Plan (V.str y267.side) (V.ref a46) (V.ref a273))), (a46, HO.ins T.a_Gates dx47 (fl_Gates (V.ref a239) (V.ref a242))), (a239, HO.lst v240), (a242, HO.dT v243), (a273, HO.dK v274), (a308, HO.lst v20), (a79, HO.dK v247), (a252, HO.dK (putK v247 (Sum.inl (901 : Int)) (V.int 0))), (a5, HO.lst v237), (a73, HO.lst v245), (a194, HO.ins T.a_Plan dx195 (fl_Plan (V.str y203.side) (V.ref a46) (V.ref a209))), (a209, HO.dK v210), (a213, HO.lst v20), (a85, HO.lst v142), (a25, HO.lst [V.str "some", V.str "all"]), (a19, HO.lst v20)] ++ R) H2 ∧ LR (rInt F401) v402 acc403 ∧ acc403.length ≤ i ∧ lcO (fun x400 => (atI y231.2.2.1 x400).bind fun y419 =>
      (kStr y419 (0 : Int)).bind fun y426 =>
      if (decide (y426 = ("both" : Str))) = true then (some (some x400)) else some none) (List.drop i y386) = some r397 ∧ y430 = acc403 ++ r397) ⟨F388, [], [], _, Same.refl _, S395.new np409 _, trivial, Nat.le_refl _, e396, rfl⟩ (by rintro i H2 _ ⟨F401, v402, acc403, r397, s404, S405, hl406, hn407, hr398, hy399⟩; exact (SqL.of (S405.get 1 rfl))) ?_ ?_⟩
              clear S391
              · rintro i v411 H2 hi ⟨F401, v402, acc403, r397, s404, S405, hl406, hn407, hr398, hy399⟩
                obtain ⟨x400, hx412, rx413⟩ := LR.getV hl394 hi
                rw [drop_cons hx412] at hr398
                revert hr398; refine lcI fun y414 r415 hm hr417 hc418 => ?_
                obtain rfl := rInt_e rx413
                refine ⟨rfl, ?_⟩
                revert hm; refine bndI fun y419 e420 hm => ?_
                obtain ⟨v421, ev422, rv423⟩ := LR.atI hl246 e420
                obtain ⟨a424, rfl, h425⟩ := rv423
                revert hm; refine bndI fun y426 e427 hm => ?_
                refine ⟨_, rfl, _, rfl, _, _, _, _, rfl, rfl, (SqL.of (S405.get 12 rfl)), ev422, _, _, _, _, rfl, rfl, (SqT.of (S405.sub _ _ ((s264.trans (s271.trans (s301.trans (s317.trans (s347.trans (s362.trans (s390.trans s404))))))) _ _ h425))), (kStr_at e427), _, _, rfl, rfl, _, rfl, ?_⟩
                by_cases c428 : (decide (y426 = ("both" : Str))) = true
                · revert hm; refine ifTI c428 fun hm => ?_
                  refine goT c428 ?_
                  refine ⟨_, rfl, ?_⟩
                  obtain rfl := Option.some.inj hm
                  have hlt : v402.length < 16777216 := by rw [LR.length hl406]; have := (List.getElem?_eq_some_iff.mp hx412).1; have := of_decide_eq_true g410; omega
                  have S429 : Sta F401 ([(a408, HO.lst (v402 ++ [V.int x400])), (a392, HO.lst v393), (a366, HO.lst v360), (a258, HO.ins T.a_Plan dx259 (fl_Plan (V.str y267.side) (V.ref a46) (V.ref a273))), (a46, HO.ins T.a_Gates dx47 (fl_Gates (V.ref a239) (V.ref a242))), (a239, HO.lst v240), (a242, HO.dT v243), (a273, HO.dK v274), (a308, HO.lst v20), (a79, HO.dK v247), (a252, HO.dK (putK v247 (Sum.inl (901 : Int)) (V.int 0))), (a5, HO.lst v237), (a73, HO.lst v245), (a194, HO.ins T.a_Plan dx195 (fl_Plan (V.str y203.side) (V.ref a46) (V.ref a209))), (a209, HO.dK v210), (a213, HO.lst v20), (a85, HO.lst v142), (a25, HO.lst [V.str "some", V.str "all"]), (a19, HO.lst v20)] ++ R) _ := S405.set 0 rfl _
                  exact ⟨_, (S405.get 0 rfl), hlt, F401, _, (acc403 ++ [x400]), r415, s404, S429, LR.snoc hl406 rfl, by rw [List.length_append]; exact Nat.succ_le_succ hn407, hr417, by rw [List.append_assoc]; exact hy399.trans (congrArg (acc403 ++ ·) hc418)⟩
                · revert hm; refine ifFI c428 fun hm => ?_
                  refine goF c428 ?_
                  obtain rfl := Option.some.inj hm
                  exact ⟨F401, _, acc403, r415, s404, S405, hl406, Nat.le_succ_of_le hn407, hr417, hy399.trans (congrArg (acc403 ++ ·) hc418)⟩
              rintro H2 ⟨F401, v402, acc403, r397, s404, S405, hl406, hn407, hr398, hy399⟩
              rw [LR.dropEnd hl394] at hr398
              obtain rfl := Option.some.inj hr398
              rw [List.append_nil] at hy399
              subst hy399
              have S431 : Sta F401 ([(a408, HO.lst v402), (a392, HO.lst v393), (a366, HO.lst v360), (a258, HO.ins T.a_Plan dx259 (fl_Plan (V.str y267.side) (V.ref a46) (V.ref a273))), (a46, HO.ins T.a_Gates dx47 (fl_Gates (V.ref a239) (V.ref a242))), (a239, HO.lst v240), (a242, HO.dT v243), (a273, HO.dK v274), (a308, HO.lst v20), (a79, HO.dK v247), (a252, HO.dK (putK v247 (Sum.inl (901 : Int)) (V.int 0))), (a5, HO.lst v237), (a73, HO.lst v245), (a194, HO.ins T.a_Plan dx195 (fl_Plan (V.str y203.side) (V.ref a46) (V.ref a209))), (a209, HO.dK v210), (a213, HO.lst v20), (a85, HO.lst v142), (a25, HO.lst [V.str "some", V.str "all"]), (a19, HO.lst v20)] ++ R) _ := S405
              refine hN351 _ _ ?_
              refine seqI fun N432 hN433 => ?_
              refine ⟨(!decide (y343 = (y430.length : Int))), ?_, ?_⟩
              · refine ⟨_, rfl, _, _, _, _, _, rfl, .ty _, (.base (.int _)), (by first | rfl | exact PySem.W.kitOne_builtin rfl | decide +kernel), _, rfl, ?_⟩
                refine iteF ?_
                refine ⟨_, rfl, _, _, _, _, _, rfl, .ty _, (.base (.int _)), (by first | rfl | exact PySem.W.kitOne_builtin rfl | decide +kernel), _, rfl, ?_⟩
                refine iteF ?_
                refine ⟨_, rfl, _, rfl, _, _, rfl, .inl (SqL.of (S431.get 0 rfl)), ?_⟩
                rw [LR.length hl406]
                refine ⟨_, _, rfl, rfl, _, rfl, ?_⟩
                exact ⟨rfl, rfl⟩
              by_cases c434 : (!decide (y343 = (y430.length : Int))) = true
              · revert hm; refine ifTI c434 fun hm => ?_
                cases hm
              · revert hm; refine ifFI c434 fun hm => ?_
                refine goF c434 ?_
                refine hN433 _ _ ?_
                refine seqI fun N435 hN436 => ?_
                revert hm; refine optI (fun e437 hm => ?_) (fun z439 e438 hm => ?_)
                · obtain rfl := rOpt_none e437 p304
                  refine ⟨_, rfl, rfl, _, rfl, ?_⟩
                  refine iteF ?_
                  refine hN436 _ _ ?_
                  refine seqI fun N440 hN441 => ?_
                  intro a442 np443
                  have hl444 : KR Sum.inl (rBool F401) ([] : List (Key × V)) ([] : (List (Int × Bool))) := trivial
                  have S445 : Sta F401 ([(a442, HO.dK []), (a408, HO.lst v402), (a392, HO.lst v393), (a366, HO.lst v360), (a258, HO.ins T.a_Plan dx259 (fl_Plan (V.str y267.side) (V.ref a46) (V.ref a273))), (a46, HO.ins T.a_Gates dx47 (fl_Gates (V.ref a239) (V.ref a242))), (a239, HO.lst v240), (a242, HO.dT v243), (a273, HO.dK v274), (a308, HO.lst v20), (a79, HO.dK v247), (a252, HO.dK (putK v247 (Sum.inl (901 : Int)) (V.int 0))), (a5, HO.lst v237), (a73, HO.lst v245), (a194, HO.ins T.a_Plan dx195 (fl_Plan (V.str y203.side) (V.ref a46) (V.ref a209))), (a209, HO.dK v210), (a213, HO.lst v20), (a85, HO.lst v142), (a25, HO.lst [V.str "some", V.str "all"]), (a19, HO.lst v20)] ++ R) _ := S431.new np443 _
                  refine hN441 _ _ ?_
                  refine seqI fun N446 hN447 => ?_
                  revert hm; refine bndI fun y448 e449 hm450 => ?_
                  refine ⟨_, rfl, _, rfl, ⟨_, (SqL.of (S445.get 19 rfl))⟩, for_list (K := K) (a := a19) (xs := v20) (fun i σ H2 => ∃ (st2 : ((List (Int × Bool)) × (List Int))) (F474 : Hp) (v479 : List (Key × V)) (v481 : List V) (o477 : Option V) (o478 : Option V), σ = [some (V.ref a_script0), some (V.ref a5), some (V.ref a19), some (V.str y39), some (V.ref a46), some (V.ref a73), some (V.ref a79), some (V.ref a85), o477, o478, some (V.ref a252), some (V.ref a258), some (V.non), some (v319), some (V.int y343), some (V.ref a408), some (V.ref a442), none, none] ∧ Same F401 F474 ∧ Sta F474 ([(a442, HO.dK v479), (a408, HO.lst v402), (a392, HO.lst v393), (a366, HO.lst v360), (a258, HO.ins T.a_Plan dx259 (fl_Plan (V.str y267.side) (V.ref a46) (V.ref a273))), (a46, HO.ins T.a_Gates dx47 (fl_Gates (V.ref a239) (V.ref a242))), (a239, HO.lst v240), (a242, HO.dT v243), (a273, HO.dK v274), (a308, HO.lst v20), (a79, HO.dK v247), (a252, HO.dK (putK v247 (Sum.inl (901 : Int)) (V.int 0))), (a5, HO.lst v481), (a73, HO.lst v245), (a194, HO.ins T.a_Plan dx195 (fl_Plan (V.str y203.side) (V.ref a46) (V.ref a209))), (a209, HO.dK v210), (a213, HO.lst v20), (a85, HO.lst v142), (a25, HO.lst [V.str "some", V.str "all"]), (a19, HO.lst v20)] ++ R) H2 ∧ KR Sum.inl (rBool F474) v479 st2.1 ∧ LR (rInt F474) v481 st2.2 ∧ m_law_l2 x_script0 y39 (List.drop i y11.1) st2 = some y448) ⟨(([] : (List (Int × Bool))), y231.1), F401, [], v237, _, _, rfl, (Same.refl _), S445, hl444, (hl238.mono (s264.trans (s271.trans (s301.trans (s317.trans (s347.trans (s362.trans (s390.trans s404)))))))), e449⟩ (by rintro i σ H2 _ ⟨st2, F474, v479, v481, o477, o478, rfl, s475, S476, hl480, hl482, _⟩; exact (SqL.of (S476.get 19 rfl))) ?_ ?_⟩
                  clear S431
                  · rintro i v484 σ H2 hi ⟨st2, F474, v479, v481, o477, o478, rfl, s475, S476, hl480, hl482, hm⟩
                    obtain ⟨x483, hx485, rx486⟩ := LR.getV hl21 hi
                    rw [drop_cons hx485, m_law_l2] at hm
                    obtain ⟨a487, u489, u490, rfl, hs488, p491, p492⟩ := rx486
                    obtain rfl := rInt_e p491
                    obtain rfl := rStr_e p492
                    refine ⟨_, _, rfl, (SqT.mono hs488 ((s34.trans (s52.trans (s56.trans (s70.trans (s138.trans (s200.trans (s207.trans (s222.trans (s235.trans (s264.trans (s271.trans (s301.trans (s317.trans (s347.trans (s362.trans (s390.trans (s404.trans s475))))))))))))))))).trans S476.sub)), rfl, _, _, rfl, _, _, rfl, rfl, ?_⟩
                    refine ⟨_, rfl, _, rfl, _, _, rfl, rfl, _, rfl, ?_⟩
                    by_cases c493 : (!decide (x483.2 = y39)) = true
                    · revert hm; refine ifTI c493 fun hm => ?_
                      refine goT c493 ?_
                      have S494 : Sta F474 ([(a5, HO.lst v481), (a442, HO.dK v479), (a408, HO.lst v402), (a392, HO.lst v393), (a366, HO.lst v360), (a258, HO.ins T.a_Plan dx259 (fl_Plan (V.str y267.side) (V.ref a46) (V.ref a273))), (a46, HO.ins T.a_Gates dx47 (fl_Gates (V.ref a239) (V.ref a242))), (a239, HO.lst v240), (a242, HO.dT v243), (a273, HO.dK v274), (a308, HO.lst v20), (a79, HO.dK v247), (a252, HO.dK (putK v247 (Sum.inl (901 : Int)) (V.int 0))), (a73, HO.lst v245), (a194, HO.ins T.a_Plan dx195 (fl_Plan (V.str y203.side) (V.ref a46) (V.ref a209))), (a209, HO.dK v210), (a213, HO.lst v20), (a85, HO.lst v142), (a25, HO.lst [V.str "some", V.str "all"]), (a19, HO.lst v20)] ++ R) _ := S476.pick [12, 0, 1, 2, 3, 4, 5, 6, 7, 8, 9, 10, 11, 13, 14, 15, 16, 17, 18, 19] (by decide) rfl
                      revert hm; refine bndI fun y495 e496 hm => ?_
                      refine ⟨_, rfl, _, rfl, F474, ([(a442, HO.dK v479), (a408, HO.lst v402), (a392, HO.lst v393), (a366, HO.lst v360), (a258, HO.ins T.a_Plan dx259 (fl_Plan (V.str y267.side) (V.ref a46) (V.ref a273))), (a46, HO.ins T.a_Gates dx47 (fl_Gates (V.ref a239) (V.ref a242))), (a239, HO.lst v240), (a242, HO.dT v243), (a273, HO.dK v274), (a308, HO.lst v20), (a79, HO.dK v247), (a252, HO.dK (putK v247 (Sum.inl (901 : Int)) (V.int 0))), (a73, HO.lst v245), (a194, HO.ins T.a_Plan dx195 (fl_Plan (V.str y203.side) (V.ref a46) (V.ref a209))), (a209, HO.dK v210), (a213, HO.lst v20), (a85, HO.lst v142), (a25, HO.lst [V.str "some", V.str "all"]), (a19, HO.lst v20)] ++ R), a_script0, v_script0, x_script0, a5, v481, st2.2, (2 : Int), y495, rfl, (SqL.mono hs_script0 (s15.trans (s34.trans (s52.trans (s56.trans (s70.trans (s138.trans (s200.trans (s207.trans (s222.trans (s235.trans (s264.trans (s271.trans (s301.trans (s317.trans (s347.trans (s362.trans (s390.trans (s404.trans s475))))))))))))))))))), ((hl_script0.mono (s15.trans (s34.trans (s52.trans (s56.trans (s70.trans (s138.trans (s200.trans (s207.trans (s222.trans (s235.trans (s264.trans (s271.trans (s301.trans (s317.trans (s347.trans (s362.trans (s390.trans (s404.trans s475)))))))))))))))))))), hl482, S494, (by exact e496), fun F497 H498 v501 s499 S500 hl502 => ?_⟩
                      clear S476
                      have S503 : Sta F497 ([(a5, HO.lst v501), (a442, HO.dK v479), (a408, HO.lst v402), (a392, HO.lst v393), (a366, HO.lst v360), (a258, HO.ins T.a_Plan dx259 (fl_Plan (V.str y267.side) (V.ref a46) (V.ref a273))), (a46, HO.ins T.a_Gates dx47 (fl_Gates (V.ref a239) (V.ref a242))), (a239, HO.lst v240), (a242, HO.dT v243), (a273, HO.dK v274), (a308, HO.lst v20), (a79, HO.dK v247), (a252, HO.dK (putK v247 (Sum.inl (901 : Int)) (V.int 0))), (a73, HO.lst v245), (a194, HO.ins T.a_Plan dx195 (fl_Plan (V.str y203.side) (V.ref a46) (V.ref a209))), (a209, HO.dK v210), (a213, HO.lst v20), (a85, HO.lst v142), (a25, HO.lst [V.str "some", V.str "all"]), (a19, HO.lst v20)] ++ R) _ := S500
                      revert hm; refine grdI fun g504 hm => ?_
                      refine ⟨_, _, rfl, rfl, _, rfl, _, rfl, _, _, rfl, (DPut.k (k := Sum.inl x483.1) (S503.get 1 rfl) (by rw [KR.length (KR.mono hl480 s499)]; exact of_decide_eq_true g504)), ?_⟩
                      clear S500
                      have hl505 : KR Sum.inl (rBool F497) (putK v479 (Sum.inl x483.1) (V.bl (decide (y495.1 = (1 : Int))))) (mput st2.1 x483.1 (decide (y495.1 = (1 : Int)))) := KR.put (KR.mono hl480 s499) kinj_int rfl
                      have S506 : Sta F497 ([(a5, HO.lst v501), (a442, HO.dK (putK v479 (Sum.inl x483.1) (V.bl (decide (y495.1 = (1 : Int)))))), (a408, HO.lst v402), (a392, HO.lst v393), (a366, HO.lst v360), (a258, HO.ins T.a_Plan dx259 (fl_Plan (V.str y267.side) (V.ref a46) (V.ref a273))), (a46, HO.ins T.a_Gates dx47 (fl_Gates (V.ref a239) (V.ref a242))), (a239, HO.lst v240), (a242, HO.dT v243), (a273, HO.dK v274), (a308, HO.lst v20), (a79, HO.dK v247), (a252, HO.dK (putK v247 (Sum.inl (901 : Int)) (V.int 0))), (a73, HO.lst v245), (a194, HO.ins T.a_Plan dx195 (fl_Plan (V.str y203.side) (V.ref a46) (V.ref a209))), (a209, HO.dK v210), (a213, HO.lst v20), (a85, HO.lst v142), (a25, HO.lst [V.str "some", V.str "all"]), (a19, HO.lst v20)] ++ R) _ := S503.set 1 rfl _
                      have S507 : Sta F497 ([(a442, HO.dK (putK v479 (Sum.inl x483.1) (V.bl (decide (y495.1 = (1 : Int)))))), (a408, HO.lst v402), (a392, HO.lst v393), (a366, HO.lst v360), (a258, HO.ins T.a_Plan dx259 (fl_Plan (V.str y267.side) (V.ref a46) (V.ref a273))), (a46, HO.ins T.a_Gates dx47 (fl_Gates (V.ref a239) (V.ref a242))), (a239, HO.lst v240), (a242, HO.dT v243), (a273, HO.dK v274), (a308, HO.lst v20), (a79, HO.dK v247), (a252, HO.dK (putK v247 (Sum.inl (901 : Int)) (V.int 0))), (a5, HO.lst v501), (a73, HO.lst v245), (a194, HO.ins T.a_Plan dx195 (fl_Plan (V.str y203.side) (V.ref a46) (V.ref a209))), (a209, HO.dK v210), (a213, HO.lst v20), (a85, HO.lst v142), (a25, HO.lst [V.str "some", V.str "all"]), (a19, HO.lst v20)] ++ R) _ := S506.pick [1, 2, 3, 4, 5, 6, 7, 8, 9, 10, 11, 12, 0, 13, 14, 15, 16, 17, 18, 19] (by decide) rfl
                      exact ⟨((mput st2.1 x483.1 (decide (y495.1 = (1 : Int)))), y495.2), F497, (putK v479 (Sum.inl x483.1) (V.bl (decide (y495.1 = (1 : Int))))), v501, _, _, rfl, (s475.trans s499), S507, hl505, hl502, hm⟩
                    · revert hm; refine ifFI c493 fun hm => ?_
                      refine goF c493 ?_
                      exact ⟨(st2.1, st2.2), F474, v479, v481, _, _, rfl, s475, S476, hl480, hl482, hm⟩
                  · rintro σ H2 ⟨st2, F474, v479, v481, o477, o478, rfl, s475, S476, hl480, hl482, hm⟩
                    rw [LR.dropEnd hl21, m_law_l2] at hm
                    obtain rfl := Option.some.inj hm
                    have hm := hm450
                    refine hN447 _ _ ?_
                    refine seqI fun N508 hN509 => ?_
                    have S510 : Sta F474 ([(a258, HO.ins T.a_Plan dx259 (fl_Plan (V.str y267.side) (V.ref a46) (V.ref a273))), (a46, HO.ins T.a_Gates dx47 (fl_Gates (V.ref a239) (V.ref a242))), (a239, HO.lst v240), (a242, HO.dT v243), (a273, HO.dK v274), (a79, HO.dK v247), (a442, HO.dK v479), (a408, HO.lst v402), (a392, HO.lst v393), (a366, HO.lst v360), (a308, HO.lst v20), (a252, HO.dK (putK v247 (Sum.inl (901 : Int)) (V.int 0))), (a5, HO.lst v481), (a73, HO.lst v245), (a194, HO.ins T.a_Plan dx195 (fl_Plan (V.str y203.side) (V.ref a46) (V.ref a209))), (a209, HO.dK v210), (a213, HO.lst v20), (a85, HO.lst v142), (a25, HO.lst [V.str "some", V.str "all"]), (a19, HO.lst v20)] ++ R) _ := S476.pick [4, 5, 6, 7, 8, 10, 0, 1, 2, 3, 9, 11, 12, 13, 14, 15, 16, 17, 18, 19] (by decide) rfl
                    revert hm; refine bndI fun y511 e512 hm => ?_
                    refine ⟨_, rfl, _, rfl, _, rfl, _, rfl, F474, ([(a442, HO.dK v479), (a408, HO.lst v402), (a392, HO.lst v393), (a366, HO.lst v360), (a308, HO.lst v20), (a252, HO.dK (putK v247 (Sum.inl (901 : Int)) (V.int 0))), (a5, HO.lst v481), (a73, HO.lst v245), (a194, HO.ins T.a_Plan dx195 (fl_Plan (V.str y203.side) (V.ref a46) (V.ref a209))), (a209, HO.dK v210), (a213, HO.lst v20), (a85, HO.lst v142), (a25, HO.lst [V.str "some", V.str "all"]), (a19, HO.lst v20)] ++ R), a258, dx259, (M_Plan.mk y267.side (M_Gates.mk y231.2.1.rows y231.2.1.known) y267.table), a46, dx47, a239, v240, a242, v243, a273, v274, a73, v245, y231.2.2.1, a79, v247, y231.2.2.2, a442, v479, st2.1, y511, rfl, (hl241.mono (s264.trans (s271.trans (s301.trans (s317.trans (s347.trans (s362.trans (s390.trans (s404.trans s475))))))))), (KR.mono hl244 (s264.trans (s271.trans (s301.trans (s317.trans (s347.trans (s362.trans (s390.trans (s404.trans s475))))))))), (KR.mono hl275 (s301.trans (s317.trans (s347.trans (s362.trans (s390.trans (s404.trans s475))))))), (SqL.of (S510.tl.tl.tl.tl.tl.tl.getO 7 rfl)), (hl246.mono (s264.trans (s271.trans (s301.trans (s317.trans (s347.trans (s362.trans (s390.trans (s404.trans s475))))))))), (KR.mono hl248 (s264.trans (s271.trans (s301.trans (s317.trans (s347.trans (s362.trans (s390.trans (s404.trans s475))))))))), (S510.tl.tl.tl.tl.tl.tl.getO 0 rfl), hl480, S510, (by exact e512), fun F513 H514 s515 S516 => ?_⟩
                    clear S476
                    have S517 : Sta F513 ([(a258, HO.ins T.a_Plan dx259 (fl_Plan (V.str y267.side) (V.ref a46) (V.ref a273))), (a46, HO.ins T.a_Gates dx47 (fl_Gates (V.ref a239) (V.ref a242))), (a239, HO.lst v240), (a242, HO.dT v243), (a273, HO.dK v274), (a79, HO.dK v247), (a442, HO.dK v479), (a408, HO.lst v402), (a392, HO.lst v393), (a366, HO.lst v360), (a308, HO.lst v20), (a252, HO.dK (putK v247 (Sum.inl (901 : Int)) (V.int 0))), (a5, HO.lst v481), (a73, HO.lst v245), (a194, HO.ins T.a_Plan dx195 (fl_Plan (V.str y203.side) (V.ref a46) (V.ref a209))), (a209, HO.dK v210), (a213, HO.lst v20), (a85, HO.lst v142), (a25, HO.lst [V.str "some", V.str "all"]), (a19, HO.lst v20)] ++ R) _ := S516
                    refine ⟨_, rfl, ?_⟩
                    clear S516
                    by_cases c518 : (!y511) = true
                    · revert hm; refine ifTI c518 fun hm => ?_
                      cases hm
                    · revert hm; refine ifFI c518 fun hm => ?_
                      refine goF c518 ?_
                      refine hN509 _ _ ?_
                      refine seqI fun N519 hN520 => ?_
                      refine ⟨_, rfl, _, _, rfl, (.inl (S517.get 6 rfl)), ?_⟩
                      intro a524 np525
                      have hl526 : LR (rInt F513) (v479.map fun kv => kV kv.1) (st2.1.map fun (q : Int × Bool) => q.1) := KR.keysLI (KR.mono hl480 s515)
                      have S527 : Sta F513 ([(a524, HO.lst (v479.map fun kv => kV kv.1)), (a258, HO.ins T.a_Plan dx259 (fl_Plan (V.str y267.side) (V.ref a46) (V.ref a273))), (a46, HO.ins T.a_Gates dx47 (fl_Gates (V.ref a239) (V.ref a242))), (a239, HO.lst v240), (a242, HO.dT v243), (a273, HO.dK v274), (a79, HO.dK v247), (a442, HO.dK v479), (a408, HO.lst v402), (a392, HO.lst v393), (a366, HO.lst v360), (a308, HO.lst v20), (a252, HO.dK (putK v247 (Sum.inl (901 : Int)) (V.int 0))), (a5, HO.lst v481), (a73, HO.lst v245), (a194, HO.ins T.a_Plan dx195 (fl_Plan (V.str y203.side) (V.ref a46) (V.ref a209))), (a209, HO.dK v210), (a213, HO.lst v20), (a85, HO.lst v142), (a25, HO.lst [V.str "some", V.str "all"]), (a19, HO.lst v20)] ++ R) _ := S517.new np525 _
                      revert hm; refine bndI fun y521 e522 hm523 => ?_
                      refine ⟨_, rfl, ⟨_, (SqL.of (S527.get 0 rfl))⟩, for_list (K := K) (a := a524) (xs := (v479.map fun kv => kV kv.1)) (fun i σ H2 => ∃ (st3 : (List (Int × Bool))) (F544 : Hp) (v548 : List (Key × V)) (o547 : Option V), σ = [some (V.ref a_script0), some (V.ref a5), some (V.ref a19), some (V.str y39), some (V.ref a46), some (V.ref a73), some (V.ref a79), some (V.ref a85), o547, o478, some (V.ref a252), some (V.ref a258), some (V.non), some (v319), some (V.int y343), some (V.ref a408), some (V.ref a442), none, none] ∧ Same F513 F544 ∧ Sta F544 ([(a524, HO.lst (v479.map fun kv => kV kv.1)), (a258, HO.ins T.a_Plan dx259 (fl_Plan (V.str y267.side) (V.ref a46) (V.ref a273))), (a46, HO.ins T.a_Gates dx47 (fl_Gates (V.ref a239) (V.ref a242))), (a239, HO.lst v240), (a242, HO.dT v243), (a273, HO.dK v274), (a79, HO.dK v247), (a442, HO.dK v548), (a408, HO.lst v402), (a392, HO.lst v393), (a366, HO.lst v360), (a308, HO.lst v20), (a252, HO.dK (putK v247 (Sum.inl (901 : Int)) (V.int 0))), (a5, HO.lst v481), (a73, HO.lst v245), (a194, HO.ins T.a_Plan dx195 (fl_Plan (V.str y203.side) (V.ref a46) (V.ref a209))), (a209, HO.dK v210), (a213, HO.lst v20), (a85, HO.lst v142), (a25, HO.lst [V.str "some", V.str "all"]), (a19, HO.lst v20)] ++ R) H2 ∧ KR Sum.inl (rBool F544) v548 st3 ∧ m_law_l3 (List.drop i (st2.1.map fun (q : Int × Bool) => q.1)) st3 = some y521) ⟨st2.1, F513, v479, _, rfl, (Same.refl _), S527, (KR.mono hl480 s515), e522⟩ (by rintro i σ H2 _ ⟨st3, F544, v548, o547, rfl, s545, S546, hl549, _⟩; exact (SqL.of (S546.get 0 rfl))) ?_ ?_⟩
                      clear S517
                      · rintro i v551 σ H2 hi ⟨st3, F544, v548, o547, rfl, s545, S546, hl549, hm⟩
                        obtain ⟨x550, hx552, rx553⟩ := LR.getV hl526 hi
                        rw [drop_cons hx552, m_law_l3] at hm
                        obtain rfl := rInt_e rx553
                        revert hm; refine bndI fun y554 e555 hm => ?_
                        obtain ⟨v556, ev557, rv558⟩ := KR.get hl549 kinj_int e555
                        obtain rfl := rBool_e rv558
                        revert hm; refine grdI fun g559 hm => ?_
                        refine ⟨_, rfl, _, rfl, _, _, rfl, (dget_of (DGet.k (k := Sum.inl x550) (S546.get 7 rfl)) ev557), _, rfl, _, rfl, _, rfl, _, _, rfl, (DPut.k (k := Sum.inl x550) (S546.get 7 rfl) (by rw [KR.length hl549]; exact of_decide_eq_true g559)), ?_⟩
                        have hl560 : KR Sum.inl (rBool F544) (putK v548 (Sum.inl x550) (V.bl (!y554))) (mput st3 x550 (!y554)) := KR.put hl549 kinj_int rfl
                        have S561 : Sta F544 ([(a524, HO.lst (v479.map fun kv => kV kv.1)), (a258, HO.ins T.a_Plan dx259 (fl_Plan (V.str y267.side) (V.ref a46) (V.ref a273))), (a46, HO.ins T.a_Gates dx47 (fl_Gates (V.ref a239) (V.ref a242))), (a239, HO.lst v240), (a242, HO.dT v243), (a273, HO.dK v274), (a79, HO.dK v247), (a442, HO.dK (putK v548 (Sum.inl x550) (V.bl (!y554)))), (a408, HO.lst v402), (a392, HO.lst v393), (a366, HO.lst v360), (a308, HO.lst v20), (a252, HO.dK (putK v247 (Sum.inl (901 : Int)) (V.int 0))), (a5, HO.lst v481), (a73, HO.lst v245), (a194, HO.ins T.a_Plan dx195 (fl_Plan (V.str y203.side) (V.ref a46) (V.ref a209))), (a209, HO.dK v210), (a213, HO.lst v20), (a85, HO.lst v142), (a25, HO.lst [V.str "some", V.str "all"]), (a19, HO.lst v20)] ++ R) _ := S546.set 7 rfl _
                        exact ⟨(mput st3 x550 (!y554)), F544, (putK v548 (Sum.inl x550) (V.bl (!y554))), _, rfl, s545, S561, hl560, hm⟩
                      · rintro σ H2 ⟨st3, F544, v548, o547, rfl, s545, S546, hl549, hm⟩
                        rw [LR.dropEnd hl526, m_law_l3] at hm
                        obtain rfl := Option.some.inj hm
                        have hm := hm523
                        refine hN520 _ _ ?_
                        have S562 : Sta F544 ([(a258, HO.ins T.a_Plan dx259 (fl_Plan (V.str y267.side) (V.ref a46) (V.ref a273))), (a46, HO.ins T.a_Gates dx47 (fl_Gates (V.ref a239) (V.ref a242))), (a239, HO.lst v240), (a242, HO.dT v243), (a273, HO.dK v274), (a79, HO.dK v247), (a524, HO.lst (v479.map fun kv => kV kv.1)), (a442, HO.dK v548), (a408, HO.lst v402), (a392, HO.lst v393), (a366, HO.lst v360), (a308, HO.lst v20), (a252, HO.dK (putK v247 (Sum.inl (901 : Int)) (V.int 0))), (a5, HO.lst v481), (a73, HO.lst v245), (a194, HO.ins T.a_Plan dx195 (fl_Plan (V.str y203.side) (V.ref a46) (V.ref a209))), (a209, HO.dK v210), (a213, HO.lst v20), (a85, HO.lst v142), (a25, HO.lst [V.str "some", V.str "all"]), (a19, HO.lst v20)] ++ R) _ := S546.pick [1, 2, 3, 4, 5, 6, 0, 7, 8, 9, 10, 11, 12, 13, 14, 15, 16, 17, 18, 19, 20] (by decide) rfl
                        revert hm; refine bndI fun y563 e564 hm => ?_
                        refine ⟨_, rfl, _, rfl, _, rfl, _, rfl, F544, ([(a524, HO.lst (v479.map fun kv => kV kv.1)), (a442, HO.dK v548), (a408, HO.lst v402), (a392, HO.lst v393), (a366, HO.lst v360), (a308, HO.lst v20), (a252, HO.dK (putK v247 (Sum.inl (901 : Int)) (V.int 0))), (a5, HO.lst v481), (a73, HO.lst v245), (a194, HO.ins T.a_Plan dx195 (fl_Plan (V.str y203.side) (V.ref a46) (V.ref a209))), (a209, HO.dK v210), (a213, HO.lst v20), (a85, HO.lst v142), (a25, HO.lst [V.str "some", V.str "all"]), (a19, HO.lst v20)] ++ R), a258, dx259, (M_Plan.mk y267.side (M_Gates.mk y231.2.1.rows y231.2.1.known) y267.table), a46, dx47, a239, v240, a242, v243, a273, v274, a73, v245, y231.2.2.1, a79, v247, y231.2.2.2, a442, v548, st3, y563, rfl, (hl241.mono (s264.trans (s271.trans (s301.trans (s317.trans (s347.trans (s362.trans (s390.trans (s404.trans (s475.trans (s515.trans s545))))))))))), (KR.mono hl244 (s264.trans (s271.trans (s301.trans (s317.trans (s347.trans (s362.trans (s390.trans (s404.trans (s475.trans (s515.trans s545))))))))))), (KR.mono hl275 (s301.trans (s317.trans (s347.trans (s362.trans (s390.trans (s404.trans (s475.trans (s515.trans s545))))))))), (SqL.of (S562.tl.tl.tl.tl.tl.tl.getO 8 rfl)), (hl246.mono (s264.trans (s271.trans (s301.trans (s317.trans (s347.trans (s362.trans (s390.trans (s404.trans (s475.trans (s515.trans s545))))))))))), (KR.mono hl248 (s264.trans (s271.trans (s301.trans (s317.trans (s347.trans (s362.trans (s390.trans (s404.trans (s475.trans (s515.trans s545))))))))))), (S562.tl.tl.tl.tl.tl.tl.getO 1 rfl), hl549, S562, (by exact e564), fun F565 H566 s567 S568 => ?_⟩
                        clear S546
                        have S569 : Sta F565 ([(a258, HO.ins T.a_Plan dx259 (fl_Plan (V.str y267.side) (V.ref a46) (V.ref a273))), (a46, HO.ins T.a_Gates dx47 (fl_Gates (V.ref a239) (V.ref a242))), (a239, HO.lst v240), (a242, HO.dT v243), (a273, HO.dK v274), (a79, HO.dK v247), (a524, HO.lst (v479.map fun kv => kV kv.1)), (a442, HO.dK v548), (a408, HO.lst v402), (a392, HO.lst v393), (a366, HO.lst v360), (a308, HO.lst v20), (a252, HO.dK (putK v247 (Sum.inl (901 : Int)) (V.int 0))), (a5, HO.lst v481), (a73, HO.lst v245), (a194, HO.ins T.a_Plan dx195 (fl_Plan (V.str y203.side) (V.ref a46) (V.ref a209))), (a209, HO.dK v210), (a213, HO.lst v20), (a85, HO.lst v142), (a25, HO.lst [V.str "some", V.str "all"]), (a19, HO.lst v20)] ++ R) _ := S568
                        obtain rfl := Option.some.inj hm
                        have S570 : Sta F565 ([] ++ R) _ := S569.pick [] (by decide) rfl
                        exact kk _ _ (s15.trans (s34.trans (s52.trans (s56.trans (s70.trans (s138.trans (s200.trans (s207.trans (s222.trans (s235.trans (s264.trans (s271.trans (s301.trans (s317.trans (s347.trans (s362.trans (s390.trans (s404.trans (s475.trans (s515.trans (s545.trans s567))))))))))))))))))))) S570
                · skip
                  have p571 := (rOpt_un e438 p304)
                  obtain rfl := rInt_e p571
                  refine ⟨_, rfl, rfl, _, rfl, ?_⟩
                  refine iteT ?_
                  obtain rfl := Option.some.inj hm
                  have S572 : Sta F401 ([] ++ R) _ := S431.pick [] (by decide) rfl
                  exact kk _ _ (s15.trans (s34.trans (s52.trans (s56.trans (s70.trans (s138.trans (s200.trans (s207.trans (s222.trans (s235.trans (s264.trans (s271.trans (s301.trans (s317.trans (s347.trans (s362.trans (s390.trans s404))))))))))))))))) S572

end
end G

namespace G
open PySem PySem.Spec PyProof.Rows L2
def spTop (K : PySem.W.Frag) : Sp := fun vs H Q _ => ∃ (a : Addr) (ns : List Int), vs = [V.ref a] ∧ SqL K H a (ns.map V.int) ∧ ns.length ≤ 63 ∧ ∀ H', Q (.bl true) H'
theorem top_of {P : Program} {w : World} {K : PySem.W.Frag} {mg : Str → Option Value} {base : Heap} (T : Txt K mg) : FnOk P w K mg base CX0 5 T.a_law T.d_law ["script"] (spTop K) :=
  (ok_law T).imp fun vs H Q E ⟨a, ns, e, hs, hl, k⟩ => by
    subst e
    refine ⟨H, [], a, ns.map V.int, ns, true, rfl, hs, lr_ints ns, sta0 H, law_true ns hl, ?_⟩
    first
      | exact k _
      | (intro F1 H1 _ _; exact k _)
theorem all_mk {l : PySem.W.OpenLaw} {w : World} {K : PySem.W.Frag} {h : Heap} {mg : Str → Option Value} {fa a_law a_law_seed a_law_take a_law_order a_Gates_init a_law_row a_Gates_edge_of a_Gates_leaf a_law_opposite a_law_both a_opposite a_Gates_both a_law_both_of a_law_edge a_Plan_init a_other a_Gates_cone a_Gates_hangs_on a_Plan_misfit a_law_fault a_law_reached a_law_misfit a_Gates_gate_rows a_Plan_edges a_Plan_gate_count a_Gates_worths a_Plan_answers a_law_value a_law_truths a_law_answers a_Gates a_Plan : Addr} (X : K.In h) (G : h.Ns mainGlobals mg) (hfa : mg "law" = some (.ref fa))
    {od_law_seed an_law_seed od_law_take an_law_take od_law_order an_law_order od_Gates_init an_Gates_init od_law_row an_law_row od_Gates_edge_of an_Gates_edge_of od_Gates_leaf an_Gates_leaf od_law_opposite an_law_opposite od_law_both an_law_both od_opposite an_opposite od_Gates_both an_Gates_both od_law_both_of an_law_both_of od_law_edge an_law_edge od_Plan_init an_Plan_init od_other an_other od_Gates_cone an_Gates_cone od_Gates_hangs_on an_Gates_hangs_on od_Plan_misfit an_Plan_misfit od_law_fault an_law_fault od_law_reached an_law_reached od_law_misfit an_law_misfit od_Gates_gate_rows an_Gates_gate_rows od_Plan_edges an_Plan_edges od_Plan_gate_count an_Plan_gate_count od_Gates_worths an_Gates_worths od_Plan_answers an_Plan_answers od_law_value an_law_value od_law_truths an_law_truths od_law_answers an_law_answers od_law an_law : Option Addr} {sl_law_seed sl_law_take sl_law_order sl_Gates_init sl_law_row sl_Gates_edge_of sl_Gates_leaf sl_law_opposite sl_law_both sl_opposite sl_Gates_both sl_law_both_of sl_law_edge sl_Plan_init sl_other sl_Gates_cone sl_Gates_hangs_on sl_Plan_misfit sl_law_fault sl_law_reached sl_law_misfit sl_Gates_gate_rows sl_Plan_edges sl_Plan_gate_count sl_Gates_worths sl_Plan_answers sl_law_value sl_law_truths sl_law_answers sl_law : Array (Option Value)} {oc_law_seed kV_law_seed dc_law_seed pm_law_seed cd_law_seed ct_law_seed oc_law_take kV_law_take dc_law_take pm_law_take cd_law_take ct_law_take oc_law_order kV_law_order dc_law_order pm_law_order cd_law_order ct_law_order oc_Gates_init kV_Gates_init dc_Gates_init pm_Gates_init cd_Gates_init ct_Gates_init oc_law_row kV_law_row dc_law_row pm_law_row cd_law_row ct_law_row oc_Gates_edge_of kV_Gates_edge_of dc_Gates_edge_of pm_Gates_edge_of cd_Gates_edge_of ct_Gates_edge_of oc_Gates_leaf kV_Gates_leaf dc_Gates_leaf pm_Gates_leaf cd_Gates_leaf ct_Gates_leaf oc_law_opposite kV_law_opposite dc_law_opposite pm_law_opposite cd_law_opposite ct_law_opposite oc_law_both kV_law_both dc_law_both pm_law_both cd_law_both ct_law_both oc_opposite kV_opposite dc_opposite pm_opposite cd_opposite ct_opposite oc_Gates_both kV_Gates_both dc_Gates_both pm_Gates_both cd_Gates_both ct_Gates_both oc_law_both_of kV_law_both_of dc_law_both_of pm_law_both_of cd_law_both_of ct_law_both_of oc_law_edge kV_law_edge dc_law_edge pm_law_edge cd_law_edge ct_law_edge oc_Plan_init kV_Plan_init dc_Plan_init pm_Plan_init cd_Plan_init ct_Plan_init oc_other kV_other dc_other pm_other cd_other ct_other oc_Gates_cone kV_Gates_cone dc_Gates_cone pm_Gates_cone cd_Gates_cone ct_Gates_cone oc_Gates_hangs_on kV_Gates_hangs_on dc_Gates_hangs_on pm_Gates_hangs_on cd_Gates_hangs_on ct_Gates_hangs_on oc_Plan_misfit kV_Plan_misfit dc_Plan_misfit pm_Plan_misfit cd_Plan_misfit ct_Plan_misfit oc_law_fault kV_law_fault dc_law_fault pm_law_fault cd_law_fault ct_law_fault oc_law_reached kV_law_reached dc_law_reached pm_law_reached cd_law_reached ct_law_reached oc_law_misfit kV_law_misfit dc_law_misfit pm_law_misfit cd_law_misfit ct_law_misfit oc_Gates_gate_rows kV_Gates_gate_rows dc_Gates_gate_rows pm_Gates_gate_rows cd_Gates_gate_rows ct_Gates_gate_rows oc_Plan_edges kV_Plan_edges dc_Plan_edges pm_Plan_edges cd_Plan_edges ct_Plan_edges oc_Plan_gate_count kV_Plan_gate_count dc_Plan_gate_count pm_Plan_gate_count cd_Plan_gate_count ct_Plan_gate_count oc_Gates_worths kV_Gates_worths dc_Gates_worths pm_Gates_worths cd_Gates_worths ct_Gates_worths oc_Plan_answers kV_Plan_answers dc_Plan_answers pm_Plan_answers cd_Plan_answers ct_Plan_answers oc_law_value kV_law_value dc_law_value pm_law_value cd_law_value ct_law_value oc_law_truths kV_law_truths dc_law_truths pm_law_truths cd_law_truths ct_law_truths oc_law_answers kV_law_answers dc_law_answers pm_law_answers cd_law_answers ct_law_answers oc_law kV_law dc_law pm_law cd_law ct_law : Value} {t_ALL t_NO t_SOME t_YES : Tok}
    (qc_Gates : PySem.W.nsIn K mainGlobals "Gates" = some (some (.ref a_Gates)))
    (qc_Plan : PySem.W.nsIn K mainGlobals "Plan" = some (some (.ref a_Plan)))
    (q_law_seed : PySem.W.nsIn K mainGlobals "_law_seed" = some (some (.ref a_law_seed)))
    (l_law_seed : K.lookup a_law_seed = some ⟨oc_law_seed, od_law_seed, .func (PySem.W.fnOf "_law_seed" "_law_seed" (defArgs s_law_seed) (defBody s_law_seed) (defScope s_law_seed) .none kV_law_seed dc_law_seed pm_law_seed an_law_seed cd_law_seed ct_law_seed), sl_law_seed⟩)
    (c_law_seed : PySem.W.codeIn K cd_law_seed "_law_seed" = true)
    (k_law_seed : PySem.W.keepIn K (.ref a_law_seed) = true)
    (q_law_take : PySem.W.nsIn K mainGlobals "_law_take" = some (some (.ref a_law_take)))
    (l_law_take : K.lookup a_law_take = some ⟨oc_law_take, od_law_take, .func (PySem.W.fnOf "_law_take" "_law_take" (defArgs s_law_take) (defBody s_law_take) (defScope s_law_take) .none kV_law_take dc_law_take pm_law_take an_law_take cd_law_take ct_law_take), sl_law_take⟩)
    (c_law_take : PySem.W.codeIn K cd_law_take "_law_take" = true)
    (k_law_take : PySem.W.keepIn K (.ref a_law_take) = true)
    (q_law_order : PySem.W.nsIn K mainGlobals "_law_order" = some (some (.ref a_law_order)))
    (l_law_order : K.lookup a_law_order = some ⟨oc_law_order, od_law_order, .func (PySem.W.fnOf "_law_order" "_law_order" (defArgs s_law_order) (defBody s_law_order) (defScope s_law_order) .none kV_law_order dc_law_order pm_law_order an_law_order cd_law_order ct_law_order), sl_law_order⟩)
    (c_law_order : PySem.W.codeIn K cd_law_order "_law_order" = true)
    (k_law_order : PySem.W.keepIn K (.ref a_law_order) = true)
    (q_Gates_init : PySem.W.findIn K (.ref a_Gates) "__init__" = some (some (.ref a_Gates_init)))
    (i_Gates_init : PySem.W.isFn K (.ref a_Gates_init) = true)
    (l_Gates_init : K.lookup a_Gates_init = some ⟨oc_Gates_init, od_Gates_init, .func (PySem.W.fnOf "__init__" "Gates.__init__" (defArgs s_Gates_init) (defBody s_Gates_init) (defScope s_Gates_init) .none kV_Gates_init dc_Gates_init pm_Gates_init an_Gates_init cd_Gates_init ct_Gates_init), sl_Gates_init⟩)
    (c_Gates_init : PySem.W.codeIn K cd_Gates_init "Gates.__init__" = true)
    (k_Gates_init : PySem.W.keepIn K (.ref a_Gates_init) = true)
    (q_law_row : PySem.W.nsIn K mainGlobals "_law_row" = some (some (.ref a_law_row)))
    (l_law_row : K.lookup a_law_row = some ⟨oc_law_row, od_law_row, .func (PySem.W.fnOf "_law_row" "_law_row" (defArgs s_law_row) (defBody s_law_row) (defScope s_law_row) .none kV_law_row dc_law_row pm_law_row an_law_row cd_law_row ct_law_row), sl_law_row⟩)
    (c_law_row : PySem.W.codeIn K cd_law_row "_law_row" = true)
    (k_law_row : PySem.W.keepIn K (.ref a_law_row) = true)
    (q_Gates_edge_of : PySem.W.findIn K (.ref a_Gates) "_edge_of" = some (some (.ref a_Gates_edge_of)))
    (i_Gates_edge_of : PySem.W.isFn K (.ref a_Gates_edge_of) = true)
    (l_Gates_edge_of : K.lookup a_Gates_edge_of = some ⟨oc_Gates_edge_of, od_Gates_edge_of, .func (PySem.W.fnOf "_edge_of" "Gates._edge_of" (defArgs s_Gates_edge_of) (defBody s_Gates_edge_of) (defScope s_Gates_edge_of) .none kV_Gates_edge_of dc_Gates_edge_of pm_Gates_edge_of an_Gates_edge_of cd_Gates_edge_of ct_Gates_edge_of), sl_Gates_edge_of⟩)
    (c_Gates_edge_of : PySem.W.codeIn K cd_Gates_edge_of "Gates._edge_of" = true)
    (k_Gates_edge_of : PySem.W.keepIn K (.ref a_Gates_edge_of) = true)
    (q_Gates_leaf : PySem.W.findIn K (.ref a_Gates) "leaf" = some (some (.ref a_Gates_leaf)))
    (i_Gates_leaf : PySem.W.isFn K (.ref a_Gates_leaf) = true)
    (l_Gates_leaf : K.lookup a_Gates_leaf = some ⟨oc_Gates_leaf, od_Gates_leaf, .func (PySem.W.fnOf "leaf" "Gates.leaf" (defArgs s_Gates_leaf) (defBody s_Gates_leaf) (defScope s_Gates_leaf) .none kV_Gates_leaf dc_Gates_leaf pm_Gates_leaf an_Gates_leaf cd_Gates_leaf ct_Gates_leaf), sl_Gates_leaf⟩)
    (c_Gates_leaf : PySem.W.codeIn K cd_Gates_leaf "Gates.leaf" = true)
    (k_Gates_leaf : PySem.W.keepIn K (.ref a_Gates_leaf) = true)
    (q_law_opposite : PySem.W.nsIn K mainGlobals "_law_opposite" = some (some (.ref a_law_opposite)))
    (l_law_opposite : K.lookup a_law_opposite = some ⟨oc_law_opposite, od_law_opposite, .func (PySem.W.fnOf "_law_opposite" "_law_opposite" (defArgs s_law_opposite) (defBody s_law_opposite) (defScope s_law_opposite) .none kV_law_opposite dc_law_opposite pm_law_opposite an_law_opposite cd_law_opposite ct_law_opposite), sl_law_opposite⟩)
    (c_law_opposite : PySem.W.codeIn K cd_law_opposite "_law_opposite" = true)
    (k_law_opposite : PySem.W.keepIn K (.ref a_law_opposite) = true)
    (q_law_both : PySem.W.nsIn K mainGlobals "_law_both" = some (some (.ref a_law_both)))
    (l_law_both : K.lookup a_law_both = some ⟨oc_law_both, od_law_both, .func (PySem.W.fnOf "_law_both" "_law_both" (defArgs s_law_both) (defBody s_law_both) (defScope s_law_both) .none kV_law_both dc_law_both pm_law_both an_law_both cd_law_both ct_law_both), sl_law_both⟩)
    (c_law_both : PySem.W.codeIn K cd_law_both "_law_both" = true)
    (k_law_both : PySem.W.keepIn K (.ref a_law_both) = true)
    (q_opposite : PySem.W.nsIn K mainGlobals "opposite" = some (some (.ref a_opposite)))
    (l_opposite : K.lookup a_opposite = some ⟨oc_opposite, od_opposite, .func (PySem.W.fnOf "opposite" "opposite" (defArgs s_opposite) (defBody s_opposite) (defScope s_opposite) .none kV_opposite dc_opposite pm_opposite an_opposite cd_opposite ct_opposite), sl_opposite⟩)
    (c_opposite : PySem.W.codeIn K cd_opposite "opposite" = true)
    (k_opposite : PySem.W.keepIn K (.ref a_opposite) = true)
    (q_Gates_both : PySem.W.findIn K (.ref a_Gates) "both" = some (some (.ref a_Gates_both)))
    (i_Gates_both : PySem.W.isFn K (.ref a_Gates_both) = true)
    (l_Gates_both : K.lookup a_Gates_both = some ⟨oc_Gates_both, od_Gates_both, .func (PySem.W.fnOf "both" "Gates.both" (defArgs s_Gates_both) (defBody s_Gates_both) (defScope s_Gates_both) .none kV_Gates_both dc_Gates_both pm_Gates_both an_Gates_both cd_Gates_both ct_Gates_both), sl_Gates_both⟩)
    (c_Gates_both : PySem.W.codeIn K cd_Gates_both "Gates.both" = true)
    (k_Gates_both : PySem.W.keepIn K (.ref a_Gates_both) = true)
    (q_law_both_of : PySem.W.nsIn K mainGlobals "_law_both_of" = some (some (.ref a_law_both_of)))
    (l_law_both_of : K.lookup a_law_both_of = some ⟨oc_law_both_of, od_law_both_of, .func (PySem.W.fnOf "_law_both_of" "_law_both_of" (defArgs s_law_both_of) (defBody s_law_both_of) (defScope s_law_both_of) .none kV_law_both_of dc_law_both_of pm_law_both_of an_law_both_of cd_law_both_of ct_law_both_of), sl_law_both_of⟩)
    (c_law_both_of : PySem.W.codeIn K cd_law_both_of "_law_both_of" = true)
    (k_law_both_of : PySem.W.keepIn K (.ref a_law_both_of) = true)
    (q_law_edge : PySem.W.nsIn K mainGlobals "_law_edge" = some (some (.ref a_law_edge)))
    (l_law_edge : K.lookup a_law_edge = some ⟨oc_law_edge, od_law_edge, .func (PySem.W.fnOf "_law_edge" "_law_edge" (defArgs s_law_edge) (defBody s_law_edge) (defScope s_law_edge) .none kV_law_edge dc_law_edge pm_law_edge an_law_edge cd_law_edge ct_law_edge), sl_law_edge⟩)
    (c_law_edge : PySem.W.codeIn K cd_law_edge "_law_edge" = true)
    (k_law_edge : PySem.W.keepIn K (.ref a_law_edge) = true)
    (q_Plan_init : PySem.W.findIn K (.ref a_Plan) "__init__" = some (some (.ref a_Plan_init)))
    (i_Plan_init : PySem.W.isFn K (.ref a_Plan_init) = true)
    (l_Plan_init : K.lookup a_Plan_init = some ⟨oc_Plan_init, od_Plan_init, .func (PySem.W.fnOf "__init__" "Plan.__init__" (defArgs s_Plan_init) (defBody s_Plan_init) (defScope s_Plan_init) .none kV_Plan_init dc_Plan_init pm_Plan_init an_Plan_init cd_Plan_init ct_Plan_init), sl_Plan_init⟩)
    (c_Plan_init : PySem.W.codeIn K cd_Plan_init "Plan.__init__" = true)
    (k_Plan_init : PySem.W.keepIn K (.ref a_Plan_init) = true)
    (q_other : PySem.W.nsIn K mainGlobals "other" = some (some (.ref a_other)))
    (l_other : K.lookup a_other = some ⟨oc_other, od_other, .func (PySem.W.fnOf "other" "other" (defArgs s_other) (defBody s_other) (defScope s_other) .none kV_other dc_other pm_other an_other cd_other ct_other), sl_other⟩)
    (c_other : PySem.W.codeIn K cd_other "other" = true)
    (k_other : PySem.W.keepIn K (.ref a_other) = true)
    (q_Gates_cone : PySem.W.findIn K (.ref a_Gates) "cone" = some (some (.ref a_Gates_cone)))
    (i_Gates_cone : PySem.W.isFn K (.ref a_Gates_cone) = true)
    (l_Gates_cone : K.lookup a_Gates_cone = some ⟨oc_Gates_cone, od_Gates_cone, .func (PySem.W.fnOf "cone" "Gates.cone" (defArgs s_Gates_cone) (defBody s_Gates_cone) (defScope s_Gates_cone) .none kV_Gates_cone dc_Gates_cone pm_Gates_cone an_Gates_cone cd_Gates_cone ct_Gates_cone), sl_Gates_cone⟩)
    (c_Gates_cone : PySem.W.codeIn K cd_Gates_cone "Gates.cone" = true)
    (k_Gates_cone : PySem.W.keepIn K (.ref a_Gates_cone) = true)
    (q_Gates_hangs_on : PySem.W.findIn K (.ref a_Gates) "hangs_on" = some (some (.ref a_Gates_hangs_on)))
    (i_Gates_hangs_on : PySem.W.isFn K (.ref a_Gates_hangs_on) = true)
    (l_Gates_hangs_on : K.lookup a_Gates_hangs_on = some ⟨oc_Gates_hangs_on, od_Gates_hangs_on, .func (PySem.W.fnOf "hangs_on" "Gates.hangs_on" (defArgs s_Gates_hangs_on) (defBody s_Gates_hangs_on) (defScope s_Gates_hangs_on) .none kV_Gates_hangs_on dc_Gates_hangs_on pm_Gates_hangs_on an_Gates_hangs_on cd_Gates_hangs_on ct_Gates_hangs_on), sl_Gates_hangs_on⟩)
    (c_Gates_hangs_on : PySem.W.codeIn K cd_Gates_hangs_on "Gates.hangs_on" = true)
    (k_Gates_hangs_on : PySem.W.keepIn K (.ref a_Gates_hangs_on) = true)
    (q_Plan_misfit : PySem.W.findIn K (.ref a_Plan) "misfit" = some (some (.ref a_Plan_misfit)))
    (i_Plan_misfit : PySem.W.isFn K (.ref a_Plan_misfit) = true)
    (l_Plan_misfit : K.lookup a_Plan_misfit = some ⟨oc_Plan_misfit, od_Plan_misfit, .func (PySem.W.fnOf "misfit" "Plan.misfit" (defArgs s_Plan_misfit) (defBody s_Plan_misfit) (defScope s_Plan_misfit) .none kV_Plan_misfit dc_Plan_misfit pm_Plan_misfit an_Plan_misfit cd_Plan_misfit ct_Plan_misfit), sl_Plan_misfit⟩)
    (c_Plan_misfit : PySem.W.codeIn K cd_Plan_misfit "Plan.misfit" = true)
    (k_Plan_misfit : PySem.W.keepIn K (.ref a_Plan_misfit) = true)
    (q_law_fault : PySem.W.nsIn K mainGlobals "_law_fault" = some (some (.ref a_law_fault)))
    (l_law_fault : K.lookup a_law_fault = some ⟨oc_law_fault, od_law_fault, .func (PySem.W.fnOf "_law_fault" "_law_fault" (defArgs s_law_fault) (defBody s_law_fault) (defScope s_law_fault) .none kV_law_fault dc_law_fault pm_law_fault an_law_fault cd_law_fault ct_law_fault), sl_law_fault⟩)
    (c_law_fault : PySem.W.codeIn K cd_law_fault "_law_fault" = true)
    (k_law_fault : PySem.W.keepIn K (.ref a_law_fault) = true)
    (q_law_reached : PySem.W.nsIn K mainGlobals "_law_reached" = some (some (.ref a_law_reached)))
    (l_law_reached : K.lookup a_law_reached = some ⟨oc_law_reached, od_law_reached, .func (PySem.W.fnOf "_law_reached" "_law_reached" (defArgs s_law_reached) (defBody s_law_reached) (defScope s_law_reached) .none kV_law_reached dc_law_reached pm_law_reached an_law_reached cd_law_reached ct_law_reached), sl_law_reached⟩)
    (c_law_reached : PySem.W.codeIn K cd_law_reached "_law_reached" = true)
    (k_law_reached : PySem.W.keepIn K (.ref a_law_reached) = true)
    (q_law_misfit : PySem.W.nsIn K mainGlobals "_law_misfit" = some (some (.ref a_law_misfit)))
    (l_law_misfit : K.lookup a_law_misfit = some ⟨oc_law_misfit, od_law_misfit, .func (PySem.W.fnOf "_law_misfit" "_law_misfit" (defArgs s_law_misfit) (defBody s_law_misfit) (defScope s_law_misfit) .none kV_law_misfit dc_law_misfit pm_law_misfit an_law_misfit cd_law_misfit ct_law_misfit), sl_law_misfit⟩)
    (c_law_misfit : PySem.W.codeIn K cd_law_misfit "_law_misfit" = true)
    (k_law_misfit : PySem.W.keepIn K (.ref a_law_misfit) = true)
    (q_Gates_gate_rows : PySem.W.findIn K (.ref a_Gates) "gate_rows" = some (some (.ref a_Gates_gate_rows)))
    (i_Gates_gate_rows : PySem.W.isFn K (.ref a_Gates_gate_rows) = true)
    (l_Gates_gate_rows : K.lookup a_Gates_gate_rows = some ⟨oc_Gates_gate_rows, od_Gates_gate_rows, .func (PySem.W.fnOf "gate_rows" "Gates.gate_rows" (defArgs s_Gates_gate_rows) (defBody s_Gates_gate_rows) (defScope s_Gates_gate_rows) .none kV_Gates_gate_rows dc_Gates_gate_rows pm_Gates_gate_rows an_Gates_gate_rows cd_Gates_gate_rows ct_Gates_gate_rows), sl_Gates_gate_rows⟩)
    (c_Gates_gate_rows : PySem.W.codeIn K cd_Gates_gate_rows "Gates.gate_rows" = true)
    (k_Gates_gate_rows : PySem.W.keepIn K (.ref a_Gates_gate_rows) = true)
    (q_Plan_edges : PySem.W.findIn K (.ref a_Plan) "edges" = some (some (.ref a_Plan_edges)))
    (i_Plan_edges : PySem.W.isFn K (.ref a_Plan_edges) = true)
    (l_Plan_edges : K.lookup a_Plan_edges = some ⟨oc_Plan_edges, od_Plan_edges, .func (PySem.W.fnOf "edges" "Plan.edges" (defArgs s_Plan_edges) (defBody s_Plan_edges) (defScope s_Plan_edges) .none kV_Plan_edges dc_Plan_edges pm_Plan_edges an_Plan_edges cd_Plan_edges ct_Plan_edges), sl_Plan_edges⟩)
    (c_Plan_edges : PySem.W.codeIn K cd_Plan_edges "Plan.edges" = true)
    (k_Plan_edges : PySem.W.keepIn K (.ref a_Plan_edges) = true)
    (q_Plan_gate_count : PySem.W.findIn K (.ref a_Plan) "gate_count" = some (some (.ref a_Plan_gate_count)))
    (i_Plan_gate_count : PySem.W.isFn K (.ref a_Plan_gate_count) = true)
    (l_Plan_gate_count : K.lookup a_Plan_gate_count = some ⟨oc_Plan_gate_count, od_Plan_gate_count, .func (PySem.W.fnOf "gate_count" "Plan.gate_count" (defArgs s_Plan_gate_count) (defBody s_Plan_gate_count) (defScope s_Plan_gate_count) .none kV_Plan_gate_count dc_Plan_gate_count pm_Plan_gate_count an_Plan_gate_count cd_Plan_gate_count ct_Plan_gate_count), sl_Plan_gate_count⟩)
    (c_Plan_gate_count : PySem.W.codeIn K cd_Plan_gate_count "Plan.gate_count" = true)
    (k_Plan_gate_count : PySem.W.keepIn K (.ref a_Plan_gate_count) = true)
    (q_Gates_worths : PySem.W.findIn K (.ref a_Gates) "worths" = some (some (.ref a_Gates_worths)))
    (i_Gates_worths : PySem.W.isFn K (.ref a_Gates_worths) = true)
    (l_Gates_worths : K.lookup a_Gates_worths = some ⟨oc_Gates_worths, od_Gates_worths, .func (PySem.W.fnOf "worths" "Gates.worths" (defArgs s_Gates_worths) (defBody s_Gates_worths) (defScope s_Gates_worths) .none kV_Gates_worths dc_Gates_worths pm_Gates_worths an_Gates_worths cd_Gates_worths ct_Gates_worths), sl_Gates_worths⟩)
    (c_Gates_worths : PySem.W.codeIn K cd_Gates_worths "Gates.worths" = true)
    (k_Gates_worths : PySem.W.keepIn K (.ref a_Gates_worths) = true)
    (q_Plan_answers : PySem.W.findIn K (.ref a_Plan) "answers" = some (some (.ref a_Plan_answers)))
    (i_Plan_answers : PySem.W.isFn K (.ref a_Plan_answers) = true)
    (l_Plan_answers : K.lookup a_Plan_answers = some ⟨oc_Plan_answers, od_Plan_answers, .func (PySem.W.fnOf "answers" "Plan.answers" (defArgs s_Plan_answers) (defBody s_Plan_answers) (defScope s_Plan_answers) .none kV_Plan_answers dc_Plan_answers pm_Plan_answers an_Plan_answers cd_Plan_answers ct_Plan_answers), sl_Plan_answers⟩)
    (c_Plan_answers : PySem.W.codeIn K cd_Plan_answers "Plan.answers" = true)
    (k_Plan_answers : PySem.W.keepIn K (.ref a_Plan_answers) = true)
    (q_law_value : PySem.W.nsIn K mainGlobals "_law_value" = some (some (.ref a_law_value)))
    (l_law_value : K.lookup a_law_value = some ⟨oc_law_value, od_law_value, .func (PySem.W.fnOf "_law_value" "_law_value" (defArgs s_law_value) (defBody s_law_value) (defScope s_law_value) .none kV_law_value dc_law_value pm_law_value an_law_value cd_law_value ct_law_value), sl_law_value⟩)
    (c_law_value : PySem.W.codeIn K cd_law_value "_law_value" = true)
    (k_law_value : PySem.W.keepIn K (.ref a_law_value) = true)
    (q_law_truths : PySem.W.nsIn K mainGlobals "_law_truths" = some (some (.ref a_law_truths)))
    (l_law_truths : K.lookup a_law_truths = some ⟨oc_law_truths, od_law_truths, .func (PySem.W.fnOf "_law_truths" "_law_truths" (defArgs s_law_truths) (defBody s_law_truths) (defScope s_law_truths) .none kV_law_truths dc_law_truths pm_law_truths an_law_truths cd_law_truths ct_law_truths), sl_law_truths⟩)
    (c_law_truths : PySem.W.codeIn K cd_law_truths "_law_truths" = true)
    (k_law_truths : PySem.W.keepIn K (.ref a_law_truths) = true)
    (q_law_answers : PySem.W.nsIn K mainGlobals "_law_answers" = some (some (.ref a_law_answers)))
    (l_law_answers : K.lookup a_law_answers = some ⟨oc_law_answers, od_law_answers, .func (PySem.W.fnOf "_law_answers" "_law_answers" (defArgs s_law_answers) (defBody s_law_answers) (defScope s_law_answers) .none kV_law_answers dc_law_answers pm_law_answers an_law_answers cd_law_answers ct_law_answers), sl_law_answers⟩)
    (c_law_answers : PySem.W.codeIn K cd_law_answers "_law_answers" = true)
    (k_law_answers : PySem.W.keepIn K (.ref a_law_answers) = true)
    (q_law : PySem.W.nsIn K mainGlobals "law" = some (some (.ref a_law)))
    (l_law : K.lookup a_law = some ⟨oc_law, od_law, .func (PySem.W.fnOf "law" "law" (defArgs s_law) (defBody s_law) (defScope s_law) .none kV_law dc_law pm_law an_law cd_law ct_law), sl_law⟩)
    (c_law : PySem.W.codeIn K cd_law "law" = true)
    (k_law : PySem.W.keepIn K (.ref a_law) = true)
    (pg_Gates : PySem.W.plainGet K a_Gates Str.empty = true)
    (hd_Gates : PySem.W.hasDictIn K a_Gates = true)
    (po_Gates : PySem.W.plainOver K a_Gates = true)
    (sa_Gates : PySem.W.findIn K (.ref a_Gates) "__setattr__" = some (some (.builtin "object.__setattr__")))
    (mk_Gates : PySem.W.makesIn K a_Gates = true)
    (kc_Gates : PySem.W.keepIn K (.ref a_Gates) = true)
    (nf_Gates_rows : PySem.W.findIn K (.ref a_Gates) "rows" = some none)
    (nf_Gates_known : PySem.W.findIn K (.ref a_Gates) "_known" = some none)
    (pg_Plan : PySem.W.plainGet K a_Plan Str.empty = true)
    (hd_Plan : PySem.W.hasDictIn K a_Plan = true)
    (po_Plan : PySem.W.plainOver K a_Plan = true)
    (sa_Plan : PySem.W.findIn K (.ref a_Plan) "__setattr__" = some (some (.builtin "object.__setattr__")))
    (mk_Plan : PySem.W.makesIn K a_Plan = true)
    (kc_Plan : PySem.W.keepIn K (.ref a_Plan) = true)
    (nf_Plan_side : PySem.W.findIn K (.ref a_Plan) "side" = some none)
    (nf_Plan_gates : PySem.W.findIn K (.ref a_Plan) "gates" = some none)
    (nf_Plan_table : PySem.W.findIn K (.ref a_Plan) "table" = some none)
    (zz_abs : PySem.W.nsIn K mainGlobals "abs" = some none)
    (zz_bool : PySem.W.nsIn K mainGlobals "bool" = some none)
    (zz_dict : PySem.W.nsIn K mainGlobals "dict" = some none)
    (zz_int : PySem.W.nsIn K mainGlobals "int" = some none)
    (zz_isinstance : PySem.W.nsIn K mainGlobals "isinstance" = some none)
    (zz_len : PySem.W.nsIn K mainGlobals "len" = some none)
    (zz_list : PySem.W.nsIn K mainGlobals "list" = some none)
    (zz_max : PySem.W.nsIn K mainGlobals "max" = some none)
    (zz_min : PySem.W.nsIn K mainGlobals "min" = some none)
    (zz_range : PySem.W.nsIn K mainGlobals "range" = some none)
    (zz_sorted : PySem.W.nsIn K mainGlobals "sorted" = some none)
    (zz_zip : PySem.W.nsIn K mainGlobals "zip" = some none)
    (gc_ALL : PySem.W.nsIn K mainGlobals "ALL" = some (some (.str "all" t_ALL)))
    (gc_NO : PySem.W.nsIn K mainGlobals "NO" = some (some (.int 0 t_NO)))
    (gc_SOME : PySem.W.nsIn K mainGlobals "SOME" = some (some (.str "some" t_SOME)))
    (gc_YES : PySem.W.nsIn K mainGlobals "YES" = some (some (.int 1 t_YES))) :
    ∃ fd : FuncData, (∀ (s : Shared) (v : Value), BindsTo s fd ⟨[v], []⟩ [("script", v)]) ∧ ∀ base : Heap, K.In base → base.Ns mainGlobals mg → FnOk l.prog w K mg base CX0 5 fa fd ["script"] (spTop K) := by
  have e := hfa.symm.trans (PySem.W.mg_of X G q_law)
  cases e
  let T : Txt K mg := {
    z_abs := PySem.W.mg_none_of X G zz_abs,
    z_bool := PySem.W.mg_none_of X G zz_bool,
    z_dict := PySem.W.mg_none_of X G zz_dict,
    z_int := PySem.W.mg_none_of X G zz_int,
    z_isinstance := PySem.W.mg_none_of X G zz_isinstance,
    z_len := PySem.W.mg_none_of X G zz_len,
    z_list := PySem.W.mg_none_of X G zz_list,
    z_max := PySem.W.mg_none_of X G zz_max,
    z_min := PySem.W.mg_none_of X G zz_min,
    z_range := PySem.W.mg_none_of X G zz_range,
    z_sorted := PySem.W.mg_none_of X G zz_sorted,
    z_zip := PySem.W.mg_none_of X G zz_zip,
    t_ALL := t_ALL,
    g_ALL := PySem.W.mg_of X G gc_ALL,
    t_NO := t_NO,
    g_NO := PySem.W.mg_of X G gc_NO,
    t_SOME := t_SOME,
    g_SOME := PySem.W.mg_of X G gc_SOME,
    t_YES := t_YES,
    g_YES := PySem.W.mg_of X G gc_YES,
    a_law_seed := a_law_seed,
    d_law_seed := _,
    F_law_seed := fun_mk (st := s_law_seed) l_law_seed c_law_seed k_law_seed,
    b_law_seed := (fun_mk (st := s_law_seed) l_law_seed c_law_seed k_law_seed).binds (ps := ["script"]) (fun _ _ _ _ _ _ us hl => match us, hl with | [_], _ => rfl),
    g_law_seed := PySem.W.mg_of X G q_law_seed,
    a_law_take := a_law_take,
    d_law_take := _,
    F_law_take := fun_mk (st := s_law_take) l_law_take c_law_take k_law_take,
    b_law_take := (fun_mk (st := s_law_take) l_law_take c_law_take k_law_take).binds (ps := ["script", "source", "size"]) (fun _ _ _ _ _ _ us hl => match us, hl with | [_, _, _], _ => rfl),
    g_law_take := PySem.W.mg_of X G q_law_take,
    a_law_order := a_law_order,
    d_law_order := _,
    F_law_order := fun_mk (st := s_law_order) l_law_order c_law_order k_law_order,
    b_law_order := (fun_mk (st := s_law_order) l_law_order c_law_order k_law_order).binds (ps := ["script", "source"]) (fun _ _ _ _ _ _ us hl => match us, hl with | [_, _], _ => rfl),
    g_law_order := PySem.W.mg_of X G q_law_order,
    a_Gates_init := a_Gates_init,
    d_Gates_init := _,
    F_Gates_init := fun_mk (st := s_Gates_init) l_Gates_init c_Gates_init k_Gates_init,
    b_Gates_init := (fun_mk (st := s_Gates_init) l_Gates_init c_Gates_init k_Gates_init).binds (ps := ["self"]) (fun _ _ _ _ _ _ us hl => match us, hl with | [_], _ => rfl),
    a_law_row := a_law_row,
    d_law_row := _,
    F_law_row := fun_mk (st := s_law_row) l_law_row c_law_row k_law_row,
    b_law_row := (fun_mk (st := s_law_row) l_law_row c_law_row k_law_row).binds (ps := ["rows", "row"]) (fun _ _ _ _ _ _ us hl => match us, hl with | [_, _], _ => rfl),
    g_law_row := PySem.W.mg_of X G q_law_row,
    a_Gates_edge_of := a_Gates_edge_of,
    d_Gates_edge_of := _,
    F_Gates_edge_of := fun_mk (st := s_Gates_edge_of) l_Gates_edge_of c_Gates_edge_of k_Gates_edge_of,
    b_Gates_edge_of := (fun_mk (st := s_Gates_edge_of) l_Gates_edge_of c_Gates_edge_of k_Gates_edge_of).binds (ps := ["self", "row"]) (fun _ _ _ _ _ _ us hl => match us, hl with | [_, _], _ => rfl),
    a_Gates_leaf := a_Gates_leaf,
    d_Gates_leaf := _,
    F_Gates_leaf := fun_mk (st := s_Gates_leaf) l_Gates_leaf c_Gates_leaf k_Gates_leaf,
    b_Gates_leaf := (fun_mk (st := s_Gates_leaf) l_Gates_leaf c_Gates_leaf k_Gates_leaf).binds (ps := ["self", "letter"]) (fun _ _ _ _ _ _ us hl => match us, hl with | [_, _], _ => rfl),
    a_law_opposite := a_law_opposite,
    d_law_opposite := _,
    F_law_opposite := fun_mk (st := s_law_opposite) l_law_opposite c_law_opposite k_law_opposite,
    b_law_opposite := (fun_mk (st := s_law_opposite) l_law_opposite c_law_opposite k_law_opposite).binds (ps := ["edge"]) (fun _ _ _ _ _ _ us hl => match us, hl with | [_], _ => rfl),
    g_law_opposite := PySem.W.mg_of X G q_law_opposite,
    a_law_both := a_law_both,
    d_law_both := _,
    F_law_both := fun_mk (st := s_law_both) l_law_both c_law_both k_law_both,
    b_law_both := (fun_mk (st := s_law_both) l_law_both c_law_both k_law_both).binds (ps := ["rows", "a", "b"]) (fun _ _ _ _ _ _ us hl => match us, hl with | [_, _, _], _ => rfl),
    g_law_both := PySem.W.mg_of X G q_law_both,
    a_opposite := a_opposite,
    d_opposite := _,
    F_opposite := fun_mk (st := s_opposite) l_opposite c_opposite k_opposite,
    b_opposite := (fun_mk (st := s_opposite) l_opposite c_opposite k_opposite).binds (ps := ["edge"]) (fun _ _ _ _ _ _ us hl => match us, hl with | [_], _ => rfl),
    g_opposite := PySem.W.mg_of X G q_opposite,
    a_Gates_both := a_Gates_both,
    d_Gates_both := _,
    F_Gates_both := fun_mk (st := s_Gates_both) l_Gates_both c_Gates_both k_Gates_both,
    b_Gates_both := (fun_mk (st := s_Gates_both) l_Gates_both c_Gates_both k_Gates_both).binds (ps := ["self", "a", "b"]) (fun _ _ _ _ _ _ us hl => match us, hl with | [_, _, _], _ => rfl),
    a_law_both_of := a_law_both_of,
    d_law_both_of := _,
    F_law_both_of := fun_mk (st := s_law_both_of) l_law_both_of c_law_both_of k_law_both_of,
    b_law_both_of := (fun_mk (st := s_law_both_of) l_law_both_of c_law_both_of k_law_both_of).binds (ps := ["gates", "rows", "a", "b"]) (fun _ _ _ _ _ _ us hl => match us, hl with | [_, _, _, _], _ => rfl),
    g_law_both_of := PySem.W.mg_of X G q_law_both_of,
    a_law_edge := a_law_edge,
    d_law_edge := _,
    F_law_edge := fun_mk (st := s_law_edge) l_law_edge c_law_edge k_law_edge,
    b_law_edge := (fun_mk (st := s_law_edge) l_law_edge c_law_edge k_law_edge).binds (ps := ["script", "source", "gates", "rows", "ahead"]) (fun _ _ _ _ _ _ us hl => match us, hl with | [_, _, _, _, _], _ => rfl),
    g_law_edge := PySem.W.mg_of X G q_law_edge,
    a_Plan_init := a_Plan_init,
    d_Plan_init := _,
    F_Plan_init := fun_mk (st := s_Plan_init) l_Plan_init c_Plan_init k_Plan_init,
    b_Plan_init := (fun_mk (st := s_Plan_init) l_Plan_init c_Plan_init k_Plan_init).binds (ps := ["self", "side", "gates", "table"]) (fun _ _ _ _ _ _ us hl => match us, hl with | [_, _, _, _], _ => rfl),
    a_other := a_other,
    d_other := _,
    F_other := fun_mk (st := s_other) l_other c_other k_other,
    b_other := (fun_mk (st := s_other) l_other c_other k_other).binds (ps := ["side"]) (fun _ _ _ _ _ _ us hl => match us, hl with | [_], _ => rfl),
    g_other := PySem.W.mg_of X G q_other,
    a_Gates_cone := a_Gates_cone,
    d_Gates_cone := _,
    F_Gates_cone := fun_mk (st := s_Gates_cone) l_Gates_cone c_Gates_cone k_Gates_cone,
    b_Gates_cone := (fun_mk (st := s_Gates_cone) l_Gates_cone c_Gates_cone k_Gates_cone).binds (ps := ["self", "edges"]) (fun _ _ _ _ _ _ us hl => match us, hl with | [_, _], _ => rfl),
    a_Gates_hangs_on := a_Gates_hangs_on,
    d_Gates_hangs_on := _,
    F_Gates_hangs_on := fun_mk (st := s_Gates_hangs_on) l_Gates_hangs_on c_Gates_hangs_on k_Gates_hangs_on,
    b_Gates_hangs_on := (fun_mk (st := s_Gates_hangs_on) l_Gates_hangs_on c_Gates_hangs_on k_Gates_hangs_on).binds (ps := ["self", "edge"]) (fun _ _ _ _ _ _ us hl => match us, hl with | [_, _], _ => rfl),
    a_Plan_misfit := a_Plan_misfit,
    d_Plan_misfit := _,
    F_Plan_misfit := fun_mk (st := s_Plan_misfit) l_Plan_misfit c_Plan_misfit k_Plan_misfit,
    b_Plan_misfit := (fun_mk (st := s_Plan_misfit) l_Plan_misfit c_Plan_misfit k_Plan_misfit).binds (ps := ["self", "order"]) (fun _ _ _ _ _ _ us hl => match us, hl with | [_, _], _ => rfl),
    a_law_fault := a_law_fault,
    d_law_fault := _,
    F_law_fault := fun_mk (st := s_law_fault) l_law_fault c_law_fault k_law_fault,
    b_law_fault := (fun_mk (st := s_law_fault) l_law_fault c_law_fault k_law_fault).binds (ps := ["script", "source", "gates", "rows", "order", "side", "table"]) (fun _ _ _ _ _ _ us hl => match us, hl with | [_, _, _, _, _, _, _], _ => rfl),
    g_law_fault := PySem.W.mg_of X G q_law_fault,
    a_law_reached := a_law_reached,
    d_law_reached := _,
    F_law_reached := fun_mk (st := s_law_reached) l_law_reached c_law_reached k_law_reached,
    b_law_reached := (fun_mk (st := s_law_reached) l_law_reached c_law_reached k_law_reached).binds (ps := ["rows", "edges"]) (fun _ _ _ _ _ _ us hl => match us, hl with | [_, _], _ => rfl),
    g_law_reached := PySem.W.mg_of X G q_law_reached,
    a_law_misfit := a_law_misfit,
    d_law_misfit := _,
    F_law_misfit := fun_mk (st := s_law_misfit) l_law_misfit c_law_misfit k_law_misfit,
    b_law_misfit := (fun_mk (st := s_law_misfit) l_law_misfit c_law_misfit k_law_misfit).binds (ps := ["rows", "order", "side", "table"]) (fun _ _ _ _ _ _ us hl => match us, hl with | [_, _, _, _], _ => rfl),
    g_law_misfit := PySem.W.mg_of X G q_law_misfit,
    a_Gates_gate_rows := a_Gates_gate_rows,
    d_Gates_gate_rows := _,
    F_Gates_gate_rows := fun_mk (st := s_Gates_gate_rows) l_Gates_gate_rows c_Gates_gate_rows k_Gates_gate_rows,
    b_Gates_gate_rows := (fun_mk (st := s_Gates_gate_rows) l_Gates_gate_rows c_Gates_gate_rows k_Gates_gate_rows).binds (ps := ["self", "edges"]) (fun _ _ _ _ _ _ us hl => match us, hl with | [_, _], _ => rfl),
    a_Plan_edges := a_Plan_edges,
    d_Plan_edges := _,
    F_Plan_edges := fun_mk (st := s_Plan_edges) l_Plan_edges c_Plan_edges k_Plan_edges,
    b_Plan_edges := (fun_mk (st := s_Plan_edges) l_Plan_edges c_Plan_edges k_Plan_edges).binds (ps := ["self"]) (fun _ _ _ _ _ _ us hl => match us, hl with | [_], _ => rfl),
    a_Plan_gate_count := a_Plan_gate_count,
    d_Plan_gate_count := _,
    F_Plan_gate_count := fun_mk (st := s_Plan_gate_count) l_Plan_gate_count c_Plan_gate_count k_Plan_gate_count,
    b_Plan_gate_count := (fun_mk (st := s_Plan_gate_count) l_Plan_gate_count c_Plan_gate_count k_Plan_gate_count).binds (ps := ["self"]) (fun _ _ _ _ _ _ us hl => match us, hl with | [_], _ => rfl),
    a_Gates_worths := a_Gates_worths,
    d_Gates_worths := _,
    F_Gates_worths := fun_mk (st := s_Gates_worths) l_Gates_worths c_Gates_worths k_Gates_worths,
    b_Gates_worths := (fun_mk (st := s_Gates_worths) l_Gates_worths c_Gates_worths k_Gates_worths).binds (ps := ["self", "edges", "choices"]) (fun _ _ _ _ _ _ us hl => match us, hl with | [_, _, _], _ => rfl),
    a_Plan_answers := a_Plan_answers,
    d_Plan_answers := _,
    F_Plan_answers := fun_mk (st := s_Plan_answers) l_Plan_answers c_Plan_answers k_Plan_answers,
    b_Plan_answers := (fun_mk (st := s_Plan_answers) l_Plan_answers c_Plan_answers k_Plan_answers).binds (ps := ["self", "given"]) (fun _ _ _ _ _ _ us hl => match us, hl with | [_, _], _ => rfl),
    a_law_value := a_law_value,
    d_law_value := _,
    F_law_value := fun_mk (st := s_law_value) l_law_value c_law_value k_law_value,
    b_law_value := (fun_mk (st := s_law_value) l_law_value c_law_value k_law_value).binds (ps := ["truths", "edge"]) (fun _ _ _ _ _ _ us hl => match us, hl with | [_, _], _ => rfl),
    g_law_value := PySem.W.mg_of X G q_law_value,
    a_law_truths := a_law_truths,
    d_law_truths := _,
    F_law_truths := fun_mk (st := s_law_truths) l_law_truths c_law_truths k_law_truths,
    b_law_truths := (fun_mk (st := s_law_truths) l_law_truths c_law_truths k_law_truths).binds (ps := ["rows", "choices"]) (fun _ _ _ _ _ _ us hl => match us, hl with | [_, _], _ => rfl),
    g_law_truths := PySem.W.mg_of X G q_law_truths,
    a_law_answers := a_law_answers,
    d_law_answers := _,
    F_law_answers := fun_mk (st := s_law_answers) l_law_answers c_law_answers k_law_answers,
    b_law_answers := (fun_mk (st := s_law_answers) l_law_answers c_law_answers k_law_answers).binds (ps := ["plan", "rows", "table", "given"]) (fun _ _ _ _ _ _ us hl => match us, hl with | [_, _, _, _], _ => rfl),
    g_law_answers := PySem.W.mg_of X G q_law_answers,
    a_law := fa,
    d_law := _,
    F_law := fun_mk (st := s_law) l_law c_law k_law,
    b_law := (fun_mk (st := s_law) l_law c_law k_law).binds (ps := ["script"]) (fun _ _ _ _ _ _ us hl => match us, hl with | [_], _ => rfl),
    g_law := PySem.W.mg_of X G q_law,
    a_Gates := a_Gates,
    cl_Gates := ⟨pg_Gates, hd_Gates, po_Gates, sa_Gates⟩,
    g_Gates := PySem.W.mg_of X G qc_Gates,
    n_Gates_rows := nf_Gates_rows,
    n_Gates_known := nf_Gates_known,
    mk_Gates := ⟨mk_Gates, q_Gates_init, i_Gates_init, kc_Gates⟩,
    h_Gates_edge_of := ⟨q_Gates_edge_of, i_Gates_edge_of, k_Gates_edge_of⟩,
    h_Gates_leaf := ⟨q_Gates_leaf, i_Gates_leaf, k_Gates_leaf⟩,
    h_Gates_both := ⟨q_Gates_both, i_Gates_both, k_Gates_both⟩,
    h_Gates_cone := ⟨q_Gates_cone, i_Gates_cone, k_Gates_cone⟩,
    h_Gates_hangs_on := ⟨q_Gates_hangs_on, i_Gates_hangs_on, k_Gates_hangs_on⟩,
    h_Gates_gate_rows := ⟨q_Gates_gate_rows, i_Gates_gate_rows, k_Gates_gate_rows⟩,
    h_Gates_worths := ⟨q_Gates_worths, i_Gates_worths, k_Gates_worths⟩,
    a_Plan := a_Plan,
    cl_Plan := ⟨pg_Plan, hd_Plan, po_Plan, sa_Plan⟩,
    g_Plan := PySem.W.mg_of X G qc_Plan,
    n_Plan_side := nf_Plan_side,
    n_Plan_gates := nf_Plan_gates,
    n_Plan_table := nf_Plan_table,
    mk_Plan := ⟨mk_Plan, q_Plan_init, i_Plan_init, kc_Plan⟩,
    h_Plan_misfit := ⟨q_Plan_misfit, i_Plan_misfit, k_Plan_misfit⟩,
    h_Plan_edges := ⟨q_Plan_edges, i_Plan_edges, k_Plan_edges⟩,
    h_Plan_gate_count := ⟨q_Plan_gate_count, i_Plan_gate_count, k_Plan_gate_count⟩,
    h_Plan_answers := ⟨q_Plan_answers, i_Plan_answers, k_Plan_answers⟩ }
  exact ⟨T.d_law, fun s v => .of_eq rfl, fun base _ _ => top_of T⟩
theorem walk {l : PySem.W.OpenLaw} {q : Program} {loose : List Str} {XP : (Str → Option Value) → Heap → Prop} {YP : World → Heap → Prop} {d : DefRec} {K : Params → PySem.W.Frag} (hn : l.most = some 63) (hdf : d.params.defaults = [])
    (hY : ∀ (w : World) (h : Heap), YP w h → (K w.params).In h)
    (F : ∀ (w : World) (mg : Str → Option Value) (fa : Addr) (h : Heap), (K w.params).In h → h.Ns mainGlobals mg → mg d.name = some (.ref fa) →
      ∃ fd : FuncData, (∀ (s : Shared) (u : Value), BindsTo s fd ⟨[u], []⟩ [("script", u)]) ∧ ∀ base : Heap, (K w.params).In base → base.Ns mainGlobals mg → FnOk l.prog w (K w.params) mg base CX0 5 fa fd ["script"] (spTop (K w.params))) :
    PySem.W.WalkO q loose XP YP l.row.toRowW d [] (fun f vs => PySem.call f vs) :=
  L2.walk_of (n := 63) (k := 5) (x := "script") (CX := fun _ => CX0) (sp := fun w => spTop (K w.params)) hn (by decide) hdf ⟨rfl, by decide, by decide⟩ hY F (fun _ _ a ns hl _ hS => ⟨a, ns, rfl, hS, hl, fun _ => rfl⟩) fun _ _ _ _ _ z => z
end G
open PySem PySem.W PyProof.Rows
set_option maxRecDepth 100000 in
set_option maxHeartbeats 0 in
theorem PySem.Challenge.cw_someandall_k89_plans_that_fit_holds : PySem.Challenge.rw_someandall_k89_plans_that_fit.Holds := by
  w_on; o_law; k_head; (case hw => w_witness2)
  k_fill
  refine G.walk (l := PySem.Challenge.rw_someandall_k89_plans_that_fit) rfl rfl (fun w h Y => PySem.W.kIn_of Y) ?F
  case F =>
    intro w mg fa h KX G0 hmg
    refine' G.all_mk KX G0 hmg ?qc_Gates ?qc_Plan ?q_law_seed ?l_law_seed ?c_law_seed ?k_law_seed ?q_law_take ?l_law_take ?c_law_take ?k_law_take ?q_law_order ?l_law_order ?c_law_order ?k_law_order ?q_Gates_init ?i_Gates_init ?l_Gates_init ?c_Gates_init ?k_Gates_init ?q_law_row ?l_law_row ?c_law_row ?k_law_row ?q_Gates_edge_of ?i_Gates_edge_of ?l_Gates_edge_of ?c_Gates_edge_of ?k_Gates_edge_of ?q_Gates_leaf ?i_Gates_leaf ?l_Gates_leaf ?c_Gates_leaf ?k_Gates_leaf ?q_law_opposite ?l_law_opposite ?c_law_opposite ?k_law_opposite ?q_law_both ?l_law_both ?c_law_both ?k_law_both ?q_opposite ?l_opposite ?c_opposite ?k_opposite ?q_Gates_both ?i_Gates_both ?l_Gates_both ?c_Gates_both ?k_Gates_both ?q_law_both_of ?l_law_both_of ?c_law_both_of ?k_law_both_of ?q_law_edge ?l_law_edge ?c_law_edge ?k_law_edge ?q_Plan_init ?i_Plan_init ?l_Plan_init ?c_Plan_init ?k_Plan_init ?q_other ?l_other ?c_other ?k_other ?q_Gates_cone ?i_Gates_cone ?l_Gates_cone ?c_Gates_cone ?k_Gates_cone ?q_Gates_hangs_on ?i_Gates_hangs_on ?l_Gates_hangs_on ?c_Gates_hangs_on ?k_Gates_hangs_on ?q_Plan_misfit ?i_Plan_misfit ?l_Plan_misfit ?c_Plan_misfit ?k_Plan_misfit ?q_law_fault ?l_law_fault ?c_law_fault ?k_law_fault ?q_law_reached ?l_law_reached ?c_law_reached ?k_law_reached ?q_law_misfit ?l_law_misfit ?c_law_misfit ?k_law_misfit ?q_Gates_gate_rows ?i_Gates_gate_rows ?l_Gates_gate_rows ?c_Gates_gate_rows ?k_Gates_gate_rows ?q_Plan_edges ?i_Plan_edges ?l_Plan_edges ?c_Plan_edges ?k_Plan_edges ?q_Plan_gate_count ?i_Plan_gate_count ?l_Plan_gate_count ?c_Plan_gate_count ?k_Plan_gate_count ?q_Gates_worths ?i_Gates_worths ?l_Gates_worths ?c_Gates_worths ?k_Gates_worths ?q_Plan_answers ?i_Plan_answers ?l_Plan_answers ?c_Plan_answers ?k_Plan_answers ?q_law_value ?l_law_value ?c_law_value ?k_law_value ?q_law_truths ?l_law_truths ?c_law_truths ?k_law_truths ?q_law_answers ?l_law_answers ?c_law_answers ?k_law_answers ?q_law ?l_law ?c_law ?k_law ?pg_Gates ?hd_Gates ?po_Gates ?sa_Gates ?mk_Gates ?kc_Gates ?nf_Gates_rows ?nf_Gates_known ?pg_Plan ?hd_Plan ?po_Plan ?sa_Plan ?mk_Plan ?kc_Plan ?nf_Plan_side ?nf_Plan_gates ?nf_Plan_table ?zz_abs ?zz_bool ?zz_dict ?zz_int ?zz_isinstance ?zz_len ?zz_list ?zz_max ?zz_min ?zz_range ?zz_sorted ?zz_zip ?gc_ALL ?gc_NO ?gc_SOME ?gc_YES
    (case qc_Gates => k_is)
    (case qc_Plan => k_is)
    (case q_law_seed => k_is)
    (case l_law_seed => k_is)
    (case c_law_seed => k_is)
    (case k_law_seed => k_is)
    (case q_law_take => k_is)
    (case l_law_take => k_is)
    (case c_law_take => k_is)
    (case k_law_take => k_is)
    (case q_law_order => k_is)
    (case l_law_order => k_is)
    (case c_law_order => k_is)
    (case k_law_order => k_is)
    (case q_Gates_init => k_is)
    (case i_Gates_init => k_is)
    (case l_Gates_init => k_is)
    (case c_Gates_init => k_is)
    (case k_Gates_init => k_is)
    (case q_law_row => k_is)
    (case l_law_row => k_is)
    (case c_law_row => k_is)
    (case k_law_row => k_is)
    (case q_Gates_edge_of => k_is)
    (case i_Gates_edge_of => k_is)
    (case l_Gates_edge_of => k_is)
    (case c_Gates_edge_of => k_is)
    (case k_Gates_edge_of => k_is)
    (case q_Gates_leaf => k_is)
    (case i_Gates_leaf => k_is)
    (case l_Gates_leaf => k_is)
    (case c_Gates_leaf => k_is)
    (case k_Gates_leaf => k_is)
    (case q_law_opposite => k_is)
    (case l_law_opposite => k_is)
    (case c_law_opposite => k_is)
    (case k_law_opposite => k_is)
    (case q_law_both => k_is)
    (case l_law_both => k_is)
    (case c_law_both => k_is)
    (case k_law_both => k_is)
    (case q_opposite => k_is)
    (case l_opposite => k_is)
    (case c_opposite => k_is)
    (case k_opposite => k_is)
    (case q_Gates_both => k_is)
    (case i_Gates_both => k_is)
    (case l_Gates_both => k_is)
    (case c_Gates_both => k_is)
    (case k_Gates_both => k_is)
    (case q_law_both_of => k_is)
    (case l_law_both_of => k_is)
    (case c_law_both_of => k_is)
    (case k_law_both_of => k_is)
    (case q_law_edge => k_is)
    (case l_law_edge => k_is)
    (case c_law_edge => k_is)
    (case k_law_edge => k_is)
    (case q_Plan_init => k_is)
    (case i_Plan_init => k_is)
    (case l_Plan_init => k_is)
    (case c_Plan_init => k_is)
    (case k_Plan_init => k_is)
    (case q_other => k_is)
    (case l_other => k_is)
    (case c_other => k_is)
    (case k_other => k_is)
    (case q_Gates_cone => k_is)
    (case i_Gates_cone => k_is)
    (case l_Gates_cone => k_is)
    (case c_Gates_cone => k_is)
    (case k_Gates_cone => k_is)
    (case q_Gates_hangs_on => k_is)
    (case i_Gates_hangs_on => k_is)
    (case l_Gates_hangs_on => k_is)
    (case c_Gates_hangs_on => k_is)
    (case k_Gates_hangs_on => k_is)
    (case q_Plan_misfit => k_is)
    (case i_Plan_misfit => k_is)
    (case l_Plan_misfit => k_is)
    (case c_Plan_misfit => k_is)
    (case k_Plan_misfit => k_is)
    (case q_law_fault => k_is)
    (case l_law_fault => k_is)
    (case c_law_fault => k_is)
    (case k_law_fault => k_is)
    (case q_law_reached => k_is)
    (case l_law_reached => k_is)
    (case c_law_reached => k_is)
    (case k_law_reached => k_is)
    (case q_law_misfit => k_is)
    (case l_law_misfit => k_is)
    (case c_law_misfit => k_is)
    (case k_law_misfit => k_is)
    (case q_Gates_gate_rows => k_is)
    (case i_Gates_gate_rows => k_is)
    (case l_Gates_gate_rows => k_is)
    (case c_Gates_gate_rows => k_is)
    (case k_Gates_gate_rows => k_is)
    (case q_Plan_edges => k_is)
    (case i_Plan_edges => k_is)
    (case l_Plan_edges => k_is)
    (case c_Plan_edges => k_is)
    (case k_Plan_edges => k_is)
    (case q_Plan_gate_count => k_is)
    (case i_Plan_gate_count => k_is)
    (case l_Plan_gate_count => k_is)
    (case c_Plan_gate_count => k_is)
    (case k_Plan_gate_count => k_is)
    (case q_Gates_worths => k_is)
    (case i_Gates_worths => k_is)
    (case l_Gates_worths => k_is)
    (case c_Gates_worths => k_is)
    (case k_Gates_worths => k_is)
    (case q_Plan_answers => k_is)
    (case i_Plan_answers => k_is)
    (case l_Plan_answers => k_is)
    (case c_Plan_answers => k_is)
    (case k_Plan_answers => k_is)
    (case q_law_value => k_is)
    (case l_law_value => k_is)
    (case c_law_value => k_is)
    (case k_law_value => k_is)
    (case q_law_truths => k_is)
    (case l_law_truths => k_is)
    (case c_law_truths => k_is)
    (case k_law_truths => k_is)
    (case q_law_answers => k_is)
    (case l_law_answers => k_is)
    (case c_law_answers => k_is)
    (case k_law_answers => k_is)
    (case q_law => k_is)
    (case l_law => k_is)
    (case c_law => k_is)
    (case k_law => k_is)
    (case pg_Gates => k_is)
    (case hd_Gates => k_is)
    (case po_Gates => k_is)
    (case sa_Gates => k_is)
    (case mk_Gates => k_is)
    (case kc_Gates => k_is)
    (case nf_Gates_rows => k_is)
    (case nf_Gates_known => k_is)
    (case pg_Plan => k_is)
    (case hd_Plan => k_is)
    (case po_Plan => k_is)
    (case sa_Plan => k_is)
    (case mk_Plan => k_is)
    (case kc_Plan => k_is)
    (case nf_Plan_side => k_is)
    (case nf_Plan_gates => k_is)
    (case nf_Plan_table => k_is)
    (case zz_abs => k_is)
    (case zz_bool => k_is)
    (case zz_dict => k_is)
    (case zz_int => k_is)
    (case zz_isinstance => k_is)
    (case zz_len => k_is)
    (case zz_list => k_is)
    (case zz_max => k_is)
    (case zz_min => k_is)
    (case zz_range => k_is)
    (case zz_sorted => k_is)
    (case zz_zip => k_is)
    (case gc_ALL => k_is)
    (case gc_NO => k_is)
    (case gc_SOME => k_is)
    (case gc_YES => k_is)
