import PyProof.Rows.All
import Wide.All
import OpenK.AllK
import Wide.FinOn
import HandS.ForMost
import HandS.IsInst
import HandS.Codes
import HandS.More
import HandS.SortInts
import HandS.DictComp
import HandS.Conv
import HandS.Walk
import HandS.SetKeys
import HandS.SetFor
import HandS.Strs
import HandS.Zip
import PySem.Challenge.RW_someandall_k35_pushes_are_the_closure
set_option Elab.async false
set_option linter.all false
set_option maxRecDepth 100000
set_option maxHeartbeats 8000000

/-! The own layer over the rules: a frozen heap F, owned cells, their frame; representations of data. -/
namespace G
open PySem PySem.Spec PyProof.Rows L2

abbrev Own := List (Addr × HO)
/-- the frozen heap with the cells over it -/
def ov (F : Hp) : Own → Hp
  | [] => F
  | (a, o) :: cs => upd (ov F cs) a o
/-- the state: frozen part F, owned cells cs, all within H -/
structure Sta (F : Hp) (cs : Own) (H : Hp) : Prop where
  sub : Same F H
  own : ∀ a o, (a, o) ∈ cs → H a = some o ∧ F a = none
  nd : (cs.map (·.1)).Nodup

theorem mem_fst {cs : Own} {a : Addr} {o : HO} (h : (a, o) ∈ cs) : a ∈ cs.map (·.1) := List.mem_map.mpr ⟨_, h, rfl⟩
theorem ov_or {F : Hp} : ∀ {cs : Own} {b : Addr} {o : HO}, ov F cs b = some o → (b, o) ∈ cs ∨ (F b = some o ∧ ∀ u, (b, u) ∉ cs)
  | [], _, _, h => .inr ⟨h, fun _ q => nomatch q⟩
  | (a, u) :: cs, b, o, h => by
    by_cases e : b = a
    · subst e
      have h' : upd (ov F cs) b u b = some o := h
      rw [upd_same] at h'
      cases h'
      exact .inl (.head _)
    · have h' : upd (ov F cs) a u b = some o := h
      rw [upd_ne e] at h'
      rcases ov_or h' with q | ⟨q, n⟩
      · exact .inl (.tail _ q)
      · refine .inr ⟨q, fun v m => ?_⟩
        cases m with
        | head => exact e rfl
        | tail _ m => exact n v m
theorem ov_mem {F : Hp} : ∀ {cs : Own} {b : Addr} {o : HO}, (cs.map (·.1)).Nodup → (b, o) ∈ cs → ov F cs b = some o
  | (a, u) :: cs, b, o, nd, m => by
    have nd' : a ∉ cs.map (·.1) ∧ (cs.map (·.1)).Nodup := List.nodup_cons.mp nd
    cases m with
    | head => exact upd_same
    | tail _ m =>
      have ne : b ≠ a := fun e => nd'.1 (e ▸ mem_fst m)
      show upd (ov F cs) a u b = some o
      rw [upd_ne ne]
      exact ov_mem nd'.2 m
theorem ov_F {F : Hp} : ∀ {cs : Own} {b : Addr} {o : HO}, F b = some o → (∀ a u, (a, u) ∈ cs → F a = none) → ov F cs b = some o
  | [], _, _, h, _ => h
  | (a, u) :: cs, b, o, h, n => by
    have ne : b ≠ a := fun e => by
      have q := n a u (.head _)
      rw [← e, h] at q
      cases q
    show upd (ov F cs) a u b = some o
    rw [upd_ne ne]
    exact ov_F h fun a u m => n a u (.tail _ m)

section
variable {F F0 F' : Hp} {cs R : Own} {H : Hp} {a p : Addr} {o : HO}
theorem Sta.mono0 (S : Sta F cs H) : Sta F cs H := S
/-- what a frame shows stands in the heap -/
theorem Sta.bor (S : Sta F cs H) (f : Same F0 F) (m : ∀ c ∈ R, c ∈ cs) : Same (ov F0 R) H := fun b o h => by
  rcases ov_or h with q | ⟨q, _⟩
  · exact (S.own _ _ (m _ q)).1
  · exact S.sub _ _ (f _ _ q)
/-- .. and in a greater frame -/
theorem Sta.ovR (S : Sta F cs H) (f : Same F0 F) (m : ∀ c ∈ R, c ∈ cs) : Same (ov F0 R) (ov F cs) := fun b o h => by
  rcases ov_or h with q | ⟨q, _⟩
  · exact ov_mem S.nd (m _ q)
  · exact ov_F (f _ _ q) fun a u m => (S.own a u m).2
theorem Sta.ovS (S : Sta F cs H) : Same F (ov F cs) := fun _ _ h => ov_F h fun a u m => (S.own a u m).2
theorem Sta.get (S : Sta F cs H) (i : Nat) (e : cs[i]? = some (a, o)) : H a = some o := (S.own a o (List.mem_of_getElem? e)).1
theorem Sta.getO (S : Sta F cs H) (i : Nat) (e : cs[i]? = some (a, o)) : ov F cs a = some o := ov_mem S.nd (List.mem_of_getElem? e)
theorem nd_set : ∀ {cs : Own} {i : Nat} {a : Addr} {o o' : HO}, cs[i]? = some (a, o) → (cs.set i (a, o')).map (·.1) = cs.map (·.1)
  | [], _, _, _, _, h => by simp at h
  | c :: cs, 0, a, o, o', h => by
    simp at h
    subst h
    rfl
  | c :: cs, i + 1, a, o, o', h => by
    have h' : cs[i]? = some (a, o) := by simpa using h
    show c.1 :: (cs.set i (a, o')).map (·.1) = c.1 :: cs.map (·.1)
    rw [nd_set h']
theorem mem_set : ∀ {cs : Own} {i : Nat} {a : Addr} {o o' : HO} {c : Addr × HO}, (cs.map (·.1)).Nodup → cs[i]? = some (a, o) → c ∈ cs.set i (a, o') → c = (a, o') ∨ (c ∈ cs ∧ c.1 ≠ a)
  | [], _, _, _, _, _, _, h, _ => by simp at h
  | d :: cs, 0, a, o, o', c, nd, h, m => by
    have nd' : d.1 ∉ cs.map (·.1) ∧ (cs.map (·.1)).Nodup := List.nodup_cons.mp nd
    simp at h
    subst h
    have m' : c ∈ (a, o') :: cs := m
    cases m' with
    | head => exact .inl rfl
    | tail _ q => exact .inr ⟨.tail _ q, fun e => nd'.1 (e ▸ mem_fst (o := c.2) q)⟩
  | d :: cs, i + 1, a, o, o', c, nd, h, m => by
    have nd' : d.1 ∉ cs.map (·.1) ∧ (cs.map (·.1)).Nodup := List.nodup_cons.mp nd
    have h' : cs[i]? = some (a, o) := by simpa using h
    have m' : c ∈ d :: cs.set i (a, o') := m
    cases m' with
    | head => exact .inr ⟨.head _, fun e => nd'.1 (e ▸ mem_fst (List.mem_of_getElem? h'))⟩
    | tail _ q =>
      rcases mem_set nd'.2 h' q with z | ⟨z, n⟩
      · exact .inl z
      · exact .inr ⟨.tail _ z, n⟩
theorem Sta.set (S : Sta F cs H) (i : Nat) (e : cs[i]? = some (a, o)) (o' : HO) : Sta F (cs.set i (a, o')) (upd H a o') where
  sub := fun b u h => by
    have ne : b ≠ a := fun q => by
      have z := (S.own a o (List.mem_of_getElem? e)).2
      rw [← q, h] at z
      cases z
    rw [upd_ne ne]
    exact S.sub b u h
  own := fun b u m => by
    rcases mem_set S.nd e m with z | ⟨z, n⟩
    · cases z
      exact ⟨upd_same, (S.own a o (List.mem_of_getElem? e)).2⟩
    · rw [upd_ne n]
      exact S.own b u z
  nd := by
    rw [nd_set e]
    exact S.nd
theorem Sta.noF (S : Sta F cs H) (h : H p = none) : F p = none := S.sub.free h
theorem Sta.noC (S : Sta F cs H) (h : H p = none) {u : HO} : (p, u) ∉ cs := fun m => by
  have z := (S.own p u m).1
  rw [h] at z
  cases z
/-- a new cell -/
theorem Sta.new (S : Sta F cs H) (h : H p = none) (o : HO) : Sta F ((p, o) :: cs) (upd H p o) where
  sub := fun b u q => by
    rw [upd_ne (ne_of_none (S.sub b u q) h)]
    exact S.sub b u q
  own := fun b u m => by
    cases m with
    | head => exact ⟨upd_same, S.noF h⟩
    | tail _ m =>
      rw [upd_ne (ne_of_none (S.own b u m).1 h)]
      exact S.own b u m
  nd := List.nodup_cons.mpr ⟨fun m => by
    obtain ⟨⟨b, u⟩, q, e⟩ := List.mem_map.mp m
    have e' : b = p := e
    subst e'
    exact S.noC h q, S.nd⟩
/-- a new object of the frozen part -/
theorem Sta.newF (S : Sta F cs H) (h : H p = none) (o : HO) : Sta (upd F p o) cs (upd H p o) where
  sub := fun b u q => by
    by_cases e : b = p
    · subst e
      rw [upd_same] at q ⊢
      exact q
    · rw [upd_ne e] at q ⊢
      exact S.sub b u q
  own := fun b u m => by
    have ne : b ≠ p := ne_of_none (S.own b u m).1 h
    rw [upd_ne ne, upd_ne ne]
    exact S.own b u m
  nd := S.nd
theorem Sta.sameF (S : Sta F cs H) (h : H p = none) (o : HO) : Same F (upd F p o) := fun b u q => by
  have ne : b ≠ p := fun e => by
    have z := S.noF h
    rw [← e, q] at z
    cases z
  rw [upd_ne ne]
  exact q
/-- a cell is frozen -/
theorem Sta.frz (S : Sta F ((p, o) :: cs) H) : Sta (upd F p o) cs H where
  sub := fun b u q => by
    by_cases e : b = p
    · subst e
      rw [upd_same] at q
      cases q
      exact (S.own _ _ (.head _)).1
    · rw [upd_ne e] at q
      exact S.sub b u q
  own := fun b u m => by
    have nd' : p ∉ cs.map (·.1) ∧ (cs.map (·.1)).Nodup := List.nodup_cons.mp S.nd
    have ne : b ≠ p := fun e => nd'.1 (e ▸ mem_fst m)
    rw [upd_ne ne]
    exact S.own b u (.tail _ m)
  nd := (List.nodup_cons.mp S.nd).2
theorem Sta.frzS (S : Sta F ((p, o) :: cs) H) : Same F (upd F p o) := fun b u q => by
  have ne : b ≠ p := fun e => by
    have z := (S.own p o (.head _)).2
    rw [← e, q] at z
    cases z
  rw [upd_ne ne]
  exact q
theorem Sta.tl {c : Addr × HO} (S : Sta F (c :: cs) H) : Sta F cs H := ⟨S.sub, fun a o m => S.own a o (.tail _ m), (List.nodup_cons.mp S.nd).2⟩
/-- other cells of the same frame, in another sequence -/
theorem Sta.sel (S : Sta F cs H) {cs' : Own} (nd : (cs'.map (·.1)).Nodup) (m : ∀ c ∈ cs', c ∈ cs) : Sta F cs' H :=
  ⟨S.sub, fun a o q => S.own a o (m _ q), nd⟩
theorem nodup_pick {α : Type} : ∀ {is : List Nat} {xs ys : List α}, xs.Nodup → is.Nodup → is.map (xs[·]?) = ys.map some → ys.Nodup
  | [], _, [], _, _, _ => List.nodup_nil
  | [], _, _ :: _, _, _, e => by simp at e
  | _ :: _, _, [], _, _, e => by simp at e
  | i :: is, xs, y :: ys, hx, hi, e => by
    have hi' := List.nodup_cons.mp hi
    simp at e
    obtain ⟨e1, e2⟩ := e
    refine List.nodup_cons.mpr ⟨fun m => ?_, nodup_pick hx hi'.2 (by simpa using e2)⟩
    have m2 : some y ∈ is.map (xs[·]?) := by
      rw [show is.map (xs[·]?) = ys.map some by simpa using e2]
      exact List.mem_map.mpr ⟨y, m, rfl⟩
    obtain ⟨j, hj, ej⟩ := List.mem_map.mp m2
    obtain ⟨l1, q1⟩ := List.getElem?_eq_some_iff.mp e1
    obtain ⟨l2, q2⟩ := List.getElem?_eq_some_iff.mp (show xs[j]? = some y from ej)
    have : i = j := (List.getElem_inj hx).mp (q1.trans q2.symm)
    exact hi'.1 (this ▸ hj)
/-- the cells at the places is, then the frame -/
theorem Sta.pick (S : Sta F (cs ++ R) H) {cs' : Own} (is : List Nat) (hi : is.Nodup) (e : is.map (cs[·]?) = cs'.map some) : Sta F (cs' ++ R) H := by
  have nd : (cs.map (·.1) ++ R.map (·.1)).Nodup := by
    rw [← List.map_append]
    exact S.nd
  obtain ⟨n1, n2, n3⟩ := List.nodup_append.mp nd
  have sub : ∀ c ∈ cs', c ∈ cs := fun c m => by
    have m2 : some c ∈ is.map (cs[·]?) := by
      rw [e]
      exact List.mem_map.mpr ⟨c, m, rfl⟩
    obtain ⟨j, _, ej⟩ := List.mem_map.mp m2
    exact List.mem_of_getElem? ej
  refine S.sel ?_ fun c m => ?_
  · rw [List.map_append]
    refine List.nodup_append.mpr ⟨nodup_pick (is := is) n1 hi ?_, n2, fun x hx y hy => n3 x ?_ y hy⟩
    · have e2 : (is.map (cs[·]?)).map (Option.map (·.1)) = (cs'.map some).map (Option.map (·.1)) := congrArg _ e
      simpa [List.map_map, Function.comp_def] using e2
    · obtain ⟨c, hc, ec⟩ := List.mem_map.mp hx
      exact List.mem_map.mpr ⟨c, sub c hc, ec⟩
  · rcases List.mem_append.mp m with q | q
    · exact List.mem_append_left _ (sub c q)
    · exact List.mem_append_right _ q
end

/-! ### representations -/
abbrev Rp (α : Type) := Hp → V → α → Prop
class MonoR {α : Type} (r : Rp α) : Prop where
  mono : ∀ {F F' : Hp} {v : V} {x : α}, Same F F' → r F v x → r F' v x
theorem SqL.mono {K : PySem.W.Frag} {H H' : Hp} {a : Addr} {xs : List V} (h : SqL K H a xs) (e : Same H H') : SqL K H' a xs := e.seq h
theorem SqT.mono {K : PySem.W.Frag} {H H' : Hp} {a : Addr} {xs : List V} (h : SqT K H a xs) (e : Same H H') : SqT K H' a xs := by
  rcases h with (h | ⟨o, h⟩) | h
  · exact .inl (.inl (e _ _ h))
  · exact .inl (.inr ⟨o, e _ _ h⟩)
  · exact .inr h
def LR {α : Type} (r : V → α → Prop) : List V → List α → Prop
  | [], [] => True
  | v :: vs, x :: xs => r v x ∧ LR r vs xs
  | _, _ => False
section
variable {α β : Type} {r : V → α → Prop}
theorem LR.length : ∀ {vs : List V} {xs : List α}, LR r vs xs → vs.length = xs.length
  | [], [], _ => rfl
  | _ :: _, _ :: _, h => congrArg (· + 1) (LR.length h.2)
  | [], _ :: _, h => h.elim
  | _ :: _, [], h => h.elim
theorem LR.get : ∀ {vs : List V} {xs : List α} {i : Nat} {x : α}, LR r vs xs → xs[i]? = some x → ∃ v, vs[i]? = some v ∧ r v x
  | [], [], _, _, _, e => by simp at e
  | v :: _, _ :: _, 0, _, h, e => by
    simp at e
    subst e
    exact ⟨v, rfl, h.1⟩
  | _ :: vs, _ :: xs, i + 1, x, h, e => by
    obtain ⟨v, q1, q2⟩ := LR.get (i := i) (x := x) h.2 (by simpa using e)
    exact ⟨v, by simpa using q1, q2⟩
  | [], _ :: _, _, _, h, _ => h.elim
  | _ :: _, [], _, _, h, _ => h.elim
theorem LR.getV : ∀ {vs : List V} {xs : List α} {i : Nat} {v : V}, LR r vs xs → vs[i]? = some v → ∃ x, xs[i]? = some x ∧ r v x
  | [], [], _, _, _, e => by simp at e
  | v :: _, x :: _, 0, _, h, e => by
    simp at e
    subst e
    exact ⟨x, rfl, h.1⟩
  | _ :: vs, _ :: xs, i + 1, v, h, e => by
    obtain ⟨x, q1, q2⟩ := LR.getV (i := i) (v := v) h.2 (by simpa using e)
    exact ⟨x, by simpa using q1, q2⟩
  | [], _ :: _, _, _, h, _ => h.elim
  | _ :: _, [], _, _, h, _ => h.elim
theorem LR.append : ∀ {vs ws : List V} {xs ys : List α}, LR r vs xs → LR r ws ys → LR r (vs ++ ws) (xs ++ ys)
  | [], _, [], _, _, h => h
  | _ :: _, _, _ :: _, _, g, h => ⟨g.1, LR.append g.2 h⟩
  | [], _, _ :: _, _, g, _ => g.elim
  | _ :: _, _, [], _, g, _ => g.elim
theorem LR.snoc {vs : List V} {v : V} {xs : List α} {x : α} (h : LR r vs xs) (g : r v x) : LR r (vs ++ [v]) (xs ++ [x]) := h.append ⟨g, trivial⟩
theorem LR.set : ∀ {vs : List V} {v : V} {xs : List α} {x : α} {i : Nat}, LR r vs xs → r v x → LR r (vs.set i v) (xs.set i x)
  | [], _, [], _, _, _, _ => trivial
  | _ :: _, _, _ :: _, _, 0, h, g => ⟨g, h.2⟩
  | _ :: _, _, _ :: _, _, i + 1, h, g => ⟨h.1, LR.set (i := i) h.2 g⟩
  | [], _, _ :: _, _, _, h, _ => h.elim
  | _ :: _, _, [], _, _, h, _ => h.elim
theorem LR.imp {s : V → α → Prop} (f : ∀ v x, r v x → s v x) : ∀ {vs : List V} {xs : List α}, LR r vs xs → LR s vs xs
  | [], [], _ => trivial
  | _ :: _, _ :: _, h => ⟨f _ _ h.1, LR.imp f h.2⟩
  | [], _ :: _, h => h.elim
  | _ :: _, [], h => h.elim
end
theorem LR.mono {α : Type} {r : Rp α} [m : MonoR r] {F F' : Hp} {vs : List V} {xs : List α} (h : LR (r F) vs xs) (e : Same F F') : LR (r F') vs xs := h.imp fun _ _ q => m.mono e q

def rInt : Rp Int := fun _ v x => v = .int x
def rBool : Rp Bool := fun _ v x => v = .bl x
def rStr : Rp Str := fun _ v x => v = .str x
def rNon : Rp Unit := fun _ v _ => v = .non
instance : MonoR rInt := ⟨fun _ h => h⟩
instance : MonoR rBool := ⟨fun _ h => h⟩
instance : MonoR rStr := ⟨fun _ h => h⟩
instance : MonoR rNon := ⟨fun _ h => h⟩
def rLst {α : Type} (K : PySem.W.Frag) (r : Rp α) : Rp (List α) := fun F v xs => ∃ a vs, v = .ref a ∧ SqL K F a vs ∧ LR (r F) vs xs
def rVT {α : Type} (K : PySem.W.Frag) (r : Rp α) : Rp (List α) := fun F v xs => ∃ a vs, v = .ref a ∧ SqT K F a vs ∧ LR (r F) vs xs
instance {α : Type} {K : PySem.W.Frag} {r : Rp α} [MonoR r] : MonoR (rLst K r) := ⟨fun e ⟨a, vs, h1, h2, h3⟩ => ⟨a, vs, h1, SqL.mono h2 e, h3.mono e⟩⟩
instance {α : Type} {K : PySem.W.Frag} {r : Rp α} [MonoR r] : MonoR (rVT K r) := ⟨fun e ⟨a, vs, h1, h2, h3⟩ => ⟨a, vs, h1, SqT.mono h2 e, h3.mono e⟩⟩
/-- tuples of two, of three -/
def rT2 {α β : Type} (K : PySem.W.Frag) (r : Rp α) (s : Rp β) : Rp (α × β) := fun F v x => ∃ a u w, v = .ref a ∧ SqT K F a [u, w] ∧ r F u x.1 ∧ s F w x.2
def rT3 {α β γ : Type} (K : PySem.W.Frag) (r : Rp α) (s : Rp β) (t : Rp γ) : Rp (α × β × γ) := fun F v x => ∃ a u w z, v = .ref a ∧ SqT K F a [u, w, z] ∧ r F u x.1 ∧ s F w x.2.1 ∧ t F z x.2.2
instance {α β : Type} {K : PySem.W.Frag} {r : Rp α} {s : Rp β} [m : MonoR r] [n : MonoR s] : MonoR (rT2 K r s) :=
  ⟨fun e ⟨a, u, w, h1, h2, h3, h4⟩ => ⟨a, u, w, h1, SqT.mono h2 e, m.mono e h3, n.mono e h4⟩⟩
instance {α β γ : Type} {K : PySem.W.Frag} {r : Rp α} {s : Rp β} {t : Rp γ} [m : MonoR r] [n : MonoR s] [l : MonoR t] : MonoR (rT3 K r s t) :=
  ⟨fun e ⟨a, u, w, z, h1, h2, h3, h4, h5⟩ => ⟨a, u, w, z, h1, SqT.mono h2 e, m.mono e h3, n.mono e h4, l.mono e h5⟩⟩
/-- a tracked tuple of ints and texts (may be a key) -/
def rKT : Rp (List Key) := fun F v ks => ∃ a, v = .ref a ∧ F a = some (.tup (ks.map kV))
instance : MonoR rKT := ⟨fun e ⟨a, h1, h2⟩ => ⟨a, h1, e _ _ h2⟩⟩

/-! ### the mirror's monad: Option; none: nothing is said -/
theorem bnd {α β : Type} {m : Option α} {f : α → Option β} {r : β} (h : m.bind f = some r) : ∃ x, m = some x ∧ f x = some r := by
  cases m with
  | none => cases h
  | some x => exact ⟨x, rfl, h⟩
def grd (b : Bool) : Option Unit := if b then some () else none
theorem grd_ok {b : Bool} {β : Type} {f : Unit → Option β} {r : β} (h : (grd b).bind f = some r) : b = true ∧ f () = some r := by
  cases b with
  | false => cases h
  | true => exact ⟨rfl, h⟩
theorem ifT {α : Type} {c : Bool} {x y : α} {r : α} (h : (if c = true then x else y) = r) (e : c = true) : x = r := by
  rw [if_pos e] at h
  exact h
theorem ifF {α : Type} {c : Bool} {x y : α} {r : α} (h : (if c = true then x else y) = r) (e : ¬ c = true) : y = r := by
  rw [if_neg e] at h
  exact h
theorem bndI {α β : Type} {m : Option α} {f : α → Option β} {r : β} {C : Prop} (k : ∀ x, m = some x → f x = some r → C) : m.bind f = some r → C := fun h => by
  obtain ⟨x, e, h⟩ := bnd h
  exact k x e h
theorem grdI {b : Bool} {β : Type} {f : Unit → Option β} {r : β} {C : Prop} (k : b = true → f () = some r → C) : (grd b).bind f = some r → C := fun h => k (grd_ok h).1 (grd_ok h).2
theorem ifTI {α : Type} {c : Bool} {x y : α} {r : α} {C : Prop} (e : c = true) (k : x = r → C) : (if c = true then x else y) = r → C := fun h => k (ifT h e)
theorem ifFI {α : Type} {c : Bool} {x y : α} {r : α} {C : Prop} (e : ¬ c = true) (k : y = r → C) : (if c = true then x else y) = r → C := fun h => k (ifF h e)
/-- the goals' if -/
theorem goT {c : Bool} {A B : Prop} (e : c = true) (h : A) : if c = true then A else B := by
  rw [if_pos e]
  exact h
theorem goF {c : Bool} {A B : Prop} (e : ¬ c = true) (h : B) : if c = true then A else B := by
  rw [if_neg e]
  exact h
/-- what follows a statement, as a letter -/
theorem seqI {t u : TS} {D : Ends} {σ : L2.St} {H : Hp} (k : ∀ N : L2.St → Hp → Prop, (∀ σ H, u D σ H → N σ H) → t { D with nx := N } σ H) : tSeq t u D σ H := k (u D) fun _ _ h => h
/-- how a loop's turns end -/
inductive Flw (S ρ : Type) where
  | done (s : S)
  | ret (r : ρ)
/-- the state that a caller reads off -/
def small24 : sizeLine = 16777216 := rfl

/-! ### operators by their kinds -/
section
variable {X : Cx}
theorem oI_eq : OpR X (compareOp .Eq) (rI0 fun i j => .bl (decide (i = j))) := by
  intro pins s σ H x y v u Q I rx ry h
  obtain ⟨i, j, rfl, rfl, q⟩ := h
  refine op_eq pins s σ H _ _ v u Q I rx ry ⟨rfl, ?_⟩
  rw [show decide ((V.int i) = V.int j) = decide (i = j) from by by_cases e : i = j <;> simp [e]]
  exact q
theorem oI_ne : OpR X (compareOp .NotEq) (rI0 fun i j => .bl (!decide (i = j))) := by
  intro pins s σ H x y v u Q I rx ry h
  obtain ⟨i, j, rfl, rfl, q⟩ := h
  refine op_ne pins s σ H _ _ v u Q I rx ry ⟨rfl, ?_⟩
  rw [show decide ((V.int i) = V.int j) = decide (i = j) from by by_cases e : i = j <;> simp [e]]
  exact q
def rS0 (g : Str → Str → V) : R2 := fun x y H Q => ∃ i j, x = .str i ∧ y = .str j ∧ Q (g i j) H
theorem oS_eq : OpR X (compareOp .Eq) (rS0 fun i j => .bl (decide (i = j))) := by
  intro pins s σ H x y v u Q I rx ry h
  obtain ⟨i, j, rfl, rfl, q⟩ := h
  refine op_eq pins s σ H _ _ v u Q I rx ry ⟨rfl, ?_⟩
  rw [show decide ((V.str i) = V.str j) = decide (i = j) from by by_cases e : i = j <;> simp [e]]
  exact q
theorem oS_ne : OpR X (compareOp .NotEq) (rS0 fun i j => .bl (!decide (i = j))) := by
  intro pins s σ H x y v u Q I rx ry h
  obtain ⟨i, j, rfl, rfl, q⟩ := h
  refine op_ne pins s σ H _ _ v u Q I rx ry ⟨rfl, ?_⟩
  rw [show decide ((V.str i) = V.str j) = decide (i = j) from by by_cases e : i = j <;> simp [e]]
  exact q
def rB0 (g : Bool → Bool → V) : R2 := fun x y H Q => ∃ i j, x = .bl i ∧ y = .bl j ∧ Q (g i j) H
theorem oB_eq : OpR X (compareOp .Eq) (rB0 fun i j => .bl (decide (i = j))) := by
  intro pins s σ H x y v u Q I rx ry h
  obtain ⟨i, j, rfl, rfl, q⟩ := h
  refine op_eq pins s σ H _ _ v u Q I rx ry ⟨rfl, ?_⟩
  rw [show decide ((V.bl i) = V.bl j) = decide (i = j) from by by_cases e : i = j <;> simp [e]]
  exact q
theorem oB_ne : OpR X (compareOp .NotEq) (rB0 fun i j => .bl (!decide (i = j))) := by
  intro pins s σ H x y v u Q I rx ry h
  obtain ⟨i, j, rfl, rfl, q⟩ := h
  refine op_ne pins s σ H _ _ v u Q I rx ry ⟨rfl, ?_⟩
  rw [show decide ((V.bl i) = V.bl j) = decide (i = j) from by by_cases e : i = j <;> simp [e]]
  exact q
/-- a word between a test (a value) and what follows it -/
theorem pt_cut {e : Expr} {t : TT} (h : PT X e t) : PT X e (fun σ H Q => ∃ P : Bool → Hp → Prop, t σ H P ∧ ∀ b H', P b H' → Q b H') := by
  refine ⟨fun pins s σ H Q I q => ?_⟩
  obtain ⟨P, h1, h2⟩ := q
  refine wpAny_mono (h.run pins s σ H P I h1) (fun b s' z => ?_) fun _ _ z => z
  obtain ⟨H', I', p⟩ := z
  exact ⟨H', I', h2 _ _ p⟩
theorem pe_cut {e : Expr} {t : TE} (h : PE X e t) : PE X e (fun σ H Q => ∃ P : VK, t σ H P ∧ ∀ v H', P v H' → Q v H') := by
  refine ⟨fun pins s σ H Q I q => ?_⟩
  obtain ⟨P, h1, h2⟩ := q
  refine wpAny_mono (h.run pins s σ H P I h1) (fun b s' z => ?_) fun _ _ z => z
  obtain ⟨v, H', I', r, p⟩ := z
  exact ⟨v, H', I', r, h2 _ _ p⟩
theorem pt_pure {e : Expr} {t : TT} (h : PT X e t) : PT X e (fun σ H Q => ∃ B : Bool, t σ H (fun b H' => b = B ∧ H' = H) ∧ Q B H) := by
  refine ⟨fun pins s σ H Q I q => ?_⟩
  obtain ⟨B, h1, h2⟩ := q
  exact (pt_cut h).run pins s σ H Q I ⟨_, h1, fun b H' z => by rw [z.1, z.2]; exact h2⟩
theorem pe_pure {e : Expr} {t : TE} (h : PE X e t) : PE X e (fun σ H Q => ∃ B : V, t σ H (fun b H' => b = B ∧ H' = H) ∧ Q B H) := by
  refine ⟨fun pins s σ H Q I q => ?_⟩
  obtain ⟨B, h1, h2⟩ := q
  exact (pe_cut h).run pins s σ H Q I ⟨_, h1, fun b H' z => by rw [z.1, z.2]; exact h2⟩
end
theorem rInt_e {F : Hp} {v : V} {x : Int} (h : rInt F v x) : v = .int x := h
theorem rBool_e {F : Hp} {v : V} {x : Bool} (h : rBool F v x) : v = .bl x := h
theorem rStr_e {F : Hp} {v : V} {x : Str} (h : rStr F v x) : v = .str x := h
theorem rNon_e {F : Hp} {v : V} {x : Unit} (h : rNon F v x) : v = .non := h
/-- None or not -/
def rOpt {α : Type} (r : Rp α) : Rp (Option α) := fun F v x => match x with
  | none => v = .non
  | some y => r F v y
instance {α : Type} {r : Rp α} [m : MonoR r] : MonoR (rOpt r) := ⟨fun {F F' v x} e h => by
  cases x with
  | none => exact h
  | some y => exact m.mono (x := y) e h⟩
theorem rOpt_un {α : Type} {r : Rp α} {F : Hp} {v : V} {x : Option α} {z : α} (e : x = some z) (h : rOpt r F v x) : r F v z := by subst e; exact h
theorem rOpt_some {α : Type} {r : Rp α} {F : Hp} {v : V} {x : α} (h : r F v x) : rOpt r F v (some x) := h

/-! ### checks of the mirror -/
def mulOk (i j : Int) : Bool := decide (-(2 ^ 64) < i ∧ i < 2 ^ 64) || decide (-(2 ^ 64) < j ∧ j < 2 ^ 64)
theorem mulOk_ok {i j : Int} (h : mulOk i j = true) : CMul i j := by
  unfold mulOk at h
  rw [Bool.or_eq_true] at h
  rcases h with h | h
  · exact .inl (of_decide_eq_true h)
  · exact .inr (of_decide_eq_true h)
def divOk (j : Int) : Bool := decide (0 < j ∧ j < 1073741824)
theorem divOk_fdiv {i j : Int} (h : divOk j = true) : CDiv i j := (of_decide_eq_true h : 0 < j ∧ j < 1073741824)
theorem divOk_mod {j : Int} (h : divOk j = true) : 0 < j := (of_decide_eq_true h).1
def rngOk (j : Int) : Bool := decide (-(2 ^ 62) ≤ j ∧ j < 2 ^ 62)
theorem rngOk_lo {j : Int} (h : rngOk j = true) : -(2 ^ 62) ≤ j := (of_decide_eq_true h).1
theorem rngOk_hi {j : Int} (h : rngOk j = true) : j < 2 ^ 62 := (of_decide_eq_true h).2
def rng2Ok (i j : Int) : Bool := decide (-(2 ^ 62) ≤ i ∧ i < 2 ^ 62 ∧ -(2 ^ 62) ≤ j ∧ j < 2 ^ 62)
theorem rng2Ok_ok {i j : Int} (h : rng2Ok i j = true) : -(2 ^ 62) ≤ i ∧ i < 2 ^ 62 ∧ -(2 ^ 62) ≤ j ∧ j < 2 ^ 62 := of_decide_eq_true h

/-! ### lists -/
section
variable {α : Type} {r : V → α → Prop}
theorem LR.isEmpty {vs : List V} {xs : List α} (h : LR r vs xs) : vs.isEmpty = xs.isEmpty := by
  have e := h.length
  cases vs <;> cases xs <;> simp_all
theorem LR.atI {vs : List V} {xs : List α} {i : Int} {x : α} (h : LR r vs xs) (e : atI xs i = some x) : ∃ v, L2.atI vs i = some v ∧ r v x := by
  unfold L2.atI at e ⊢
  rw [h.length]
  cases q : ixN xs.length i with
  | none => rw [q] at e; cases e
  | some j =>
    rw [q] at e
    exact h.get e
theorem LR.dropEnd {vs : List V} {xs : List α} (h : LR r vs xs) : xs.drop vs.length = [] := by rw [h.length, List.drop_length]
end
theorem drop_cons {α : Type} {xs : List α} {i : Nat} {x : α} (h : xs[i]? = some x) : xs.drop i = x :: xs.drop (i + 1) := by
  obtain ⟨l, e⟩ := List.getElem?_eq_some_iff.mp h
  rw [← e]
  exact List.drop_eq_getElem_cons l
def pyRange (lo : Int) (n : Nat) : List Int := (List.range n).map fun (i : Nat) => lo + (i : Int)
theorem pyRange_get {lo : Int} {n i : Nat} (h : i < n) : (pyRange lo n)[i]? = some (lo + (i : Int)) := by
  unfold pyRange
  rw [List.getElem?_map, List.getElem?_range h]
  rfl
theorem pyRange_len {lo : Int} {n : Nat} : (pyRange lo n).length = n := by simp [pyRange]
theorem drop_rng {lo : Int} {n : Nat} : (pyRange lo n).drop n = [] := List.drop_eq_nil_of_le (Nat.le_of_eq pyRange_len)
theorem for_rng {lo : Int} {n : Nat} {g : TG} {tb : TS} {D : Ends} {σ : L2.St} {H : Hp} (Pv : Nat → L2.St → Hp → Prop) (h0 : Pv 0 σ H)
    (hs : ∀ i x σ H, (pyRange lo n)[i]? = some x → Pv i σ H → g (.int x) σ H fun σ2 H2 => tb { D with nx := Pv (i + 1), ct := Pv (i + 1), bk := D.nx } σ2 H2) (hd : ∀ σ H, Pv n σ H → D.nx σ H) :
    ∃ W : Nat → Nat → L2.St → Hp → Prop, (∃ m, W 0 m σ H) ∧ ∀ i m σ H, W i m σ H →
      ((Itr lo n).stop i H ∧ D.nx σ H) ∨ ((Itr lo n).go i H ∧ ∃ N : L2.St → Hp → Prop, (∀ σ' H', N σ' H' → ∃ m', m' < m ∧ W (i + 1) m' σ' H') ∧ ∀ x H', (Itr lo n).yld i H x H' → g x σ H' fun σ2 H2 => tb { D with nx := N, ct := N, bk := D.nx } σ2 H2) :=
  for_range Pv h0 (fun i σ H hi p => hs i _ σ H (pyRange_get hi) p) hd
/-- for over a dict's keys -/
theorem for_keys {d : Addr} {od : Obj} {kvs : List (Key × V)} {g : TG} {tb : TS} {D : Ends} {σ : L2.St} {H : Hp} (Pv : Nat → L2.St → Hp → Prop) (h0 : Pv 0 σ H) (hl : ∀ i σ H, Pv i σ H → H d = some (.frz od (.dK kvs)))
    (hs : ∀ i x σ H, (kvs.map fun kv => kV kv.1)[i]? = some x → Pv i σ H → g x σ H fun σ2 H2 => tb { D with nx := Pv (i + 1), ct := Pv (i + 1), bk := D.nx } σ2 H2) (hd : ∀ σ H, Pv (kvs.map fun kv => kV kv.1).length σ H → D.nx σ H) :
    ∃ W : Nat → Nat → L2.St → Hp → Prop, (∃ m, W 0 m σ H) ∧ ∀ i m σ H, W i m σ H →
      ((Itk d od kvs).stop i H ∧ D.nx σ H) ∨ ((Itk d od kvs).go i H ∧ ∃ N : L2.St → Hp → Prop, (∀ σ' H', N σ' H' → ∃ m', m' < m ∧ W (i + 1) m' σ' H') ∧ ∀ x H', (Itk d od kvs).yld i H x H' → g x σ H' fun σ2 H2 => tb { D with nx := N, ct := N, bk := D.nx } σ2 H2) := by
  refine ⟨fun i m σ H => m = kvs.length - i ∧ i ≤ kvs.length ∧ Pv i σ H, ⟨kvs.length, by simp, Nat.zero_le _, h0⟩, ?_⟩
  rintro i m σ H ⟨rfl, hi, p⟩
  have q := hl i σ H p
  by_cases hlt : i < kvs.length
  · refine .inr ⟨⟨q, hlt⟩, Pv (i + 1), fun σ' H' p' => ⟨kvs.length - (i + 1), by omega, rfl, hlt, p'⟩, fun x H' y => ?_⟩
    obtain ⟨e, k, v, e1, e2⟩ := y
    subst e
    exact hs i x σ _ (by rw [List.getElem?_map, e1, e2]; rfl) p
  · have e : i = kvs.length := by omega
    subst e
    exact .inl ⟨⟨q, Nat.le_refl _⟩, hd σ H (by rw [List.length_map]; exact p)⟩
/-- range with any step -/
def pyRangeC (lo c : Int) (n : Nat) : List Int := (List.range n).map fun (i : Nat) => lo + (i : Int) * c
theorem pyRangeC_get {lo c : Int} {n i : Nat} (h : i < n) : (pyRangeC lo c n)[i]? = some (lo + (i : Int) * c) := by
  unfold pyRangeC
  rw [List.getElem?_map, List.getElem?_range h]
  rfl
theorem pyRangeC_len {lo c : Int} {n : Nat} : (pyRangeC lo c n).length = n := by simp [pyRangeC]
theorem drop_rngC {lo c : Int} {n : Nat} : (pyRangeC lo c n).drop n = [] := List.drop_eq_nil_of_le (Nat.le_of_eq pyRangeC_len)
theorem for_rngC {lo c : Int} {n : Nat} {g : TG} {tb : TS} {D : Ends} {σ : L2.St} {H : Hp} (Pv : Nat → L2.St → Hp → Prop) (h0 : Pv 0 σ H)
    (hs : ∀ i x σ H, (pyRangeC lo c n)[i]? = some x → Pv i σ H → g (.int x) σ H fun σ2 H2 => tb { D with nx := Pv (i + 1), ct := Pv (i + 1), bk := D.nx } σ2 H2) (hd : ∀ σ H, Pv n σ H → D.nx σ H) :
    ∃ W : Nat → Nat → L2.St → Hp → Prop, (∃ m, W 0 m σ H) ∧ ∀ i m σ H, W i m σ H →
      ((Itc lo c n).stop i H ∧ D.nx σ H) ∨ ((Itc lo c n).go i H ∧ ∃ N : L2.St → Hp → Prop, (∀ σ' H', N σ' H' → ∃ m', m' < m ∧ W (i + 1) m' σ' H') ∧ ∀ x H', (Itc lo c n).yld i H x H' → g x σ H' fun σ2 H2 => tb { D with nx := N, ct := N, bk := D.nx } σ2 H2) :=
  for_rangeC Pv h0 (fun i σ H hi p => hs i _ σ H (pyRangeC_get hi) p) hd
theorem rng2_neg {i j : Int} (h : rng2Ok i j = true) : RgC i j (-1) (i - j).toNat := RgC.neg (rng2Ok_ok h).1 (rng2Ok_ok h).2.1 (rng2Ok_ok h).2.2.1 (rng2Ok_ok h).2.2.2
/-- the turns that a while's mirror may take -/
@[irreducible] def fuel : Nat := 1000000000
/-- while, the mirror's fuel its measure -/
theorem while_fuel {c : TT} {tb : TS} {D : Ends} {σ : L2.St} {H : Hp} (Pv : Nat → L2.St → Hp → Prop) (n : Nat) (h0 : Pv n σ H)
    (hs : ∀ m σ H, Pv (m + 1) σ H → c σ H fun b H1 => if b = true then ∃ N : L2.St → Hp → Prop, (∀ σ' H', N σ' H' → ∃ m', m' < m + 1 ∧ Pv m' σ' H') ∧ tb { D with nx := N, ct := N, bk := D.nx } σ H1 else D.nx σ H1)
    (hz : ∀ σ H, Pv 0 σ H → False) : tWhile c tb D σ H := by
  refine ⟨Pv, ⟨n, h0⟩, fun m => ?_⟩
  cases m with
  | zero => exact fun σ H p => (hz σ H p).elim
  | succ m => exact hs m
theorem wh_in {Pv : Nat → L2.St → Hp → Prop} {m : Nat} {tb : TS} {D : Ends} {σ : L2.St} {H : Hp} (h : tb { D with nx := Pv m, ct := Pv m, bk := D.nx } σ H) :
    ∃ N : L2.St → Hp → Prop, (∀ σ' H', N σ' H' → ∃ m', m' < m + 1 ∧ Pv m' σ' H') ∧ tb { D with nx := N, ct := N, bk := D.nx } σ H :=
  ⟨Pv m, fun _ _ p => ⟨m, Nat.lt_succ_self m, p⟩, h⟩

/-! ### dicts: by pairs in order -/
section
variable {κ ν α : Type}
def KR (f : κ → ν) (r : V → α → Prop) : List (ν × V) → List (κ × α) → Prop
  | [], [] => True
  | p :: ps, q :: qs => (p.1 = f q.1 ∧ r p.2 q.2) ∧ KR f r ps qs
  | _, _ => False
def mget [DecidableEq κ] (xs : List (κ × α)) (k : κ) : Option α := (xs.find? fun p => decide (p.1 = k)).map (·.2)
def mput [DecidableEq κ] (xs : List (κ × α)) (k : κ) (x : α) : List (κ × α) :=
  if (xs.any fun p => decide (p.1 = k)) = true then xs.map (fun p => if p.1 = k then (p.1, x) else p) else xs ++ [(k, x)]
theorem kinj_K : ∀ a b : List Key, id a = id b → a = b := fun _ _ h => h
theorem kinj_int : ∀ a b : Int, (Sum.inl a : Key) = Sum.inl b → a = b := fun _ _ h => Sum.inl.inj h
theorem kinj_str : ∀ a b : Str, (Sum.inr a : Key) = Sum.inr b → a = b := fun _ _ h => Sum.inr.inj h
variable {f : κ → ν} {r : V → α → Prop}
theorem KR.nil : KR f r [] [] := trivial
theorem KR.cons {p : ν × V} {q : κ × α} {ps : List (ν × V)} {qs : List (κ × α)} (h1 : p.1 = f q.1) (h2 : r p.2 q.2) (h : KR f r ps qs) : KR f r (p :: ps) (q :: qs) := ⟨⟨h1, h2⟩, h⟩
theorem KR.length : ∀ {ps : List (ν × V)} {qs : List (κ × α)}, KR f r ps qs → ps.length = qs.length
  | [], [], _ => rfl
  | _ :: _, _ :: _, h => congrArg (· + 1) (KR.length h.2)
  | [], _ :: _, h => h.elim
  | _ :: _, [], h => h.elim
theorem KR.imp {s : V → α → Prop} (g : ∀ v x, r v x → s v x) : ∀ {ps : List (ν × V)} {qs : List (κ × α)}, KR f r ps qs → KR f s ps qs
  | [], [], _ => trivial
  | _ :: _, _ :: _, h => ⟨⟨h.1.1, g _ _ h.1.2⟩, KR.imp g h.2⟩
  | [], _ :: _, h => h.elim
  | _ :: _, [], h => h.elim
theorem KR.append : ∀ {ps ps' : List (ν × V)} {qs qs' : List (κ × α)}, KR f r ps qs → KR f r ps' qs' → KR f r (ps ++ ps') (qs ++ qs')
  | [], _, [], _, _, h => h
  | _ :: _, _, _ :: _, _, g, h => ⟨g.1, KR.append g.2 h⟩
  | [], _, _ :: _, _, g, _ => g.elim
  | _ :: _, _, [], _, g, _ => g.elim
variable [DecidableEq κ] [DecidableEq ν]
theorem KR.find (inj : ∀ a b, f a = f b → a = b) (k : κ) : ∀ {ps : List (ν × V)} {qs : List (κ × α)}, KR f r ps qs →
    (mget qs k = none ∧ valV ps (f k) = none) ∨ ∃ x v, mget qs k = some x ∧ valV ps (f k) = some v ∧ r v x
  | [], [], _ => .inl ⟨rfl, rfl⟩
  | p :: ps, q :: qs, h => by
    by_cases e : q.1 = k
    · refine .inr ⟨q.2, p.2, ?_, ?_, h.1.2⟩
      · simp [mget, List.find?_cons, e]
      · exact valV_pos (by rw [h.1.1, e])
    · have e2 : ¬ p.1 = f k := fun z => e (inj _ _ (h.1.1.symm.trans z))
      have e3 : mget (q :: qs) k = mget qs k := by simp [mget, List.find?_cons, e]
      rw [e3, valV_neg e2]
      exact KR.find inj k h.2
  | [], _ :: _, h => h.elim
  | _ :: _, [], h => h.elim
theorem KR.get {ps : List (ν × V)} {qs : List (κ × α)} {k : κ} {x : α} (h : KR f r ps qs) (inj : ∀ a b, f a = f b → a = b) (e : mget qs k = some x) : ∃ v, valV ps (f k) = some v ∧ r v x := by
  rcases h.find inj k with ⟨q, _⟩ | ⟨y, v, q, q2, q3⟩
  · rw [q] at e; cases e
  · rw [q] at e; cases e; exact ⟨v, q2, q3⟩
theorem KR.some_eq {ps : List (ν × V)} {qs : List (κ × α)} (h : KR f r ps qs) (inj : ∀ a b, f a = f b → a = b) (k : κ) : (valV ps (f k)).isSome = (mget qs k).isSome := by
  rcases h.find inj k with ⟨q, q2⟩ | ⟨y, v, q, q2, q3⟩
  · rw [q, q2]; rfl
  · rw [q, q2]; rfl
theorem KR.any (inj : ∀ a b, f a = f b → a = b) (k : κ) : ∀ {ps : List (ν × V)} {qs : List (κ × α)}, KR f r ps qs → (ps.any fun p => decide (p.1 = f k)) = (qs.any fun p => decide (p.1 = k))
  | [], [], _ => rfl
  | p :: ps, q :: qs, h => by
    have e : decide (p.1 = f k) = decide (q.1 = k) := by
      by_cases e : q.1 = k
      · rw [decide_eq_true e, decide_eq_true (by rw [h.1.1, e])]
      · rw [decide_eq_false e, decide_eq_false fun z => e (inj _ _ (h.1.1.symm.trans z))]
    simp only [List.any_cons, e, KR.any inj k h.2]
  | [], _ :: _, h => h.elim
  | _ :: _, [], h => h.elim
theorem KR.map (inj : ∀ a b, f a = f b → a = b) (k : κ) {v : V} {x : α} (g : r v x) : ∀ {ps : List (ν × V)} {qs : List (κ × α)}, KR f r ps qs →
    KR f r (ps.map fun kv => if kv.1 = f k then (kv.1, v) else kv) (qs.map fun p => if p.1 = k then (p.1, x) else p)
  | [], [], _ => trivial
  | p :: ps, q :: qs, h => by
    refine ⟨?_, KR.map inj k g h.2⟩
    dsimp only
    by_cases e : q.1 = k
    · rw [if_pos e, if_pos (show p.1 = f k by rw [h.1.1, e])]
      exact ⟨h.1.1, g⟩
    · rw [if_neg e, if_neg (show ¬ p.1 = f k from fun z => e (inj _ _ (h.1.1.symm.trans z)))]
      exact h.1
  | [], _ :: _, h => h.elim
  | _ :: _, [], h => h.elim
theorem KR.put {ps : List (ν × V)} {qs : List (κ × α)} {k : κ} {v : V} {x : α} (h : KR f r ps qs) (inj : ∀ a b, f a = f b → a = b) (g : r v x) : KR f r (putK ps (f k) v) (mput qs k x) := by
  unfold putK mput
  rw [h.any inj k]
  by_cases c : (qs.any fun p => decide (p.1 = k)) = true
  · rw [if_pos c, if_pos c]
    exact h.map inj k g
  · rw [if_neg c, if_neg c]
    exact h.append ⟨⟨rfl, g⟩, trivial⟩
end
theorem KR.mono {κ ν α : Type} {f : κ → ν} {r : Rp α} [m : MonoR r] {F F' : Hp} {ps : List (ν × V)} {qs : List (κ × α)} (h : KR f (r F) ps qs) (e : Same F F') : KR f (r F') ps qs := h.imp fun _ _ q => m.mono e q
theorem dget_of {H : Hp} {a : Addr} {y : V} {o o' : Option V} (h : DGet H a y o) (e : o = o') : DGet H a y o' := e ▸ h

/-! ### data of any depth, for == -/
class DOk (α : Type) where
  ok : α → Bool
instance : DOk Int := ⟨fun _ => true⟩
instance : DOk Bool := ⟨fun _ => true⟩
instance : DOk Unit := ⟨fun _ => true⟩
instance : DOk Str := ⟨fun x => PyData.strOk x⟩
instance : DOk Key := ⟨fun x => match x with | .inl _ => true | .inr y => PyData.strOk y⟩
instance {α : Type} [DOk α] : DOk (List α) := ⟨fun xs => xs.all DOk.ok⟩
instance {α β : Type} [DOk α] [DOk β] : DOk (α × β) := ⟨fun p => DOk.ok p.1 && DOk.ok p.2⟩
class DPl (α : Type) [DOk α] : Prop where
  pl : ∀ x : α, DOk.ok x = true
instance : DPl Int := ⟨fun _ => rfl⟩
instance : DPl Bool := ⟨fun _ => rfl⟩
instance {α : Type} [DOk α] [DPl α] : DPl (List α) := ⟨fun xs => List.all_eq_true.mpr fun x _ => DPl.pl x⟩
instance {α β : Type} [DOk α] [DOk β] [DPl α] [DPl β] : DPl (α × β) := ⟨fun p => Bool.and_eq_true_iff.mpr ⟨DPl.pl p.1, DPl.pl p.2⟩⟩
class DatR {α : Type} [DecidableEq α] [DOk α] (K : PySem.W.Frag) (r : Rp α) where
  d : α → PyData
  dp : ∀ {H : Hp} {v : V} {x : α}, r H v x → Dp K H v (d x)
  eqv : ∀ x y : α, PyData.eqv (d x) (d y) = decide (x = y)
  shp : ∀ x : α, DOk.ok x = true → (d x).canLay0 = true
  n : Nat
  dep : ∀ x : α, (d x).depth ≤ n
instance {K : PySem.W.Frag} : DatR K rInt := ⟨fun i => .int i, fun {H v x} h => by rw [rInt_e h]; exact .int x, fun x y => by simp [PyData.eqv, BEq.beq], fun _ _ => rfl, 1, fun _ => by simp [PyData.depth]⟩
instance {K : PySem.W.Frag} : DatR K rBool := ⟨fun i => .bool i, fun {H v x} h => by rw [rBool_e h]; exact .bl x, fun x y => by cases x <;> cases y <;> rfl, fun _ _ => rfl, 1, fun _ => by simp [PyData.depth]⟩
instance {K : PySem.W.Frag} : DatR K rStr := ⟨fun i => .str i, fun {H v x} h => by rw [rStr_e h]; exact .str x, fun x y => by
  by_cases e : x = y
  · subst e; simp [PyData.eqv]
  · simp [PyData.eqv, e], fun x h => by simp only [PyData.canLay0]; exact h, 1, fun _ => by simp [PyData.depth]⟩
section
variable {α : Type} [DecidableEq α] [DOk α] {K : PySem.W.Frag} {r : Rp α}
theorem dpAll [D : DatR K r] {H : Hp} : ∀ {vs : List V} {xs : List α}, LR (r H) vs xs → DpAll K H vs (xs.map D.d)
  | [], [], _ => .nil
  | _ :: _, _ :: _, h => .cons (D.dp h.1) (dpAll h.2)
  | [], _ :: _, h => h.elim
  | _ :: _, [], h => h.elim
theorem eqvAll [D : DatR K r] : ∀ xs ys : List α, PyData.eqvAll (xs.map D.d) (ys.map D.d) = decide (xs = ys)
  | [], [] => rfl
  | [], _ :: _ => rfl
  | _ :: _, [] => rfl
  | x :: xs, y :: ys => by
    show (PyData.eqv (D.d x) (D.d y) && PyData.eqvAll (xs.map D.d) (ys.map D.d)) = _
    rw [D.eqv, eqvAll xs ys]
    by_cases e : x = y <;> by_cases e2 : xs = ys <;> simp [e, e2]
theorem shpAll [D : DatR K r] : ∀ xs : List α, DOk.ok xs = true → PyData.canLayAll0 (xs.map D.d) = true
  | [], _ => rfl
  | x :: xs, h => by
    have h' := Bool.and_eq_true_iff.mp (show (DOk.ok x && xs.all DOk.ok) = true from h)
    show (PyData.canLay0 (D.d x) && PyData.canLayAll0 (xs.map D.d)) = true
    rw [D.shp x h'.1, shpAll xs h'.2]
    rfl
theorem depAll [D : DatR K r] : ∀ xs : List α, PyData.depthAll (xs.map D.d) ≤ D.n
  | [] => by simp [PyData.depthAll]
  | x :: xs => by
    have h1 := D.dep x
    have h2 := depAll xs
    simp only [List.map_cons, PyData.depthAll]
    omega
instance [D : DatR K r] : DatR K (rLst K r) := ⟨fun xs => .list (xs.map D.d), fun {H v x} ⟨a, vs, h1, h2, h3⟩ => by rw [h1]; exact .lst h2 (dpAll h3), fun x y => eqvAll x y, fun x h => shpAll x h, D.n + 1, fun x => by
  have := depAll (D := D) x
  simp only [PyData.depth]
  omega⟩
instance [D : DatR K r] : DatR K (rVT K r) := ⟨fun xs => .tuple (xs.map D.d), fun {H v x} ⟨a, vs, h1, h2, h3⟩ => by rw [h1]; exact .tup h2 (dpAll h3), fun x y => eqvAll x y, fun x h => shpAll x h, D.n + 1, fun x => by
  have := depAll (D := D) x
  simp only [PyData.depth]
  omega⟩
theorem dat_shaped [D : DatR K r] (hn : D.n ≤ 64) (x : α) (h : DOk.ok x = true) : SeqAt.shaped (D.d x) = true :=
  Bool.and_eq_true_iff.mpr ⟨D.shp x h, decide_eq_true (Nat.le_trans (D.dep x) hn)⟩
theorem dat_dp [D : DatR K r] {H : Hp} {v : V} {x : α} (h : r H v x) : Dp K H v (D.d x) := D.dp h
theorem dat_eqv [D : DatR K r] (x y : α) : PyData.eqv (D.d x) (D.d y) = decide (x = y) := D.eqv x y
end
instance {K : PySem.W.Frag} : DatR K rKT := ⟨fun ks => .tuple (ks.map fun k => match k with | .inl i => .int i | .inr x => .str x),
  fun {H v x} ⟨a, h1, h2⟩ => by
    rw [h1]
    refine .tup (xs := x.map kV) (.inl (.inl h2)) ?_
    have q : ∀ ks : List Key, DpAll K H (ks.map kV) (ks.map fun k => match k with | .inl i => .int i | .inr x => .str x) := by
      intro ks
      induction ks with
      | nil => exact .nil
      | cons k t ih => cases k with
        | inl i => exact .cons (.int i) ih
        | inr y => exact .cons (.str y) ih
    exact q x,
  fun x y => by
    show PyData.eqvAll _ _ = _
    induction x generalizing y with
    | nil => cases y <;> rfl
    | cons k t ih =>
      cases y with
      | nil => rfl
      | cons l u =>
        show (PyData.eqv _ _ && PyData.eqvAll _ _) = _
        rw [ih u]
        cases k <;> cases l
        · rename_i a b; by_cases e : a = b <;> by_cases e2 : t = u <;> simp [PyData.eqv, e, e2]
        · simp [PyData.eqv]
        · simp [PyData.eqv]
        · rename_i a b; by_cases e : a = b <;> by_cases e2 : t = u <;> simp [PyData.eqv, e, e2],
  fun x h => by
    show PyData.canLayAll0 _ = true
    induction x with
    | nil => rfl
    | cons k t ih =>
      have h' := Bool.and_eq_true_iff.mp (show (DOk.ok k && t.all DOk.ok) = true from h)
      show (PyData.canLay0 _ && PyData.canLayAll0 _) = true
      rw [ih h'.2]
      cases k with
      | inl i => rfl
      | inr y =>
        simp only [PyData.canLay0, Bool.and_true]
        exact h'.1,
  2, fun x => by
    have : ∀ ks : List Key, PyData.depthAll (ks.map fun k => match k with | .inl i => .int i | .inr x => .str x) ≤ 1 := by
      intro ks
      induction ks with
      | nil => simp [PyData.depthAll]
      | cons k t ih => cases k <;> simp [PyData.depthAll, PyData.depth] <;> exact ih
    have := this x
    simp only [PyData.depth]
    omega⟩
theorem tyx_list {K : PySem.W.Frag} {H : Hp} {a : Addr} {xs : List V} (h : SqL K H a xs) : TyX K H (.ref a) (.type "list") := by
  rcases h with (h | ⟨o, h⟩) | ⟨o, _, _, h1, h2, _⟩
  · exact .base (.lst h)
  · exact .base (.frz h)
  · exact .kList h1 h2
theorem tyx_tup {K : PySem.W.Frag} {H : Hp} {a : Addr} {xs : List V} (h : SqT K H a xs) : TyX K H (.ref a) (.type "tuple") := by
  rcases h with (h | ⟨o, h⟩) | ⟨o, _, _, h1, h2, _⟩
  · exact .base (.tup h)
  · exact .fTuple h
  · exact .kTuple h1 h2
/-! ### fields -/
theorem fewl {fs : List (Str × V)} {f : Str} {v : V} {n : Nat} (h : fs.length ≤ n) : (putF f v fs).length ≤ n + 1 := by
  have q : ∀ fs : List (Str × V), (putF f v fs).length ≤ fs.length + 1 := by
    intro fs
    induction fs with
    | nil => exact Nat.le_refl _
    | cons p t ih =>
      show (if p.1 = f then (p.1, v) :: t else p :: putF f v t).length ≤ _
      by_cases e : p.1 = f
      · rw [if_pos e]; exact Nat.le_succ _
      · rw [if_neg e]; exact Nat.succ_le_succ ih
  exact Nat.le_trans (q fs) (Nat.succ_le_succ h)
/-! ### the law's start -/
theorem lr_ints {F : Hp} : ∀ ns : List Int, LR (rInt F) (ns.map V.int) ns
  | [] => trivial
  | _ :: ns => ⟨rfl, lr_ints ns⟩
theorem sta0 (H : Hp) : Sta H ([] ++ ([] : Own)) H := ⟨Same.refl H, (fun _ _ m => nomatch m), List.nodup_nil⟩
section
variable {X : Cx}
/-- sorted(d), a dict with int keys, any number of them -/
def rSortD : List V → Hp → VK → Prop := fun xs H Q => ∃ (a : Addr) (kvs : List (Key × V)) (ks : List Int), xs = [.ref a] ∧ Rd H a (.dK kvs) ∧ kvs.map (·.1) = ks.map Sum.inl ∧
    ∀ (ys : List Int) (p : Addr), ys.Perm ks → ys.Pairwise (· ≤ ·) → H p = none → Q (.ref p) (upd H p (.lst (ys.map V.int)))
theorem call_sortD (hc : X.calm = true) : CallR X (.builtin "sorted") rSortD := by
  intro pins s σ H xs us Q I r ⟨a, kvs, ks, ex, hd, hks, q⟩
  subst ex
  obtain ⟨u, eu, rx⟩ := vals1 r; subst eu; cases rx
  obtain ⟨z, lo, vs, rel, dd⟩ := dk_rd I.hok hd
  obtain ⟨ep, hat⟩ := dd.dictAt
  have hkeys : vs.map (·.1) = ks.map Sum.inl := rel.keys.symm.trans hks
  have hl : vs.length = ks.length := by simpa using congrArg List.length hkeys
  have hkl : kvs.length = ks.length := by simpa using congrArg List.length hks
  have hz : ks.length ≤ sizeLine := by rw [← hkl]; exact z
  refine Calls.call_function_entry kind_sorted plain_sorted entry_sorted
    (args_sorted1 _) ?_
  unfold Builtin.«sorted»
  refine wpAny_bind (m := checkCount "sorted" 1 1 _)
    (wpAny_pure ?_)
  refine wpAny_bind (PySem.W.kdu_collect (A := X.A.in1) (PySem.W.kdl_dict (knd := mixKind X.prog X.w) (kvs := vs) (ep := ep) lo)
    (I.ok.hd hc) hat (by rw [hl]; exact hz) fun h' tk acc hk hacc => ?_)
  have hal : acc.toList.length = ks.length := by rw [Array.length_toList, hacc.1, hl]
  have hS : IntsAre acc.toList ks := by
    refine ints_each hal fun j v e => ?_
    obtain ⟨k, x, e1, e2⟩ := hacc.2 j v (by rw [← Array.getElem?_toList]; exact e)
    have e3 : (ks.map (Sum.inl : Int → Key))[j]? = some k := by rw [← hkeys, List.getElem?_map, e1]; rfl
    rw [List.getElem?_map] at e3
    cases e4 : ks[j]? with
    | none => rw [e4] at e3; cases e3
    | some y =>
      rw [e4] at e3
      cases e3
      rcases keyIs_shape (show keyIs (Sum.inl y) v = true from e2) with ⟨i, t, ek, ev⟩ | ⟨w', t, ek, ev⟩
      · cases ek; exact ⟨y, t, rfl, ev⟩
      · cases ek
  have I1 : Inv X pins σ H { s with heap := h', toks := tk } := I.kept hk
  refine wpAny_bind (wpAny_newList ?_ (by rw [hal]; exact hz))
  have hoL : (h'.push (seqObj "list" acc.toList.toArray 0)).get? h'.objs.size = some (seqObj "list" acc.toList.toArray 0) := Heap.get?_push_size _ rfl
  show wpAny _ _ _ _ _ { s with heap := h'.push (seqObj "list" acc.toList.toArray 0), toks := tk }
  refine wpAny_bind (wpAny_holding (wpAny_call_entry slot_list_sort ⟨_, hoL, rfl⟩ entry_list_sort
    (SrtO.list_sort_ord SrtO.swo_int hoL (by rw [hal]; exact hz) (fun h2 => SrtO.ints_sortable hS h2) fun out g1 g2 => ⟨_, rfl, ?_⟩) (args_list_sort _)))
  obtain ⟨k1, k2, k3⟩ := SrtO.ints_out hS g1 g2
  obtain ⟨e', he'⟩ := sortedHeap_at (vs := acc.toList) (out := out.toArray) hoL
  have hlen : ((out.map SrtO.iv).map V.int).length ≤ sizeLine := by rw [List.length_map, k2.length_eq]; exact hz
  refine wpAny_pure ⟨_, rfl, .ref h'.objs.size, upd H h'.objs.size (.lst ((out.map SrtO.iv).map V.int)), I1.laid (t' := tk) (fun b u e => ?_) (Nat.le_refl _)
    (show ObjOk X.prog X.w _ _ _ (.lst ((out.map SrtO.iv).map V.int)) from ⟨hlen, out, e', vals_of_ints k1, he'⟩), rfl, q _ _ k2 k3 (I1.hok.fresh (Nat.le_refl _))⟩
  have hb : b < h'.objs.size := Heap.lt_size e
  rw [sortedHeap_old (Nat.ne_of_lt hb) (by rw [size_push']; exact Nat.lt_succ_of_lt hb)]
  exact Heap.get?_push_of_some _ e
end
/-- sorted ints are one list -/
theorem sorted_uniq : ∀ {xs ys : List Int}, xs.Perm ys → xs.Pairwise (· ≤ ·) → ys.Pairwise (· ≤ ·) → xs = ys
  | [], ys, h, _, _ => (List.nil_perm.mp h).symm
  | x :: xs, [], h, _, _ => absurd h.length_eq (by simp)
  | x :: xs, y :: ys, h, hx, hy => by
    have h1 := List.pairwise_cons.mp hx
    have h2 := List.pairwise_cons.mp hy
    have e : x = y := by
      have m1 : x ∈ y :: ys := h.mem_iff.mp (.head _)
      have m2 : y ∈ x :: xs := h.mem_iff.mpr (.head _)
      have l1 : y ≤ x := by
        cases m1 with
        | head => exact Int.le_refl _
        | tail _ m => exact h2.1 x m
      have l2 : x ≤ y := by
        cases m2 with
        | head => exact Int.le_refl _
        | tail _ m => exact h1.1 y m
      exact Int.le_antisymm l2 l1
    subst e
    rw [sorted_uniq (List.Perm.cons_inv h) h1.2 h2.2]
def sortI (xs : List Int) : List Int := xs.mergeSort fun a b => decide (a ≤ b)
theorem sortI_perm (xs : List Int) : (sortI xs).Perm xs := List.mergeSort_perm _ _
theorem sortI_sorted (xs : List Int) : (sortI xs).Pairwise (· ≤ ·) := by
  have h := List.pairwise_mergeSort (le := fun (a b : Int) => decide (a ≤ b)) (fun a b c h1 h2 => by simp at *; omega) (fun a b => by simp; omega) xs
  exact h.imp fun h => by simpa using h
theorem sortI_eq {xs ys : List Int} (h : ys.Perm xs) (s : ys.Pairwise (· ≤ ·)) : ys = sortI xs := sorted_uniq (h.trans (sortI_perm xs).symm) s (sortI_sorted xs)
theorem lr_map {F : Hp} : ∀ {vs : List V} {xs : List Int}, LR (rInt F) vs xs → vs = xs.map V.int
  | [], [], _ => rfl
  | _ :: _, _ :: _, h => by rw [rInt_e h.1, lr_map h.2]; rfl
  | [], _ :: _, h => h.elim
  | _ :: _, [], h => h.elim
theorem LR.dropLast {α : Type} {r : V → α → Prop} : ∀ {vs : List V} {xs : List α}, LR r vs xs → LR r vs.dropLast xs.dropLast
  | [], [], _ => trivial
  | [_], [_], _ => trivial
  | _ :: _ :: _, _ :: _ :: _, h => ⟨h.1, LR.dropLast h.2⟩
  | [], _ :: _, h => h.elim
  | _ :: _, [], h => h.elim
  | [_], _ :: _ :: _, h => h.2.elim
  | _ :: _ :: _, [_], h => h.2.elim
theorem LR.last {α : Type} {r : V → α → Prop} {vs : List V} {xs : List α} {x : α} (h : LR r vs xs) (e : xs.getLast? = some x) : ∃ v, vs[vs.length - 1]? = some v ∧ r v x := by
  rw [List.getLast?_eq_getElem?] at e
  rw [h.length]
  exact h.get e
theorem LR.reverse {α : Type} {r : V → α → Prop} : ∀ {vs : List V} {xs : List α}, LR r vs xs → LR r vs.reverse xs.reverse
  | [], [], _ => trivial
  | _ :: _, _ :: _, h => by
    rw [List.reverse_cons, List.reverse_cons]
    exact (LR.reverse h.2).snoc h.1
  | [], _ :: _, h => h.elim
  | _ :: _, [], h => h.elim
theorem LR.take {α : Type} {r : V → α → Prop} : ∀ (n : Nat) {vs : List V} {xs : List α}, LR r vs xs → LR r (vs.take n) (xs.take n)
  | 0, _, _, _ => trivial
  | _ + 1, [], [], _ => trivial
  | n + 1, _ :: _, _ :: _, h => ⟨h.1, LR.take n h.2⟩
  | _ + 1, [], _ :: _, h => h.elim
  | _ + 1, _ :: _, [], h => h.elim
theorem LR.drop {α : Type} {r : V → α → Prop} : ∀ (n : Nat) {vs : List V} {xs : List α}, LR r vs xs → LR r (vs.drop n) (xs.drop n)
  | 0, _, _, h => h
  | _ + 1, [], [], _ => trivial
  | n + 1, _ :: _, _ :: _, h => LR.drop n h.2
  | _ + 1, [], _ :: _, h => h.elim
  | _ + 1, _ :: _, [], h => h.elim
/-- slices -/
def cutL {α : Type} (xs : List α) (lo hi : Option Int) : List α := (xs.drop (HT.sIx xs.length 0 lo)).take (HT.sIx xs.length xs.length hi - HT.sIx xs.length 0 lo)
theorem LR.cut {α : Type} {r : V → α → Prop} {vs : List V} {xs : List α} (h : LR r vs xs) (lo hi : Option Int) : LR r (cutV vs lo hi) (cutL xs lo hi) := by
  unfold cutV cutL
  rw [h.length]
  exact (h.drop _).take _
theorem KR.keysI {α : Type} {r : V → α → Prop} : ∀ {ps : List (Key × V)} {qs : List (Int × α)}, KR Sum.inl r ps qs → ps.map (·.1) = (qs.map (·.1)).map Sum.inl
  | [], [], _ => rfl
  | p :: ps, q :: qs, h => by
    show p.1 :: ps.map (·.1) = Sum.inl q.1 :: (qs.map (·.1)).map Sum.inl
    rw [h.1.1, KR.keysI h.2]
  | [], _ :: _, h => h.elim
  | _ :: _, [], h => h.elim
theorem KR.keysLI {α : Type} {r : V → α → Prop} {F : Hp} : ∀ {ps : List (Key × V)} {qs : List (Int × α)}, KR Sum.inl r ps qs → LR (rInt F) (ps.map fun kv => kV kv.1) (qs.map (·.1))
  | [], [], _ => trivial
  | p :: ps, q :: qs, h => ⟨by show kV p.1 = V.int q.1; rw [h.1.1]; rfl, KR.keysLI h.2⟩
  | [], _ :: _, h => h.elim
  | _ :: _, [], h => h.elim
/-! ### keys as rows: a text first, then numbers -/
def kStr (ks : List Key) (i : Int) : Option Str := (atI ks i).bind fun k => match k with | .inr s => some s | .inl _ => none
def kInt (ks : List Key) (i : Int) : Option Int := (atI ks i).bind fun k => match k with | .inl s => some s | .inr _ => none
theorem atI_map {α β : Type} {xs : List α} {i : Int} {x : α} (f : α → β) (h : atI xs i = some x) : atI (xs.map f) i = some (f x) := by
  unfold L2.atI at h ⊢
  rw [List.length_map]
  cases q : ixN xs.length i with
  | none => rw [q] at h; cases h
  | some j =>
    rw [q] at h
    show (xs.map f)[j]? = _
    rw [List.getElem?_map, show xs[j]? = some x from h]
    rfl
theorem kStr_at {ks : List Key} {i : Int} {s : Str} (h : kStr ks i = some s) : atI (ks.map kV) i = some (V.str s) := by
  obtain ⟨k, e, h⟩ := bnd h
  cases k with
  | inl _ => cases h
  | inr z => cases h; exact atI_map kV e
theorem kInt_at {ks : List Key} {i : Int} {s : Int} (h : kInt ks i = some s) : atI (ks.map kV) i = some (V.int s) := by
  obtain ⟨k, e, h⟩ := bnd h
  cases k with
  | inr _ => cases h
  | inl z => cases h; exact atI_map kV e
/-! ### list comprehensions -/
theorem tYesI {σ : L2.St} {H : Hp} {Q : Bool → Hp → Prop} (h : Q true H) : tYes σ H Q := h
theorem ifYes {A B : Prop} (h : A) : if true = true then A else B := by rw [if_pos rfl]; exact h
def lcO {α β : Type} (f : α → Option (Option β)) : List α → Option (List β)
  | [] => some []
  | x :: t => (f x).bind fun y => (lcO f t).bind fun r => some (match y with | none => r | some b => b :: r)
theorem lcI {α β : Type} {f : α → Option (Option β)} {x : α} {t : List α} {r : List β} {C : Prop} (k : ∀ y r', f x = some y → lcO f t = some r' → r = (match y with | none => r' | some b => b :: r') → C) : lcO f (x :: t) = some r → C := fun h => by
  obtain ⟨y, e1, h⟩ := bnd (show ((f x).bind fun y => (lcO f t).bind fun r => some (match y with | none => r | some b => b :: r)) = some r from h)
  obtain ⟨r', e2, h⟩ := bnd h
  exact k y r' e1 e2 (Option.some.inj h).symm
theorem lc_map {α β : Type} (f : α → β) : ∀ xs : List α, lcO (fun x => some (some (f x))) xs = some (xs.map f)
  | [] => rfl
  | x :: t => by
    show ((lcO (fun x => some (some (f x))) t).bind fun r => some (f x :: r)) = _
    rw [lc_map f t]; rfl
theorem lc_filter {α β : Type} (c : α → Bool) (f : α → β) : ∀ xs : List α, lcO (fun x => if c x = true then some (some (f x)) else some none) xs = some ((xs.filter c).map f)
  | [] => rfl
  | x :: t => by
    show ((if c x = true then some (some (f x)) else some none).bind fun y => (lcO (fun x => if c x = true then some (some (f x)) else some none) t).bind fun r => some (match y with | none => r | some b => b :: r)) = _
    rw [lc_filter c f t]
    by_cases h : c x = true
    · rw [if_pos h, List.filter_cons, if_pos h]; rfl
    · rw [if_neg h, List.filter_cons, if_neg h]; rfl
theorem lc_rng {lo : Int} {n : Nat} {g : TG} {tt : TT} {te : TE} {vs : List Nat} {σ : L2.St} {H1 : Hp} {D : Addr} {Qd : Hp → Prop} (Pv : Nat → Hp → Prop) (h0 : Pv 0 (upd H1 D (.lst [])))
    (hs : ∀ i x H, (pyRange lo n)[i]? = some x → Pv i H → g (.int x) (wipe σ vs) H fun σ2 H2 => wipe σ2 vs = wipe σ vs ∧ tt σ2 H2 fun b H3 =>
      if b = true then te σ2 H3 fun y H4 => ∃ acc, H4 D = some (.lst acc) ∧ acc.length < sizeLine ∧ Pv (i + 1) (upd H4 D (.lst (acc ++ [y]))) else Pv (i + 1) H3) (hd : ∀ H, Pv n H → Qd H) :
    ∃ W : Nat → Nat → Hp → Prop, (∃ m, W 0 m (upd H1 D (.lst []))) ∧ ∀ i m H, W i m H →
      ((Itr lo n).stop i H ∧ Qd H) ∨ ((Itr lo n).go i H ∧ ∃ Nx : Hp → Prop, (∀ H', Nx H' → ∃ m', m' < m ∧ W (i + 1) m' H') ∧ ∀ x H', (Itr lo n).yld i H x H' → g x (wipe σ vs) H' fun σ2 H2 => wipe σ2 vs = wipe σ vs ∧ tt σ2 H2 fun b H3 =>
        if b = true then te σ2 H3 fun y H4 => ∃ acc, H4 D = some (.lst acc) ∧ acc.length < sizeLine ∧ Nx (upd H4 D (.lst (acc ++ [y]))) else Nx H3) :=
  lc_range Pv h0 (fun i H hi p => hs i _ H (pyRange_get hi) p) hd
theorem KR.getD_int {κ : Type} [DecidableEq κ] {f : κ → Key} {F : Hp} {ps : List (Key × V)} {qs : List (κ × Int)} (h : KR f (rInt F) ps qs) (inj : ∀ a b, f a = f b → a = b) (k : κ) (x : Int) : (valV ps (f k)).getD (V.int x) = V.int ((mget qs k).getD x) := by
  rcases h.find inj k with ⟨q, q2⟩ | ⟨y, v, q, q2, q3⟩
  · rw [q, q2]; rfl
  · rw [q, q2, rInt_e q3]; rfl
theorem KR.getD_bool {κ : Type} [DecidableEq κ] {f : κ → Key} {F : Hp} {ps : List (Key × V)} {qs : List (κ × Bool)} (h : KR f (rBool F) ps qs) (inj : ∀ a b, f a = f b → a = b) (k : κ) (x : Bool) : (valV ps (f k)).getD (V.bl x) = V.bl ((mget qs k).getD x) := by
  rcases h.find inj k with ⟨q, q2⟩ | ⟨y, v, q, q2, q3⟩
  · rw [q, q2]; rfl
  · rw [q, q2, rBool_e q3]; rfl
/-! ### equal dicts of plain values -/
def dictEq {κ α : Type} [DecidableEq κ] [DecidableEq α] (x y : List (κ × α)) : Bool := decide (x.length = y.length) && x.all fun p => decide (mget y p.1 = some p.2)
theorem dictEq_int {F : Hp} {f : Int → Key} (inj : ∀ a b, f a = f b → a = b) {ps qs : List (Key × V)} {x y : List (Int × Int)} (h : KR f (rInt F) ps x) (g : KR f (rInt F) qs y) (e : dictEq x y = true) :
    ps.length = qs.length ∧ ∀ p ∈ ps, valV qs p.1 = some p.2 ∧ flatB p.2 = true := by
  have e' := Bool.and_eq_true_iff.mp e
  refine ⟨by rw [h.length, g.length]; exact of_decide_eq_true e'.1, ?_⟩
  have all := List.all_eq_true.mp e'.2
  clear e e'
  induction ps generalizing x with
  | nil => exact fun _ m => nomatch m
  | cons p ps ih =>
    cases x with
    | nil => exact h.elim
    | cons q x =>
      intro p' m
      cases m with
      | head =>
        obtain ⟨v, e1, e2⟩ := g.get inj (of_decide_eq_true (all q (.head _)))
        rw [h.1.1, e1, rInt_e h.1.2, rInt_e e2]
        exact ⟨rfl, rfl⟩
      | tail _ m => exact ih h.2 (fun z hz => all z (.tail _ hz)) p' m
theorem dictEq_bool {F : Hp} {f : Int → Key} (inj : ∀ a b, f a = f b → a = b) {ps qs : List (Key × V)} {x y : List (Int × Bool)} (h : KR f (rBool F) ps x) (g : KR f (rBool F) qs y) (e : dictEq x y = true) :
    ps.length = qs.length ∧ ∀ p ∈ ps, valV qs p.1 = some p.2 ∧ flatB p.2 = true := by
  have e' := Bool.and_eq_true_iff.mp e
  refine ⟨by rw [h.length, g.length]; exact of_decide_eq_true e'.1, ?_⟩
  have all := List.all_eq_true.mp e'.2
  clear e e'
  induction ps generalizing x with
  | nil => exact fun _ m => nomatch m
  | cons p ps ih =>
    cases x with
    | nil => exact h.elim
    | cons q x =>
      intro p' m
      cases m with
      | head =>
        obtain ⟨v, e1, e2⟩ := g.get inj (of_decide_eq_true (all q (.head _)))
        rw [h.1.1, e1, rBool_e h.1.2, rBool_e e2]
        exact ⟨rfl, rfl⟩
      | tail _ m => exact ih h.2 (fun z hz => all z (.tail _ hz)) p' m
/-! ### rules that name K (within comprehensions) -/
section
variable {X : Cx} {K : PySem.W.Frag}
theorem pe_fldK (K : PySem.W.Frag) {e : Expr} {f : Str} {ta : TE} {pos : Pos} (ho : PE X e ta) (hb : attributeBase e f X.env (eval e X.env) = eval e X.env) (hK : X.K = K := by rfl) : PE X (.Attribute e f pos) (tFld K ta f) := by
  subst hK
  exact pe_fld ho hb
theorem ix_listK (K : PySem.W.Frag) (hK : X.K = K := by rfl) : IxR X (rIxL K) := by
  subst hK
  exact ix_list
theorem ix_tupK (K : PySem.W.Frag) (hK : X.K = K := by rfl) : IxR X (rIxT K) := by
  subst hK
  exact ix_tup
theorem op_eqDK (K : PySem.W.Frag) (hu : X.A.units + 64 < cLine) (hK : X.K = K := by rfl) : OpR X (compareOp .Eq) (rEqD K) := by
  subst hK
  exact op_eqD hu
theorem op_neDK (K : PySem.W.Frag) (hu : X.A.units + 64 < cLine) (hK : X.K = K := by rfl) : OpR X (compareOp .NotEq) (rNeD K) := by
  subst hK
  exact op_neD hu
theorem len_seqK (K : PySem.W.Frag) (hK : X.K = K := by rfl) : CallR X (.builtin "len") (fun xs H Q => ∃ p ys, xs = [.ref p] ∧ (SqL K H p ys ∨ SqT K H p ys) ∧ Q (.int (ys.length : Nat)) H) := by
  subst hK
  exact call_len_seq
theorem list_ofK (K : PySem.W.Frag) (hK : X.K = K := by rfl) : CallR X (.type "list") (fun xs H Q => ∃ p ys, xs = [.ref p] ∧ (SqL K H p ys ∨ SqT K H p ys) ∧ ∀ l, H l = none → Q (.ref l) (upd H l (.lst ys))) := by
  subst hK
  exact call_list_of
theorem isiK (K : PySem.W.Frag) (hK : X.K = K := by rfl) : CallR X (.builtin "isinstance") (rIsi K) := by
  subst hK
  exact call_isi
theorem pi_listK (K : PySem.W.Frag) {tg l : Expr} {tl : TE} (hl : PE X l tl) (hK : X.K = K := by rfl) : PI X tg l (iList K tl) := by
  subst hK
  exact pi_list hl
end
theorem DGet.kf {H : Hp} {a : Addr} {od : _} {kvs : List (Key × V)} {k : Key} (e : H a = some (.frz od (.dK kvs))) : DGet H a (kV k) (valV kvs k) := .inl ⟨kvs, k, .inr ⟨_, e⟩, rfl, rfl⟩
theorem DGet.tf {H : Hp} {a b : Addr} {od : _} {kvs : List (List Key × V)} {k : List Key} (e : H a = some (.frz od (.dT kvs))) (eb : H b = some (.tup (k.map kV))) : DGet H a (.ref b) (valV kvs k) := .inr ⟨kvs, k, b, .inr ⟨_, e⟩, rfl, eb, rfl⟩
theorem _root_.L2.FnOk.or {P : Program} {w : World} {K : PySem.W.Frag} {mg : Str → Option Value} {base : Heap} {CX : CXT} {k : Nat} {f : Addr} {fd : FuncData} {ps : List Str} {s1 s2 : Sp}
    (F1 : FnOk P w K mg base CX k f fd ps s1) (F2 : FnOk P w K mg base CX k f fd ps s2) : FnOk P w K mg base CX k f fd ps (fun vs H Q E => s1 vs H Q E ∨ s2 vs H Q E) :=
  ⟨fun vs H Q E h => h.elim (F1.len vs H Q E) (F2.len vs H Q E), fun A outer s H args us vs Q E hr he hb hv h => h.elim (F1.run A outer s H args us vs Q E hr he hb hv) (F2.run A outer s H args us vs Q E hr he hb hv)⟩
theorem ints_in {F : Hp} (x : Int) : ∀ {vs : List V} {m : List Int}, LR (rInt F) vs m → inV (V.int x) vs = decide (x ∈ m) ∧ vs.all flatV = true
  | [], [], _ => ⟨by simp [inV], rfl⟩
  | v :: vs, y :: m, h => by
    obtain ⟨h1, h2⟩ := ints_in x h.2
    obtain rfl := rInt_e h.1
    refine ⟨?_, by simp only [List.all_cons, h2]; rfl⟩
    show (eqV (V.int y) (V.int x) || inV (V.int x) vs) = _
    rw [h1]
    show (decide (y = x) || _) = _
    by_cases c : y = x
    · simp [c]
    · have c2 : ¬ x = y := fun e => c e.symm
      simp [c, c2]
theorem strs_in {F : Hp} (x : Str) : ∀ {vs : List V} {m : List Str}, LR (rStr F) vs m → inV (V.str x) vs = decide (x ∈ m) ∧ vs.all flatV = true
  | [], [], _ => ⟨by simp [inV], rfl⟩
  | v :: vs, y :: m, h => by
    obtain ⟨h1, h2⟩ := strs_in x h.2
    obtain rfl := rStr_e h.1
    refine ⟨?_, by simp only [List.all_cons, h2]; rfl⟩
    show (eqV (V.str y) (V.str x) || inV (V.str x) vs) = _
    rw [h1]
    show (decide (y = x) || _) = _
    by_cases c : y = x
    · simp [c]
    · have c2 : ¬ x = y := fun e => c e.symm
      simp [c, c2]
theorem op_in_seqK {X : Cx} (K : PySem.W.Frag) (hK : X.K = K := by rfl) : OpR X (compareOp .In) (rIn K false) := by
  subst hK
  exact op_in_seq
theorem op_notIn_seqK {X : Cx} (K : PySem.W.Frag) (hK : X.K = K := by rfl) : OpR X (compareOp .NotIn) (rIn K true) := by
  subst hK
  exact op_notIn_seq
theorem LR.eraseIdx {α : Type} {r : V → α → Prop} : ∀ {vs : List V} {xs : List α} (j : Nat), LR r vs xs → LR r (vs.eraseIdx j) (xs.eraseIdx j)
  | [], [], _, _ => trivial
  | _ :: _, _ :: _, 0, h => h.2
  | _ :: _, _ :: _, j + 1, h => ⟨h.1, LR.eraseIdx j h.2⟩
theorem LR.insertIdx {α : Type} {r : V → α → Prop} {v : V} {x : α} (e : r v x) : ∀ {vs : List V} {xs : List α} (j : Nat), LR r vs xs → LR r (vs.take j ++ v :: vs.drop j) (xs.take j ++ x :: xs.drop j)
  | [], [], j, _ => by simp; exact ⟨e, trivial⟩
  | _ :: _, _ :: _, 0, h => ⟨e, h⟩
  | _ :: _, _ :: _, j + 1, h => ⟨h.1, LR.insertIdx e j h.2⟩
theorem pop_ix {α : Type} {r : V → α → Prop} {vs : List V} {xs : List α} {i : Int} {j : Nat} (h : LR r vs xs) (e : ixN xs.length i = some j) : seqIndex? i vs.length = some j := by
  rw [h.length]
  exact (ixN_seq e).1
theorem lr_rg {F : Hp} (a b : Int) : LR (rInt F) (rgV a b) (pyRange a (b - a).toNat) := by
  have e : rgV a b = (pyRange a (b - a).toNat).map V.int := by
    unfold rgV pyRange
    rw [List.map_map]
    rfl
  rw [e]
  exact lr_ints _
def rgOk (a b : Int) : Bool := decide (-(2 ^ 62) ≤ a ∧ a < 2 ^ 62 ∧ -(2 ^ 62) ≤ b ∧ b < 2 ^ 62 ∧ (b - a).toNat ≤ 2 ^ 24)
theorem rgOk_t {a b : Int} (h : rgOk a b = true) : RgOk a b := by unfold rgOk at h; unfold RgOk; exact of_decide_eq_true h
def mdrop {κ α : Type} [DecidableEq κ] (xs : List (κ × α)) (k : κ) : List (κ × α) := xs.filter fun p => decide (p.1 ≠ k)
theorem KR.drop {κ ν α : Type} [DecidableEq κ] [DecidableEq ν] {f : κ → ν} {r : V → α → Prop} (inj : ∀ a b, f a = f b → a = b) (k : κ) : ∀ {ps : List (ν × V)} {qs : List (κ × α)}, KR f r ps qs → KR f r (dropK ps (f k)) (mdrop qs k)
  | [], [], _ => trivial
  | p :: ps, q :: qs, h => by
    have ih := KR.drop inj k h.2
    unfold dropK mdrop at ih ⊢
    by_cases c : q.1 = k
    · have c2 : p.1 = f k := by rw [h.1.1, c]
      rw [List.filter_cons_of_neg (by simpa using c2), List.filter_cons_of_neg (by simpa using c)]
      exact ih
    · have c2 : ¬ p.1 = f k := by rw [h.1.1]; exact fun e => c (inj _ _ e)
      rw [List.filter_cons_of_pos (by simpa using c2), List.filter_cons_of_pos (by simpa using c)]
      exact ⟨h.1, ih⟩
theorem sl_listK {X : Cx} (K : PySem.W.Frag) (hK : X.K = K := by rfl) : SlR X (rSlL K) := by
  subst hK
  exact sl_list
theorem lc_keys {d : Addr} {od : Obj} {kvs : List (Key × V)} {g : TG} {tt : TT} {te : TE} {vs : List Nat} {σ : L2.St} {H1 : Hp} {D : Addr} {Qd : Hp → Prop} (Pv : Nat → Hp → Prop) (h0 : Pv 0 (upd H1 D (.lst [])))
    (hl : ∀ i H, i ≤ kvs.length → Pv i H → H d = some (.frz od (.dK kvs)))
    (hs : ∀ i x H, (kvs.map fun kv => kV kv.1)[i]? = some x → Pv i H → g x (wipe σ vs) H fun σ2 H2 => wipe σ2 vs = wipe σ vs ∧ tt σ2 H2 fun b H3 =>
      if b = true then te σ2 H3 fun y H4 => ∃ acc, H4 D = some (.lst acc) ∧ acc.length < sizeLine ∧ Pv (i + 1) (upd H4 D (.lst (acc ++ [y]))) else Pv (i + 1) H3) (hd : ∀ H, Pv (kvs.map fun kv => kV kv.1).length H → Qd H) :
    ∃ W : Nat → Nat → Hp → Prop, (∃ m, W 0 m (upd H1 D (.lst []))) ∧ ∀ i m H, W i m H →
      ((Itk d od kvs).stop i H ∧ Qd H) ∨ ((Itk d od kvs).go i H ∧ ∃ Nx : Hp → Prop, (∀ H', Nx H' → ∃ m', m' < m ∧ W (i + 1) m' H') ∧ ∀ x H', (Itk d od kvs).yld i H x H' → g x (wipe σ vs) H' fun σ2 H2 => wipe σ2 vs = wipe σ vs ∧ tt σ2 H2 fun b H3 =>
        if b = true then te σ2 H3 fun y H4 => ∃ acc, H4 D = some (.lst acc) ∧ acc.length < sizeLine ∧ Nx (upd H4 D (.lst (acc ++ [y]))) else Nx H3) :=
  lc_it walk_keys Pv h0 hl (fun i x H H' hi p y => by
    obtain ⟨rfl, k, v, e1, rfl⟩ := y
    exact hs i _ _ (by rw [List.getElem?_map, e1]; rfl) p) (fun H p => hd H (by rw [List.length_map]; exact p))
theorem rdMap {H H' : Hp} {a : Addr} {u : HO} (f : ∀ v, H a = some v → H' a = some v) (h : Rd H a u) : Rd H' a u := h.elim (fun e => .inl (f _ e)) fun ⟨o, e⟩ => .inr ⟨o, f _ e⟩
theorem DGet.rd {H : Hp} {a : Addr} {kvs : List (Key × V)} {k : Key} (e : Rd H a (.dK kvs)) : DGet H a (kV k) (valV kvs k) := .inl ⟨kvs, k, e, rfl, rfl⟩
def maxL : List Int → Int
  | [] => 0
  | [x] => x
  | x :: y :: t => if maxL (y :: t) > x then maxL (y :: t) else x
theorem maxL_mem : ∀ {ns : List Int}, 0 < ns.length → maxL ns ∈ ns
  | [x], _ => .head _
  | x :: y :: t, _ => by
    have ih := maxL_mem (ns := y :: t) (by simp)
    unfold maxL
    by_cases c : maxL (y :: t) > x
    · rw [if_pos c]; exact .tail _ ih
    · rw [if_neg c]; exact .head _
theorem maxL_ge : ∀ {ns : List Int} {z : Int}, z ∈ ns → z ≤ maxL ns
  | [x], z, h => by
    have := List.mem_singleton.mp h
    subst this
    exact Int.le_refl _
  | x :: y :: t, z, h => by
    unfold maxL
    rcases List.mem_cons.mp h with e | h
    · subst e; split <;> omega
    · have := maxL_ge (ns := y :: t) h
      split <;> omega
theorem maxL_eq {ns : List Int} {m : Int} (h : m ∈ ns) (g : ∀ y, y ∈ ns → y ≤ m) : m = maxL ns := by
  have h1 := maxL_ge h
  have h2 := g _ (maxL_mem (List.length_pos_of_mem h))
  omega
/-! ### own parts within containers: what an item owns -/
abbrev RO (α : Type) := Hp → V → α → Own → Prop
def roF {α : Type} (r : Rp α) : RO α := fun F v x cs => cs = [] ∧ r F v x
def roM {α : Type} (r : Rp α) : RO (List α) := fun F v xs cs => ∃ a vs, v = .ref a ∧ cs = [(a, HO.lst vs)] ∧ LR (r F) vs xs
def roT2 {α β : Type} (K : PySem.W.Frag) (r : RO α) (s : RO β) : RO (α × β) := fun F v x cs => ∃ a u w c1 c2, v = .ref a ∧ SqT K F a [u, w] ∧ r F u x.1 c1 ∧ s F w x.2 c2 ∧ cs = c1 ++ c2
class MonoO {α : Type} (r : RO α) : Prop where
  mono : ∀ {F F' : Hp} {v : V} {x : α} {cs : Own}, Same F F' → r F v x cs → r F' v x cs
instance {α : Type} {r : Rp α} [m : MonoR r] : MonoO (roF r) := ⟨fun e h => ⟨h.1, m.mono e h.2⟩⟩
instance {α : Type} {r : Rp α} [m : MonoR r] : MonoO (roM r) := ⟨fun e ⟨a, vs, h1, h2, h3⟩ => ⟨a, vs, h1, h2, h3.mono e⟩⟩
instance {α β : Type} {K : PySem.W.Frag} {r : RO α} {s : RO β} [m : MonoO r] [n : MonoO s] : MonoO (roT2 K r s) :=
  ⟨fun e ⟨a, u, w, c1, c2, h1, h2, h3, h4, h5⟩ => ⟨a, u, w, c1, c2, h1, SqT.mono h2 e, m.mono e h3, n.mono e h4, h5⟩⟩
def LRO {α : Type} (r : V → α → Own → Prop) : List V → List α → Own → Prop
  | [], [], cs => cs = []
  | v :: vs, x :: xs, cs => ∃ c1 c2, cs = c1 ++ c2 ∧ r v x c1 ∧ LRO r vs xs c2
  | _, _, _ => False
def KRO {κ ν α : Type} (f : κ → ν) (r : V → α → Own → Prop) : List (ν × V) → List (κ × α) → Own → Prop
  | [], [], cs => cs = []
  | p :: ps, q :: qs, cs => ∃ c1 c2, cs = c1 ++ c2 ∧ (p.1 = f q.1 ∧ r p.2 q.2 c1) ∧ KRO f r ps qs c2
  | _, _, _ => False
/-- an item as it stands in the heap G, its frozen parts in F -/
def vw {α : Type} (ro : RO α) (G F : Hp) : V → α → Prop := fun v x => ∃ cs, ro F v x cs ∧ ∀ c ∈ cs, G c.1 = some c.2
section
variable {α κ ν : Type} {r : V → α → Own → Prop} {f : κ → ν}
theorem LRO.length : ∀ {vs : List V} {xs : List α} {cs : Own}, LRO r vs xs cs → vs.length = xs.length
  | [], [], _, _ => rfl
  | _ :: _, _ :: _, _, ⟨_, _, _, _, h⟩ => congrArg (· + 1) (LRO.length h)
  | [], _ :: _, _, h => h.elim
  | _ :: _, [], _, h => h.elim
theorem KRO.length : ∀ {vs : List (ν × V)} {xs : List (κ × α)} {cs : Own}, KRO f r vs xs cs → vs.length = xs.length
  | [], [], _, _ => rfl
  | _ :: _, _ :: _, _, ⟨_, _, _, _, h⟩ => congrArg (· + 1) (KRO.length h)
  | [], _ :: _, _, h => h.elim
  | _ :: _, [], _, h => h.elim
theorem LRO.imp {s : V → α → Own → Prop} (g : ∀ v x cs, r v x cs → s v x cs) : ∀ {vs : List V} {xs : List α} {cs : Own}, LRO r vs xs cs → LRO s vs xs cs
  | [], [], _, h => h
  | _ :: _, _ :: _, _, ⟨c1, c2, e, h1, h2⟩ => ⟨c1, c2, e, g _ _ _ h1, LRO.imp g h2⟩
  | [], _ :: _, _, h => h.elim
  | _ :: _, [], _, h => h.elim
theorem KRO.imp {s : V → α → Own → Prop} (g : ∀ v x cs, r v x cs → s v x cs) : ∀ {vs : List (ν × V)} {xs : List (κ × α)} {cs : Own}, KRO f r vs xs cs → KRO f s vs xs cs
  | [], [], _, h => h
  | _ :: _, _ :: _, _, ⟨c1, c2, e, h1, h2⟩ => ⟨c1, c2, e, ⟨h1.1, g _ _ _ h1.2⟩, KRO.imp g h2⟩
  | [], _ :: _, _, h => h.elim
  | _ :: _, [], _, h => h.elim
theorem LRO.snoc {v : V} {x : α} {c : Own} (g : r v x c) : ∀ {vs : List V} {xs : List α} {cs : Own}, LRO r vs xs cs → LRO r (vs ++ [v]) (xs ++ [x]) (cs ++ c)
  | [], [], _, h => ⟨c, [], by rw [show _ = [] from h]; simp, g, rfl⟩
  | _ :: _, _ :: _, _, ⟨c1, c2, e, h1, h2⟩ => ⟨c1, c2 ++ c, by rw [e, List.append_assoc], h1, LRO.snoc g h2⟩
  | [], _ :: _, _, h => h.elim
  | _ :: _, [], _, h => h.elim
theorem KRO.snoc {v : V} {k : κ} {x : α} {c : Own} (g : r v x c) : ∀ {vs : List (ν × V)} {xs : List (κ × α)} {cs : Own}, KRO f r vs xs cs → KRO f r (vs ++ [(f k, v)]) (xs ++ [(k, x)]) (cs ++ c)
  | [], [], _, h => ⟨c, [], by rw [show _ = [] from h]; simp, ⟨rfl, g⟩, rfl⟩
  | _ :: _, _ :: _, _, ⟨c1, c2, e, h1, h2⟩ => ⟨c1, c2 ++ c, by rw [e, List.append_assoc], h1, KRO.snoc g h2⟩
  | [], _ :: _, _, h => h.elim
  | _ :: _, [], _, h => h.elim
theorem LRO.toLR {s : V → α → Prop} : ∀ {vs : List V} {xs : List α} {cs : Own}, LRO r vs xs cs → (∀ v x c, r v x c → (∀ y ∈ c, y ∈ cs) → s v x) → LR s vs xs
  | [], [], _, _, _ => trivial
  | v :: vs, x :: xs, cs, ⟨c1, c2, e, h1, h2⟩, g => ⟨g _ _ _ h1 fun y q => by rw [e]; exact List.mem_append_left _ q, LRO.toLR h2 fun v x c q z => g v x c q fun y w => by rw [e]; exact List.mem_append_right _ (z y w)⟩
  | [], _ :: _, _, h, _ => h.elim
  | _ :: _, [], _, h, _ => h.elim
theorem KRO.toKR {s : V → α → Prop} : ∀ {vs : List (ν × V)} {xs : List (κ × α)} {cs : Own}, KRO f r vs xs cs → (∀ v x c, r v x c → (∀ y ∈ c, y ∈ cs) → s v x) → KR f s vs xs
  | [], [], _, _, _ => trivial
  | v :: vs, x :: xs, cs, ⟨c1, c2, e, h1, h2⟩, g => ⟨⟨h1.1, g _ _ _ h1.2 fun y q => by rw [e]; exact List.mem_append_left _ q⟩, KRO.toKR h2 fun v x c q z => g v x c q fun y w => by rw [e]; exact List.mem_append_right _ (z y w)⟩
  | [], _ :: _, _, h, _ => h.elim
  | _ :: _, [], _, h, _ => h.elim
/-- an item taken out, and put back -/
theorem LRO.open_ : ∀ {vs : List V} {xs : List α} {cs : Own} {i : Nat} {x : α}, LRO r vs xs cs → xs[i]? = some x →
    ∃ v c0 c1 c2, vs[i]? = some v ∧ r v x c1 ∧ cs = c0 ++ (c1 ++ c2) ∧ ∀ x' c1', r v x' c1' → LRO r vs (xs.set i x') (c0 ++ (c1' ++ c2))
  | [], [], _, _, _, _, e => by simp at e
  | v :: vs, y :: xs, cs, 0, x, ⟨c1, c2, e, h1, h2⟩, ex => by
    simp at ex
    subst ex
    exact ⟨v, [], c1, c2, rfl, h1, by simpa using e, fun x' c1' q => ⟨c1', c2, by simp, q, h2⟩⟩
  | v :: vs, y :: xs, cs, i + 1, x, ⟨d1, d2, e, h1, h2⟩, ex => by
    obtain ⟨u, c0, c1, c2, q1, q2, q3, q4⟩ := LRO.open_ (i := i) (x := x) h2 (by simpa using ex)
    refine ⟨u, d1 ++ c0, c1, c2, by simpa using q1, q2, by rw [e, q3, List.append_assoc], fun x' c1' q => ⟨d1, c0 ++ (c1' ++ c2), by rw [List.append_assoc], h1, q4 x' c1' q⟩⟩
  | [], _ :: _, _, _, _, h, _ => h.elim
  | _ :: _, [], _, _, _, h, _ => h.elim
def mupd1 [DecidableEq κ] : List (κ × α) → κ → α → List (κ × α)
  | [], _, _ => []
  | q :: qs, k, x => if q.1 = k then (q.1, x) :: qs else q :: mupd1 qs k x
theorem KRO.find [DecidableEq κ] [DecidableEq ν] (inj : ∀ a b, f a = f b → a = b) (k : κ) : ∀ {ps : List (ν × V)} {qs : List (κ × α)} {cs : Own}, KRO f r ps qs cs →
    (mget qs k = none ∧ valV ps (f k) = none) ∨ ∃ x v c0 c1 c2, mget qs k = some x ∧ valV ps (f k) = some v ∧ r v x c1 ∧ cs = c0 ++ (c1 ++ c2) ∧
      ∀ x' c1', r v x' c1' → KRO f r ps (mupd1 qs k x') (c0 ++ (c1' ++ c2))
  | [], [], _, _ => .inl ⟨rfl, rfl⟩
  | p :: ps, q :: qs, cs, ⟨d1, d2, e, h1, h2⟩ => by
    have mc : mget (q :: qs) k = if q.1 = k then some q.2 else mget qs k := by
      unfold mget
      by_cases c : q.1 = k
      · rw [List.find?_cons_of_pos (by simpa using c), if_pos c]; rfl
      · rw [List.find?_cons_of_neg (by simpa using c), if_neg c]
    by_cases c : q.1 = k
    · refine .inr ⟨q.2, p.2, [], d1, d2, by rw [mc, if_pos c], valV_pos (by rw [h1.1, c]), h1.2, by simpa using e, fun x' c1' g => ?_⟩
      unfold mupd1
      rw [if_pos c]
      exact ⟨c1', d2, by simp, ⟨h1.1, g⟩, h2⟩
    · have e2 : ¬ p.1 = f k := fun z => c (inj _ _ (h1.1.symm.trans z))
      rw [mc, if_neg c, valV_neg e2]
      rcases KRO.find inj k h2 with h | ⟨x, v, c0, c1, c2, q1, q2, q3, q4, q5⟩
      · exact .inl h
      · refine .inr ⟨x, v, d1 ++ c0, c1, c2, q1, q2, q3, by rw [e, q4, List.append_assoc], fun x' c1' g => ?_⟩
        unfold mupd1
        rw [if_neg c]
        exact ⟨d1, _, by rw [List.append_assoc], h1, q5 x' c1' g⟩
  | [], _ :: _, _, h => h.elim
  | _ :: _, [], _, h => h.elim
/-- d.setdefault(k, []).append(y) -/
def mapp {β : Type} [DecidableEq κ] (m : List (κ × List β)) (k : κ) (y : β) : List (κ × List β) := match mget m k with
  | some x => mupd1 m k (x ++ [y])
  | none => m ++ [(k, [y])]
end
theorem LRO.mono {α : Type} {r : RO α} [m : MonoO r] {F F' : Hp} {vs : List V} {xs : List α} {cs : Own} (h : LRO (r F) vs xs cs) (e : Same F F') : LRO (r F') vs xs cs := h.imp fun _ _ _ q => m.mono e q
theorem KRO.mono {κ ν α : Type} {f : κ → ν} {r : RO α} [m : MonoO r] {F F' : Hp} {vs : List (ν × V)} {xs : List (κ × α)} {cs : Own} (h : KRO f (r F) vs xs cs) (e : Same F F') : KRO f (r F') vs xs cs := h.imp fun _ _ _ q => m.mono e q
theorem LRO.view {α : Type} {r : RO α} {G F : Hp} {vs : List V} {xs : List α} {cs : Own} (h : LRO (r F) vs xs cs) (g : ∀ c ∈ cs, G c.1 = some c.2) : LR (vw r G F) vs xs := h.toLR fun _ _ c q z => ⟨c, q, fun y w => g y (z y w)⟩
theorem KRO.view {κ ν α : Type} {f : κ → ν} {r : RO α} {G F : Hp} {vs : List (ν × V)} {xs : List (κ × α)} {cs : Own} (h : KRO f (r F) vs xs cs) (g : ∀ c ∈ cs, G c.1 = some c.2) : KR f (vw r G F) vs xs := h.toKR fun _ _ c q z => ⟨c, q, fun y w => g y (z y w)⟩
theorem vw_mono {α : Type} {r : RO α} [m : MonoO r] {G G' F F' : Hp} (eg : Same G G') (ef : Same F F') {v : V} {x : α} (h : vw r G F v x) : vw r G' F' v x := by
  obtain ⟨cs, h1, h2⟩ := h
  exact ⟨cs, m.mono ef h1, fun c q => eg _ _ (h2 c q)⟩
theorem LR.vmono {α : Type} {r : RO α} [MonoO r] {G G' F F' : Hp} {vs : List V} {xs : List α} (h : LR (vw r G F) vs xs) (eg : Same G G') (ef : Same F F') : LR (vw r G' F') vs xs := h.imp fun _ _ q => vw_mono eg ef q
theorem KR.vmono {κ ν α : Type} {f : κ → ν} {r : RO α} [MonoO r] {G G' F F' : Hp} {vs : List (ν × V)} {xs : List (κ × α)} (h : KR f (vw r G F) vs xs) (eg : Same G G') (ef : Same F F') : KR f (vw r G' F') vs xs := h.imp fun _ _ q => vw_mono eg ef q
theorem vw_F {α : Type} {r : Rp α} {G F : Hp} {v : V} {x : α} (h : vw (roF r) G F v x) : r F v x := by obtain ⟨_, h, _⟩ := h; exact h.2
theorem vw_M {α : Type} {K : PySem.W.Frag} {r : Rp α} {G F : Hp} {v : V} {xs : List α} (h : vw (roM r) G F v xs) : ∃ a vs, v = .ref a ∧ SqL K G a vs ∧ LR (r F) vs xs := by
  obtain ⟨_, ⟨a, vs, h1, rfl, h3⟩, g⟩ := h
  exact ⟨a, vs, h1, SqL.of (g _ (.head _)), h3⟩
theorem vw_T2 {α β : Type} {K : PySem.W.Frag} {r : RO α} {s : RO β} {G F : Hp} {v : V} {x : α × β} (h : vw (roT2 K r s) G F v x) : ∃ a u w, v = .ref a ∧ SqT K F a [u, w] ∧ vw r G F u x.1 ∧ vw s G F w x.2 := by
  obtain ⟨_, ⟨a, u, w, c1, c2, h1, h2, h3, h4, rfl⟩, g⟩ := h
  exact ⟨a, u, w, h1, h2, ⟨c1, h3, fun c q => g c (List.mem_append_left _ q)⟩, ⟨c2, h4, fun c q => g c (List.mem_append_right _ q)⟩⟩
/-- frozen: the own parts belong to the frozen heap -/
class FrzO {α : Type} (ro : RO α) (r : Rp α) : Prop where
  frz : ∀ {F : Hp} {v : V} {x : α}, vw ro F F v x → r F v x
instance {α : Type} {r : Rp α} : FrzO (roF r) r := ⟨fun h => vw_F h⟩
instance {α : Type} {K : PySem.W.Frag} {r : Rp α} : FrzO (roM r) (rLst K r) := ⟨fun h => by
  obtain ⟨a, vs, h1, h2, h3⟩ := vw_M (K := K) h
  exact ⟨a, vs, h1, h2, h3⟩⟩
instance {α β : Type} {K : PySem.W.Frag} {ro : RO α} {so : RO β} {r : Rp α} {s : Rp β} [m : FrzO ro r] [n : FrzO so s] : FrzO (roT2 K ro so) (rT2 K r s) := ⟨fun h => by
  obtain ⟨a, u, w, h1, h2, h3, h4⟩ := vw_T2 h
  exact ⟨a, u, w, h1, h2, m.frz h3, n.frz h4⟩⟩
theorem LRO.frz {α : Type} {ro : RO α} {r : Rp α} [m : FrzO ro r] [MonoO ro] {F F' : Hp} {vs : List V} {xs : List α} {cs : Own} (h : LRO (ro F) vs xs cs) (e : Same F F') (g : ∀ c ∈ cs, F' c.1 = some c.2) : LR (r F') vs xs :=
  ((h.mono e).view g).imp fun _ _ q => m.frz q
theorem KRO.frz {κ ν α : Type} {f : κ → ν} {ro : RO α} {r : Rp α} [m : FrzO ro r] [MonoO ro] {F F' : Hp} {vs : List (ν × V)} {xs : List (κ × α)} {cs : Own} (h : KRO f (ro F) vs xs cs) (e : Same F F') (g : ∀ c ∈ cs, F' c.1 = some c.2) : KR f (r F') vs xs :=
  ((h.mono e).view g).imp fun _ _ q => m.frz q
section
variable {F : Hp} {cs ds R : Own} {H : Hp}
theorem Sta.dropL (S : Sta F (cs ++ ds) H) : Sta F ds H := ⟨S.sub, fun a o m => S.own a o (List.mem_append_right _ m), by
  have h := S.nd
  rw [List.map_append] at h
  exact (List.nodup_append.mp h).2.1⟩
theorem Sta.takeL (S : Sta F (cs ++ ds) H) : Sta F cs H := ⟨S.sub, fun a o m => S.own a o (List.mem_append_left _ m), by
  have h := S.nd
  rw [List.map_append] at h
  exact (List.nodup_append.mp h).1⟩
theorem Sta.selfO (S : Sta F cs H) : ∀ c ∈ cs, ov F cs c.1 = some c.2 := fun c q => ov_mem S.nd (show (c.1, c.2) ∈ cs from q)
theorem ov_none : ∀ {cs : Own} {b : Addr}, F b = none → b ∉ cs.map (·.1) → ov F cs b = none
  | [], _, h, _ => h
  | (a, o) :: cs, b, h, n => by
    have n' : ¬ b = a ∧ b ∉ cs.map (·.1) := by simpa using n
    show upd (ov F cs) a o b = none
    rw [upd_ne n'.1]
    exact ov_none h n'.2
/-- cells are frozen all at once -/
theorem Sta.frzL (S : Sta F (cs ++ ds) H) : ∃ F', Same F F' ∧ Sta F' ds H ∧ ∀ c ∈ cs, F' c.1 = some c.2 := by
  have nd := S.nd
  rw [List.map_append] at nd
  obtain ⟨n1, n2, n3⟩ := List.nodup_append.mp nd
  refine ⟨ov F cs, S.takeL.ovS, ⟨S.takeL.bor (Same.refl _) fun _ q => q, fun a o m => ⟨(S.own a o (List.mem_append_right _ m)).1, ov_none (S.own a o (List.mem_append_right _ m)).2 fun q => n3 a q a (mem_fst m) rfl⟩, n2⟩, S.takeL.selfO⟩
def fl : List Own → Own → Own
  | [], R => R
  | s :: ss, R => s ++ fl ss R
theorem fl_eq : ∀ (ss : List Own) (R : Own), fl ss R = ss.flatten ++ R
  | [], _ => rfl
  | s :: ss, R => by
    show s ++ fl ss R = _
    rw [fl_eq ss R, List.flatten_cons, List.append_assoc]
theorem pw_pick {α : Type} {p : α → α → Prop} (sym : ∀ a b, p a b → p b a) {xs : List α} (hx : xs.Pairwise p) : ∀ {is : List Nat} {ys : List α}, is.Nodup → is.map (xs[·]?) = ys.map some → ys.Pairwise p
  | [], [], _, _ => List.Pairwise.nil
  | [], _ :: _, _, e => by simp at e
  | _ :: _, [], _, e => by simp at e
  | i :: is, y :: ys, hi, e => by
    have hi' := List.nodup_cons.mp hi
    simp at e
    obtain ⟨e1, e2⟩ := e
    refine List.Pairwise.cons (fun z hz => ?_) (pw_pick sym hx hi'.2 (by simpa using e2))
    have m2 : some z ∈ is.map (xs[·]?) := by
      rw [show is.map (xs[·]?) = ys.map some by simpa using e2]
      exact List.mem_map.mpr ⟨z, hz, rfl⟩
    obtain ⟨j, hj, ej⟩ := List.mem_map.mp m2
    obtain ⟨l1, q1⟩ := List.getElem?_eq_some_iff.mp e1
    obtain ⟨l2, q2⟩ := List.getElem?_eq_some_iff.mp (show xs[j]? = some z from ej)
    have ne : i ≠ j := fun h => hi'.1 (h ▸ hj)
    subst q1 q2
    rcases Nat.lt_or_gt_of_ne ne with h | h
    · exact List.pairwise_iff_getElem.mp hx i j l1 l2 h
    · exact sym _ _ (List.pairwise_iff_getElem.mp hx j i l2 l1 h)
/-- segments of cells, in another sequence, some left out -/
theorem Sta.pickS {segs segs' : List Own} (is : List Nat) (hi : is.Nodup) (e : is.map (segs[·]?) = segs'.map some) (S : Sta F (fl segs R) H) : Sta F (fl segs' R) H := by
  have sub : ∀ s ∈ segs', s ∈ segs := fun s m => by
    have m2 : some s ∈ is.map (segs[·]?) := by
      rw [e]
      exact List.mem_map.mpr ⟨s, m, rfl⟩
    obtain ⟨j, _, ej⟩ := List.mem_map.mp m2
    exact List.mem_of_getElem? ej
  have nd := S.nd
  rw [fl_eq, List.map_append] at nd
  obtain ⟨n1, n2, n3⟩ := List.nodup_append.mp nd
  have n1' : ((segs.map fun s => s.map (·.1)).flatten).Nodup := by
    rw [← List.map_flatten] ; exact n1
  have pw := List.pairwise_flatten.mp n1'
  have msub : ∀ c, c ∈ segs'.flatten → c ∈ segs.flatten := fun c m => by
    obtain ⟨s, hs, hc⟩ := List.mem_flatten.mp m
    exact List.mem_flatten.mpr ⟨s, sub s hs, hc⟩
  refine S.sel ?_ fun c m => ?_
  · rw [fl_eq, List.map_append]
    refine List.nodup_append.mpr ⟨?_, n2, fun x hx y hy => n3 x ?_ y hy⟩
    · rw [List.map_flatten]
      refine List.pairwise_flatten.mpr ⟨fun l hl => ?_, ?_⟩
      · obtain ⟨s, hs, rfl⟩ := List.mem_map.mp hl
        exact pw.1 _ (List.mem_map.mpr ⟨s, sub s hs, rfl⟩)
      · have h2 := pw.2
        rw [List.pairwise_map] at h2 ⊢
        exact pw_pick (fun a b h x hx y hy => (h y hy x hx).symm) h2 hi e
    · obtain ⟨c, hc, ec⟩ := List.mem_map.mp hx
      exact List.mem_map.mpr ⟨c, msub c hc, ec⟩
  · rw [fl_eq] at m ⊢
    rcases List.mem_append.mp m with q | q
    · exact List.mem_append_left _ (msub c q)
    · exact List.mem_append_right _ q
theorem Sta.jn {a b ys : Own} (S : Sta F (cs ++ (a ++ (b ++ ys))) H) : Sta F (cs ++ ((a ++ b) ++ ys)) H := by
  rw [List.append_assoc]
  exact S
theorem Sta.op3 {a b c ys : Own} (S : Sta F (cs ++ ((a ++ (b ++ c)) ++ ys)) H) : Sta F (b ++ (cs ++ ((a ++ c) ++ ys))) H := by
  rw [List.append_assoc, List.append_assoc] at S
  rw [List.append_assoc]
  exact Sta.pickS (segs := [cs, a, b, c]) (segs' := [b, cs, a, c]) (R := ys) [2, 0, 1, 3] (by decide) rfl S
theorem Sta.cl3 {a b c ys : Own} (S : Sta F (b ++ (cs ++ ((a ++ c) ++ ys))) H) : Sta F (cs ++ ((a ++ (b ++ c)) ++ ys)) H := by
  rw [List.append_assoc] at S
  rw [List.append_assoc, List.append_assoc]
  exact Sta.pickS (segs := [b, cs, a, c]) (segs' := [cs, a, b, c]) (R := ys) [1, 2, 0, 3] (by decide) rfl S
theorem Sta.memO (S : Sta F cs H) (m : ∀ c ∈ R, c ∈ cs) : ∀ c ∈ R, ov F cs c.1 = some c.2 := fun c q => ov_mem S.nd (show (c.1, c.2) ∈ cs from m c q)
end
/-! ### None or not -/
def optE {α β : Type} (m : Option α) (a : β) (f : α → β) : β := match m with
  | none => a
  | some y => f y
theorem optI {α β : Type} {m : Option α} {a : β} {f : α → β} {r : β} {C : Prop} (h0 : m = none → a = r → C) (h1 : ∀ y, m = some y → f y = r → C) : optE m a f = r → C := by
  intro h
  cases m with
  | none => exact h0 rfl h
  | some y => exact h1 y rfl h
theorem rOpt_none {α : Type} {r : Rp α} {F : Hp} {v : V} {x : Option α} (e : x = none) (h : rOpt r F v x) : v = .non := by subst e; exact h
/-- never None -/
class NoNon {α : Type} (r : Rp α) : Prop where
  nn : ∀ {F : Hp} {x : α}, ¬ r F .non x
instance : NoNon rInt := ⟨fun h => by cases rInt_e h⟩
instance : NoNon rBool := ⟨fun h => by cases rBool_e h⟩
instance : NoNon rStr := ⟨fun h => by cases rStr_e h⟩
instance {α : Type} {K : PySem.W.Frag} {r : Rp α} : NoNon (rLst K r) := ⟨fun ⟨_, _, h, _⟩ => by cases h⟩
instance {α : Type} {K : PySem.W.Frag} {r : Rp α} : NoNon (rVT K r) := ⟨fun ⟨_, _, h, _⟩ => by cases h⟩
instance {α β : Type} {K : PySem.W.Frag} {r : Rp α} {s : Rp β} : NoNon (rT2 K r s) := ⟨fun ⟨_, _, _, h, _⟩ => by cases h⟩
instance {α β γ : Type} {K : PySem.W.Frag} {r : Rp α} {s : Rp β} {t : Rp γ} : NoNon (rT3 K r s t) := ⟨fun ⟨_, _, _, _, h, _⟩ => by cases h⟩
instance : NoNon rKT := ⟨fun ⟨_, h, _⟩ => by cases h⟩
theorem opt_isN {α : Type} {r : Rp α} [n : NoNon r] {F : Hp} {v : V} {x : Option α} (h : rOpt r F v x) : decide (v = .non) = x.isNone := by
  cases x with
  | none => obtain rfl := (show v = .non from h); rfl
  | some y => exact decide_eq_false fun e => n.nn (F := F) (x := y) (e ▸ h)
theorem putK_new {ν : Type} [DecidableEq ν] {ps : List (ν × V)} {k : ν} {v : V} (h : valV ps k = none) : putK ps k v = ps ++ [(k, v)] := by
  unfold putK
  rw [if_neg]
  intro c
  obtain ⟨p, hp, e⟩ := List.any_eq_true.mp c
  unfold valV at h
  rw [Option.map_eq_none_iff, List.find?_eq_none] at h
  exact h p hp e
theorem getL {κ ν α : Type} [DecidableEq κ] [DecidableEq ν] {f : κ → ν} {K : PySem.W.Frag} {r : Rp α} {G F : Hp} {kvs : List (ν × V)} {m : List (κ × List α)} (h : KR f (vw (roM r) G F) kvs m) (inj : ∀ a b, f a = f b → a = b) (k : κ) {l : Addr} (hl : SqL K G l []) :
    ∃ a vs, (valV kvs (f k)).getD (V.ref l) = V.ref a ∧ SqL K G a vs ∧ LR (r F) vs ((mget m k).getD []) := by
  rcases h.find inj k with ⟨q, q2⟩ | ⟨x, v, q, q2, q3⟩
  · rw [q, q2]; exact ⟨l, [], rfl, hl, trivial⟩
  · rw [q, q2]
    obtain ⟨a, vs, rfl, h1, h2⟩ := vw_M (K := K) q3
    exact ⟨a, vs, rfl, h1, h2⟩
theorem getLF {κ ν α : Type} [DecidableEq κ] [DecidableEq ν] {f : κ → ν} {K : PySem.W.Frag} {r : Rp α} {F : Hp} {kvs : List (ν × V)} {m : List (κ × List α)} (h : KR f (rLst K r F) kvs m) (inj : ∀ a b, f a = f b → a = b) (k : κ) {l : Addr} (hl : SqL K F l []) :
    ∃ a vs, (valV kvs (f k)).getD (V.ref l) = V.ref a ∧ SqL K F a vs ∧ LR (r F) vs ((mget m k).getD []) := by
  rcases h.find inj k with ⟨q, q2⟩ | ⟨x, v, q, q2, q3⟩
  · rw [q, q2]; exact ⟨l, [], rfl, hl, trivial⟩
  · rw [q, q2]
    obtain ⟨a, vs, rfl, h1, h2⟩ := q3
    exact ⟨a, vs, rfl, h1, h2⟩
/-! ### a list or a tuple: (is it a list, the items) -/
def SqB (K : PySem.W.Frag) (b : Bool) (H : Hp) (a : Addr) (xs : List V) : Prop := if b = true then SqL K H a xs else SqT K H a xs
theorem SqB.mono {K : PySem.W.Frag} {b : Bool} {H H' : Hp} {a : Addr} {xs : List V} (h : SqB K b H a xs) (e : Same H H') : SqB K b H' a xs := by
  cases b with
  | true => exact SqL.mono (show SqL K H a xs from h) e
  | false => exact SqT.mono (show SqT K H a xs from h) e
theorem SqB.or {K : PySem.W.Frag} {b : Bool} {H : Hp} {a : Addr} {xs : List V} (h : SqB K b H a xs) : SqL K H a xs ∨ SqT K H a xs := by
  cases b with
  | true => exact .inl h
  | false => exact .inr h
def rSeq {α : Type} (K : PySem.W.Frag) (r : Rp α) : Rp (Bool × List α) := fun F v x => ∃ a vs, v = .ref a ∧ SqB K x.1 F a vs ∧ LR (r F) vs x.2
instance {α : Type} {K : PySem.W.Frag} {r : Rp α} [MonoR r] : MonoR (rSeq K r) := ⟨fun e ⟨a, vs, h1, h2, h3⟩ => ⟨a, vs, h1, SqB.mono h2 e, h3.mono e⟩⟩
instance {α : Type} {K : PySem.W.Frag} {r : Rp α} : NoNon (rSeq K r) := ⟨fun ⟨_, _, h, _⟩ => by cases h⟩
def roSeq {α : Type} (K : PySem.W.Frag) (r : Rp α) : RO (Bool × List α) := fun F v x cs => ∃ a vs, v = .ref a ∧ (if x.1 = true then cs = [(a, HO.lst vs)] else cs = [] ∧ SqT K F a vs) ∧ LR (r F) vs x.2
instance {α : Type} {K : PySem.W.Frag} {r : Rp α} [MonoR r] : MonoO (roSeq K r) := ⟨fun {F F' v x cs} e ⟨a, vs, h1, h2, h3⟩ => ⟨a, vs, h1, by
  by_cases c : x.1 = true
  · rw [if_pos c] at h2 ⊢; exact h2
  · rw [if_neg c] at h2 ⊢; exact ⟨h2.1, SqT.mono h2.2 e⟩, h3.mono e⟩⟩
theorem vw_S {α : Type} {K : PySem.W.Frag} {r : Rp α} {G F : Hp} (s : Same F G) {v : V} {x : Bool × List α} (h : vw (roSeq K r) G F v x) : ∃ a vs, v = .ref a ∧ SqB K x.1 G a vs ∧ LR (r F) vs x.2 := by
  obtain ⟨cs, ⟨a, vs, h1, h2, h3⟩, g⟩ := h
  refine ⟨a, vs, h1, ?_, h3⟩
  unfold SqB
  by_cases c : x.1 = true
  · rw [if_pos c] at h2 ⊢
    subst h2
    exact SqL.of (g _ (.head _))
  · rw [if_neg c] at h2 ⊢
    exact SqT.mono h2.2 s
instance {α : Type} {K : PySem.W.Frag} {r : Rp α} : FrzO (roSeq K r) (rSeq K r) := ⟨fun h => by
  obtain ⟨a, vs, h1, h2, h3⟩ := vw_S (Same.refl _) h
  exact ⟨a, vs, h1, h2, h3⟩⟩
theorem roSeq_l {α : Type} {K : PySem.W.Frag} {r : Rp α} {F : Hp} {a : Addr} {vs : List V} {xs : List α} (h : LR (r F) vs xs) : roSeq K r F (.ref a) (true, xs) [(a, HO.lst vs)] := ⟨a, vs, rfl, rfl, h⟩
theorem roSeq_t {α : Type} {K : PySem.W.Frag} {r : Rp α} {F : Hp} {a : Addr} {vs : List V} {xs : List α} (hs : SqT K F a vs) (h : LR (r F) vs xs) : roSeq K r F (.ref a) (false, xs) [] := ⟨a, vs, rfl, ⟨rfl, hs⟩, h⟩
instance {α : Type} [DecidableEq α] [DOk α] {K : PySem.W.Frag} {r : Rp α} [D : DatR K r] : DatR K (rSeq K r) := ⟨fun x => if x.1 = true then .list (x.2.map D.d) else .tuple (x.2.map D.d), fun {H v x} ⟨a, vs, h1, h2, h3⟩ => by
    obtain ⟨b, xs⟩ := x
    subst h1
    cases b with
    | true => exact .lst h2 (dpAll h3)
    | false => exact .tup h2 (dpAll h3),
  fun x y => by
    obtain ⟨b, xs⟩ := x
    obtain ⟨c, ys⟩ := y
    cases b <;> cases c
    · exact (eqvAll xs ys).trans (by simp)
    · exact (decide_eq_false fun e => by cases e).symm
    · exact (decide_eq_false fun e => by cases e).symm
    · exact (eqvAll xs ys).trans (by simp),
  fun x h => by
    obtain ⟨b, xs⟩ := x
    have h' : DOk.ok xs = true := (Bool.and_eq_true_iff.mp h).2
    cases b with
    | true => exact shpAll xs h'
    | false => exact shpAll xs h', D.n + 1, fun x => by
    obtain ⟨b, xs⟩ := x
    have := depAll (D := D) xs
    cases b <;> simp only [PyData.depth] <;> simp <;> simp only [PyData.depth] <;> omega⟩
def ItB (K : PySem.W.Frag) (b : Bool) (a : Addr) : It := if b = true then Itl K a else Itt K a
def iSeq (K : PySem.W.Frag) (tl : TE) : TI := fun σ H R => tl σ H fun x H1 => ∃ a b, x = .ref a ∧ (∃ xs, SqB K b H1 a xs) ∧ R (ItB K b a) H1
theorem pi_seq {X : Cx} {tg l : Expr} {tl : TE} (hl : PE X l tl) : PI X tg l (iSeq X.K tl) := by
  refine ⟨fun pins s σ H R I h => ?_⟩
  refine thn (hl.run pins s σ H _ I h) fun v s1 ⟨x, H1, I1, r1, q1⟩ => ?_
  obtain ⟨a, b, e, ⟨xs, hq⟩, q⟩ := q1
  subst e
  cases r1
  cases b with
  | true =>
    obtain ⟨its, rv, p, hz⟩ := I1.list (show SqL X.K H1 a xs from hq)
    refine wpAny_pyIter_list p.isList ?_
    refine ⟨s1.heap.objs.size, [s1.heap.objs.size], _, _, H1, rfl, I1.kept (t' := s1.toks) fun b o e => Heap.get?_push_of_some _ e, turn_list a _, ⟨_, Heap.get?_push_size _ rfl, rfl, rfl⟩, fun b hb => ?_, q⟩
    have e : b = s1.heap.objs.size := by simpa using hb
    subst e
    exact I1.fpOk (Nat.le_refl _) (I1.hok.fresh (Nat.le_refl _))
  | false =>
    obtain ⟨its, rv, p, hz⟩ := I1.tuple (show SqT X.K H1 a xs from hq)
    refine wpAny_pyIter_tuple (show s1.heap.IsTuple a its.toArray from p) ?_
    refine ⟨s1.heap.objs.size, [s1.heap.objs.size], _, _, H1, rfl, I1.kept (t' := s1.toks) fun b o e => Heap.get?_push_of_some _ e, turn_tuple a _, ⟨_, Heap.get?_push_size _ rfl, rfl, rfl⟩, fun b hb => ?_, q⟩
    have e : b = s1.heap.objs.size := by simpa using hb
    subst e
    exact I1.fpOk (Nat.le_refl _) (I1.hok.fresh (Nat.le_refl _))
theorem pi_seqK {X : Cx} (K : PySem.W.Frag) {tg l : Expr} {tl : TE} (hl : PE X l tl) (hK : X.K = K := by rfl) : PI X tg l (iSeq K tl) := by
  subst hK
  exact pi_seq hl
theorem for_seq {K : PySem.W.Frag} {b : Bool} {a : Addr} {xs : List V} {g : TG} {tb : TS} {D : Ends} {σ : L2.St} {H : Hp} (Pv : Nat → L2.St → Hp → Prop) (h0 : Pv 0 σ H) (hl : ∀ i σ H, i ≤ xs.length → Pv i σ H → SqB K b H a xs)
    (hs : ∀ i x σ H, xs[i]? = some x → Pv i σ H → g x σ H fun σ2 H2 => tb { D with nx := Pv (i + 1), ct := Pv (i + 1), bk := D.nx } σ2 H2) (hd : ∀ σ H, Pv xs.length σ H → D.nx σ H) :
    ∃ W : Nat → Nat → L2.St → Hp → Prop, (∃ m, W 0 m σ H) ∧ ∀ i m σ H, W i m σ H →
      ((ItB K b a).stop i H ∧ D.nx σ H) ∨ ((ItB K b a).go i H ∧ ∃ N : L2.St → Hp → Prop, (∀ σ' H', N σ' H' → ∃ m', m' < m ∧ W (i + 1) m' σ' H') ∧ ∀ x H', (ItB K b a).yld i H x H' → g x σ H' fun σ2 H2 => tb { D with nx := N, ct := N, bk := D.nx } σ2 H2) := by
  cases b with
  | true => exact for_list (K := K) (a := a) (xs := xs) Pv h0 hl hs hd
  | false => exact for_tup (K := K) (a := a) (xs := xs) Pv h0 hl hs hd
theorem lc_seq {K : PySem.W.Frag} {b : Bool} {a : Addr} {xs : List V} {g : TG} {tt : TT} {te : TE} {vs : List Nat} {σ : L2.St} {H1 : Hp} {D : Addr} {Qd : Hp → Prop} (Pv : Nat → Hp → Prop) (h0 : Pv 0 (upd H1 D (.lst []))) (hl : ∀ i H, i ≤ xs.length → Pv i H → SqB K b H a xs)
    (hs : ∀ i x H, xs[i]? = some x → Pv i H → g x (wipe σ vs) H fun σ2 H2 => wipe σ2 vs = wipe σ vs ∧ tt σ2 H2 fun b H3 =>
      if b = true then te σ2 H3 fun y H4 => ∃ acc, H4 D = some (.lst acc) ∧ acc.length < sizeLine ∧ Pv (i + 1) (upd H4 D (.lst (acc ++ [y]))) else Pv (i + 1) H3) (hd : ∀ H, Pv xs.length H → Qd H) :
    ∃ W : Nat → Nat → Hp → Prop, (∃ m, W 0 m (upd H1 D (.lst []))) ∧ ∀ i m H, W i m H →
      ((ItB K b a).stop i H ∧ Qd H) ∨ ((ItB K b a).go i H ∧ ∃ Nx : Hp → Prop, (∀ H', Nx H' → ∃ m', m' < m ∧ W (i + 1) m' H') ∧ ∀ x H', (ItB K b a).yld i H x H' → g x (wipe σ vs) H' fun σ2 H2 => wipe σ2 vs = wipe σ vs ∧ tt σ2 H2 fun b H3 =>
        if b = true then te σ2 H3 fun y H4 => ∃ acc, H4 D = some (.lst acc) ∧ acc.length < sizeLine ∧ Nx (upd H4 D (.lst (acc ++ [y]))) else Nx H3) := by
  cases b with
  | true => exact lc_list (K := K) (a := a) (xs := xs) Pv h0 hl hs hd
  | false => exact lc_tup (K := K) (a := a) (xs := xs) Pv h0 hl hs hd
/-- a subscript of either -/
def rIxB (K : PySem.W.Frag) : R2 := fun x y H Q => ∃ b, if b = true then rIxL K x y H Q else rIxT K x y H Q
theorem ix_seqK {X : Cx} (K : PySem.W.Frag) (hK : X.K = K := by rfl) : IxR X (rIxB K) := by
  subst hK
  intro value slice pins s σ H x y v u Q I rx ry h hs
  obtain ⟨b, h⟩ := h
  cases b with
  | true => exact ix_list value slice pins s σ H x y v u Q I rx ry h hs
  | false => exact ix_tup value slice pins s σ H x y v u Q I rx ry h hs
theorem rIxB_mk {K : PySem.W.Frag} {b : Bool} {x : V} {i : Int} {H : Hp} {Q : VK} {p : Addr} {xs : List V} {y : V} (e : x = .ref p) (h : SqB K b H p xs) (a : atI xs i = some y) (q : Q y H) : rIxB K x (V.int i) H Q := by
  cases b with
  | true => exact ⟨true, p, xs, i, y, e, rfl, h, a, q⟩
  | false => exact ⟨false, p, xs, i, y, e, rfl, h, a, q⟩
/-- type tests of either -/
theorem tyx_seq {K : PySem.W.Frag} {b : Bool} {H : Hp} {a : Addr} {xs : List V} (h : SqB K b H a xs) : TyX K H (.ref a) (.type (if b = true then "list" else "tuple")) := by
  cases b with
  | true => exact tyx_list h
  | false => exact tyx_tup h
theorem kit_seqL {K : PySem.W.Frag} (b : Bool) : PySem.W.kitOne K (.type (if b = true then "list" else "tuple")) (.type "list") = some b := by
  cases b with
  | true => exact kit_ty (by decide +kernel)
  | false => exact kit_ty (by decide +kernel)
theorem kit_seqT {K : PySem.W.Frag} (b : Bool) : PySem.W.kitOne K (.type (if b = true then "list" else "tuple")) (.type "tuple") = some (!b) := by
  cases b with
  | true => exact kit_ty (by decide +kernel)
  | false => exact kit_ty (by decide +kernel)
/-! ### an item taken out of a list -/
def msetI {α : Type} (xs : List α) (i : Int) (x : α) : List α := match ixN xs.length i with
  | some j => xs.set j x
  | none => xs
theorem LRO.openI {α : Type} {r : V → α → Own → Prop} {vs : List V} {xs : List α} {cs : Own} {i : Int} {x : α} (h : LRO r vs xs cs) (e : atI xs i = some x) :
    ∃ v c0 c1 c2, atI vs i = some v ∧ r v x c1 ∧ cs = c0 ++ (c1 ++ c2) ∧ ∀ x' c1', r v x' c1' → LRO r vs (msetI xs i x') (c0 ++ (c1' ++ c2)) := by
  unfold L2.atI at e
  cases q : ixN xs.length i with
  | none => rw [q] at e; cases e
  | some j =>
    rw [q] at e
    obtain ⟨v, c0, c1, c2, q1, q2, q3, q4⟩ := LRO.open_ (i := j) (x := x) h e
    refine ⟨v, c0, c1, c2, ?_, q2, q3, fun x' c1' g => ?_⟩
    · unfold L2.atI
      rw [h.length, q]
      exact q1
    · unfold msetI
      rw [q]
      exact q4 x' c1' g
theorem Sta.ovS0 {F0 F : Hp} {cs R : Own} {H : Hp} (S : Sta F cs H) (e : Same F0 F) (m : ∀ c ∈ R, c ∈ cs) : Same F0 (ov F0 R) := fun _ _ h => ov_F h fun a u q => e.free (S.own a u (m _ q)).2
theorem sqB_l {K : PySem.W.Frag} {H : Hp} {a : Addr} {xs : List V} (h : SqL K H a xs) : SqB K true H a xs := h
theorem sqB_t {K : PySem.W.Frag} {H : Hp} {a : Addr} {xs : List V} (h : SqT K H a xs) : SqB K false H a xs := h
theorem tyx_opt {α : Type} {r : Rp α} {T : String} {K : PySem.W.Frag} {F H : Hp} {v : V} {m : Option α} (h : rOpt r F v m) (hT : ∀ {x : α}, r F v x → TyX K H v (.type T)) : TyX K H v (.type (if m.isSome = true then T else "NoneType")) := by
  cases m with
  | none => obtain rfl := (show v = .non from h); exact .base .non
  | some y => exact hT (x := y) h
theorem kit_optY {K : PySem.W.Frag} {T c : String} {s : Bool} (h1 : kitB T c = some true) (h2 : kitB "NoneType" c = some false) : PySem.W.kitOne K (.type (if s = true then T else "NoneType")) (.type c) = some s := by
  cases s with
  | true => exact kit_ty h1
  | false => exact kit_ty h2
theorem kit_optN {K : PySem.W.Frag} {T c : String} {s : Bool} (h1 : kitB T c = some false) (h2 : kitB "NoneType" c = some false) : PySem.W.kitOne K (.type (if s = true then T else "NoneType")) (.type c) = some false := by
  cases s with
  | true => exact kit_ty h1
  | false => exact kit_ty h2
/-- None, or something with own parts -/
def roO {α : Type} (r : RO α) : RO (Option α) := fun F v x cs => match x with
  | none => v = .non ∧ cs = []
  | some y => r F v y cs
instance {α : Type} {r : RO α} [m : MonoO r] : MonoO (roO r) := ⟨fun {F F' v x cs} e h => by
  cases x with
  | none => exact h
  | some y => exact m.mono (x := y) e h⟩
theorem roO_none {α : Type} {r : RO α} {F : Hp} {v : V} {x : Option α} {cs : Own} (e : x = none) (h : roO r F v x cs) : v = .non ∧ cs = [] := by subst e; exact h
theorem roO_some {α : Type} {r : RO α} {F : Hp} {v : V} {x : Option α} {y : α} {cs : Own} (e : x = some y) (h : roO r F v x cs) : r F v y cs := by subst e; exact h
theorem vwO_none {α : Type} {r : RO α} {G F : Hp} {v : V} {x : Option α} (e : x = none) (h : vw (roO r) G F v x) : v = .non := by
  obtain ⟨cs, h, _⟩ := h
  exact (roO_none e h).1
theorem vwO_some {α : Type} {r : RO α} {G F : Hp} {v : V} {x : Option α} {y : α} (e : x = some y) (h : vw (roO r) G F v x) : vw r G F v y := by
  obtain ⟨cs, h, g⟩ := h
  exact ⟨cs, roO_some e h, g⟩
instance {α : Type} {ro : RO α} {r : Rp α} [m : FrzO ro r] : FrzO (roO ro) (rOpt r) := ⟨fun {F v x} h => by
  cases x with
  | none => exact vwO_none rfl h
  | some y => exact m.frz (x := y) (vwO_some rfl h)⟩
class NoNonO {α : Type} (r : RO α) : Prop where
  nn : ∀ {F : Hp} {x : α} {cs : Own}, ¬ r F .non x cs
instance {α : Type} {r : Rp α} : NoNonO (roM r) := ⟨fun ⟨_, _, h, _⟩ => by cases h⟩
theorem optO_isN {α : Type} {r : RO α} [n : NoNonO r] {F : Hp} {v : V} {x : Option α} {cs : Own} (h : roO r F v x cs) : decide (v = .non) = x.isNone := by
  cases x with
  | none => obtain rfl := (show v = .non from h.1); rfl
  | some y => exact decide_eq_false fun e => n.nn (F := F) (x := y) (cs := cs) (e ▸ h)
theorem optV_isN {α : Type} {r : RO α} [n : NoNonO r] {G F : Hp} {v : V} {x : Option α} (h : vw (roO r) G F v x) : decide (v = .non) = x.isNone := by
  obtain ⟨cs, h, _⟩ := h
  exact optO_isN h
theorem tyx_optV {α : Type} {r : RO α} {T : String} {K : PySem.W.Frag} {G F H : Hp} {v : V} {m : Option α} (h : vw (roO r) G F v m) (hT : ∀ {x : α}, vw r G F v x → TyX K H v (.type T)) : TyX K H v (.type (if m.isSome = true then T else "NoneType")) := by
  cases m with
  | none => obtain rfl := vwO_none rfl h; exact .base .non
  | some y => exact hT (x := y) (vwO_some rfl h)
theorem vwO_of {α : Type} {r : RO α} {G F : Hp} {v : V} {x : Option α} {cs : Own} (h : roO r F v x cs) (g : ∀ c ∈ cs, G c.1 = some c.2) : vw (roO r) G F v x := ⟨cs, h, g⟩
theorem LR.insI {α : Type} {r : V → α → Prop} {v : V} {x : α} (e : r v x) {vs : List V} {xs : List α} (j : Nat) (h : LR r vs xs) : LR r (vs.take j ++ [v] ++ vs.drop j) (xs.take j ++ [x] ++ xs.drop j) := by
  rw [List.append_assoc, List.append_assoc]
  exact LR.insertIdx e j h
theorem optE_some {α β : Type} {y : α} {a : β} {f : α → β} : optE (some y) a f = f y := rfl
theorem optE_none {α β : Type} {a : β} {f : α → β} : optE (none : Option α) a f = a := rfl
end G

namespace G
open PySem PySem.Spec PyProof.Rows L2

/-! ### set(list of ints) with its walk; sorted(set(list)) -/
abbrev obS (w : World) : Obj := { cls := .type "set", dict := none, data := .set #[] 0 (.fresh 0 0 (!w.params.followText "set-order")) }
section
variable {P : Program} {w : World} {A : Around} {E : Value → Shared → Prop} {s : Shared}
theorem intsLen {vs : List Value} {ns : List Int} (h : IntsAre vs ns) : vs.length = ns.length := IntsAre.length h
theorem itemAt {items : Array Value} {ns : List Int} (sz : items.size = ns.length) (hit : IntsAre items.toList ns) {i : Nat} {v : Value} (hv : items[i]? = some v) : ∃ k t, ns[i]? = some k ∧ v = .int k t := by
  have lt : i < ns.length := sz ▸ (Array.getElem?_eq_some_iff.mp hv).1
  obtain ⟨t, e⟩ := PyProof.Rows.IntsAre.int_at hit i v ((Array.getElem?_toList).trans hv)
  exact ⟨ns[i], t, List.getElem?_eq_getElem lt, by rw [e, List.getD_eq_getElem?_getD, List.getElem?_eq_getElem lt]; rfl⟩
/-- the loop of set.update over a list -/
theorem updList {A : Around} {l : Addr} {items : Array Value} {ns : List Int} {R : Result → Shared → Prop} (hd : A.in1.handled = none) (hl : s.heap.IsList l items) (sz : items.size = ns.length) (hit : IntsAre items.toList ns) (hb : ns.length + 1 < scanBound)
    (k : ∀ h' tk c, SetR w h' s.heap.objs.size (fun j => decide (j ∈ ns)) c → c ≤ ns.length → (∀ b o, s.heap.get? b = some o → h'.get? b = some o) → R (.ok (.ret .none)) { s with heap := h', toks := tk }) :
    codeAny (model P w) A (.builtin "set.update.loop" ⟨[.ref s.heap.objs.size, .ref (s.heap.push (obS w)).objs.size], []⟩) R
      { s with heap := (s.heap.push (obS w)).push { cls := .type "list_iterator", data := .fields #[.ref l, .int 0 0] } } := by
  obtain ⟨ol, hol, -⟩ := id hl
  have lS : l < s.heap.objs.size := Heap.lt_size hol
  have z1 : (s.heap.push (obS w)).objs.size = s.heap.objs.size + 1 := Heap.size_push ..
  have n1 : l ≠ (s.heap.push (obS w)).objs.size := by rw [z1]; exact Nat.ne_of_lt (Nat.lt_succ_of_lt lS)
  have n2 : s.heap.objs.size ∉ [(s.heap.push (obS w)).objs.size, l] := by
    rw [z1]; intro q
    rcases List.mem_cons.mp q with q | q
    · exact Nat.ne_of_lt (Nat.lt_succ_self _) q
    · exact Nat.ne_of_gt lS (List.mem_singleton.mp q)
  have l1 : (s.heap.push (obS w)).IsList l items := hl.push _
  refine set_update_ints ((Walks.list hd _ l n1 items).toS) s.heap.objs.size n2 ns sz hb (fun i v hv => itemAt sz hit hv) (items.size - 0) 0 _ (by omega) (Nat.zero_le _)
    ⟨⟨_, Heap.get?_push_size _ rfl, rfl, rfl⟩, l1.push _⟩ ⟨0, Nat.le_refl 0, setR_new_at (Heap.get?_push_of_some _ (Heap.get?_push_size _ rfl))⟩ ?_
  rintro ⟨h', g2, d', tk', os'⟩ c' hm hc' hS'
  obtain rfl : g2 = s.gens := hm.gens
  obtain rfl : d' = s.drawn := hm.drawn
  obtain rfl : os' = s.os := hm.os
  refine k h' tk' c' hS' (sz ▸ hc') fun b o e => ?_
  have b0 : b < s.heap.objs.size := Heap.lt_size e
  exact hm.heap b o (fun q => by
    rcases List.mem_cons.mp q with q | q
    · exact Nat.ne_of_lt b0 q
    · rw [z1] at q; exact Nat.ne_of_lt (Nat.lt_succ_of_lt b0) (List.mem_singleton.mp q)) (Heap.get?_push_of_some _ (Heap.get?_push_of_some _ e))
set_option maxRecDepth 100000 in
theorem setOfList {l : Addr} {items : Array Value} (ns : List Int) {Q : Value → Shared → Prop} (hh : A.handled = none) (hl : s.heap.IsList l items) (hit : IntsAre items.toList ns) (hb : ns.length + 1 < scanBound)
    (k : ∀ h' tk c, SetR w h' s.heap.objs.size (fun j => decide (j ∈ ns)) c → c ≤ ns.length → (∀ b o, s.heap.get? b = some o → h'.get? b = some o) → Q (.ref s.heap.objs.size) { s with heap := h', toks := tk }) :
    wpAny (model P w) A (call (.type "set") [.ref l]) Q E s := by
  have sz : items.size = ns.length := (Array.length_toList (xs := items)).symm.trans (intsLen hit)
  obtain ⟨cm, tm, mro⟩ := F.called_set.mro
  have mk := F.called_set.made
  have su := F.called_set.sub
  refine wpAny_call (codeAny_of_tree ?_)
  show wpAny _ _ (callAny (.type "set") _) _ _ _
  refine wpAny_pure ⟨Code.quiet_builtin _ (by decide +kernel), codeAny_builtin F.entry_type_call ?_⟩
  rw [Around.under_plain (weight_type_call_type "set" [.ref l] []) rfl]
  have nt := F.called_set.notType
  have cc := F.called_set.canCreate
  have ct := F.typeCall_set_1 (.ref l)
  repeat (any_goals (first | assumption | wp_step))
  refine codeAny_mono (code_set_led1 (.ref l) (E := E) (Q₁ := fun o s₁ => o = .ref s.heap.objs.size ∧ s₁ = { s with heap := s.heap.push (obS w) }) ⟨rfl, rfl⟩) fun r s₁ hr => ?_
  cases r with
  | error e => exact hr
  | ok fl =>
  obtain ⟨obj, rfl⟩ : ∃ obj, fl = .ret obj := by
    cases fl <;> first | exact ⟨_, rfl⟩ | exact hr.elim
  obtain ⟨rfl, rfl⟩ := hr
  have gS : (s.heap.push (obS w)).get? s.heap.objs.size = some (obS w) := Heap.get?_push_size _ rfl
  have tS : Shared.TypeIs { s with heap := s.heap.push (obS w) } (.ref s.heap.objs.size) "set" := ⟨_, gS, rfl⟩
  have il := F.called_set.init.lookup
  have ib := F.called_set.init.bind (.ref s.heap.objs.size)
  repeat (any_goals (first | assumption | wp_step))
  refine codeAny_mono (codeAny_call_builtin (R := wants (fun r s₂ => r = .none ∧ ∃ h' tk c, s₂ = { s with heap := h', toks := tk } ∧ SetR w h' s.heap.objs.size (fun j => decide (j ∈ ns)) c ∧ c ≤ ns.length ∧ ∀ b o, s.heap.get? b = some o → h'.get? b = some o) E)
    F.called_set.init.plain F.entry_set_init (check_set_init_1 tS ?_)) fun r₂ s₂ hr₂ => ?_
  · obtain ⟨⟨oc, od, oda, osl⟩, hol, hcl, nl, hdl⟩ := id hl
    simp only at hcl hdl
    subst hcl hdl
    have hol' : (s.heap.push (obS w)).get? l = some { cls := .type "list", dict := od, data := .seq items nl, slots := osl } := Heap.get?_push_of_some _ hol
    have s1 := F.sub_list_set
    have s2 := F.sub_list_frozenset
    have ne : (Value.type "list" == Value.type "dict") = false := by decide
    have hl1 : (s.heap.push (obS w)).IsList l items := ⟨_, hol', rfl, nl, rfl⟩
    unfold Builtin.«set.__init__» noKeywords Builtin.Frozenset.updateFrom
    generalize hPI : pyIter = PI
    wp_walk
    subst hPI
    refine wpAny_pyIter_list hl1 (wpAny_bind (wpAny_runValue ?_))
    have hd : A.in1.in1.in1.handled = none := by simp [hh]
    refine updList hd hl sz hit hb fun h' tk c hS hc hk => ?_
    show wpAny _ _ _ _ _ _
    refine wpAny_pure ?_
    show wpAny _ _ (ret Value.none) _ _ _
    exact wpAny_pure ⟨rfl, h', tk, c, rfl, hS, hc, hk⟩
  · cases r₂ with
    | error e => exact hr₂
    | ok f2 =>
    obtain ⟨v2, rfl⟩ : ∃ v, f2 = .ret v := by
      cases f2 <;> first | exact ⟨_, rfl⟩ | exact hr₂.elim
    obtain ⟨rfl, h', tk, c, rfl, hS, hc, hk⟩ := hr₂
    repeat (any_goals (first | assumption | wp_step))
    exact k h' tk c hS hc hk
/-- sorted(set(e)), e a list of fewer than 64 ints -/
def ddup : List Int → List Int
  | [] => []
  | x :: t => if x ∈ t then ddup t else x :: ddup t
theorem mem_ddup {x : Int} : ∀ {ns : List Int}, x ∈ ddup ns ↔ x ∈ ns
  | [] => Iff.rfl
  | y :: t => by
    unfold ddup
    by_cases c : y ∈ t
    · rw [if_pos c, mem_ddup (ns := t), List.mem_cons]
      exact ⟨.inr, fun h => h.elim (fun e => e ▸ c) id⟩
    · rw [if_neg c, List.mem_cons, List.mem_cons, mem_ddup (ns := t)]
theorem nodup_ddup : ∀ ns : List Int, (ddup ns).Nodup
  | [] => .nil
  | y :: t => by
    unfold ddup
    by_cases c : y ∈ t
    · rw [if_pos c]; exact nodup_ddup t
    · rw [if_neg c]; exact List.nodup_cons.mpr ⟨fun h => c (mem_ddup.mp h), nodup_ddup t⟩
def mset (ns : List Int) : List Int := sortI (ddup ns)
theorem mem_mset {x : Int} {ns : List Int} : x ∈ mset ns ↔ x ∈ ns := (sortI_perm _).mem_iff.trans mem_ddup
theorem mset_strict (ns : List Int) : (mset ns).Pairwise (· < ·) := by
  have nd : (mset ns).Nodup := (sortI_perm _).nodup_iff.mpr (nodup_ddup ns)
  exact (List.Pairwise.and (sortI_sorted (ddup ns)) nd).imp fun {a b} h => by have := h.1; have := h.2; omega
theorem mset_eq {ns ms : List Int} (h : ms.Pairwise (· < ·)) (m : ∀ k : Int, k ∈ ms ↔ k ∈ ns) : ms = mset ns :=
  sorted_uniq ((List.perm_ext_iff_of_nodup (h.imp fun {a b} q => by omega) ((mset_strict ns).imp fun {a b} q => by omega)).mpr fun k => (m k).trans mem_mset.symm) (h.imp fun {a b} q => by omega) ((mset_strict ns).imp fun {a b} q => by omega)
def tSortSet (K : PySem.W.Frag) (ta : TE) : TE := fun σ H Q => ta σ H fun x H1 => ∃ (l : Addr) (ns : List Int), x = .ref l ∧ SqL K H1 l (ns.map V.int) ∧ ns.length < 64 ∧
  ∀ (ms : List Int) (p : Addr), ms.Pairwise (· < ·) → (∀ k : Int, k ∈ ms ↔ k ∈ ns) → H1 p = none → Q (.ref p) (upd H1 p (.lst (ms.map V.int)))
theorem pe_sortSet {X : Cx} {a : Expr} {ta : TE} {p p2 q pos : Pos} (hg : Gl X "sorted") (hm : X.mg "sorted" = none) (hg2 : Gl X "set") (hm2 : X.mg "set" = none) (ha : PE X a ta) (hc : X.calm = true := by rfl)
    (na : starEach [a] X.env = (false, eval a X.env) :: starEach [] X.env := by rfl) : PE X (.Call (.Name "sorted" p) [.Call (.Name "set" p2) [a] [] q] [] pos) (tSortSet X.K ta) := by
  refine ⟨fun pins s σ H Q I h => ?_⟩
  refine Call_ (ld_blt I hg hm (show bootBuiltins "sorted" = some (.builtin "sorted") by decide +kernel) ?_)
  refine PyProof.Rows.callWith_builtin1 (PyProof.Rows.args_cons (Call_ (ld_blt I hg2 hm2 boot_set ?_)) rfl) rfl rfl
  refine PyProof.Rows.callWith_type1 (PyProof.Rows.args_cons (thn (ha.run pins s σ H _ I h) fun v s1 ⟨x, H1, I1, rx, q1⟩ => PyProof.Rows.args_nil ?_) na) na rfl
  obtain ⟨l, ns, rfl, hq, h64, k⟩ := q1
  cases rx
  obtain ⟨its, rv, pl, -⟩ := I1.list hq
  refine setOfList ns (I1.ok.hd hc) pl.isList (by simpa using RZ.intsAre_vals rv) (by unfold scanBound; omega) fun h' tk c hS hcn hk => PyProof.Rows.args_nil ?_
  have I2 : Inv X pins σ H1 { s1 with heap := h', toks := tk } := I1.kept (t' := tk) hk
  have hS2 : SetR X.w ({ s1 with heap := h', toks := tk } : Shared).heap s1.heap.objs.size (fun j => decide (j ∈ ns)) c := hS
  generalize ({ s1 with heap := h', toks := tk } : Shared) = s2 at I2 hS2 ⊢
  refine sorted_set hS2 (I2.ok.hd hc) (by omega) fun s' p out cc ms k1 g o hp hgt hi hs hm hl => ?_
  have hn : H1 p = none := I2.hok.fresh hp
  have J : Inv X pins σ (upd H1 p (.lst (ms.map V.int))) { s2 with heap := s'.heap, gens := s'.gens, drawn := s'.drawn, toks := s'.toks } :=
    I2.call (ch := []) (Un.laid k1 hp hn) (I2.hok.laid k1 hp ⟨by rw [List.length_map, hl, sizeLine_eq]; omega, out.toList, cc, vals_of_ints hi, hgt⟩) (by rw [g]; exact I2.bare) (fun _ z => nomatch z)
  have e : s' = { s2 with heap := s'.heap, gens := s'.gens, drawn := s'.drawn, toks := s'.toks } := by
    cases s'; cases s2; cases o; rfl
  rw [e]
  exact ⟨.ref p, _, J, rfl, k ms p hs (fun j => by simpa using hm j) hn⟩
def tSortSetQ (K : PySem.W.Frag) (ta : TE) : TE := fun σ H Q => ta σ H fun x H1 => ∃ (l : Addr) (b : Bool) (ns : List Int), x = .ref l ∧ SqB K b H1 l (ns.map V.int) ∧ ns.length < 64 ∧
  ∀ (ms : List Int) (p : Addr), ms.Pairwise (· < ·) → (∀ k : Int, k ∈ ms ↔ k ∈ ns) → H1 p = none → Q (.ref p) (upd H1 p (.lst (ms.map V.int)))
theorem setOfSeq {X : Cx} {pins : List (Addr × Obj)} {σ : L2.St} {H : Hp} {s : Shared} {A : Around} {E : Value → Shared → Prop} {l : Addr} {b : Bool} (ns : List Int) {Q : Value → Shared → Prop} (hh : A.handled = none) (I : Inv X pins σ H s) (hq : SqB X.K b H l (ns.map V.int)) (hb : ns.length + 1 < scanBound)
    (k : ∀ h' tk c, SetR X.w h' s.heap.objs.size (fun j => decide (j ∈ ns)) c → c ≤ ns.length → (∀ b o, s.heap.get? b = some o → h'.get? b = some o) → Q (.ref s.heap.objs.size) { s with heap := h', toks := tk }) :
    wpAny (model X.prog X.w) A (call (.type "set") [.ref l]) Q E s := by
  cases b with
  | true =>
    obtain ⟨its, rv, pl, -⟩ := I.list (show SqL X.K H l _ from hq)
    exact setOfList ns hh pl.isList (by simpa using RZ.intsAre_vals rv) hb k
  | false =>
    obtain ⟨its, rv, p, -⟩ := I.tuple (show SqT X.K H l _ from hq)
    exact call_set_tupI ns hh (show s.heap.IsTuple l its.toArray from p) (by simpa using RZ.intsAre_vals rv) hb k
theorem pe_sortSetQ {X : Cx} {a : Expr} {ta : TE} {p p2 q pos : Pos} (hg : Gl X "sorted") (hm : X.mg "sorted" = none) (hg2 : Gl X "set") (hm2 : X.mg "set" = none) (ha : PE X a ta) (hc : X.calm = true := by rfl)
    (na : starEach [a] X.env = (false, eval a X.env) :: starEach [] X.env := by rfl) : PE X (.Call (.Name "sorted" p) [.Call (.Name "set" p2) [a] [] q] [] pos) (tSortSetQ X.K ta) := by
  refine ⟨fun pins s σ H Q I h => ?_⟩
  refine Call_ (ld_blt I hg hm (show bootBuiltins "sorted" = some (.builtin "sorted") by decide +kernel) ?_)
  refine PyProof.Rows.callWith_builtin1 (PyProof.Rows.args_cons (Call_ (ld_blt I hg2 hm2 boot_set ?_)) rfl) rfl rfl
  refine PyProof.Rows.callWith_type1 (PyProof.Rows.args_cons (thn (ha.run pins s σ H _ I h) fun v s1 ⟨x, H1, I1, rx, q1⟩ => PyProof.Rows.args_nil ?_) na) na rfl
  obtain ⟨l, b, ns, rfl, hq, h64, k⟩ := q1
  cases rx
  refine setOfSeq ns (I1.ok.hd hc) I1 hq (by unfold scanBound; omega) fun h' tk c hS hcn hk => PyProof.Rows.args_nil ?_
  have I2 : Inv X pins σ H1 { s1 with heap := h', toks := tk } := I1.kept (t' := tk) hk
  have hS2 : SetR X.w ({ s1 with heap := h', toks := tk } : Shared).heap s1.heap.objs.size (fun j => decide (j ∈ ns)) c := hS
  generalize ({ s1 with heap := h', toks := tk } : Shared) = s2 at I2 hS2 ⊢
  refine sorted_set hS2 (I2.ok.hd hc) (by omega) fun s' p out cc ms k1 g o hp hgt hi hs hm hl => ?_
  have hn : H1 p = none := I2.hok.fresh hp
  have J : Inv X pins σ (upd H1 p (.lst (ms.map V.int))) { s2 with heap := s'.heap, gens := s'.gens, drawn := s'.drawn, toks := s'.toks } :=
    I2.call (ch := []) (Un.laid k1 hp hn) (I2.hok.laid k1 hp ⟨by rw [List.length_map, hl, sizeLine_eq]; omega, out.toList, cc, vals_of_ints hi, hgt⟩) (by rw [g]; exact I2.bare) (fun _ z => nomatch z)
  have e : s' = { s2 with heap := s'.heap, gens := s'.gens, drawn := s'.drawn, toks := s'.toks } := by
    cases s'; cases s2; cases o; rfl
  rw [e]
  exact ⟨.ref p, _, J, rfl, k ms p hs (fun j => by simpa using hm j) hn⟩
end

end G

namespace G
open PySem PySem.Spec PyProof.Rows L2

structure M_Pusher where
  clauses : (List (List Int))
  places : (List (Int × (List Int)))
  starts : (List Int)
  empty : Bool

def m_law_seed_l1 : List Int → Int → Option Int
  | [], st1 => some st1
  | x24 :: t, st1 =>
    m_law_seed_l1 t ((((st1 * (69621 : Int)) + (x24 % (2147483647 : Int))) + (7 : Int)) % (2147483647 : Int))
def m_law_seed (x_script0 : (List Int)) : Option Int :=
  (m_law_seed_l1 x_script0 (1 : Int)).bind fun st1 =>
  some st1

def m_law_take (x_script0 : (List Int)) (x_source0 : (List Int)) (x_size0 : Int) : Option (Int × (List Int)) :=
  (((atI x_source0 (0 : Int)).bind fun y10 =>
      if (decide (y10 = (0 : Int))) = true then ((atI x_source0 (1 : Int)).bind fun y16 =>
      some (decide (y16 < (x_script0.length : Int)))) else (some false)).bind fun b8 =>
    if b8 = true then
      ((atI x_source0 (1 : Int)).bind fun y24 =>
      (atI x_script0 y24).bind fun y29 =>
      (ixN x_source0.length (0 : Int)).bind fun j34 =>
      (atI (x_source0.set j34 (if y29 < 0 then -y29 else y29)) (1 : Int)).bind fun y38 =>
      (ixN (x_source0.set j34 (if y29 < 0 then -y29 else y29)).length (1 : Int)).bind fun j43 =>
      some ((x_source0.set j34 (if y29 < 0 then -y29 else y29)).set j43 (y38 + (1 : Int))))
    else
      (some x_source0)).bind fun y6 =>
  (atI y6 (0 : Int)).bind fun y49 =>
  if (decide (y49 > (0 : Int))) = true then
    ((atI y6 (0 : Int)).bind fun y57 =>
    (grd (divOk x_size0)).bind fun _ =>
    (atI y6 (0 : Int)).bind fun y65 =>
    (grd (divOk x_size0)).bind fun _ =>
    (ixN y6.length (0 : Int)).bind fun j71 =>
    some ((y57 % x_size0), (y6.set j71 (y65 / x_size0))))
  else
    ((atI y6 (2 : Int)).bind fun y77 =>
    (ixN y6.length (2 : Int)).bind fun j82 =>
    (atI (y6.set j82 (((y77 * (48271 : Int)) + (12345 : Int)) % (2147483647 : Int))) (2 : Int)).bind fun y86 =>
    (grd (divOk x_size0)).bind fun _ =>
    some (((y86 / (1009 : Int)) % x_size0), (y6.set j82 (((y77 * (48271 : Int)) + (12345 : Int)) % (2147483647 : Int)))))

def m_law_letters (x_script0 : (List Int)) (x_source0 : (List Int)) : Option ((List Int) × (List Int)) :=
  (m_law_take x_script0 x_source0 (6 : Int)).bind fun y3 =>
  ((m_law_take x_script0 y3.2 (8 : Int)).bind fun y19 =>
    if (decide (y19.1 = (5 : Int))) = true then
      (some ((((2 : Int) + y3.1) + (12 : Int)), y19.2))
    else
      (some (((2 : Int) + y3.1), y19.2))).bind fun y17 =>
  (m_law_take x_script0 y17.2 (4 : Int)).bind fun y31 =>
  if (decide (y31.1 = (3 : Int))) = true then
    ((grd (rngOk y17.1)).bind fun _ =>
    (grd (decide ((pyRange 0 y17.1.toNat).length < 16777216))).bind fun _ =>
    some (((pyRange 0 y17.1.toNat).map fun x48 => ((999999 : Int) - ((2 : Int) * x48))), y31.2))
  else
    (if (decide (y31.1 = (2 : Int))) = true then
      ((grd (rngOk y17.1)).bind fun _ =>
      (grd (decide ((pyRange 0 y17.1.toNat).length < 16777216))).bind fun _ =>
      some (((pyRange 0 y17.1.toNat).map fun x77 => ((7 : Int) + ((11 : Int) * x77))), y31.2))
    else
      ((grd (rngOk y17.1)).bind fun _ =>
      (grd (decide ((pyRange 0 y17.1.toNat).length < 16777216))).bind fun _ =>
      some (((pyRange 0 y17.1.toNat).map fun x103 => ((1 : Int) + x103)), y31.2)))

def m_law_chain_l1 (x_script0 : (List Int)) : List Int → ((List Int) × (List Int)) → Option ((List Int) × (List Int))
  | [], st1 => some st1
  | x40 :: t, st1 =>
    (m_law_take x_script0 st1.2 (2 : Int)).bind fun y45 =>
    if (decide (y45.1 = (1 : Int))) = true then
      ((grd (decide (st1.1.length < 16777216))).bind fun _ =>
      m_law_chain_l1 x_script0 t ((st1.1 ++ [((0 : Int) - x40)]), y45.2))
    else
      ((grd (decide (st1.1.length < 16777216))).bind fun _ =>
      m_law_chain_l1 x_script0 t ((st1.1 ++ [x40]), y45.2))
def m_law_chain_l2 (st1 : ((List Int) × (List Int))) : List Int → (List (List Int)) → Option (List (List Int))
  | [], st2 => some st2
  | x97 :: t, st2 =>
    (atI st1.1 x97).bind fun y99 =>
    (atI st1.1 (x97 + (1 : Int))).bind fun y104 =>
    (grd (decide (st2.length < 16777216))).bind fun _ =>
    m_law_chain_l2 st1 t (st2 ++ [([((0 : Int) - y99), y104] : (List Int))])
def m_law_chain (x_script0 : (List Int)) (x_source0 : (List Int)) (x_letters0 : (List Int)) : Option ((List (List Int)) × (List Int)) :=
  (m_law_chain_l1 x_script0 x_letters0 (([] : (List Int)), x_source0)).bind fun st1 =>
  (grd (rngOk ((st1.1.length : Int) - (1 : Int)))).bind fun _ =>
  (m_law_chain_l2 st1 (pyRange 0 ((st1.1.length : Int) - (1 : Int)).toNat) ([] : (List (List Int)))).bind fun st2 =>
  ((m_law_take x_script0 st1.2 (2 : Int)).bind fun y130 =>
    if (decide (y130.1 = (1 : Int))) = true then
      (some (st2.reverse, y130.2))
    else
      (some (st2, y130.2))).bind fun y127 =>
  some (y127.1, y127.2)

def m_law_literal (x_script0 : (List Int)) (x_source0 : (List Int)) (x_letters0 : (List Int)) : Option (Int × (List Int)) :=
  (m_law_take x_script0 x_source0 (x_letters0.length : Int)).bind fun y3 =>
  (atI x_letters0 y3.1).bind fun y12 =>
  (m_law_take x_script0 y3.2 (2 : Int)).bind fun y19 =>
  if (decide (y19.1 = (1 : Int))) = true then
    (some (((0 : Int) - y12), y19.2))
  else
    (some (y12, y19.2))

def m_law_clause_l1 (x_script0 : (List Int)) (x_letters0 : (List Int)) : List Int → ((List Int) × (List Int)) → Option ((List Int) × (List Int))
  | [], st1 => some st1
  | x60 :: t, st1 =>
    (m_law_literal x_script0 st1.1 x_letters0).bind fun y62 =>
    (grd (decide (st1.2.length < 16777216))).bind fun _ =>
    m_law_clause_l1 x_script0 x_letters0 t (y62.2, (st1.2 ++ [y62.1]))
def m_law_clause (x_script0 : (List Int)) (x_source0 : (List Int)) (x_letters0 : (List Int)) : Option ((List Int) × (List Int)) :=
  (m_law_take x_script0 x_source0 (8 : Int)).bind fun y17 =>
  (atI ([(2 : Int), (2 : Int), (3 : Int), (2 : Int), (3 : Int), (2 : Int), (1 : Int), (4 : Int)] : (List Int)) y17.1).bind fun y26 =>
  (grd (rngOk y26)).bind fun _ =>
  (m_law_clause_l1 x_script0 x_letters0 (pyRange 0 y26.toNat) (y17.2, ([] : (List Int)))).bind fun st1 =>
  (m_law_take x_script0 st1.1 (16 : Int)).bind fun y76 =>
  (if (decide (y76.1 = (3 : Int))) = true then
      ((atI st1.2 (0 : Int)).bind fun y93 =>
      (grd (decide (st1.2.length < 16777216))).bind fun _ =>
      some (st1.2 ++ [y93]))
    else
      (some st1.2)).bind fun y90 =>
  (if (decide (y76.1 = (7 : Int))) = true then
      ((atI y90 (0 : Int)).bind fun y109 =>
      (grd (decide (y90.length < 16777216))).bind fun _ =>
      some (y90 ++ [((0 : Int) - y109)]))
    else
      (some y90)).bind fun y106 =>
  ((if (decide (y76.1 = (11 : Int))) = true then ((m_law_take x_script0 y76.2 (4 : Int)).bind fun y135 =>
      some ((decide (y135.1 = (2 : Int))), y135.2)) else (some (false, y76.2))).bind fun b127 =>
    if b127.1 = true then
      (some (([] : (List Int)), b127.2))
    else
      (some (y106, b127.2))).bind fun y125 =>
  some (y125.1, y125.2)

def m_law_clauses_l1 (x_script0 : (List Int)) (x_letters0 : (List Int)) : List Int → ((List Int) × (List (List Int))) → Option ((List Int) × (List (List Int)))
  | [], st1 => some st1
  | x109 :: t, st1 =>
    (m_law_take x_script0 st1.1 ((st1.2.length : Int) + (1 : Int))).bind fun y113 =>
    (m_law_clause x_script0 y113.2 x_letters0).bind fun y122 =>
    (grd (decide (st1.2.length < 16777216))).bind fun _ =>
    (grd (decide (0 ≤ y113.1 ∧ y113.1 < 2 ^ 62))).bind fun _ =>
    m_law_clauses_l1 x_script0 x_letters0 t (y122.2, (st1.2.take y113.1.toNat ++ [y122.1] ++ st1.2.drop y113.1.toNat))
def m_law_clauses (x_script0 : (List Int)) (x_source0 : (List Int)) (x_letters0 : (List Int)) : Option ((List (List Int)) × (List Int)) :=
  ((m_law_take x_script0 x_source0 (2 : Int)).bind fun y18 =>
    if (decide (y18.1 = (1 : Int))) = true then
      ((m_law_chain x_script0 y18.2 x_letters0).bind fun y28 =>
      some (y28.1, y28.2))
    else
      (some (([] : (List (List Int))), y18.2))).bind fun y15 =>
  (m_law_take x_script0 y15.2 (12 : Int)).bind fun y45 =>
  ((m_law_take x_script0 y45.2 (8 : Int)).bind fun y61 =>
    if (decide (y61.1 = (5 : Int))) = true then
      (some ((y45.1 + (30 : Int)), y61.2))
    else
      (some (y45.1, y61.2))).bind fun y59 =>
  (grd (rngOk y59.1)).bind fun _ =>
  (m_law_clauses_l1 x_script0 x_letters0 (pyRange 0 y59.1.toNat) (y59.2, y15.1)).bind fun st1 =>
  some (st1.2, st1.1)

def m_law_given_l1 (x_script0 : (List Int)) (x_letters0 : (List Int)) : List Int → ((List Int) × (List Int)) → Option ((List Int) × (List Int))
  | [], st1 => some st1
  | x64 :: t, st1 =>
    (m_law_literal x_script0 st1.1 x_letters0).bind fun y68 =>
    ((m_law_take x_script0 y68.2 (8 : Int)).bind fun y84 =>
      if (decide (y84.1 = (3 : Int))) = true then
        ((m_law_take x_script0 y84.2 (2 : Int)).bind fun y99 =>
        (atI ([(888 : Int), ((0 : Int) - (888 : Int))] : (List Int)) y99.1).bind fun y108 =>
        some (y108, y99.2))
      else
        (some (y68.1, y84.2))).bind fun y82 =>
    (grd (decide (st1.2.length < 16777216))).bind fun _ =>
    m_law_given_l1 x_script0 x_letters0 t (y82.2, (st1.2 ++ [y82.1]))
def m_law_given (x_script0 : (List Int)) (x_source0 : (List Int)) (x_letters0 : (List Int)) : Option ((List Int) × (List Int)) :=
  (m_law_take x_script0 x_source0 (8 : Int)).bind fun y17 =>
  (atI ([(1 : Int), (0 : Int), (1 : Int), (2 : Int), (2 : Int), (3 : Int), (1 : Int), (4 : Int)] : (List Int)) y17.1).bind fun y26 =>
  (grd (rngOk y26)).bind fun _ =>
  (m_law_given_l1 x_script0 x_letters0 (pyRange 0 y26.toNat) (y17.2, ([] : (List Int)))).bind fun st1 =>
  ((if (!decide (st1.2 = ([] : (List Int)))) = true then ((m_law_take x_script0 st1.1 (8 : Int)).bind fun y139 =>
      some ((decide (y139.1 = (6 : Int))), y139.2)) else (some (false, st1.1))).bind fun b126 =>
    if b126.1 = true then
      ((atI st1.2 (0 : Int)).bind fun y153 =>
      (grd (decide (st1.2.length < 16777216))).bind fun _ =>
      some (b126.2, (st1.2 ++ [y153])))
    else
      (some (b126.2, st1.2))).bind fun y124 =>
  some (y124.2, y124.1)

def m_law_handed_l1 (x_clauses0 : (List (List Int))) : List Int → (List (Bool × List Int)) → Option (List (Bool × List Int))
  | [], st1 => some st1
  | x44 :: t, st1 =>
    if (decide ((x44 % (3 : Int)) = (1 : Int))) = true then
      ((atI x_clauses0 x44).bind fun y47 =>
      (grd (decide (st1.length < 16777216))).bind fun _ =>
      m_law_handed_l1 x_clauses0 t (st1 ++ [(false, y47)]))
    else
      ((atI x_clauses0 x44).bind fun y68 =>
      (grd (decide (y68.length < 16777216))).bind fun _ =>
      (grd (decide (st1.length < 16777216))).bind fun _ =>
      m_law_handed_l1 x_clauses0 t (st1 ++ [(true, (y68.map fun x81 => x81))]))
def m_law_handed (x_clauses0 : (List (List Int))) : Option (List (Bool × List Int)) :=
  (grd (rngOk (x_clauses0.length : Int))).bind fun _ =>
  (m_law_handed_l1 x_clauses0 (pyRange 0 (x_clauses0.length : Int).toNat) ([] : (List (Bool × List Int)))).bind fun st1 =>
  some st1

def m_Pusher_include_l1 : List Int → M_Pusher → Option M_Pusher
  | [], st1 => some st1
  | x62 :: t, st1 =>
    (grd (decide (st1.places.length < 16777216))).bind fun _ =>
    (grd (decide (((mget st1.places x62).getD []).length < 16777216))).bind fun _ =>
    m_Pusher_include_l1 t (M_Pusher.mk st1.clauses (mapp st1.places x62 (st1.clauses.length : Int)) st1.starts st1.empty)
def m_Pusher_include (x_self0 : M_Pusher) (x_clause0 : (Bool × List Int)) : Option M_Pusher :=
  (grd (decide (x_clause0.2.length < 64))).bind fun _ =>
  (m_Pusher_include_l1 (mset x_clause0.2) (M_Pusher.mk x_self0.clauses x_self0.places x_self0.starts x_self0.empty)).bind fun st1 =>
  (grd (decide (st1.clauses.length < 16777216))).bind fun _ =>
  if (!(!(mset x_clause0.2).isEmpty)) = true then
    (some (M_Pusher.mk (st1.clauses ++ [(mset x_clause0.2)]) st1.places st1.starts true))
  else
    (if (decide (((mset x_clause0.2).length : Int) = (1 : Int))) = true then
      ((atI (mset x_clause0.2) (0 : Int)).bind fun y110 =>
      (grd (decide (st1.starts.length < 16777216))).bind fun _ =>
      some (M_Pusher.mk (st1.clauses ++ [(mset x_clause0.2)]) st1.places (st1.starts ++ [y110]) st1.empty))
    else
      (some (M_Pusher.mk (st1.clauses ++ [(mset x_clause0.2)]) st1.places st1.starts st1.empty)))

def m_Pusher_init_l1 : List (Bool × List Int) → M_Pusher → Option M_Pusher
  | [], st1 => some st1
  | x76 :: t, st1 =>
    (m_Pusher_include (M_Pusher.mk st1.clauses st1.places st1.starts st1.empty) x76).bind fun y85 =>
    m_Pusher_init_l1 t (M_Pusher.mk y85.clauses y85.places y85.starts y85.empty)
def m_Pusher_init (x_clauses0 : (List (Bool × List Int))) : Option M_Pusher :=
  (m_Pusher_init_l1 x_clauses0 (M_Pusher.mk ([] : (List (List Int))) ([] : (List (Int × (List Int)))) ([] : (List Int)) false)).bind fun st1 =>
  some (M_Pusher.mk st1.clauses st1.places st1.starts st1.empty)

def m_law_spoil_l1 : List Int → (List (Bool × List Int)) → Option (List (Bool × List Int))
  | [], st1 => some st1
  | x36 :: t, st1 =>
    (atI st1 x36).bind fun y40 =>
    if (y40.1) = true then
      ((grd y40.1).bind fun _ =>
      (grd (decide (y40.2.length < 16777216))).bind fun _ =>
      m_law_spoil_l1 t (msetI st1 x36 (y40.1, (y40.2 ++ [(555 : Int)]))))
    else
      (m_law_spoil_l1 t st1)
def m_law_spoil (x_handed0 : (List (Bool × List Int))) : Option (List (Bool × List Int)) :=
  (grd (rngOk (x_handed0.length : Int))).bind fun _ =>
  (m_law_spoil_l1 (pyRange 0 (x_handed0.length : Int).toNat) x_handed0).bind fun st1 =>
  (grd (decide (st1.length < 16777216))).bind fun _ =>
  some (st1 ++ [(true, ([] : (List Int)))])

def m_law_forced_l1 : List Int → (List (Int × Bool)) → Option (List (Int × Bool))
  | [], st1 => some st1
  | x34 :: t, st1 =>
    (grd (decide (st1.length < 16777216))).bind fun _ =>
    m_law_forced_l1 t (mput st1 x34 true)
def m_law_forced_l3 : List (List Int) → (List (Int × Bool)) → Option (Flw (List (Int × Bool)) (Option (List Int)))
  | [], st3 => some (.done st3)
  | x93 :: t, st3 =>
    (grd (decide (x93.length < 16777216))).bind fun _ =>
    if (decide (((x93.filter fun x107 => (!(mget st3 ((0 : Int) - x107)).isSome)).map fun x107 => x107) = ([] : (List Int)))) = true then
      (some (.ret none))
    else
      ((grd (decide (((x93.filter fun x107 => (!(mget st3 ((0 : Int) - x107)).isSome)).map fun x107 => x107).length < 16777216))).bind fun _ =>
      (lcO (fun x141 => (atI ((x93.filter fun x107 => (!(mget st3 ((0 : Int) - x107)).isSome)).map fun x107 => x107) (0 : Int)).bind fun y160 =>
            if (!decide (x141 = y160)) = true then (some (some x141)) else some none) ((x93.filter fun x107 => (!(mget st3 ((0 : Int) - x107)).isSome)).map fun x107 => x107)).bind fun y167 =>
      if (decide (y167 = ([] : (List Int)))) = true then
        ((atI ((x93.filter fun x107 => (!(mget st3 ((0 : Int) - x107)).isSome)).map fun x107 => x107) (0 : Int)).bind fun y174 =>
        (grd (decide (st3.length < 16777216))).bind fun _ =>
        m_law_forced_l3 t (mput st3 y174 true))
      else
        (m_law_forced_l3 t st3))
def m_law_forced_l2 (x_clauses0 : (List (List Int))) : List Int → (List (Int × Bool)) → Option (Flw (List (Int × Bool)) (Option (List Int)))
  | [], st2 => some (.done st2)
  | x54 :: t, st2 =>
    (m_law_forced_l3 x_clauses0 st2).bind fun y60 =>
    match y60 with
    | .ret r => some (.ret r)
    | .done st3 =>
    if (decide ((st3.length : Int) = (st2.length : Int))) = true then
      (some (.done st3))
    else
      (m_law_forced_l2 x_clauses0 t st3)
def m_law_forced_l4 (st2 : (List (Int × Bool))) : List Int → Unit → Option (Flw Unit (Option (List Int)))
  | [], st4 => some (.done st4)
  | x208 :: t, st4 =>
    if (mget st2 ((0 : Int) - x208)).isSome = true then
      (some (.ret none))
    else
      (m_law_forced_l4 st2 t ())
def m_law_forced (x_clauses0 : (List (List Int))) (x_given0 : (List Int)) : Option (Option (List Int)) :=
  (m_law_forced_l1 x_given0 ([] : (List (Int × Bool)))).bind fun st1 =>
  (m_law_forced_l2 x_clauses0 (pyRange 0 (100 : Int).toNat) st1).bind fun y41 =>
  match y41 with
  | .ret r => some r
  | .done st2 =>
  (m_law_forced_l4 st2 (st2.map fun (q : Int × Bool) => q.1) ()).bind fun y187 =>
  match y187 with
  | .ret r => some r
  | .done st4 =>
  (grd (decide ((st2.map fun (q : Int × Bool) => q.1).length < 16777216))).bind fun _ =>
  some (some (sortI ((st2.map fun (q : Int × Bool) => q.1).map fun x222 => x222)))

def m_Pusher_push_l1 (x_self0 : M_Pusher) (x_literal0 : Int) (x_known0 : (List (Int × Bool))) : List Int → ((List Int) × (List (Int × Int))) → Option ((List Int) × (List (Int × Int)))
  | [], st1 => some st1
  | x60 :: t, st1 =>
    (atI x_self0.clauses x60).bind fun y66 =>
    (grd (decide (st1.2.length < 16777216))).bind fun _ =>
    (mget (mput st1.2 x60 (((mget st1.2 x60).getD (y66.length : Int)) - (1 : Int))) x60).bind fun y78 =>
    if (decide (y78 = (1 : Int))) = true then
      ((atI x_self0.clauses x60).bind fun y84 =>
      (grd (decide (y84.length < 16777216))).bind fun _ =>
      (grd (decide (st1.1.length + ((y84.filter fun x97 => (!(mget (mput x_known0 x_literal0 true) (-x97)).isSome)).map fun x97 => x97).length ≤ 16777216))).bind fun _ =>
      m_Pusher_push_l1 x_self0 x_literal0 x_known0 t ((st1.1 ++ ((y84.filter fun x97 => (!(mget (mput x_known0 x_literal0 true) (-x97)).isSome)).map fun x97 => x97)), (mput st1.2 x60 (((mget st1.2 x60).getD (y66.length : Int)) - (1 : Int)))))
    else
      (m_Pusher_push_l1 x_self0 x_literal0 x_known0 t (st1.1, (mput st1.2 x60 (((mget st1.2 x60).getD (y66.length : Int)) - (1 : Int)))))
def m_Pusher_push (x_self0 : M_Pusher) (x_literal0 : Int) (x_known0 : (List (Int × Bool))) (x_open_counts0 : (List (Int × Int))) : Option ((List Int) × (List (Int × Bool)) × (List (Int × Int))) :=
  (grd (decide (x_known0.length < 16777216))).bind fun _ =>
  (m_Pusher_push_l1 x_self0 x_literal0 x_known0 ((mget x_self0.places (-x_literal0)).getD []) (([] : (List Int)), x_open_counts0)).bind fun st1 =>
  some (st1.1, (mput x_known0 x_literal0 true), st1.2)

def m_Pusher_forced_l1 (x_self0 : M_Pusher) : Nat → ((List Int) × (List (Int × Int)) × (List (Int × Bool))) → Option (Flw ((List Int) × (List (Int × Int)) × (List (Int × Bool))) (Option (List Int)))
  | 0, _ => none
  | t + 1, st1 =>
    if (!st1.1.isEmpty) = true then
      ((st1.1.getLast?).bind fun y44 =>
      if (mget st1.2.2 (-y44)).isSome = true then
        (some (.ret none))
      else
        (if (!(mget st1.2.2 y44).isSome) = true then
          ((m_Pusher_push x_self0 y44 st1.2.2 st1.2.1).bind fun y57 =>
          (grd (decide (st1.1.dropLast.length + y57.1.length ≤ 16777216))).bind fun _ =>
          m_Pusher_forced_l1 x_self0 t ((st1.1.dropLast ++ y57.1), y57.2.2, y57.2.1))
        else
          (m_Pusher_forced_l1 x_self0 t (st1.1.dropLast, st1.2.1, st1.2.2))))
    else
      some (.done (st1.1, st1.2.1, st1.2.2))
def m_Pusher_forced (x_self0 : M_Pusher) (x_literals0 : (List Int)) : Option (Option (List Int)) :=
  if x_self0.empty = true then
    (some none)
  else
    ((grd (decide (x_self0.starts.length + x_literals0.length ≤ 16777216))).bind fun _ =>
    (m_Pusher_forced_l1 x_self0 fuel ((x_self0.starts ++ x_literals0), ([] : (List (Int × Int))), ([] : (List (Int × Bool))))).bind fun y27 =>
    match y27 with
    | .ret r => some r
    | .done st1 =>
    some (some (sortI (st1.2.2.map fun (q : Int × Bool) => q.1))))

def m_law_same_l1 (x_actual0 : (Option (List Int))) (z5 : (List Int)) : List Int → Unit → Option (Flw Unit Bool)
  | [], st1 => some (.done st1)
  | x46 :: t, st1 =>
    ((x_actual0).bind fun z50 =>
      (atI z50 x46).bind fun y57 =>
      (atI z50 x46).bind fun y62 =>
      (atI z50 x46).bind fun y67 =>
      (atI z5 x46).bind fun y72 =>
      some (!decide (y67 = y72))).bind fun b48 =>
    if b48 = true then
      (some (.ret false))
    else
      (m_law_same_l1 x_actual0 z5 t ())
def m_law_same (x_actual0 : (Option (List Int))) (x_due0 : (Option (List Int))) : Option Bool :=
  optE (x_due0) (some ((x_actual0).isNone)) (fun z5 =>
    (if (!(x_actual0).isSome) = true then (some true) else ((x_actual0).bind fun z16 =>
      some (!decide ((z16.length : Int) = (z5.length : Int))))).bind fun b13 =>
    if b13 = true then
      (some false)
    else
      ((grd (rngOk (z5.length : Int))).bind fun _ =>
      (m_law_same_l1 x_actual0 z5 (pyRange 0 (z5.length : Int).toNat) ()).bind fun y26 =>
      match y26 with
      | .ret r => some r
      | .done st1 =>
      some true))

def m_law_asked (x_pusher0 : M_Pusher) (x_clauses0 : (List (List Int))) (x_given0 : (List Int)) : Option Bool :=
  (m_law_forced x_clauses0 x_given0).bind fun y3 =>
  (grd (decide (x_given0.length < 16777216))).bind fun _ =>
  (m_Pusher_forced x_pusher0 (x_given0.map fun x19 => x19)).bind fun y42 =>
  ((m_law_same y42 y3).bind fun y56 =>
    if (!y56) = true then (some true) else (some (!decide ((x_given0.map fun x19 => x19) = x_given0)))).bind fun b54 =>
  if b54 = true then
    (some false)
  else
    (optE (y42) ((grd (decide ((x_given0.map fun x19 => x19).length < 16777216))).bind fun _ =>
      (grd (decide (x_given0.length < 16777216))).bind fun _ =>
      (m_Pusher_forced x_pusher0 (x_given0.map fun x75 => x75)).bind fun y96 =>
      (m_law_same y96 y3).bind fun y106 =>
      some y106) (fun z65 =>
      (grd (decide (z65.length < 16777216))).bind fun _ =>
      (grd (decide ((x_given0.map fun x19 => x19).length < 16777216))).bind fun _ =>
      (grd (decide (x_given0.length < 16777216))).bind fun _ =>
      (m_Pusher_forced x_pusher0 (x_given0.map fun x129 => x129)).bind fun y150 =>
      (m_law_same y150 y3).bind fun y160 =>
      some y160))

def m_law_more (x_script0 : (List Int)) (x_source0 : (List Int)) (x_letters0 : (List Int)) : Option ((List Int) × (List Int)) :=
  (m_law_take x_script0 x_source0 (16 : Int)).bind fun y3 =>
  if (decide (y3.1 = (9 : Int))) = true then
    (some (([] : (List Int)), y3.2))
  else
    ((m_law_clause x_script0 y3.2 x_letters0).bind fun y17 =>
    some (y17.1, y17.2))

def m_push (x_clauses0 : (List (Bool × List Int))) (x_literals0 : (List Int)) : Option (Option (List Int)) :=
  (m_Pusher_init x_clauses0).bind fun y9 =>
  (m_Pusher_forced (M_Pusher.mk y9.clauses y9.places y9.starts y9.empty) x_literals0).bind fun y26 =>
  some y26

def m_law_l1 (x_script0 : (List Int)) (y11 : ((List Int) × (List Int))) (y41 : ((List Int) × (List Int))) (y56 : ((List Int) × (List Int))) : List Int → ((List Int) × (List (List Int)) × M_Pusher) → Option (Flw ((List Int) × (List (List Int)) × M_Pusher) Bool)
  | [], st1 => some (.done st1)
  | x315 :: t, st1 =>
    (m_law_more x_script0 st1.1 y11.1).bind fun y319 =>
    (grd (decide (y319.1.length < 16777216))).bind fun _ =>
    ((m_Pusher_include (M_Pusher.mk st1.2.2.clauses st1.2.2.places st1.2.2.starts st1.2.2.empty) (true, (y319.1.map fun x337 => x337))).bind fun y376 =>
      some ((!decide ((y319.1.map fun x337 => x337) = y319.1)), (M_Pusher.mk y376.clauses y376.places y376.starts y376.empty))).bind fun b360 =>
    if b360.1 = true then
      (none)
    else
      ((grd (decide ((y319.1.map fun x337 => x337).length < 16777216))).bind fun _ =>
      (grd (decide (st1.2.1.length < 16777216))).bind fun _ =>
      ((m_law_asked (M_Pusher.mk b360.2.clauses b360.2.places b360.2.starts b360.2.empty) (st1.2.1 ++ [y319.1]) y41.1).bind fun y417 =>
        if (!y417) = true then (some true) else ((m_law_asked (M_Pusher.mk b360.2.clauses b360.2.places b360.2.starts b360.2.empty) (st1.2.1 ++ [y319.1]) y56.1).bind fun y425 =>
        some (!y425))).bind fun b412 =>
      if b412 = true then
        (none)
      else
        (m_law_l1 x_script0 y11 y41 y56 t (y319.2, (st1.2.1 ++ [y319.1]), (M_Pusher.mk b360.2.clauses b360.2.places b360.2.starts b360.2.empty))))
def m_law (x_script0 : (List Int)) : Option Bool :=
  (m_law_seed x_script0).bind fun y3 =>
  (m_law_letters x_script0 ([(0 : Int), (0 : Int), y3] : (List Int))).bind fun y11 =>
  (m_law_clauses x_script0 y11.2 y11.1).bind fun y26 =>
  (m_law_given x_script0 y26.2 y11.1).bind fun y41 =>
  (m_law_given x_script0 y41.2 y11.1).bind fun y56 =>
  (m_law_handed y26.1).bind fun y70 =>
  (m_Pusher_init y70).bind fun y91 =>
  (m_law_handed y26.1).bind fun y110 =>
  (m_Pusher_init y110).bind fun y129 =>
  (m_law_handed y26.1).bind fun y148 =>
  if (!decide (y70 = y148)) = true then
    (none)
  else
    ((m_law_spoil y70).bind fun y163 =>
    ((m_law_asked (M_Pusher.mk y91.clauses y91.places y91.starts y91.empty) y26.1 y41.1).bind fun y180 =>
      if (!y180) = true then (some true) else ((m_law_asked (M_Pusher.mk y91.clauses y91.places y91.starts y91.empty) y26.1 y56.1).bind fun y188 =>
      some (!y188))).bind fun b175 =>
    if b175 = true then
      (none)
    else
      ((grd (decide (y26.1.length < 16777216))).bind fun _ =>
      (m_law_take x_script0 y56.2 (2 : Int)).bind fun y235 =>
      (grd (rngOk ((1 : Int) + y235.1))).bind fun _ =>
      (m_law_l1 x_script0 y11 y41 y56 (pyRange 0 ((1 : Int) + y235.1).toNat) (y235.2, (y26.1.map fun x204 => x204), (M_Pusher.mk y91.clauses y91.places y91.starts y91.empty))).bind fun y231 =>
      match y231 with
      | .ret r => some r
      | .done st1 =>
      ((m_law_asked (M_Pusher.mk y129.clauses y129.places y129.starts y129.empty) y26.1 y56.1).bind fun y443 =>
        if (!y443) = true then (some true) else ((m_law_asked (M_Pusher.mk y129.clauses y129.places y129.starts y129.empty) y26.1 y41.1).bind fun y451 =>
        some (!y451))).bind fun b438 =>
      if b438 = true then
        (none)
      else
        ((m_law_handed st1.2.1).bind fun y463 =>
        (grd (decide (y56.1.length < 16777216))).bind fun _ =>
        (m_push y463 (y56.1.map fun x480 => x480)).bind fun y503 =>
        (m_law_forced st1.2.1 y56.1).bind fun y513 =>
        (m_law_same y503 y513).bind fun y523 =>
        if (!y523) = true then
          (none)
        else
          (((m_law_handed st1.2.1).bind fun y531 =>
            if (decide (y463 = y531)) = true then (some (decide ((y56.1.map fun x480 => x480) = y56.1))) else (some false)).bind fun b526 =>
          some b526))))
end G

namespace G
open PySem PySem.Spec PyProof.Rows L2

theorem atI_lt {α : Type} {xs : List α} {i : Int} (h0 : 0 ≤ i) (h1 : i < xs.length) : ∃ x, atI xs i = some x ∧ x ∈ xs ∧ xs[i.toNat]? = some x := by
  have hl : i.toNat < xs.length := by omega
  refine ⟨xs[i.toNat], ?_, List.getElem_mem hl, by simp [hl]⟩
  have e := atI_nat (xs := xs) (j := i.toNat) (v := xs[i.toNat]) (by simp [hl])
  have e2 : ((i.toNat : Nat) : Int) = i := by omega
  rw [e2] at e
  exact e

theorem grd_t {b : Bool} {β : Type} {f : Unit → Option β} (h : b = true) : (grd b).bind f = f () := by subst h; rfl

theorem bs {α β : Type} {m : Option α} {x : α} {f : α → Option β} (h : m = some x) : m.bind f = f x := by rw [h, Option.bind_some]

theorem divOk_t {j : Int} (h : 0 < j) (h2 : j < 1073741824) : divOk j = true := decide_eq_true ⟨h, h2⟩

theorem rngOk_t {j : Int} (h0 : 0 ≤ j) (h1 : j < 16777216) : rngOk j = true := decide_eq_true ⟨by omega, by omega⟩

theorem rngOk_len {n : Nat} (h : n < 16777216) : rngOk (n : Int) = true := decide_eq_true ⟨by omega, by omega⟩

theorem mget_put_new {κ α : Type} [DecidableEq κ] {xs : List (κ × α)} {k : κ} {x : α} (h : mget xs k = none) : mput xs k x = xs ++ [(k, x)] := by
  unfold mput
  rw [if_neg]
  intro c
  obtain ⟨p, hp, e⟩ := List.any_eq_true.mp c
  unfold mget at h
  rw [Option.map_eq_none_iff, List.find?_eq_none] at h
  exact h p hp e

theorem mget_snoc {κ α : Type} [DecidableEq κ] {xs : List (κ × α)} {k j : κ} {x : α} : mget (xs ++ [(k, x)]) j = match mget xs j with
    | some y => some y
    | none => if k = j then some x else none := by
  unfold mget
  rw [List.find?_append]
  cases xs.find? fun p => decide (p.1 = j) with
  | some p => simp
  | none =>
    by_cases c : k = j
    · simp [List.find?_cons, c]
    · simp [List.find?_cons, c]

/-! ## lists, dicts: plain facts -/
theorem nodup_sub : ∀ {l r : List Int}, l.Nodup → (∀ x ∈ l, x ∈ r) → l.length ≤ r.length
  | [], r, _, _ => Nat.zero_le _
  | x :: l, r, h, s => by
    have hx := s x (.head _)
    have h2 := nodup_sub (l := l) (r := r.erase x) (List.nodup_cons.mp h).2 fun y hy =>
      (List.mem_erase_of_ne (by rintro rfl; exact (List.nodup_cons.mp h).1 hy)).mpr (s y (.tail _ hy))
    rw [List.length_erase_of_mem hx] at h2
    have := List.length_pos_of_mem hx
    simp; omega
theorem strict_nodup {xs : List Int} (h : xs.Pairwise (· < ·)) : xs.Nodup := h.imp fun {a b} h => by omega
theorem strict_uniq {xs ys : List Int} (h1 : xs.Pairwise (· < ·)) (h2 : ys.Pairwise (· < ·)) (h : ∀ x, x ∈ xs ↔ x ∈ ys) : xs = ys :=
  sorted_uniq ((List.perm_ext_iff_of_nodup (strict_nodup h1) (strict_nodup h2)).mpr h) (h1.imp fun {a b} h => by omega) (h2.imp fun {a b} h => by omega)
theorem sortI_strict {xs : List Int} (h : xs.Nodup) : (sortI xs).Pairwise (· < ·) := by
  have h1 := sortI_sorted xs
  have h2 : (sortI xs).Nodup := (sortI_perm xs).nodup_iff.mpr h
  exact (List.Pairwise.and h1 h2).imp fun {a b} h => by have := h.1; have := h.2; omega
theorem mem_sortI {xs : List Int} {x : Int} : x ∈ sortI xs ↔ x ∈ xs := (sortI_perm xs).mem_iff
theorem atI_mem {α : Type} {xs : List α} {i : Int} {x : α} (h : atI xs i = some x) : x ∈ xs := by
  unfold atI at h
  cases e : ixN xs.length i with
  | none => rw [e] at h; cases h
  | some j =>
    rw [e] at h
    exact List.mem_of_getElem? h
theorem atI_of {α : Type} {xs : List α} {i : Int} (h0 : 0 ≤ i) : atI xs i = xs[i.toNat]? := by
  unfold atI ixN
  rw [if_pos h0]
  by_cases c : i < xs.length
  · rw [if_pos c]; rfl
  · rw [if_neg c, List.getElem?_eq_none (by omega)]; rfl
theorem atI_app {α : Type} {xs ys : List α} {i : Int} (h0 : 0 ≤ i) (h1 : i < xs.length) : atI (xs ++ ys) i = atI xs i := by
  rw [atI_of h0, atI_of h0, List.getElem?_append_left (by omega)]
theorem atI_last {α : Type} {xs : List α} {x : α} : atI (xs ++ [x]) (xs.length : Int) = some x := by
  rw [atI_of (by omega)]
  simp
theorem atI_bound {α : Type} {xs : List α} {i : Int} {x : α} (h0 : 0 ≤ i) (h : atI xs i = some x) : i < xs.length := by
  rw [atI_of h0] at h
  have := (List.getElem?_eq_some_iff.mp h).1
  omega
theorem ixN_of {n : Nat} {i : Int} (h0 : 0 ≤ i) (h1 : i < n) : ixN n i = some i.toNat := by unfold ixN; rw [if_pos h0, if_pos h1]
theorem atI_set {α : Type} {xs : List α} {i j : Int} {x : α} (h0 : 0 ≤ i) (h1 : i < xs.length) (hj : 0 ≤ j) : atI (xs.set i.toNat x) j = if i = j then some x else atI xs j := by
  rw [atI_of hj, atI_of hj, List.getElem?_set]
  by_cases c : i = j
  · subst c; rw [if_pos rfl, if_pos rfl, if_pos (by omega)]
  · rw [if_neg (by omega), if_neg c]
theorem mem_pyRange {lo : Int} {n : Nat} {x : Int} : x ∈ pyRange lo n ↔ lo ≤ x ∧ x < lo + n := by
  unfold pyRange
  rw [List.mem_map]
  constructor
  · rintro ⟨i, hi, rfl⟩
    have := List.mem_range.mp hi
    omega
  · rintro ⟨h1, h2⟩
    exact ⟨(x - lo).toNat, List.mem_range.mpr (by omega), by omega⟩
theorem pyRange_strict {lo : Int} {n : Nat} : (pyRange lo n).Pairwise (· < ·) := by
  unfold pyRange
  rw [List.pairwise_map]
  exact List.pairwise_lt_range.imp fun {a b} h => by omega
/-! dicts -/
section
variable {κ α : Type} [DecidableEq κ]
theorem mget_cons (p : κ × α) (xs : List (κ × α)) (k : κ) : mget (p :: xs) k = if p.1 = k then some p.2 else mget xs k := by
  unfold mget
  by_cases c : p.1 = k
  · rw [List.find?_cons_of_pos (by simpa using c), if_pos c]; rfl
  · rw [List.find?_cons_of_neg (by simpa using c), if_neg c]
theorem mget_map {xs : List (κ × α)} {k j : κ} {x : α} : mget (xs.map fun p => if p.1 = k then (p.1, x) else p) j = if k = j then (mget xs j).map (fun _ => x) else mget xs j := by
  induction xs with
  | nil => by_cases c : k = j <;> simp [c, mget]
  | cons p xs ih =>
    rw [List.map_cons, mget_cons, mget_cons, ih]
    by_cases c1 : p.1 = k
    · by_cases c : k = j
      · subst c; simp [c1]
      · have : ¬ p.1 = j := fun h => c (c1.symm.trans h)
        simp [c1, c]
    · by_cases c : k = j
      · subst c; simp [c1]
      · simp [c1, c]
theorem mget_none {xs : List (κ × α)} {k : κ} : mget xs k = none ↔ k ∉ xs.map (·.1) := by
  induction xs with
  | nil => simp [mget]
  | cons p xs ih =>
    rw [mget_cons]
    by_cases c : p.1 = k
    · simp [c]
    · rw [if_neg c, ih]
      simp only [List.map_cons, List.mem_cons, not_or]
      exact ⟨fun h => ⟨fun e => c e.symm, h⟩, fun h => h.2⟩
theorem mget_put {xs : List (κ × α)} {k j : κ} {x : α} : mget (mput xs k x) j = if k = j then some x else mget xs j := by
  cases e : mget xs k with
  | none =>
    rw [mget_put_new e, mget_snoc]
    by_cases c : k = j
    · subst c; simp [e]
    · rw [if_neg c, if_neg c]
      cases mget xs j <;> rfl
  | some y =>
    have hm : k ∈ xs.map (·.1) := Classical.byContradiction fun h => by rw [mget_none.mpr h] at e; cases e
    obtain ⟨p, hp, e2⟩ := List.mem_map.mp hm
    unfold mput
    rw [if_pos (List.any_eq_true.mpr ⟨p, hp, decide_eq_true e2⟩), mget_map]
    by_cases c : k = j
    · subst c; rw [if_pos rfl, if_pos rfl, e]; rfl
    · rw [if_neg c, if_neg c]
theorem mput_len {xs : List (κ × α)} {k : κ} {x : α} : (mput xs k x).length ≤ xs.length + 1 := by
  unfold mput
  split <;> simp
theorem mput_len_ge {xs : List (κ × α)} {k : κ} {x : α} : xs.length ≤ (mput xs k x).length := by
  unfold mput
  split <;> simp
end
theorem lcO_congr {α β : Type} {f g : α → Option (Option β)} : ∀ {xs : List α}, (∀ x ∈ xs, f x = g x) → lcO f xs = lcO g xs
  | [], _ => rfl
  | x :: t, h => by
    show ((f x).bind fun y => (lcO f t).bind fun r => some (match y with | none => r | some b => b :: r)) = _
    rw [h x (.head _), lcO_congr fun y hy => h y (.tail _ hy)]
    rfl

theorem rng2Ok_t {i j : Int} (h1 : -16777216 < i) (h2 : i < 16777216) (h3 : -16777216 < j) (h4 : j < 16777216) : rng2Ok i j = true := by
  unfold rng2Ok
  simp
  omega

theorem pyRangeC_succ (lo c : Int) (n : Nat) : pyRangeC lo c (n + 1) = lo :: pyRangeC (lo + c) c n := by
  unfold pyRangeC
  rw [List.range_succ_eq_map, List.map_cons, List.map_map]
  congr 1
  · simp
  · apply List.map_congr_left
    intro i _
    simp only [Function.comp]
    rw [Nat.succ_eq_add_one, Int.natCast_add, Int.add_mul, Int.add_assoc, Int.add_comm ((i : Int) * c)]
    simp

theorem lcO_some {α β : Type} {f : α → Option (Option β)} : ∀ {xs : List α}, (∀ x ∈ xs, ∃ y, f x = some y) → ∃ r, lcO f xs = some r ∧ r.length ≤ xs.length
  | [], _ => ⟨[], rfl, Nat.le_refl _⟩
  | x :: t, h => by
    obtain ⟨y, hy⟩ := h x (.head _)
    obtain ⟨r, e, hl⟩ := lcO_some (f := f) fun z hz => h z (.tail _ hz)
    have e2 : lcO f (x :: t) = ((f x).bind fun y => (lcO f t).bind fun r => some (match y with | none => r | some b => b :: r)) := rfl
    rw [e2, bs hy, bs e]
    refine ⟨_, rfl, ?_⟩
    cases y with
    | none => simp; omega
    | some b => simp; exact hl

theorem sortI_len (xs : List Int) : (sortI xs).length = xs.length := (sortI_perm xs).length_eq
end G

namespace G
open PySem PySem.Spec PyProof.Rows L2

/-! ## the draws -/
theorem seed_l1 : ∀ (ns : List Int) (s : Int), 0 ≤ s → ∃ y, m_law_seed_l1 ns s = some y ∧ 0 ≤ y
  | [], s, h => ⟨s, rfl, h⟩
  | n :: ns, s, h => by
    rw [m_law_seed_l1]
    exact seed_l1 ns _ (by omega)
theorem seed_ok (ns : List Int) : ∃ y, m_law_seed ns = some y ∧ 0 ≤ y := by
  obtain ⟨y, h1, h2⟩ := seed_l1 ns 1 (by decide)
  exact ⟨y, by simp [m_law_seed, h1], h2⟩
/-- the drawing state -/
def Src (l : List Int) : Prop := ∃ p q s : Int, l = [p, q, s] ∧ 0 ≤ p ∧ 0 ≤ q ∧ 0 ≤ s
theorem at0 (p q s : Int) : atI [p, q, s] 0 = some p := rfl
theorem at1 (p q s : Int) : atI [p, q, s] 1 = some q := rfl
theorem at2 (p q s : Int) : atI [p, q, s] 2 = some s := rfl
theorem ix0 (p q s : Int) : ixN [p, q, s].length 0 = some 0 := rfl
theorem ix1 (p q s : Int) : ixN [p, q, s].length 1 = some 1 := rfl
theorem ix2 (p q s : Int) : ixN [p, q, s].length 2 = some 2 := rfl
theorem take_ok (ns src : List Int) (size : Int) (h : Src src) (h0 : 0 < size) (h1 : size < 1073741824) :
    ∃ d src', m_law_take ns src size = some (d, src') ∧ 0 ≤ d ∧ d < size ∧ Src src' := by
  obtain ⟨p, q, s, rfl, hp, hq, hs⟩ := h
  have last : ∀ p q s : Int, 0 ≤ p → 0 ≤ q → 0 ≤ s → ∃ d src', ((atI [p, q, s] (0 : Int)).bind fun y45 =>
      if (decide (y45 > (0 : Int))) = true then
        ((atI [p, q, s] (0 : Int)).bind fun y51 => (grd (divOk size)).bind fun _ => (atI [p, q, s] (0 : Int)).bind fun y57 =>
        (grd (divOk size)).bind fun _ => (ixN [p, q, s].length (0 : Int)).bind fun j63 => some ((y51 % size), ([p, q, s].set j63 (y57 / size))))
      else
        ((atI [p, q, s] (2 : Int)).bind fun y67 => (ixN [p, q, s].length (2 : Int)).bind fun j72 =>
        (atI ([p, q, s].set j72 (((y67 * (48271 : Int)) + (12345 : Int)) % (2147483647 : Int))) (2 : Int)).bind fun y76 =>
        (grd (divOk size)).bind fun _ => some (((y76 / (1009 : Int)) % size), ([p, q, s].set j72 (((y67 * (48271 : Int)) + (12345 : Int)) % (2147483647 : Int)))))) = some (d, src') ∧ 0 ≤ d ∧ d < size ∧ Src src' := by
    intro p q s hp hq hs
    rw [at0]
    simp only [Option.bind_some]
    by_cases c : p > 0
    · rw [if_pos (decide_eq_true c)]
      simp only [at0, ix0, Option.bind_some, grd_t (divOk_t h0 h1)]
      exact ⟨_, _, rfl, Int.emod_nonneg _ (by omega), Int.emod_lt_of_pos _ h0, p / size, q, s, rfl, Int.ediv_nonneg hp (by omega), hq, hs⟩
    · rw [if_neg (by simpa using c), at2, ix2]
      simp only [Option.bind_some]
      show ∃ d src', ((atI [p, q, (s * 48271 + 12345) % 2147483647] (2 : Int)).bind fun y76 => _) = _ ∧ _
      rw [at2]
      simp only [Option.bind_some, grd_t (divOk_t h0 h1)]
      exact ⟨_, _, rfl, Int.emod_nonneg _ (by omega), Int.emod_lt_of_pos _ h0, p, q, (s * 48271 + 12345) % 2147483647, rfl, hp, hq, by omega⟩
  unfold m_law_take
  rw [at0, at1]
  simp only [Option.bind_some]
  by_cases c : p = 0 ∧ q < ns.length
  · obtain ⟨c1, c2⟩ := c
    rw [if_pos (decide_eq_true c1)]
    simp only [Option.bind_some]
    rw [if_pos (decide_eq_true c2)]
    obtain ⟨x, hx, _⟩ := atI_lt hq c2
    rw [hx, ix0]
    simp only [Option.bind_some]
    show ∃ d src', ((((atI [if x < 0 then -x else x, q, s] (1 : Int)).bind fun y36 => (ixN [if x < 0 then -x else x, q, s].length (1 : Int)).bind fun j41 => some ([if x < 0 then -x else x, q, s].set j41 (y36 + (1 : Int)))).bind _)) = _ ∧ _
    rw [at1, ix1]
    simp only [Option.bind_some]
    exact last (if x < 0 then -x else x) (q + 1) s (by split <;> omega) (by omega) hs
  · by_cases c1 : p = 0
    · rw [if_pos (decide_eq_true c1)]
      simp only [Option.bind_some]
      rw [if_neg (by simp; omega)]
      exact last p q s hp hq hs
    · rw [if_neg (by simpa using c1)]
      simp only [Option.bind_some]
      rw [if_neg (by simp)]
      exact last p q s hp hq hs

end G

namespace G
open PySem PySem.Spec PyProof.Rows L2

/-! ## what clauses force -/
inductive Frc (cs : List (List Int)) (gs : List Int) : Int → Prop
  | giv {l : Int} : l ∈ gs → Frc cs gs l
  | stp {c : List Int} {l : Int} : c ∈ cs → l ∈ c → (∀ x ∈ c, x ≠ l → Frc cs gs (-x)) → Frc cs gs l
def Cnf (cs : List (List Int)) (gs : List Int) : Prop := (∃ c ∈ cs, ∀ x ∈ c, Frc cs gs (-x)) ∨ ∃ l, Frc cs gs l ∧ Frc cs gs (-l)
/-- the answer to what is forced -/
def Out (cs : List (List Int)) (gs : List Int) (r : Option (List Int)) : Prop := (Cnf cs gs ∧ r = none) ∨ (¬ Cnf cs gs ∧ ∃ ks, r = some ks ∧ ks.Pairwise (· < ·) ∧ ∀ x, x ∈ ks ↔ Frc cs gs x)
theorem Out.uniq {cs : List (List Int)} {gs : List Int} {r s : Option (List Int)} (h : Out cs gs r) (g : Out cs gs s) : r = s := by
  rcases h with ⟨h, rfl⟩ | ⟨h, ks, rfl, h1, h2⟩
  · rcases g with ⟨_, rfl⟩ | ⟨g, _⟩
    · rfl
    · exact (g h).elim
  · rcases g with ⟨g, _⟩ | ⟨_, ls, rfl, g1, g2⟩
    · exact (h g).elim
    · rw [strict_uniq h1 g1 fun x => (h2 x).trans (g2 x).symm]
theorem Frc.mono {cs ds : List (List Int)} {gs hs : List Int} (h1 : ∀ c ∈ cs, ∃ d ∈ ds, ∀ x, x ∈ c ↔ x ∈ d) (h2 : ∀ x ∈ gs, x ∈ hs) {l : Int} (h : Frc cs gs l) : Frc ds hs l := by
  induction h with
  | giv h => exact .giv (h2 _ h)
  | stp hc hl _ ih =>
    obtain ⟨d, hd, e⟩ := h1 _ hc
    exact .stp hd ((e _).mp hl) fun x hx n => ih x ((e x).mpr hx) n
theorem Cnf.mono {cs ds : List (List Int)} {gs hs : List Int} (h1 : ∀ c ∈ cs, ∃ d ∈ ds, ∀ x, x ∈ c ↔ x ∈ d) (h2 : ∀ x ∈ gs, x ∈ hs) (h : Cnf cs gs) : Cnf ds hs := by
  rcases h with ⟨c, hc, h⟩ | ⟨l, a, b⟩
  · obtain ⟨d, hd, e⟩ := h1 _ hc
    exact .inl ⟨d, hd, fun x hx => (h x ((e x).mpr hx)).mono h1 h2⟩
  · exact .inr ⟨l, a.mono h1 h2, b.mono h1 h2⟩
/-- the same clauses as sets, the same given ones -/
theorem Out.congr {cs ds : List (List Int)} {gs hs : List Int} (h1 : ∀ c ∈ cs, ∃ d ∈ ds, ∀ x, x ∈ c ↔ x ∈ d) (h2 : ∀ c ∈ ds, ∃ d ∈ cs, ∀ x, x ∈ c ↔ x ∈ d) (g : ∀ x, x ∈ gs ↔ x ∈ hs) {r : Option (List Int)} (h : Out cs gs r) : Out ds hs r := by
  have c1 : Cnf cs gs ↔ Cnf ds hs := ⟨fun h => h.mono h1 fun x q => (g x).mp q, fun h => h.mono h2 fun x q => (g x).mpr q⟩
  rcases h with ⟨h, e⟩ | ⟨h, ks, e, k1, k2⟩
  · exact .inl ⟨c1.mp h, e⟩
  · exact .inr ⟨fun q => h (c1.mpr q), ks, e, k1, fun x => (k2 x).trans ⟨fun q => q.mono h1 fun x z => (g x).mp z, fun q => q.mono h2 fun x z => (g x).mpr z⟩⟩

/-! ## places of literals -/
def ixs (l : Int) : Int → List (List Int) → List Int
  | _, [] => []
  | i, c :: t => if l ∈ c then i :: ixs l (i + 1) t else ixs l (i + 1) t
theorem ixs_snoc (l : Int) (c : List Int) : ∀ (i : Int) (xs : List (List Int)), ixs l i (xs ++ [c]) = ixs l i xs ++ if l ∈ c then [i + (xs.length : Int)] else []
  | i, [] => by
    show (if l ∈ c then i :: [] else []) = _
    by_cases h : l ∈ c <;> simp [h, ixs]
  | i, x :: xs => by
    show (if l ∈ x then i :: ixs l (i + 1) (xs ++ [c]) else ixs l (i + 1) (xs ++ [c])) = (if l ∈ x then i :: ixs l (i + 1) xs else ixs l (i + 1) xs) ++ _
    rw [ixs_snoc l c (i + 1) xs, show i + 1 + (xs.length : Int) = i + ((x :: xs).length : Int) by simp; omega]
    by_cases h : l ∈ x <;> simp [h]
theorem mem_ixs {l k : Int} : ∀ {i : Int} {xs : List (List Int)}, k ∈ ixs l i xs ↔ ∃ (j : Nat) (c : List Int), k = i + (j : Int) ∧ xs[j]? = some c ∧ l ∈ c
  | i, [] => by simp [ixs]
  | i, x :: xs => by
    have ih := mem_ixs (l := l) (k := k) (i := i + 1) (xs := xs)
    show (k ∈ if l ∈ x then i :: ixs l (i + 1) xs else ixs l (i + 1) xs) ↔ _
    constructor
    · intro h
      by_cases c : l ∈ x
      · rw [if_pos c] at h
        rcases List.mem_cons.mp h with rfl | h
        · exact ⟨0, x, by simp, rfl, c⟩
        · obtain ⟨j, d, e1, e2, e3⟩ := ih.mp h
          exact ⟨j + 1, d, by omega, by simpa using e2, e3⟩
      · rw [if_neg c] at h
        obtain ⟨j, d, e1, e2, e3⟩ := ih.mp h
        exact ⟨j + 1, d, by omega, by simpa using e2, e3⟩
    · rintro ⟨j, d, e1, e2, e3⟩
      cases j with
      | zero =>
        simp at e2
        subst e2
        rw [if_pos e3, show k = i by simpa using e1]
        exact .head _
      | succ j =>
        have := ih.mpr ⟨j, d, by omega, by simpa using e2, e3⟩
        by_cases c : l ∈ x
        · rw [if_pos c]; exact .tail _ this
        · rw [if_neg c]; exact this
theorem ixs_nodup (l : Int) : ∀ (i : Int) (xs : List (List Int)), (ixs l i xs).Nodup
  | _, [] => List.nodup_nil
  | i, x :: xs => by
    show (if l ∈ x then i :: ixs l (i + 1) xs else ixs l (i + 1) xs).Nodup
    by_cases c : l ∈ x
    · rw [if_pos c]
      refine List.nodup_cons.mpr ⟨fun h => ?_, ixs_nodup l (i + 1) xs⟩
      obtain ⟨j, d, e, _⟩ := mem_ixs.mp h
      omega
    · rw [if_neg c]; exact ixs_nodup l (i + 1) xs
theorem ixs_len (l : Int) : ∀ (i : Int) (xs : List (List Int)), (ixs l i xs).length ≤ xs.length
  | _, [] => Nat.le_refl _
  | i, x :: xs => by
    have := ixs_len l (i + 1) xs
    show (if l ∈ x then i :: ixs l (i + 1) xs else ixs l (i + 1) xs).length ≤ xs.length + 1
    by_cases c : l ∈ x
    · rw [if_pos c]; simp; omega
    · rw [if_neg c]; omega
section
variable {κ : Type} [DecidableEq κ] {β : Type}
theorem mget_mupd1 {α : Type} {qs : List (κ × α)} {k j : κ} {x : α} : mget (mupd1 qs k x) j = if k = j then (mget qs k).map (fun _ => x) else mget qs j := by
  induction qs with
  | nil => by_cases c : k = j <;> simp [c, mupd1, mget]
  | cons q qs ih =>
    unfold mupd1
    by_cases c : q.1 = k
    · rw [if_pos c, mget_cons, mget_cons, mget_cons, c]
      by_cases c2 : k = j
      · rw [if_pos c2, if_pos c2, if_pos rfl]; rfl
      · rw [if_neg c2, if_neg c2, if_neg c2]
    · rw [if_neg c, mget_cons, ih, mget_cons, mget_cons, if_neg c]
      by_cases c2 : k = j
      · rw [if_pos c2, if_pos c2, if_neg (fun e => c (e.trans c2.symm))]
      · rw [if_neg c2, if_neg c2]
theorem mget_mapp {m : List (κ × List β)} {k j : κ} {y : β} : (mget (mapp m k y) j).getD [] = if k = j then (mget m k).getD [] ++ [y] else (mget m j).getD [] := by
  unfold mapp
  cases e : mget m k with
  | some x =>
    show (mget (mupd1 m k (x ++ [y])) j).getD [] = _
    rw [mget_mupd1, e]
    by_cases c : k = j
    · rw [if_pos c, if_pos c]; rfl
    · rw [if_neg c, if_neg c]
  | none =>
    show (mget (m ++ [(k, [y])]) j).getD [] = _
    rw [mget_snoc]
    by_cases c : k = j
    · subst c; rw [e, if_pos rfl, if_pos rfl]; rfl
    · rw [if_neg c, if_neg c]
      cases mget m j <;> rfl
theorem mupd1_len {α : Type} {qs : List (κ × α)} {k : κ} {x : α} : (mupd1 qs k x).length = qs.length := by
  induction qs with
  | nil => rfl
  | cons q qs ih =>
    unfold mupd1
    split <;> simp [ih]
theorem mapp_len {m : List (κ × List β)} {k : κ} {y : β} : (mapp m k y).length ≤ m.length + 1 := by
  unfold mapp
  split
  · rw [mupd1_len]; omega
  · simp
end
/-! ## the pusher's word -/
def tot (cs : List (List Int)) : Nat := (cs.map List.length).sum
theorem tot_app (cs : List (List Int)) (c : List Int) : tot (cs ++ [c]) = tot cs + c.length := by simp [tot]
theorem tot_ge {cs : List (List Int)} {c : List Int} (h : c ∈ cs) : c.length ≤ tot cs := by
  induction cs with
  | nil => cases h
  | cons d cs ih =>
    show c.length ≤ d.length + tot cs
    rcases List.mem_cons.mp h with rfl | h
    · omega
    · have := ih h; omega
theorem mset_len (c : List Int) : (mset c).length ≤ c.length := nodup_sub (strict_nodup (mset_strict c)) fun x h => mem_mset.mp h
structure PInv (P : M_Pusher) (cs : List (List Int)) : Prop where
  cl : P.clauses = cs.map mset
  pl : ∀ l, (mget P.places l).getD [] = ixs l 0 (cs.map mset)
  pn : P.places.length ≤ tot cs
  st : ∀ l, l ∈ P.starts ↔ ∃ c ∈ cs, mset c = [l]
  sn : P.starts.length ≤ cs.length
  em : P.empty = true ↔ ∃ c ∈ cs, mset c = []
theorem pinv_nil : PInv (M_Pusher.mk ([] : List (List Int)) ([] : List (Int × List Int)) ([] : List Int) false) [] :=
  ⟨rfl, fun l => rfl, Nat.le_refl _, by simp, Nat.le_refl _, by simp⟩
theorem include_l1 (cl : List (List Int)) (st : List Int) (em : Bool) : ∀ (ls : List Int) (pl : List (Int × List Int)), ls.Nodup → pl.length + ls.length < 16777216 → (∀ l ∈ ls, ((mget pl l).getD []).length < 16777216) →
    ∃ pl', m_Pusher_include_l1 ls (M_Pusher.mk cl pl st em) = some (M_Pusher.mk cl pl' st em) ∧ pl'.length ≤ pl.length + ls.length ∧ ∀ j, (mget pl' j).getD [] = (mget pl j).getD [] ++ if j ∈ ls then [(cl.length : Int)] else []
  | [], pl, _, _, _ => ⟨pl, rfl, Nat.le_refl _, fun j => by simp⟩
  | l :: ls, pl, nd, hl, hg => by
    have nd2 := List.nodup_cons.mp nd
    have hl' : pl.length + (ls.length + 1) < 16777216 := hl
    have hm := mapp_len (m := pl) (k := l) (y := (cl.length : Int))
    obtain ⟨pl', h1, h2, h3⟩ := include_l1 cl st em ls (mapp pl l (cl.length : Int)) nd2.2 (by omega) fun x hx => by
      rw [mget_mapp, if_neg (by rintro rfl; exact nd2.1 hx)]
      exact hg x (.tail _ hx)
    refine ⟨pl', ?_, by simp; omega, fun j => ?_⟩
    · rw [m_Pusher_include_l1, grd_t (decide_eq_true (by show pl.length < _; omega)), grd_t (decide_eq_true (hg l (.head _)))]
      exact h1
    · rw [h3, mget_mapp]
      by_cases c : l = j
      · subst c
        rw [if_pos rfl, if_neg nd2.1, if_pos (.head _), List.append_nil]
      · rw [if_neg c]
        by_cases c2 : j ∈ ls
        · rw [if_pos c2, if_pos (.tail _ c2)]
        · rw [if_neg c2, if_neg (by intro h; rcases List.mem_cons.mp h with e | h; exact c e.symm; exact c2 h)]
theorem include_ok {P : M_Pusher} {cs : List (List Int)} (I : PInv P cs) (q : Bool × List Int) (h64 : q.2.length < 64) (hc : cs.length < 10000000) (ht : tot cs < 10000000) :
    ∃ P', m_Pusher_include P q = some P' ∧ PInv P' (cs ++ [q.2]) := by
  obtain ⟨b, c⟩ := q
  have hml := mset_len c
  have h64' : c.length < 64 := h64
  obtain ⟨pl', h1, h2, h3⟩ := include_l1 P.clauses P.starts P.empty (mset c) P.places (strict_nodup (mset_strict c)) (by have := I.pn; omega) fun l _ => by
    rw [I.pl l]
    have := ixs_len l 0 (cs.map mset)
    simp at this
    omega
  have hcl : P.clauses.length = cs.length := by rw [I.cl, List.length_map]
  have pl2 : ∀ l, (mget pl' l).getD [] = ixs l 0 ((cs ++ [c]).map mset) := by
    intro l
    rw [h3, I.pl, List.map_append, List.map_singleton, ixs_snoc, hcl, List.length_map, Int.zero_add]
  have base : ∀ st em, (∀ l, l ∈ st ↔ ∃ d ∈ cs ++ [c], mset d = [l]) → st.length ≤ cs.length + 1 → (em = true ↔ ∃ d ∈ cs ++ [c], mset d = []) → PInv (M_Pusher.mk (P.clauses ++ [mset c]) pl' st em) (cs ++ [c]) :=
    fun st em q1 q2 q3 => ⟨by show P.clauses ++ [mset c] = _; rw [I.cl, List.map_append]; rfl, pl2, by rw [tot_app]; have := I.pn; show pl'.length ≤ _; omega, q1, by simpa using q2, q3⟩
  unfold m_Pusher_include
  rw [grd_t (decide_eq_true h64), bs (show m_Pusher_include_l1 (mset c) (M_Pusher.mk P.clauses P.places P.starts P.empty) = _ from h1), grd_t (decide_eq_true (by show P.clauses.length < _; omega))]
  have stold : (∀ l, mset c ≠ [l]) → ∀ l, l ∈ P.starts ↔ ∃ d ∈ cs ++ [c], mset d = [l] := fun n l => by
    rw [I.st]
    constructor
    · rintro ⟨d, hd, e⟩; exact ⟨d, List.mem_append_left _ hd, e⟩
    · rintro ⟨d, hd, e⟩
      rcases List.mem_append.mp hd with hd | hd
      · exact ⟨d, hd, e⟩
      · rw [List.mem_singleton.mp hd] at e; exact (n l e).elim
  have emold : mset c ≠ [] → (P.empty = true ↔ ∃ d ∈ cs ++ [c], mset d = []) := fun n => by
    rw [I.em]
    constructor
    · rintro ⟨d, hd, e⟩; exact ⟨d, List.mem_append_left _ hd, e⟩
    · rintro ⟨d, hd, e⟩
      rcases List.mem_append.mp hd with hd | hd
      · exact ⟨d, hd, e⟩
      · rw [List.mem_singleton.mp hd] at e; exact (n e).elim
  have hsn := I.sn
  cases e : mset c with
  | nil =>
    rw [if_pos (by rfl)]
    have b := base P.starts true (stold fun l q => by rw [e] at q; cases q) (by omega) ⟨fun _ => ⟨c, by simp, e⟩, fun _ => rfl⟩
    rw [e] at b
    exact ⟨_, rfl, b⟩
  | cons x t =>
    rw [if_neg (by simp)]
    cases t with
    | nil =>
      rw [if_pos (by simp), bs (x := x) (by rw [atI_of (by omega)]; rfl), grd_t (decide_eq_true (by show P.starts.length < _; omega))]
      have b := base (P.starts ++ [x]) P.empty (fun l => by
        rw [List.mem_append, I.st, List.mem_singleton]
        constructor
        · rintro (⟨d, hd, q⟩ | rfl)
          · exact ⟨d, List.mem_append_left _ hd, q⟩
          · exact ⟨c, by simp, e⟩
        · rintro ⟨d, hd, q⟩
          rcases List.mem_append.mp hd with hd | hd
          · exact .inl ⟨d, hd, q⟩
          · rw [List.mem_singleton.mp hd, e] at q
            exact .inr (by cases q; rfl)) (by simp; omega) (emold (by rw [e]; simp))
      rw [e] at b
      exact ⟨_, rfl, b⟩
    | cons y t =>
      rw [if_neg (by simp; omega)]
      have b := base P.starts P.empty (stold fun l q => by rw [e] at q; cases q) (by omega) (emold (by rw [e]; simp))
      rw [e] at b
      exact ⟨_, rfl, b⟩
theorem init_l1 : ∀ (qs : List (Bool × List Int)) {P : M_Pusher} {cs : List (List Int)}, PInv P cs → (∀ q ∈ qs, q.2.length < 64) → cs.length + qs.length < 10000000 → tot cs + tot (qs.map (·.2)) < 10000000 →
    ∃ P', m_Pusher_init_l1 qs P = some P' ∧ PInv P' (cs ++ qs.map (·.2))
  | [], P, cs, I, _, _, _ => ⟨P, rfl, by simpa using I⟩
  | q :: qs, P, cs, I, h, h1, h2 => by
    have h1' : cs.length + (qs.length + 1) < 10000000 := h1
    have h2' : tot cs + (q.2.length + tot (qs.map (·.2))) < 10000000 := h2
    obtain ⟨P1, e1, I1⟩ := include_ok I q (h q (.head _)) (by omega) (by omega)
    obtain ⟨P2, e2, I2⟩ := init_l1 qs I1 (fun x hx => h x (.tail _ hx)) (by simp; omega) (by rw [tot_app]; omega)
    refine ⟨P2, ?_, by simpa using I2⟩
    rw [m_Pusher_init_l1, bs (show m_Pusher_include (M_Pusher.mk P.clauses P.places P.starts P.empty) q = _ from e1)]
    exact e2
theorem init_ok (qs : List (Bool × List Int)) (h : ∀ q ∈ qs, q.2.length < 64) (h1 : qs.length < 10000000) (h2 : tot (qs.map (·.2)) < 10000000) : ∃ P, m_Pusher_init qs = some P ∧ PInv P (qs.map (·.2)) := by
  obtain ⟨P, e, I⟩ := init_l1 qs pinv_nil h (by simpa using h1) (by simpa [tot] using h2)
  unfold m_Pusher_init
  rw [bs e]
  exact ⟨_, rfl, by simpa using I⟩

/-! ## the pushing -/
/-- how many of a clause's literals are false -/
def cnt (kn : List (Int × Bool)) (c : List Int) : Nat := c.countP fun x => (mget kn (-x)).isSome
abbrev Kn (kn : List (Int × Bool)) (x : Int) : Prop := x ∈ kn.map (·.1)
theorem kn_some {kn : List (Int × Bool)} {x : Int} : (mget kn x).isSome = true ↔ Kn kn x := by
  constructor
  · intro h
    exact Classical.byContradiction fun n => by rw [mget_none.mpr n] at h; cases h
  · intro h
    cases e : mget kn x with
    | some y => rfl
    | none => exact (mget_none.mp e h).elim
section
variable {P : M_Pusher} {cs : List (List Int)} {gs : List Int}
/-- the counts stand right -/
def OcOk (cs : List (List Int)) (kn : List (Int × Bool)) (oc : List (Int × Int)) : Prop := ∀ (k : Nat) (c : List Int), (cs.map mset)[k]? = some c → (mget oc (k : Int)).getD (c.length : Int) = (c.length : Int) - (cnt kn c : Int)
theorem cnt_le (kn : List (Int × Bool)) (c : List Int) : cnt kn c ≤ c.length := List.countP_le_length
theorem snoc_some {kn : List (Int × Bool)} {l j : Int} : (mget (kn ++ [(l, true)]) j).isSome = ((mget kn j).isSome || decide (l = j)) := by
  rw [mget_snoc]
  cases mget kn j with
  | some y => rfl
  | none =>
    by_cases c : l = j
    · simp [c]
    · simp [c]
theorem cnt_new {kn : List (Int × Bool)} {l : Int} (hn : mget kn l = none) : ∀ {c : List Int}, c.Nodup → cnt (kn ++ [(l, true)]) c = cnt kn c + if -l ∈ c then 1 else 0
  | [], _ => rfl
  | x :: c, nd => by
    have nd2 := List.nodup_cons.mp nd
    have ih := cnt_new (kn := kn) (l := l) hn (c := c) nd2.2
    unfold cnt at ih ⊢
    rw [List.countP_cons, List.countP_cons, ih, snoc_some]
    by_cases c1 : l = -x
    · subst c1
      rw [Int.neg_neg, if_neg nd2.1, hn]
      simp
    · have c2 : ¬ -l = x := by omega
      rw [decide_eq_false c1, Bool.or_false]
      by_cases c3 : -l ∈ c
      · rw [if_pos c3, if_pos (List.mem_cons_of_mem _ c3)]; omega
      · have c4 : ¬ -l ∈ x :: c := fun h => by rcases List.mem_cons.mp h with h | h; exact c2 h; exact c3 h
        rw [if_neg c3, if_neg c4]
        omega
theorem cnt_split (kn : List (Int × Bool)) (c : List Int) : c.length = cnt kn c + (c.filter fun x => decide (¬ Kn kn (-x))).length := by
  unfold cnt
  rw [← List.countP_eq_length_filter, List.length_eq_countP_add_countP (p := fun x => (mget kn (-x)).isSome)]
  congr 1
  apply List.countP_congr
  intro x _
  simp only [decide_eq_true_eq, ← kn_some]
theorem one_left {kn : List (Int × Bool)} {c : List Int} (nd : c.Nodup) (h : (c.length : Int) - (cnt kn c : Int) = 1) {x : Int} (hx : x ∈ c) (hn : ¬ Kn kn (-x)) : ∀ y ∈ c, y ≠ x → Kn kn (-y) := by
  intro y hy ne
  refine Classical.byContradiction fun hk => ?_
  have h1 := cnt_split kn c
  have h2 := nodup_sub (l := [x, y]) (r := c.filter fun x => decide (¬ Kn kn (-x))) (by simp; exact fun e => ne e.symm) fun z hz => by
    simp only [List.mem_cons, List.not_mem_nil, or_false] at hz
    rcases hz with rfl | rfl
    · exact List.mem_filter.mpr ⟨hx, decide_eq_true hn⟩
    · exact List.mem_filter.mpr ⟨hy, decide_eq_true hk⟩
  rw [show [x, y].length = 2 from rfl] at h2
  omega
theorem all_but {kn : List (Int × Bool)} {c : List Int} (nd : c.Nodup) {m : Int} (hm : m ∈ c) (hn : ¬ Kn kn (-m)) (h : ∀ y ∈ c, y ≠ m → Kn kn (-y)) : (c.length : Int) - (cnt kn c : Int) = 1 := by
  have h1 := cnt_split kn c
  have h2 := nodup_sub (l := [m]) (r := c.filter fun x => decide (¬ Kn kn (-x))) (by simp) fun z hz => by
    rw [List.mem_singleton.mp hz]
    exact List.mem_filter.mpr ⟨hm, decide_eq_true hn⟩
  have h3 := nodup_sub (l := c.filter fun x => decide (¬ Kn kn (-x))) (r := [m]) (nd.filter _) fun z hz => by
    obtain ⟨q1, q2⟩ := List.mem_filter.mp hz
    rw [List.mem_singleton]
    exact Classical.byContradiction fun ne => (of_decide_eq_true q2) (h z q1 ne)
  rw [show [m].length = 1 from rfl] at h2 h3
  omega
theorem push_l1 {L : Nat} (I : PInv P cs) (kn : List (Int × Bool)) (l : Int) (kn' : List (Int × Bool)) (hk : kn' = mput kn l true) : ∀ (ks : List Int) (fd : List Int) (oc : List (Int × Int)), ks.Nodup → (∀ k ∈ ks, ∃ (j : Nat) (c : List Int), k = (j : Int) ∧ (cs.map mset)[j]? = some c) →
    oc.length + ks.length < 16777216 → (∀ c ∈ cs, c.length ≤ L) → fd.length + ks.length * L < 16777216 →
    ∃ fd' oc', m_Pusher_push_l1 P l kn ks (fd, oc) = some (fd', oc') ∧ oc'.length ≤ oc.length + ks.length ∧
      (∀ (k : Nat) (c : List Int), (cs.map mset)[k]? = some c → (mget oc' (k : Int)).getD (c.length : Int) = (mget oc (k : Int)).getD (c.length : Int) - if (k : Int) ∈ ks then 1 else 0) ∧
      (∀ x, x ∈ fd' ↔ x ∈ fd ∨ ∃ (k : Nat) (c : List Int), (k : Int) ∈ ks ∧ (cs.map mset)[k]? = some c ∧ (mget oc' (k : Int)).getD (c.length : Int) = 1 ∧ x ∈ c ∧ ¬ Kn kn' (-x)) ∧
      fd'.length ≤ fd.length + ks.length * L
  | [], fd, oc, _, _, _, _, _ => ⟨fd, oc, rfl, Nat.le_refl _, fun k c _ => by simp, fun x => by simp, by simp⟩
  | k :: ks, fd, oc, nd, hks, h1, h2, h3 => by
    have nd2 := List.nodup_cons.mp nd
    have h1' : oc.length + (ks.length + 1) < 16777216 := h1
    have h3' : fd.length + (ks.length * L + L) < 16777216 := by rw [← Nat.succ_mul]; exact h3
    obtain ⟨j, c, rfl, hc⟩ := hks k (.head _)
    have hat : atI P.clauses (j : Int) = some c := by rw [I.cl, atI_of (by omega)]; simpa using hc
    have hcl : c.length ≤ L := by
      obtain ⟨d, hd, rfl⟩ := List.mem_map.mp (List.mem_of_getElem? hc)
      have := mset_len d
      have := h2 d hd
      omega
    generalize hv : ((mget oc (j : Int)).getD (c.length : Int)) - (1 : Int) = v
    have hm := mput_len (xs := oc) (k := (j : Int)) (x := v)
    have fin : ∀ fd1 : List Int, fd1.length ≤ fd.length + c.length → (∀ x, x ∈ fd1 ↔ x ∈ fd ∨ (v = 1 ∧ x ∈ c ∧ ¬ Kn kn' (-x))) → ∃ fd' oc', m_Pusher_push_l1 P l kn ks (fd1, mput oc (j : Int) v) = some (fd', oc') ∧ oc'.length ≤ oc.length + (ks.length + 1) ∧
        (∀ (k : Nat) (c : List Int), (cs.map mset)[k]? = some c → (mget oc' (k : Int)).getD (c.length : Int) = (mget oc (k : Int)).getD (c.length : Int) - if (k : Int) ∈ (j : Int) :: ks then 1 else 0) ∧
        (∀ x, x ∈ fd' ↔ x ∈ fd ∨ ∃ (k : Nat) (c : List Int), (k : Int) ∈ (j : Int) :: ks ∧ (cs.map mset)[k]? = some c ∧ (mget oc' (k : Int)).getD (c.length : Int) = 1 ∧ x ∈ c ∧ ¬ Kn kn' (-x)) ∧
        fd'.length ≤ fd.length + (ks.length + 1) * L := by
      intro fd1 hf1 hf2
      obtain ⟨fd', oc', g1, g2, g3, g4, g5⟩ := push_l1 I kn l kn' hk ks fd1 (mput oc (j : Int) v) nd2.2 (fun x hx => hks x (.tail _ hx)) (by omega) h2 (by omega)
      have oc3 : ∀ (k : Nat) (d : List Int), (cs.map mset)[k]? = some d → (mget oc' (k : Int)).getD (d.length : Int) = (mget oc (k : Int)).getD (d.length : Int) - if (k : Int) ∈ (j : Int) :: ks then 1 else 0 := by
        intro k d hd
        rw [g3 k d hd, mget_put]
        by_cases e : (j : Int) = (k : Int)
        · have e2 : j = k := by omega
          subst e2
          rw [hc] at hd; cases hd
          rw [if_pos rfl, if_neg nd2.1, if_pos (.head _), ← hv]; simp
        · rw [if_neg e]
          by_cases e2 : (k : Int) ∈ ks
          · rw [if_pos e2, if_pos (.tail _ e2)]
          · rw [if_neg e2, if_neg (by intro h; rcases List.mem_cons.mp h with h | h; exact e h.symm; exact e2 h)]
      refine ⟨fd', oc', g1, by omega, oc3, fun x => ?_, by rw [Nat.succ_mul]; omega⟩
      rw [g4 x, hf2 x]
      constructor
      · rintro ((h | ⟨h, hx, hn⟩) | ⟨k, d, q1, q2, q3, q4, q5⟩)
        · exact .inl h
        · refine .inr ⟨j, c, .head _, hc, ?_, hx, hn⟩
          rw [oc3 j c hc, if_pos (.head _), hv, h]
        · exact .inr ⟨k, d, .tail _ q1, q2, q3, q4, q5⟩
      · rintro (h | ⟨k, d, q1, q2, q3, q4, q5⟩)
        · exact .inl (.inl h)
        · rcases List.mem_cons.mp q1 with e | q1
          · have e2 : k = j := by omega
            subst e2
            rw [hc] at q2; cases q2
            refine .inl (.inr ⟨?_, q4, q5⟩)
            rw [oc3 k c hc, if_pos (.head _), hv] at q3
            exact q3
          · exact .inr ⟨k, d, q1, q2, q3, q4, q5⟩
    rw [m_Pusher_push_l1, bs hat, grd_t (decide_eq_true (by show oc.length < _; omega))]
    dsimp only
    rw [hv, bs (x := v) (by rw [mget_put, if_pos rfl])]
    by_cases e : v = 1
    · rw [if_pos (decide_eq_true e), bs hat, grd_t (decide_eq_true (by omega))]
      have hfl : ((c.filter fun x => (!(mget (mput kn l true) (-x)).isSome)).map fun x => x).length ≤ c.length := by
        rw [List.map_id']; exact List.length_filter_le _ _
      rw [grd_t (decide_eq_true (by omega))]
      refine fin _ (by simp only [List.length_append]; omega) fun x => ?_
      rw [List.mem_append, List.map_id', List.mem_filter, ← hk]
      constructor
      · rintro (h | ⟨h, g⟩)
        · exact .inl h
        · refine .inr ⟨e, h, fun q => ?_⟩
          rw [kn_some.mpr q] at g; cases g
      · rintro (h | ⟨_, h, g⟩)
        · exact .inl h
        · refine .inr ⟨h, ?_⟩
          cases q : (mget kn' (-x)).isSome with
          | false => rfl
          | true => exact (g (kn_some.mp q)).elim
    · rw [if_neg (by simpa using e)]
      exact fin fd (by omega) fun x => ⟨.inl, fun h => h.elim id fun h => (e h.1).elim⟩
/-- the state of the stack -/
structure FInv (cs : List (List Int)) (gs : List Int) (todo : List Int) (oc : List (Int × Int)) (kn : List (Int × Bool)) : Prop where
  t : ∀ x ∈ todo, Frc cs gs x
  k : ∀ x, Kn kn x → Frc cs gs x
  g : ∀ x ∈ gs, x ∈ todo ∨ Kn kn x
  u : ∀ c ∈ cs, ∀ l, mset c = [l] → l ∈ todo ∨ Kn kn l
  no : ∀ x, Kn kn x → ¬ Kn kn (-x)
  nd : (kn.map (·.1)).Nodup
  oc : OcOk cs kn oc
  c : (∃ x ∈ todo, Kn kn (-x)) ∨ ∀ c ∈ cs, ∀ l ∈ c, (∃ x ∈ c, x ≠ l) → (∀ x ∈ c, x ≠ l → Kn kn (-x)) → l ∈ todo ∨ Kn kn l
theorem forced_l1 {L : Nat} (I : PInv P cs) (hc : ∀ c ∈ cs, c.length ≤ L) (hn : cs.length < 10000) (U : List Int) (hU : ∀ x, Frc cs gs x → x ∈ U) (hz : ∀ x ∈ U, x ≠ 0) (hB : (U.length + 2) * (cs.length * L + 1) < 5000000) (hU2 : U.length * cs.length < 10000000) :
    ∀ (fl : Nat) (todo : List Int) (oc : List (Int × Int)) (kn : List (Int × Bool)), FInv cs gs todo oc kn → oc.length ≤ kn.length * cs.length → todo.length + (U.length - kn.length) * (cs.length * L + 1) < 6000000 → todo.length + (U.length - kn.length) * (cs.length * L + 1) < fl →
    ∃ r, m_Pusher_forced_l1 P fl (todo, oc, kn) = some r ∧ ((r = .ret none ∧ Cnf cs gs) ∨ ∃ oc' kn', r = .done ([], oc', kn') ∧ FInv cs gs [] oc' kn')
  | 0, _, _, _, _, _, _, h => absurd h (Nat.not_lt_zero _)
  | fl + 1, todo, oc, kn, J, ho, hb, hfl => by
    rw [m_Pusher_forced_l1]
    rcases List.eq_nil_or_concat todo with rfl | ⟨td, l, rfl⟩
    · exact ⟨_, rfl, .inr ⟨oc, kn, rfl, J⟩⟩
    · rw [List.concat_eq_append] at *
      dsimp only
      have hl : Frc cs gs l := J.t l (by simp)
      have hl0 : l ≠ 0 := hz _ (hU _ hl)
      have hlen : (td ++ [l]).length = td.length + 1 := by simp
      rw [if_pos (by simp), bs (x := l) (List.getLast?_concat ..), List.dropLast_concat]
      by_cases c1 : Kn kn (-l)
      · rw [if_pos (kn_some.mpr c1)]
        exact ⟨_, rfl, .inl ⟨rfl, .inr ⟨l, hl, J.k _ c1⟩⟩⟩
      · rw [if_neg (fun q => c1 (kn_some.mp q))]
        by_cases c2 : Kn kn l
        · rw [if_neg (by rw [kn_some.mpr c2]; simp)]
          have out : ∀ x, x ∈ td ++ [l] ∨ Kn kn x → x ∈ td ∨ Kn kn x := by
            rintro x (h | h)
            · rcases List.mem_append.mp h with h | h
              · exact .inl h
              · rw [List.mem_singleton.mp h]; exact .inr c2
            · exact .inr h
          refine forced_l1 I hc hn U hU hz hB hU2 fl td oc kn ⟨fun x hx => J.t x (by simp [hx]), J.k, fun x hx => out x (J.g x hx), fun c hc l hl => out _ (J.u c hc l hl), J.no, J.nd, J.oc, ?_⟩ ho (by omega) (by omega)
          rcases J.c with ⟨x, hx, hk⟩ | h
          · rcases List.mem_append.mp hx with hx | hx
            · exact .inl ⟨x, hx, hk⟩
            · rw [List.mem_singleton.mp hx] at hk; exact (c1 hk).elim
          · exact .inr fun c hc l hl h1 h2 => out _ (h c hc l hl h1 h2)
        · have hnl : mget kn l = none := mget_none.mpr c2
          rw [if_pos (by rw [hnl]; rfl)]
          have hput : mput kn l true = kn ++ [(l, true)] := mget_put_new hnl
          have knl : kn.length < U.length := by
            have h1 := nodup_sub (l := l :: kn.map (·.1)) (r := U) (List.nodup_cons.mpr ⟨c2, J.nd⟩) fun x hx => by
              rcases List.mem_cons.mp hx with rfl | hx
              · exact hU _ hl
              · exact hU _ (J.k x hx)
            have h1' : kn.length + 1 ≤ U.length := by simpa using h1
            omega
          have hpl := I.pl (-l)
          have hixl := ixs_len (-l) 0 (cs.map mset)
          rw [List.length_map] at hixl
          have hkl : kn.length * cs.length + cs.length ≤ U.length * cs.length := by
            have := Nat.mul_le_mul_right cs.length knl
            rw [Nat.succ_mul] at this
            exact this
          have hU3 : U.length + 2 ≤ (U.length + 2) * (cs.length * L + 1) := Nat.le_mul_of_pos_right _ (by omega)
          have hT3 : cs.length * L + 1 ≤ (U.length + 2) * (cs.length * L + 1) := Nat.le_mul_of_pos_left _ (by omega)
          have hixL : (ixs (-l) 0 (cs.map mset)).length * L ≤ cs.length * L := Nat.mul_le_mul_right _ hixl
          obtain ⟨fd, oc', p1, p2, p3, p4, p5⟩ := push_l1 (L := L) I kn l (kn ++ [(l, true)]) hput.symm (ixs (-l) 0 (cs.map mset)) [] oc (ixs_nodup _ _ _) (fun k hk => by
            obtain ⟨j, c, e1, e2, _⟩ := mem_ixs.mp hk
            exact ⟨j, c, by omega, e2⟩) (by omega) hc (by simp; omega)
          have p5' : fd.length ≤ cs.length * L := by simp at p5; omega
          have hpush : m_Pusher_push P l kn oc = some (fd, kn ++ [(l, true)], oc') := by
            unfold m_Pusher_push
            rw [grd_t (decide_eq_true (by omega)), hpl, bs p1, hput]
          rw [bs hpush, grd_t (decide_eq_true (by show td.length + fd.length ≤ _; omega))]
          have kn2 : ∀ x, Kn (kn ++ [(l, true)]) x ↔ Kn kn x ∨ x = l := fun x => by unfold Kn; simp
          have ixc : ∀ (k : Nat) (c : List Int), (cs.map mset)[k]? = some c → ((k : Int) ∈ ixs (-l) 0 (cs.map mset) ↔ -l ∈ c) := by
            intro k c hk
            rw [mem_ixs]
            constructor
            · rintro ⟨j, d, e1, e2, e3⟩
              have : j = k := by omega
              subst this
              rw [hk] at e2; cases e2; exact e3
            · exact fun h => ⟨k, c, by omega, hk, h⟩
          have ofidx : ∀ (k : Nat) (c : List Int), (cs.map mset)[k]? = some c → ∃ d ∈ cs, mset d = c := fun k c hk => List.mem_map.mp (List.mem_of_getElem? hk)
          have oc2 : OcOk cs (kn ++ [(l, true)]) oc' := by
            intro k c hk
            obtain ⟨d, _, rfl⟩ := ofidx k c hk
            rw [p3 k _ hk, J.oc k _ hk, cnt_new hnl (strict_nodup (mset_strict d))]
            by_cases e : -l ∈ mset d
            · rw [if_pos e, if_pos ((ixc k _ hk).mpr e)]; omega
            · rw [if_neg e, if_neg (fun h => e ((ixc k _ hk).mp h))]; omega
          have J2 : FInv cs gs (td ++ fd) oc' (kn ++ [(l, true)]) := by
            refine ⟨fun x hx => ?_, fun x hx => ?_, fun x hx => ?_, fun c hc m hm => ?_, fun x hx hnx => ?_, ?_, oc2, ?_⟩
            · rcases List.mem_append.mp hx with hx | hx
              · exact J.t x (by simp [hx])
              · rcases (p4 x).mp hx with h | ⟨k, c, h1, h2, h3, h4, h5⟩
                · cases h
                · obtain ⟨d, hd, rfl⟩ := ofidx k c h2
                  have hol := one_left (strict_nodup (mset_strict d)) ((oc2 k _ h2).symm.trans h3) h4 h5
                  refine .stp hd (mem_mset.mp h4) fun y hy ne => ?_
                  rcases (kn2 _).mp (hol y (mem_mset.mpr hy) ne) with q | q
                  · exact J.k _ q
                  · rw [q]; exact hl
            · rcases (kn2 x).mp hx with h | rfl
              · exact J.k x h
              · exact hl
            · rcases J.g x hx with h | h
              · rcases List.mem_append.mp h with h | h
                · exact .inl (List.mem_append_left _ h)
                · exact .inr ((kn2 x).mpr (.inr (List.mem_singleton.mp h)))
              · exact .inr ((kn2 x).mpr (.inl h))
            · rcases J.u c hc m hm with h | h
              · rcases List.mem_append.mp h with h | h
                · exact .inl (List.mem_append_left _ h)
                · exact .inr ((kn2 m).mpr (.inr (List.mem_singleton.mp h)))
              · exact .inr ((kn2 m).mpr (.inl h))
            · rcases (kn2 x).mp hx with h | rfl
              · rcases (kn2 _).mp hnx with g | g
                · exact J.no x h g
                · exact c1 (by rw [← g, Int.neg_neg]; exact h)
              · rcases (kn2 _).mp hnx with g | g
                · exact c1 g
                · omega
            · rw [List.map_append]
              refine List.nodup_append.mpr ⟨J.nd, by simp, fun a ha b hb => ?_⟩
              have : b = l := by simpa using hb
              subst this
              rintro rfl
              exact c2 ha
            · rcases J.c with ⟨x, hx, hk⟩ | h
              · rcases List.mem_append.mp hx with hx | hx
                · exact .inl ⟨x, List.mem_append_left _ hx, (kn2 _).mpr (.inl hk)⟩
                · rw [List.mem_singleton.mp hx] at hk; exact (c1 hk).elim
              · by_cases D : ∃ x ∈ td ++ fd, Kn (kn ++ [(l, true)]) (-x)
                · exact .inl D
                · refine .inr fun c hc m hm hex hall => ?_
                  by_cases km : Kn (kn ++ [(l, true)]) m
                  · exact .inr km
                  · by_cases old : ∀ x ∈ c, x ≠ m → Kn kn (-x)
                    · rcases h c hc m hm hex old with q | q
                      · rcases List.mem_append.mp q with q | q
                        · exact .inl (List.mem_append_left _ q)
                        · exact (km ((kn2 m).mpr (.inr (List.mem_singleton.mp q)))).elim
                      · exact (km ((kn2 m).mpr (.inl q))).elim
                    · obtain ⟨x0, hx0⟩ := Classical.not_forall.mp old
                      obtain ⟨hx0c, hx0'⟩ := Classical.not_imp.mp hx0
                      obtain ⟨hx0m, hx0k⟩ := Classical.not_imp.mp hx0'
                      have hx0l : -x0 = l := ((kn2 _).mp (hall x0 hx0c hx0m)).resolve_left hx0k
                      have ex0 : x0 = -l := by omega
                      obtain ⟨k, hk⟩ := List.mem_iff_getElem?.mp (List.mem_map.mpr ⟨c, hc, rfl⟩ : mset c ∈ cs.map mset)
                      by_cases nm : Kn (kn ++ [(l, true)]) (-m)
                      · have nmk : Kn kn (-m) := ((kn2 _).mp nm).resolve_right fun e => hx0m (by omega)
                        rcases h c hc x0 hx0c ⟨m, hm, fun e => hx0m e.symm⟩ (fun y hy ne => by
                          by_cases ym : y = m
                          · rw [ym]; exact nmk
                          · exact ((kn2 _).mp (hall y hy ym)).resolve_right fun e => ne (by omega)) with q | q
                        · rcases List.mem_append.mp q with q | q
                          · exact (D ⟨x0, List.mem_append_left _ q, (kn2 _).mpr (.inr hx0l)⟩).elim
                          · have := List.mem_singleton.mp q
                            omega
                        · rw [ex0] at q; exact (c1 q).elim
                      · refine .inl (List.mem_append_right _ ((p4 m).mpr (.inr ⟨k, mset c, (ixc k _ hk).mpr (mem_mset.mpr (ex0 ▸ hx0c)), hk, ?_, mem_mset.mpr hm, nm⟩)))
                        rw [oc2 k _ hk]
                        exact all_but (strict_nodup (mset_strict c)) (mem_mset.mpr hm) nm fun y hy ne => hall y (mem_mset.mp hy) ne
          have hmul : (U.length - kn.length) * (cs.length * L + 1) = (U.length - (kn ++ [(l, true)]).length) * (cs.length * L + 1) + (cs.length * L + 1) := by
            rw [show U.length - kn.length = (U.length - (kn ++ [(l, true)]).length) + 1 by simp; omega, Nat.succ_mul]
          exact forced_l1 I hc hn U hU hz hB hU2 fl (td ++ fd) oc' (kn ++ [(l, true)]) J2 (by simp only [List.length_append, List.length_singleton]; rw [Nat.succ_mul]; omega) (by rw [List.length_append]; omega) (by rw [List.length_append]; omega)
theorem frc_in {x : Int} (h : Frc cs gs x) : x ∈ gs ++ cs.flatten := by
  cases h with
  | giv h => exact List.mem_append_left _ h
  | stp hc hl _ => exact List.mem_append_right _ (List.mem_flatten.mpr ⟨_, hc, hl⟩)
theorem tot_le {L : Nat} : ∀ {cs : List (List Int)}, (∀ c ∈ cs, c.length ≤ L) → tot cs ≤ cs.length * L
  | [], _ => Nat.zero_le _
  | c :: cs, h => by
    have h1 := h c (.head _)
    have h2 := tot_le (L := L) (cs := cs) fun d hd => h d (.tail _ hd)
    show c.length + tot cs ≤ (cs.length + 1) * L
    rw [Nat.succ_mul]
    omega
theorem forced_ok {L : Nat} (I : PInv P cs) (hc : ∀ c ∈ cs, c.length ≤ L) (hn : cs.length < 10000) (hz : ∀ c ∈ cs, ∀ x ∈ c, x ≠ 0) (hz2 : ∀ x ∈ gs, x ≠ 0) (hB : (gs.length + cs.length * L + 2) * (cs.length * L + 1) < 2500000) (hU2 : (gs.length + cs.length * L) * cs.length < 10000000) :
    ∃ r, m_Pusher_forced P gs = some r ∧ Out cs gs r := by
  unfold m_Pusher_forced
  by_cases e : P.empty = true
  · rw [if_pos e]
    obtain ⟨c, h1, h2⟩ := I.em.mp e
    exact ⟨none, rfl, .inl ⟨.inl ⟨c, h1, fun x hx => by have := mem_mset.mpr hx; rw [h2] at this; cases this⟩, rfl⟩⟩
  · rw [if_neg e]
    have hsn := I.sn
    have hT : cs.length * L + 1 ≤ (gs.length + cs.length * L + 2) * (cs.length * L + 1) := Nat.le_mul_of_pos_left _ (by omega)
    have hG : gs.length + cs.length * L + 2 ≤ (gs.length + cs.length * L + 2) * (cs.length * L + 1) := Nat.le_mul_of_pos_right _ (by omega)
    rw [grd_t (decide_eq_true (by omega))]
    have hul : (gs ++ cs.flatten).length ≤ gs.length + cs.length * L := by
      have := tot_le hc
      rw [List.length_append, List.length_flatten]
      unfold tot at this
      omega
    have hUB : ((gs ++ cs.flatten).length + 2) * (cs.length * L + 1) ≤ (gs.length + cs.length * L + 2) * (cs.length * L + 1) := Nat.mul_le_mul_right _ (by omega)
    have hUB2 : (gs ++ cs.flatten).length * cs.length ≤ (gs.length + cs.length * L) * cs.length := Nat.mul_le_mul_right _ hul
    have hUB3 : (gs ++ cs.flatten).length * (cs.length * L + 1) ≤ ((gs ++ cs.flatten).length + 2) * (cs.length * L + 1) := Nat.mul_le_mul_right _ (by omega)
    have J0 : FInv cs gs (P.starts ++ gs) [] [] := by
      refine ⟨fun x hx => ?_, fun x hx => (by cases hx), fun x hx => .inl (List.mem_append_right _ hx), fun c hc l hl => .inl (List.mem_append_left _ ((I.st l).mpr ⟨c, hc, hl⟩)), fun x hx => (by cases hx), List.nodup_nil, fun k c hk => ?_, .inr fun c hc l hl ⟨x, hx, ne⟩ h => ?_⟩
      · rcases List.mem_append.mp hx with h | h
        · obtain ⟨c, h1, h2⟩ := (I.st x).mp h
          refine .stp h1 (mem_mset.mp (by rw [h2]; exact .head _)) fun y hy ne => ?_
          have := mem_mset.mpr hy
          rw [h2] at this
          exact (ne (List.mem_singleton.mp this)).elim
        · exact .giv h
      · have : cnt [] c = 0 := by
          unfold cnt
          rw [List.countP_eq_zero]
          intro x _
          simp [mget]
        rw [this]
        show (c.length : Int) = _
        omega
      · have := h x hx ne
        cases this
    obtain ⟨r, r1, r2⟩ := forced_l1 (L := L) I hc hn (gs ++ cs.flatten) (fun x h => frc_in h) (fun x hx => by
      rcases List.mem_append.mp hx with h | h
      · exact hz2 x h
      · obtain ⟨c, h1, h2⟩ := List.mem_flatten.mp h
        exact hz c h1 x h2) (by omega) (by omega) fuel (P.starts ++ gs) [] [] J0 (by simp) (by simp only [List.length_append, List.length_nil, Nat.sub_zero] at *; omega) (by simp only [fuel, List.length_append, List.length_nil, Nat.sub_zero] at *; omega)
    rw [bs r1]
    rcases r2 with ⟨rfl, h⟩ | ⟨oc, kn, rfl, J⟩
    · exact ⟨none, rfl, .inl ⟨h, rfl⟩⟩
    · have hcl : ∀ c ∈ cs, ∀ l ∈ c, (∀ x ∈ c, x ≠ l → Kn kn (-x)) → Kn kn l := by
        intro c hc l hl h
        by_cases hex : ∃ x ∈ c, x ≠ l
        · rcases J.c with ⟨x, hx, _⟩ | q
          · cases hx
          · exact (q c hc l hl hex h).resolve_left (by simp)
        · refine (J.u c hc l ?_).resolve_left (by simp)
          refine strict_uniq (mset_strict c) (by simp) fun x => ?_
          rw [mem_mset, List.mem_singleton]
          exact ⟨fun h => Classical.byContradiction fun n => hex ⟨x, h, n⟩, fun h => h ▸ hl⟩
      have all : ∀ x, Frc cs gs x → Kn kn x := by
        intro x hx
        induction hx with
        | giv h => exact (J.g _ h).resolve_left (by simp)
        | stp hc hl _ ih => exact hcl _ hc _ hl ih
      refine ⟨_, rfl, .inr ⟨?_, _, rfl, sortI_strict J.nd, fun x => mem_sortI.trans ⟨J.k x, all x⟩⟩⟩
      rintro (⟨c, hc, h⟩ | ⟨l, h1, h2⟩)
      · cases hcc : c with
        | nil => exact e (I.em.mpr ⟨c, hc, by rw [hcc]; exact List.length_eq_zero_iff.mp (Nat.le_zero.mp (mset_len []))⟩)
        | cons l t =>
          have hl : l ∈ c := by rw [hcc]; exact .head _
          exact J.no l (hcl c hc l hl fun x hx _ => all _ (h x hx)) (all _ (h l hl))
      · exact J.no l (all _ h1) (all _ h2)
end
end G

namespace G
open PySem PySem.Spec PyProof.Rows L2

/-! ## the closure by rounds over all clauses -/
structure LInv (cs : List (List Int)) (gs : List Int) (kn : List (Int × Bool)) : Prop where
  k : ∀ x, Kn kn x → Frc cs gs x
  nd : (kn.map (·.1)).Nodup
  g : ∀ x ∈ gs, Kn kn x
theorem kn_put {kn : List (Int × Bool)} {l x : Int} : Kn (mput kn l true) x ↔ Kn kn x ∨ x = l := by
  rw [← kn_some, ← kn_some, mget_put]
  by_cases c : l = x
  · simp [c]
  · rw [if_neg c]
    constructor
    · exact .inl
    · rintro (h | h)
      · exact h
      · exact (c h.symm).elim
theorem put_nd {kn : List (Int × Bool)} {l : Int} (h : (kn.map (·.1)).Nodup) : ((mput kn l true).map (·.1)).Nodup := by
  unfold mput
  split
  · rw [List.map_map]
    have : ((fun p : Int × Bool => p.1) ∘ fun p => if p.1 = l then (p.1, true) else p) = fun p => p.1 := by
      funext p
      simp only [Function.comp]
      split <;> rfl
    rw [this]
    exact h
  · rename_i hn
    rw [List.map_append]
    refine List.nodup_append.mpr ⟨h, by simp, fun a ha b hb => ?_⟩
    have : b = l := by simpa using hb
    subst this
    rintro rfl
    obtain ⟨p, hp, e⟩ := List.mem_map.mp ha
    exact hn (List.any_eq_true.mpr ⟨p, hp, decide_eq_true e⟩)
theorem put_len_new {kn : List (Int × Bool)} {l : Int} (h : ¬ Kn kn l) : (mput kn l true).length = kn.length + 1 := by
  rw [mget_put_new (mget_none.mpr h)]; simp
theorem put_len_old {kn : List (Int × Bool)} {l : Int} (h : Kn kn l) : (mput kn l true).length = kn.length := by
  unfold mput
  obtain ⟨p, hp, e⟩ := List.mem_map.mp h
  rw [if_pos (List.any_eq_true.mpr ⟨p, hp, decide_eq_true e⟩), List.length_map]
def Closed (S : Int → Prop) (c : List Int) : Prop := ∃ l ∈ c, ¬ S (-l) ∧ ((∀ x ∈ c, ¬ S (-x) → x = l) → S l)
section
variable {cs : List (List Int)} {gs : List Int} {U : List Int}
theorem forced_g : ∀ (ls : List Int) (kn : List (Int × Bool)), (kn.map (·.1)).Nodup → kn.length + ls.length < 16777216 → ∃ kn', m_law_forced_l1 ls kn = some kn' ∧ (kn'.map (·.1)).Nodup ∧ ∀ x, Kn kn' x ↔ Kn kn x ∨ x ∈ ls
  | [], kn, nd, _ => ⟨kn, rfl, nd, fun x => by simp⟩
  | l :: ls, kn, nd, h => by
    have h' : kn.length + (ls.length + 1) < 16777216 := h
    have := mput_len (xs := kn) (k := l) (x := true)
    obtain ⟨kn', h1, h2, h3⟩ := forced_g ls (mput kn l true) (put_nd nd) (by omega)
    refine ⟨kn', ?_, h2, fun x => ?_⟩
    · rw [m_law_forced_l1, grd_t (decide_eq_true (by omega))]; exact h1
    · rw [h3, kn_put, List.mem_cons]
      constructor
      · rintro ((h | h) | h)
        · exact .inl h
        · exact .inr (.inl h)
        · exact .inr (.inr h)
      · rintro (h | h | h)
        · exact .inl (.inl h)
        · exact .inl (.inr h)
        · exact .inr h
theorem LInv.len (hU : ∀ x, Frc cs gs x → x ∈ U) {kn : List (Int × Bool)} (J : LInv cs gs kn) : kn.length ≤ U.length := by
  have := nodup_sub J.nd fun x hx => hU x (J.k x hx)
  rwa [List.length_map] at this
theorem round_l3 (hU : ∀ x, Frc cs gs x → x ∈ U) (hU2 : U.length < 1000000) : ∀ (ds : List (List Int)) (kn : List (Int × Bool)), (∀ c ∈ ds, c ∈ cs ∧ c.length < 16777216) → LInv cs gs kn →
    ∃ r, m_law_forced_l3 ds kn = some r ∧ ((r = .ret none ∧ Cnf cs gs) ∨ ∃ kn', r = .done kn' ∧ LInv cs gs kn' ∧ (∀ x, Kn kn x → Kn kn' x) ∧ kn.length ≤ kn'.length ∧ (kn'.length = kn.length → (∀ x, Kn kn' x → Kn kn x) ∧ ∀ c ∈ ds, Closed (Kn kn) c))
  | [], kn, _, J => ⟨_, rfl, .inr ⟨kn, rfl, J, fun _ h => h, Nat.le_refl _, fun _ => ⟨fun _ h => h, by simp⟩⟩⟩
  | c :: ds, kn, h, J => by
    obtain ⟨hc, hcl⟩ := h c (.head _)
    have hl := J.len hU
    rw [m_law_forced_l3, grd_t (decide_eq_true hcl)]
    generalize hleft : ((c.filter fun x107 => (!(mget kn ((0 : Int) - x107)).isSome)).map fun x107 => x107) = left
    have hleft' : left = c.filter fun x => !(mget kn (-x)).isSome := by
      rw [← hleft, List.map_id']
      simp only [Int.zero_sub]
    have mleft : ∀ x, x ∈ left ↔ x ∈ c ∧ ¬ Kn kn (-x) := by
      intro x
      rw [hleft', List.mem_filter]
      constructor
      · rintro ⟨h1, h2⟩
        exact ⟨h1, fun q => by rw [kn_some.mpr q] at h2; cases h2⟩
      · rintro ⟨h1, h2⟩
        refine ⟨h1, ?_⟩
        cases q : (mget kn (-x)).isSome with
        | false => rfl
        | true => exact (h2 (kn_some.mp q)).elim
    cases hL : left with
    | nil =>
      rw [if_pos (by simp)]
      refine ⟨_, rfl, .inl ⟨rfl, .inl ⟨c, hc, fun x hx => J.k _ (Classical.byContradiction fun n => ?_)⟩⟩⟩
      have := (mleft x).mpr ⟨hx, n⟩
      rw [hL] at this
      cases this
    | cons l0 lt =>
      rw [if_neg (by simp)]
      have hlm : l0 ∈ left := by rw [hL]; exact .head _
      obtain ⟨l0c, l0n⟩ := (mleft l0).mp hlm
      have hlen : (l0 :: lt).length < 16777216 := by
        rw [← hL, hleft']
        exact Nat.lt_of_le_of_lt (List.length_filter_le _ _) hcl
      rw [grd_t (decide_eq_true hlen)]
      have hlc : lcO (fun x141 => (atI (l0 :: lt) (0 : Int)).bind fun y160 => if (!decide (x141 = y160)) = true then (some (some x141)) else some none) (l0 :: lt) = some ((l0 :: lt).filter fun x => !decide (x = l0)) := by
        rw [show (fun x141 : Int => (atI (l0 :: lt) (0 : Int)).bind fun y160 => if (!decide (x141 = y160)) = true then (some (some x141)) else some none) = fun x => if (!decide (x = l0)) = true then some (some x) else some none from funext fun x => by rw [bs (x := l0) (by rw [atI_of (by omega)]; rfl)]]
        rw [lc_filter (fun x => !decide (x = l0)) fun x => x, List.map_id']
      rw [bs hlc]
      by_cases q : ((l0 :: lt).filter fun x => !decide (x = l0)) = []
      · rw [if_pos (decide_eq_true q), bs (x := l0) (by rw [atI_of (by omega)]; rfl), grd_t (decide_eq_true (by omega))]
        have alle : ∀ x ∈ c, ¬ Kn kn (-x) → x = l0 := by
          intro x hx n
          have := (mleft x).mpr ⟨hx, n⟩
          rw [hL] at this
          have h2 := List.filter_eq_nil_iff.mp q x this
          simpa using h2
        have fl0 : Frc cs gs l0 := .stp hc l0c fun x hx ne => J.k _ (Classical.byContradiction fun n => ne (alle x hx n))
        have J1 : LInv cs gs (mput kn l0 true) := ⟨fun x hx => (kn_put.mp hx).elim (J.k x) fun e => e ▸ fl0, put_nd J.nd, fun x hx => kn_put.mpr (.inl (J.g x hx))⟩
        obtain ⟨r, r1, r2⟩ := round_l3 hU hU2 ds (mput kn l0 true) (fun d hd => h d (.tail _ hd)) J1
        refine ⟨r, r1, ?_⟩
        rcases r2 with r2 | ⟨kn', e, K, k1, k2, k3⟩
        · exact .inl r2
        · have hge := mput_len_ge (xs := kn) (k := l0) (x := true)
          refine .inr ⟨kn', e, K, fun x hx => k1 x (kn_put.mpr (.inl hx)), by omega, fun hq => ?_⟩
          have kl : Kn kn l0 := Classical.byContradiction fun n => by
            have := put_len_new n
            omega
          have heq : Kn (mput kn l0 true) = Kn kn := funext fun x => propext ⟨fun h => (kn_put.mp h).elim id fun e => e ▸ kl, fun h => kn_put.mpr (.inl h)⟩
          obtain ⟨s1, s2⟩ := k3 (by rw [put_len_old kl]; exact hq)
          rw [heq] at s1 s2
          refine ⟨s1, fun d hd => ?_⟩
          rcases List.mem_cons.mp hd with rfl | hd
          · exact ⟨l0, l0c, l0n, fun _ => kl⟩
          · exact s2 d hd
      · rw [if_neg (by simpa using q)]
        obtain ⟨r, r1, r2⟩ := round_l3 hU hU2 ds kn (fun d hd => h d (.tail _ hd)) J
        refine ⟨r, r1, ?_⟩
        rcases r2 with r2 | ⟨kn', e, K, k1, k2, k3⟩
        · exact .inl r2
        · refine .inr ⟨kn', e, K, k1, k2, fun hq => ?_⟩
          obtain ⟨s1, s2⟩ := k3 hq
          refine ⟨s1, fun d hd => ?_⟩
          rcases List.mem_cons.mp hd with rfl | hd
          · refine ⟨l0, l0c, l0n, fun hall => (q (List.filter_eq_nil_iff.mpr fun x hx => ?_)).elim⟩
            rw [← hL] at hx
            have := (mleft x).mp hx
            simpa using hall x this.1 this.2
          · exact s2 d hd
theorem rounds_l2 (hU : ∀ x, Frc cs gs x → x ∈ U) (hU2 : U.length < 1000000) (hc : ∀ c ∈ cs, c.length < 16777216) : ∀ (ks : List Int) (kn : List (Int × Bool)), LInv cs gs kn → U.length < kn.length + ks.length →
    ∃ r, m_law_forced_l2 cs ks kn = some r ∧ ((r = .ret none ∧ Cnf cs gs) ∨ ∃ kn', r = .done kn' ∧ LInv cs gs kn' ∧ ∀ c ∈ cs, Closed (Kn kn') c)
  | [], kn, J, h => by
    have := J.len hU
    simp at h
    omega
  | k :: ks, kn, J, h => by
    have h' : U.length < kn.length + (ks.length + 1) := h
    obtain ⟨r, r1, r2⟩ := round_l3 hU hU2 cs kn (fun c q => ⟨q, hc c q⟩) J
    rw [m_law_forced_l2, bs r1]
    rcases r2 with ⟨rfl, r2⟩ | ⟨kn', rfl, K, k1, k2, k3⟩
    · exact ⟨_, rfl, .inl ⟨rfl, r2⟩⟩
    · dsimp only
      by_cases e : kn'.length = kn.length
      · rw [if_pos (decide_eq_true (by omega))]
        obtain ⟨s1, s2⟩ := k3 e
        have heq : Kn kn = Kn kn' := funext fun x => propext ⟨k1 x, s1 x⟩
        rw [heq] at s2
        exact ⟨_, rfl, .inr ⟨kn', rfl, K, s2⟩⟩
      · rw [if_neg (by simp; omega)]
        exact rounds_l2 hU hU2 hc ks kn' K (by omega)
theorem clash_l4 (kn : List (Int × Bool)) : ∀ ls : List Int, m_law_forced_l4 kn ls () = some (if ∃ l ∈ ls, Kn kn (-l) then .ret none else .done ())
  | [] => by simp [m_law_forced_l4]
  | l :: ls => by
    rw [m_law_forced_l4, Int.zero_sub]
    by_cases c : Kn kn (-l)
    · rw [if_pos (kn_some.mpr c), if_pos ⟨l, .head _, c⟩]
    · rw [if_neg (fun q => c (kn_some.mp q)), clash_l4 kn ls]
      by_cases d : ∃ l ∈ ls, Kn kn (-l)
      · obtain ⟨x, hx, hk⟩ := d
        rw [if_pos ⟨x, hx, hk⟩, if_pos ⟨x, .tail _ hx, hk⟩]
      · rw [if_neg d, if_neg]
        rintro ⟨x, hx, hk⟩
        rcases List.mem_cons.mp hx with rfl | hx
        · exact c hk
        · exact d ⟨x, hx, hk⟩
theorem law_forced_ok (hU : ∀ x, Frc cs gs x → x ∈ U) (hU2 : U.length < 100) (hc : ∀ c ∈ cs, c.length < 16777216) (hg : gs.length < 16777216) : ∃ r, m_law_forced cs gs = some r ∧ Out cs gs r := by
  unfold m_law_forced
  obtain ⟨kn, g1, g2, g3⟩ := forced_g gs [] List.nodup_nil (by simpa using hg)
  have J0 : LInv cs gs kn := ⟨fun x hx => ((g3 x).mp hx).elim (fun h => by cases h) .giv, g2, fun x hx => (g3 x).mpr (.inr hx)⟩
  obtain ⟨r, r1, r2⟩ := rounds_l2 hU (by omega) hc (pyRange 0 (100 : Int).toNat) kn J0 (by rw [pyRange_len]; omega)
  rw [bs g1, bs r1]
  rcases r2 with ⟨rfl, r2⟩ | ⟨kn', rfl, K, hcl⟩
  · exact ⟨none, rfl, .inl ⟨r2, rfl⟩⟩
  · have hlen := K.len hU
    have all : ∀ x, Frc cs gs x → Kn kn' x := by
      intro x hx
      induction hx with
      | giv h => exact K.g _ h
      | stp hc hl _ ih =>
        obtain ⟨m, m1, m2, m3⟩ := hcl _ hc
        have : m = _ := Classical.byContradiction fun ne => m2 (ih m m1 ne)
        subst this
        exact m3 fun x hx n => Classical.byContradiction fun ne => n (ih x hx ne)
    dsimp only
    rw [bs (clash_l4 kn' _)]
    by_cases c : ∃ l ∈ kn'.map (fun (q : Int × Bool) => q.1), Kn kn' (-l)
    · rw [if_pos c]
      obtain ⟨l, h1, h2⟩ := c
      exact ⟨none, rfl, .inl ⟨.inr ⟨l, K.k l h1, K.k _ h2⟩, rfl⟩⟩
    · rw [if_neg c]
      dsimp only
      rw [grd_t (decide_eq_true (by rw [List.length_map]; omega)), List.map_id']
      refine ⟨_, rfl, .inr ⟨?_, _, rfl, sortI_strict K.nd, fun x => mem_sortI.trans ⟨K.k x, all x⟩⟩⟩
      rintro (⟨d, hd, h⟩ | ⟨l, h1, h2⟩)
      · obtain ⟨m, m1, m2, _⟩ := hcl d hd
        exact m2 (all _ (h m m1))
      · exact c ⟨l, all _ h1, all _ h2⟩
end
end G

namespace G
open PySem PySem.Spec PyProof.Rows L2

/-! ## what is drawn -/
/-- a literal of the letters, or one that no clause has -/
def Lit (ls : List Int) (x : Int) : Prop := x ∈ ls ∨ -x ∈ ls
structure Ltr (ls : List Int) : Prop where
  lo : 2 ≤ ls.length
  hi : ls.length ≤ 19
  nz : ∀ x ∈ ls, x ≠ 0
theorem Lit.neg {ls : List Int} {x : Int} (h : Lit ls x) : Lit ls (-x) := h.elim (fun h => .inr (by rw [Int.neg_neg]; exact h)) .inl
theorem Lit.nz {ls : List Int} (L : Ltr ls) {x : Int} (h : Lit ls x) : x ≠ 0 := by
  rcases h with h | h
  · exact L.nz x h
  · have := L.nz _ h; omega
theorem letters_ok (ns src : List Int) (h : Src src) : ∃ ls src', m_law_letters ns src = some (ls, src') ∧ Src src' ∧ Ltr ls := by
  obtain ⟨d, src1, t1, t2, t3, t4⟩ := take_ok ns src 6 h (by decide) (by decide)
  obtain ⟨d2, src2, u1, u2, u3, u4⟩ := take_ok ns src1 8 t4 (by decide) (by decide)
  obtain ⟨n, hn, n1, n2⟩ : ∃ n, ((m_law_take ns src1 (8 : Int)).bind fun y19 => if (decide (y19.1 = (5 : Int))) = true then (some ((((2 : Int) + d) + (12 : Int)), y19.2)) else (some (((2 : Int) + d), y19.2))) = some (n, src2) ∧ 2 ≤ n ∧ n ≤ 19 := by
    rw [bs u1]
    by_cases c : d2 = 5
    · rw [if_pos (decide_eq_true c)]; exact ⟨_, rfl, by omega, by omega⟩
    · rw [if_neg (by simpa using c)]; exact ⟨_, rfl, by omega, by omega⟩
  obtain ⟨d3, src3, v1, v2, v3, v4⟩ := take_ok ns src2 4 u4 (by decide) (by decide)
  have hl : (pyRange 0 n.toNat).length < 16777216 := by rw [pyRange_len]; omega
  have mk : ∀ f : Int → Int, (∀ x, 0 ≤ x → x < 19 → f x ≠ 0) → Ltr ((pyRange 0 n.toNat).map f) := fun f hf => ⟨by rw [List.length_map, pyRange_len]; omega, by rw [List.length_map, pyRange_len]; omega, fun x hx => by
    obtain ⟨y, hy, rfl⟩ := List.mem_map.mp hx
    have := mem_pyRange.mp hy
    exact hf y (by omega) (by omega)⟩
  unfold m_law_letters
  rw [bs t1, bs hn, bs v1]
  have hr : rngOk n = true := decide_eq_true ⟨by omega, by omega⟩
  by_cases c3 : d3 = 3
  · rw [if_pos (decide_eq_true c3), grd_t hr, grd_t (decide_eq_true hl)]
    exact ⟨_, _, rfl, v4, mk _ fun x _ _ => by omega⟩
  · rw [if_neg (by simpa using c3)]
    by_cases c2 : d3 = 2
    · rw [if_pos (decide_eq_true c2), grd_t hr, grd_t (decide_eq_true hl)]
      exact ⟨_, _, rfl, v4, mk _ fun x _ _ => by omega⟩
    · rw [if_neg (by simpa using c2), grd_t hr, grd_t (decide_eq_true hl)]
      exact ⟨_, _, rfl, v4, mk _ fun x _ _ => by omega⟩
section
variable {ns : List Int} {ls : List Int} (L : Ltr ls)
include L
theorem literal_ok (src : List Int) (h : Src src) : ∃ x src', m_law_literal ns src ls = some (x, src') ∧ Src src' ∧ Lit ls x := by
  have h1 := L.lo
  have h2 := L.hi
  obtain ⟨d, src1, t1, t2, t3, t4⟩ := take_ok ns src (ls.length : Int) h (by omega) (by omega)
  obtain ⟨x, e1, e2, _⟩ := atI_lt t2 t3
  obtain ⟨d2, src2, u1, u2, u3, u4⟩ := take_ok ns src1 2 t4 (by decide) (by decide)
  unfold m_law_literal
  rw [bs t1, bs e1, bs u1]
  by_cases c : d2 = 1
  · rw [if_pos (decide_eq_true c)]
    exact ⟨_, _, rfl, u4, .inr (by rw [Int.zero_sub, Int.neg_neg]; exact e2)⟩
  · rw [if_neg (by simpa using c)]
    exact ⟨_, _, rfl, u4, .inl e2⟩
theorem clause_l1 : ∀ (ks src acc : List Int), Src src → (∀ x ∈ acc, Lit ls x) → acc.length + ks.length < 1000 → ∃ src' acc', m_law_clause_l1 ns ls ks (src, acc) = some (src', acc') ∧ Src src' ∧ (∀ x ∈ acc', Lit ls x) ∧ acc'.length = acc.length + ks.length
  | [], src, acc, hs, ha, _ => ⟨src, acc, rfl, hs, ha, rfl⟩
  | k :: ks, src, acc, hs, ha, hl => by
    have hl' : acc.length + (ks.length + 1) < 1000 := hl
    obtain ⟨x, src1, t1, t2, t3⟩ := literal_ok (ns := ns) L src hs
    obtain ⟨src', acc', g1, g2, g3, g4⟩ := clause_l1 ks src1 (acc ++ [x]) t2 (fun y hy => by
      rcases List.mem_append.mp hy with h | h
      · exact ha y h
      · rw [List.mem_singleton.mp h]; exact t3) (by simp; omega)
    refine ⟨src', acc', ?_, g2, g3, by rw [g4]; simp; omega⟩
    rw [m_law_clause_l1, bs t1, grd_t (decide_eq_true (by show acc.length < _; omega))]
    exact g1
/-- a clause: few literals -/
def Cl (ls c : List Int) : Prop := c.length ≤ 6 ∧ ∀ x ∈ c, Lit ls x
theorem clause_ok (src : List Int) (h : Src src) : ∃ c src', m_law_clause ns src ls = some (c, src') ∧ Src src' ∧ Cl ls c := by
  obtain ⟨d, src1, t1, t2, t3, t4⟩ := take_ok ns src 8 h (by decide) (by decide)
  obtain ⟨n, e1, e2, _⟩ := atI_lt (xs := ([(2 : Int), (2 : Int), (3 : Int), (2 : Int), (3 : Int), (2 : Int), (1 : Int), (4 : Int)] : (List Int))) t2 (by simpa using t3)
  have hn : 1 ≤ n ∧ n ≤ 4 := by
    simp only [List.mem_cons, List.not_mem_nil, or_false] at e2
    omega
  obtain ⟨src2, acc, g1, g2, g3, g4⟩ := clause_l1 (ns := ns) L (pyRange 0 n.toNat) src1 [] t4 (by simp) (by rw [pyRange_len]; simp; omega)
  rw [pyRange_len] at g4
  have hacc : 1 ≤ acc.length ∧ acc.length ≤ 4 := by simp at g4; omega
  obtain ⟨d2, src3, u1, u2, u3, u4⟩ := take_ok ns src2 16 g2 (by decide) (by decide)
  obtain ⟨x0, f1, f2, _⟩ := atI_lt (xs := acc) (i := 0) (by omega) (by omega)
  unfold m_law_clause
  rw [bs t1, bs e1, grd_t (b := rngOk n) (decide_eq_true ⟨by omega, by omega⟩), bs g1, bs u1]
  have st1 : ∃ a1, (if (decide (d2 = (3 : Int))) = true then ((atI acc (0 : Int)).bind fun y93 => (grd (decide (acc.length < 16777216))).bind fun _ => some (acc ++ [y93])) else (some acc)) = some a1 ∧ (1 ≤ a1.length ∧ a1.length ≤ 5 ∧ ∀ x ∈ a1, Lit ls x) := by
    by_cases c : d2 = 3
    · rw [if_pos (decide_eq_true c), bs f1, grd_t (decide_eq_true (by omega))]
      refine ⟨_, rfl, by simp, by simp; omega, fun y hy => ?_⟩
      rcases List.mem_append.mp hy with h | h
      · exact g3 y h
      · rw [List.mem_singleton.mp h]; exact g3 _ f2
    · rw [if_neg (by simpa using c)]
      exact ⟨_, rfl, by omega, by omega, g3⟩
  obtain ⟨a1, b1, b2, b3, b4⟩ := st1
  rw [bs b1]
  obtain ⟨x1, f3, f4, _⟩ := atI_lt (xs := a1) (i := 0) (by omega) (by omega)
  have st2 : ∃ a2, (if (decide (d2 = (7 : Int))) = true then ((atI a1 (0 : Int)).bind fun y109 => (grd (decide (a1.length < 16777216))).bind fun _ => some (a1 ++ [((0 : Int) - y109)])) else (some a1)) = some a2 ∧ Cl ls a2 := by
    by_cases c : d2 = 7
    · rw [if_pos (decide_eq_true c), bs f3, grd_t (decide_eq_true (by omega))]
      refine ⟨_, rfl, by simp; omega, fun y hy => ?_⟩
      rcases List.mem_append.mp hy with h | h
      · exact b4 y h
      · rw [List.mem_singleton.mp h, Int.zero_sub]; exact (b4 _ f4).neg
    · rw [if_neg (by simpa using c)]
      exact ⟨_, rfl, by omega, b4⟩
  obtain ⟨a2, b5, b6⟩ := st2
  rw [bs b5]
  obtain ⟨d3, src4, v1, v2, v3, v4⟩ := take_ok ns src3 4 u4 (by decide) (by decide)
  have st3 : ∃ a3 src', (((if (decide (d2 = (11 : Int))) = true then ((m_law_take ns src3 (4 : Int)).bind fun y135 => some ((decide (y135.1 = (2 : Int))), y135.2)) else (some (false, src3))).bind fun b127 =>
    if b127.1 = true then (some (([] : (List Int)), b127.2)) else (some (a2, b127.2))) = some (a3, src')) ∧ Src src' ∧ Cl ls a3 := by
    by_cases c : d2 = 11
    · rw [if_pos (decide_eq_true c), bs v1, Option.bind_some]
      by_cases c2 : d3 = 2
      · rw [if_pos (decide_eq_true c2)]
        exact ⟨_, _, rfl, v4, by simp [Cl]⟩
      · rw [if_neg (by simpa using c2)]
        exact ⟨_, _, rfl, v4, b6⟩
    · rw [if_neg (by simpa using c), Option.bind_some, if_neg (by simp)]
      exact ⟨_, _, rfl, u4, b6⟩
  obtain ⟨a3, src5, w1, w2, w3⟩ := st3
  rw [bs w1]
  exact ⟨_, _, rfl, w2, w3⟩
theorem chain_l1 : ∀ (ks acc src : List Int), Src src → (∀ x ∈ ks, x ∈ ls) → (∀ x ∈ acc, Lit ls x) → acc.length + ks.length < 1000 → ∃ acc' src', m_law_chain_l1 ns ks (acc, src) = some (acc', src') ∧ Src src' ∧ (∀ x ∈ acc', Lit ls x) ∧ acc'.length = acc.length + ks.length
  | [], acc, src, hs, _, ha, _ => ⟨acc, src, rfl, hs, ha, rfl⟩
  | k :: ks, acc, src, hs, hk, ha, hl => by
    have hl' : acc.length + (ks.length + 1) < 1000 := hl
    obtain ⟨d, src1, t1, t2, t3, t4⟩ := take_ok ns src 2 hs (by decide) (by decide)
    have fin : ∀ x, Lit ls x → ∃ acc' src', m_law_chain_l1 ns ks (acc ++ [x], src1) = some (acc', src') ∧ Src src' ∧ (∀ x ∈ acc', Lit ls x) ∧ acc'.length = acc.length + (ks.length + 1) := by
      intro x hx
      obtain ⟨acc', src', g1, g2, g3, g4⟩ := chain_l1 ks (acc ++ [x]) src1 t4 (fun y hy => hk y (.tail _ hy)) (fun y hy => by
        rcases List.mem_append.mp hy with h | h
        · exact ha y h
        · rw [List.mem_singleton.mp h]; exact hx) (by simp; omega)
      exact ⟨acc', src', g1, g2, g3, by rw [g4]; simp; omega⟩
    rw [m_law_chain_l1, bs t1]
    by_cases c : d = 1
    · rw [if_pos (decide_eq_true c), grd_t (decide_eq_true (by show acc.length < _; omega))]
      exact fin _ (.inr (by rw [Int.zero_sub, Int.neg_neg]; exact hk k (.head _)))
    · rw [if_neg (by simpa using c), grd_t (decide_eq_true (by show acc.length < _; omega))]
      exact fin _ (.inl (hk k (.head _)))
theorem chain_l2 (sg src : List Int) (hs : ∀ x ∈ sg, Lit ls x) : ∀ (ks : List Int) (acc : List (List Int)), (∀ k ∈ ks, 0 ≤ k ∧ k + 1 < sg.length) → (∀ c ∈ acc, Cl ls c) → acc.length + ks.length < 1000 →
    ∃ acc', m_law_chain_l2 (sg, src) ks acc = some acc' ∧ (∀ c ∈ acc', Cl ls c) ∧ acc'.length = acc.length + ks.length
  | [], acc, _, ha, _ => ⟨acc, rfl, ha, rfl⟩
  | k :: ks, acc, hk, ha, hl => by
    have hl' : acc.length + (ks.length + 1) < 1000 := hl
    have h0 := hk k (.head _)
    obtain ⟨x, e1, e2, _⟩ := atI_lt (xs := sg) h0.1 (by omega)
    obtain ⟨y, f1, f2, _⟩ := atI_lt (xs := sg) (i := k + 1) (by omega) h0.2
    obtain ⟨acc', g1, g2, g3⟩ := chain_l2 sg src hs ks (acc ++ [[(0 : Int) - x, y]]) (fun z hz => hk z (.tail _ hz)) (fun c hc => by
      rcases List.mem_append.mp hc with h | h
      · exact ha c h
      · rw [List.mem_singleton.mp h]
        refine ⟨by simp, fun z hz => ?_⟩
        simp only [List.mem_cons, List.not_mem_nil, or_false] at hz
        rcases hz with rfl | rfl
        · rw [Int.zero_sub]; exact (hs x e2).neg
        · exact hs _ f2) (by simp; omega)
    refine ⟨acc', ?_, g2, by rw [g3]; simp; omega⟩
    rw [m_law_chain_l2, bs e1, bs f1, grd_t (decide_eq_true (by omega))]
    exact g1
theorem chain_ok (src : List Int) (h : Src src) : ∃ cs src', m_law_chain ns src ls = some (cs, src') ∧ Src src' ∧ (∀ c ∈ cs, Cl ls c) ∧ cs.length ≤ 18 := by
  have h1 := L.lo
  have h2 := L.hi
  obtain ⟨sg, src1, t1, t2, t3, t4⟩ := chain_l1 (ns := ns) L ls [] src h (fun _ h => h) (by simp) (by simp; omega)
  have hsg : sg.length = ls.length := by simpa using t4
  obtain ⟨cs, g1, g2, g3⟩ := chain_l2 (ls := ls) L sg src1 t3 (pyRange 0 ((sg.length : Int) - (1 : Int)).toNat) [] (fun k hk => by have := mem_pyRange.mp hk; omega) (by simp) (by rw [pyRange_len]; simp; omega)
  rw [pyRange_len] at g3
  have hcs : cs.length ≤ 18 := by simp at g3; omega
  obtain ⟨d, src2, u1, u2, u3, u4⟩ := take_ok ns src1 2 t2 (by decide) (by decide)
  unfold m_law_chain
  rw [bs t1, grd_t (b := rngOk ((sg.length : Int) - 1)) (decide_eq_true ⟨by omega, by omega⟩), bs g1]
  by_cases c : d = 1
  · rw [bs (x := (cs.reverse, src2)) (by rw [bs u1, if_pos (decide_eq_true c)])]
    exact ⟨_, _, rfl, u4, fun c hc => g2 c (by simpa using hc), by simpa using hcs⟩
  · rw [bs (x := (cs, src2)) (by rw [bs u1, if_neg (by simpa using c)])]
    exact ⟨_, _, rfl, u4, g2, hcs⟩
theorem clauses_l1 : ∀ (ks src : List Int) (cs : List (List Int)), Src src → (∀ c ∈ cs, Cl ls c) → cs.length + ks.length < 1000 →
    ∃ src' cs', m_law_clauses_l1 ns ls ks (src, cs) = some (src', cs') ∧ Src src' ∧ (∀ c ∈ cs', Cl ls c) ∧ cs'.length = cs.length + ks.length
  | [], src, cs, hs, hc, _ => ⟨src, cs, rfl, hs, hc, rfl⟩
  | k :: ks, src, cs, hs, hc, hl => by
    have hl' : cs.length + (ks.length + 1) < 1000 := hl
    obtain ⟨d, src1, t1, t2, t3, t4⟩ := take_ok ns src ((cs.length : Int) + 1) hs (by omega) (by omega)
    obtain ⟨c, src2, u1, u2, u3⟩ := clause_ok (ns := ns) L src1 t4
    obtain ⟨src', cs', g1, g2, g3, g4⟩ := clauses_l1 ks src2 (cs.take d.toNat ++ [c] ++ cs.drop d.toNat) u2 (fun x hx => by
      simp only [List.mem_append, List.mem_singleton] at hx
      rcases hx with (h | rfl) | h
      · exact hc x (List.mem_of_mem_take h)
      · exact u3
      · exact hc x (List.mem_of_mem_drop h)) (by simp; omega)
    refine ⟨src', cs', ?_, g2, g3, by rw [g4]; simp; omega⟩
    rw [m_law_clauses_l1, bs t1, bs u1, grd_t (decide_eq_true (by show cs.length < _; omega)), grd_t (decide_eq_true ⟨t2, by omega⟩)]
    exact g1
theorem clauses_ok (src : List Int) (h : Src src) : ∃ cs src', m_law_clauses ns src ls = some (cs, src') ∧ Src src' ∧ (∀ c ∈ cs, Cl ls c) ∧ cs.length ≤ 59 := by
  obtain ⟨d, src1, t1, t2, t3, t4⟩ := take_ok ns src 2 h (by decide) (by decide)
  have st : ∃ cs src', ((m_law_take ns src (2 : Int)).bind fun y18 => if (decide (y18.1 = (1 : Int))) = true then ((m_law_chain ns y18.2 ls).bind fun y28 => some (y28.1, y28.2)) else (some (([] : (List (List Int))), y18.2))) = some (cs, src') ∧ Src src' ∧ (∀ c ∈ cs, Cl ls c) ∧ cs.length ≤ 18 := by
    rw [bs t1]
    by_cases c : d = 1
    · rw [if_pos (decide_eq_true c)]
      obtain ⟨cs, src', g1, g2, g3, g4⟩ := chain_ok (ns := ns) L src1 t4
      rw [bs g1]
      exact ⟨_, _, rfl, g2, g3, g4⟩
    · rw [if_neg (by simpa using c)]
      exact ⟨_, _, rfl, t4, by simp, by simp⟩
  obtain ⟨cs, src2, s1, s2, s3, s4⟩ := st
  obtain ⟨d2, src3, u1, u2, u3, u4⟩ := take_ok ns src2 12 s2 (by decide) (by decide)
  obtain ⟨d3, src4, v1, v2, v3, v4⟩ := take_ok ns src3 8 u4 (by decide) (by decide)
  obtain ⟨n, hn, n1, n2⟩ : ∃ n, ((m_law_take ns src3 (8 : Int)).bind fun y61 => if (decide (y61.1 = (5 : Int))) = true then (some ((d2 + (30 : Int)), y61.2)) else (some (d2, y61.2))) = some (n, src4) ∧ 0 ≤ n ∧ n ≤ 41 := by
    rw [bs v1]
    by_cases c : d3 = 5
    · rw [if_pos (decide_eq_true c)]; exact ⟨_, rfl, by omega, by omega⟩
    · rw [if_neg (by simpa using c)]; exact ⟨_, rfl, by omega, by omega⟩
  obtain ⟨src', cs', g1, g2, g3, g4⟩ := clauses_l1 (ns := ns) L (pyRange 0 n.toNat) src4 cs v4 s3 (by rw [pyRange_len]; omega)
  rw [pyRange_len] at g4
  unfold m_law_clauses
  rw [bs s1, bs u1, bs hn, grd_t (b := rngOk n) (decide_eq_true ⟨by omega, by omega⟩), bs g1]
  exact ⟨_, _, rfl, g2, g3, by show cs'.length ≤ 59; omega⟩
/-- given literals -/
def Gv (ls : List Int) (x : Int) : Prop := Lit ls x ∨ x = 888 ∨ x = -888
theorem given_l1 : ∀ (ks src acc : List Int), Src src → (∀ x ∈ acc, Gv ls x) → acc.length + ks.length < 1000 → ∃ src' acc', m_law_given_l1 ns ls ks (src, acc) = some (src', acc') ∧ Src src' ∧ (∀ x ∈ acc', Gv ls x) ∧ acc'.length = acc.length + ks.length
  | [], src, acc, hs, ha, _ => ⟨src, acc, rfl, hs, ha, rfl⟩
  | k :: ks, src, acc, hs, ha, hl => by
    have hl' : acc.length + (ks.length + 1) < 1000 := hl
    obtain ⟨x, src1, t1, t2, t3⟩ := literal_ok (ns := ns) L src hs
    obtain ⟨d, src2, u1, u2, u3, u4⟩ := take_ok ns src1 8 t2 (by decide) (by decide)
    have st : ∃ y src3, ((m_law_take ns src1 (8 : Int)).bind fun y84 => if (decide (y84.1 = (3 : Int))) = true then ((m_law_take ns y84.2 (2 : Int)).bind fun y99 => (atI ([(888 : Int), ((0 : Int) - (888 : Int))] : (List Int)) y99.1).bind fun y108 => some (y108, y99.2)) else (some (x, y84.2))) = some (y, src3) ∧ Src src3 ∧ Gv ls y := by
      rw [bs u1]
      by_cases c : d = 3
      · rw [if_pos (decide_eq_true c)]
        obtain ⟨d2, src3, v1, v2, v3, v4⟩ := take_ok ns src2 2 u4 (by decide) (by decide)
        obtain ⟨y, e1, e2, _⟩ := atI_lt (xs := ([(888 : Int), ((0 : Int) - (888 : Int))] : (List Int))) v2 (by simpa using v3)
        rw [bs v1, bs e1]
        exact ⟨_, _, rfl, v4, .inr (by simpa using e2)⟩
      · rw [if_neg (by simpa using c)]
        exact ⟨_, _, rfl, u4, .inl t3⟩
    obtain ⟨y, src3, s1, s2, s3⟩ := st
    obtain ⟨src', acc', g1, g2, g3, g4⟩ := given_l1 ks src3 (acc ++ [y]) s2 (fun z hz => by
      rcases List.mem_append.mp hz with h | h
      · exact ha z h
      · rw [List.mem_singleton.mp h]; exact s3) (by simp; omega)
    refine ⟨src', acc', ?_, g2, g3, by rw [g4]; simp; omega⟩
    rw [m_law_given_l1, bs t1, bs s1, grd_t (decide_eq_true (by show acc.length < _; omega))]
    exact g1
theorem given_ok (src : List Int) (h : Src src) : ∃ gs src', m_law_given ns src ls = some (gs, src') ∧ Src src' ∧ (∀ x ∈ gs, Gv ls x) ∧ gs.length ≤ 5 := by
  obtain ⟨d, src1, t1, t2, t3, t4⟩ := take_ok ns src 8 h (by decide) (by decide)
  obtain ⟨n, e1, e2, _⟩ := atI_lt (xs := ([(1 : Int), (0 : Int), (1 : Int), (2 : Int), (2 : Int), (3 : Int), (1 : Int), (4 : Int)] : (List Int))) t2 (by simpa using t3)
  have hn : 0 ≤ n ∧ n ≤ 4 := by
    simp only [List.mem_cons, List.not_mem_nil, or_false] at e2
    omega
  obtain ⟨src2, acc, g1, g2, g3, g4⟩ := given_l1 (ns := ns) L (pyRange 0 n.toNat) src1 [] t4 (by simp) (by rw [pyRange_len]; simp; omega)
  rw [pyRange_len] at g4
  have hacc : acc.length ≤ 4 := by simp at g4; omega
  unfold m_law_given
  rw [bs t1, bs e1, grd_t (b := rngOk n) (decide_eq_true ⟨by omega, by omega⟩), bs g1]
  have st : ∃ gs src', (((if (!decide (acc = ([] : (List Int)))) = true then ((m_law_take ns src2 (8 : Int)).bind fun y139 => some ((decide (y139.1 = (6 : Int))), y139.2)) else (some (false, src2))).bind fun b126 =>
    if b126.1 = true then ((atI acc (0 : Int)).bind fun y153 => (grd (decide (acc.length < 16777216))).bind fun _ => some (b126.2, (acc ++ [y153]))) else (some (b126.2, acc))) = some (src', gs)) ∧ Src src' ∧ (∀ x ∈ gs, Gv ls x) ∧ gs.length ≤ 5 := by
    by_cases c : acc = []
    · rw [if_neg (by simpa using c), Option.bind_some, if_neg (by simp)]
      exact ⟨_, _, rfl, g2, g3, by omega⟩
    · obtain ⟨d2, src3, u1, u2, u3, u4⟩ := take_ok ns src2 8 g2 (by decide) (by decide)
      rw [if_pos (by simpa using c), bs u1, Option.bind_some]
      by_cases c2 : d2 = 6
      · obtain ⟨x0, f1, f2, _⟩ := atI_lt (xs := acc) (i := 0) (by omega) (by have := List.length_pos_iff.mpr c; omega)
        rw [if_pos (decide_eq_true c2), bs f1, grd_t (decide_eq_true (by omega))]
        refine ⟨_, _, rfl, u4, fun y hy => ?_, by simp; omega⟩
        rcases List.mem_append.mp hy with h | h
        · exact g3 y h
        · rw [List.mem_singleton.mp h]; exact g3 _ f2
      · rw [if_neg (by simpa using c2)]
        exact ⟨_, _, rfl, u4, g3, by omega⟩
  obtain ⟨gs, src', s1, s2, s3, s4⟩ := st
  rw [bs s1]
  exact ⟨_, _, rfl, s2, s3, s4⟩
theorem more_ok (src : List Int) (h : Src src) : ∃ c src', m_law_more ns src ls = some (c, src') ∧ Src src' ∧ Cl ls c := by
  obtain ⟨d, src1, t1, t2, t3, t4⟩ := take_ok ns src 16 h (by decide) (by decide)
  unfold m_law_more
  rw [bs t1]
  by_cases c : d = 9
  · rw [if_pos (decide_eq_true c)]
    exact ⟨_, _, rfl, t4, by simp [Cl]⟩
  · rw [if_neg (by simpa using c)]
    obtain ⟨c, src2, u1, u2, u3⟩ := clause_ok (ns := ns) L src1 t4
    rw [bs u1]
    exact ⟨_, _, rfl, u2, u3⟩
end

/-! ## what is handed over -/
theorem handed_l1 (cs : List (List Int)) : ∀ (n i : Nat) (acc : List (Bool × List Int)), i + n = cs.length → acc.map (·.2) = cs.take i → (∀ c ∈ cs, c.length < 1000) → cs.length < 1000 →
    ∃ hs : List (Bool × List Int), m_law_handed_l1 cs ((List.range' i n).map fun (j : Nat) => (0 : Int) + (j : Int)) acc = some hs ∧ hs.map (·.2) = cs
  | 0, i, acc, h, ha, _, _ => by
    refine ⟨acc, rfl, ?_⟩
    rw [ha, List.take_of_length_le (by omega)]
  | n + 1, i, acc, h, ha, hc, hl => by
    rw [List.range'_succ, List.map_cons, m_law_handed_l1]
    have hi : i < cs.length := by omega
    have e : atI cs ((0 : Int) + (i : Int)) = some cs[i] := by
      rw [Int.zero_add, atI_of (by omega)]
      simp [hi]
    have hal : acc.length = i := by
      have := congrArg List.length ha
      rw [List.length_map, List.length_take] at this
      omega
    have hlt : ∀ b : Bool, (acc ++ [((b, cs[i]) : Bool × List Int)]).map (fun (q : Bool × List Int) => q.2) = cs.take (i + 1) := by
      intro b
      rw [List.map_append, ha, List.take_add_one, List.getElem?_eq_getElem hi]
      rfl
    by_cases c : ((0 : Int) + (i : Int)) % 3 = 1
    · rw [if_pos (decide_eq_true c), bs e, grd_t (decide_eq_true (by omega))]
      exact handed_l1 cs n (i + 1) _ (by omega) (hlt false) hc hl
    · rw [if_neg (by simpa using c), bs e, grd_t (decide_eq_true (by have := hc _ (List.getElem_mem hi); omega)), grd_t (decide_eq_true (by omega)), List.map_id']
      exact handed_l1 cs n (i + 1) _ (by omega) (hlt true) hc hl
theorem handed_ok (cs : List (List Int)) (hc : ∀ c ∈ cs, c.length < 1000) (hl : cs.length < 1000) : ∃ hs : List (Bool × List Int), m_law_handed cs = some hs ∧ hs.map (·.2) = cs := by
  unfold m_law_handed
  rw [grd_t (rngOk_len (by omega))]
  have e : pyRange 0 ((cs.length : Int)).toNat = (List.range' 0 cs.length).map fun (j : Nat) => (0 : Int) + (j : Int) := by
    unfold pyRange
    rw [List.range_eq_range']
    rfl
  obtain ⟨hs, h1, h2⟩ := handed_l1 cs cs.length 0 [] (by omega) (by simp) hc hl
  rw [e, bs h1]
  exact ⟨_, rfl, h2⟩
theorem msetI_of {α : Type} {xs : List α} {i : Int} {x : α} (h0 : 0 ≤ i) (h1 : i < xs.length) : msetI xs i x = xs.set i.toNat x := by
  unfold msetI
  rw [ixN_of h0 h1]
theorem spoil_l1 : ∀ (ks : List Int) (hs : List (Bool × List Int)) (m : Nat), (∀ k ∈ ks, 0 ≤ k ∧ k < hs.length) → (∀ h ∈ hs, h.2.length < m) → m + ks.length < 100000 → ∃ hs', m_law_spoil_l1 ks hs = some hs' ∧ hs'.length = hs.length
  | [], hs, m, _, _, _ => ⟨hs, rfl, rfl⟩
  | k :: ks, hs, m, hk, hm, hl => by
    have hl' : m + (ks.length + 1) < 100000 := hl
    have h0 := hk k (.head _)
    obtain ⟨x, e1, e2, _⟩ := atI_lt (xs := hs) h0.1 h0.2
    have hx := hm x e2
    rw [m_law_spoil_l1, bs e1]
    by_cases c : x.1 = true
    · rw [if_pos c, grd_t c, grd_t (decide_eq_true (by omega)), msetI_of h0.1 h0.2]
      obtain ⟨hs', g1, g2⟩ := spoil_l1 ks (hs.set k.toNat (x.1, x.2 ++ [(555 : Int)])) (m + 1) (fun j hj => by rw [List.length_set]; exact hk j (.tail _ hj)) (fun y hy => by
        rcases List.mem_or_eq_of_mem_set hy with h | rfl
        · have := hm y h; omega
        · simp; omega) (by omega)
      exact ⟨hs', g1, by rw [g2, List.length_set]⟩
    · rw [if_neg c]
      exact spoil_l1 ks hs m (fun j hj => hk j (.tail _ hj)) hm (by omega)
theorem spoil_ok (hs : List (Bool × List Int)) (h1 : hs.length < 1000) (h2 : ∀ h ∈ hs, h.2.length < 1000) : ∃ hs', m_law_spoil hs = some hs' := by
  unfold m_law_spoil
  rw [grd_t (rngOk_len (by omega))]
  obtain ⟨hs', g1, g2⟩ := spoil_l1 (pyRange 0 (hs.length : Int).toNat) hs 1000 (fun k hk => by have := mem_pyRange.mp hk; omega) h2 (by rw [pyRange_len]; omega)
  rw [bs g1, grd_t (decide_eq_true (by omega))]
  exact ⟨_, rfl⟩

/-! ## the questions -/
theorem same_l1 (xs : List Int) : ∀ ks : List Int, (∀ k ∈ ks, 0 ≤ k ∧ k < xs.length) → m_law_same_l1 (some xs) xs ks () = some (.done ())
  | [], _ => rfl
  | k :: ks, h => by
    have hk := h k (.head _)
    obtain ⟨x, e, _, _⟩ := atI_lt hk.1 hk.2
    rw [m_law_same_l1, Option.bind_some, bs (x := false) (by rw [bs e, bs e, bs e, bs e]; simp), if_neg (by simp)]
    exact same_l1 xs ks fun y hy => h y (.tail _ hy)
theorem same_refl (r : Option (List Int)) (h : ∀ ks, r = some ks → ks.length < 16777216) : m_law_same r r = some true := by
  unfold m_law_same
  cases r with
  | none => rfl
  | some ks =>
    rw [optE_some, bs (x := false) (by simp), if_neg (by simp), grd_t (rngOk_len (h ks rfl)), bs (same_l1 ks _ fun k hk => by have := mem_pyRange.mp hk; omega)]
/-- clauses as they are drawn -/
structure Ok (ls : List Int) (cs : List (List Int)) : Prop where
  c : ∀ c ∈ cs, Cl ls c
  n : cs.length ≤ 62
structure GOk (ls gs : List Int) : Prop where
  g : ∀ x ∈ gs, Gv ls x
  n : gs.length ≤ 5
def univ (ls : List Int) : List Int := [888, -888] ++ (ls ++ ls.map fun x => -x)
theorem univ_len (ls : List Int) (L : Ltr ls) : (univ ls).length < 100 := by
  have := L.hi
  simp [univ]; omega
theorem lit_univ {ls : List Int} {x : Int} (h : Lit ls x) : x ∈ univ ls := by
  unfold univ
  simp only [List.mem_append, List.mem_map]
  rcases h with h | h
  · exact .inr (.inl h)
  · exact .inr (.inr ⟨_, h, by omega⟩)
theorem gv_univ {ls : List Int} {x : Int} (h : Gv ls x) : x ∈ univ ls := by
  rcases h with h | h
  · exact lit_univ h
  · unfold univ
    simp only [List.mem_append, List.mem_cons, List.not_mem_nil, or_false]
    exact .inl h
theorem frc_univ {ls : List Int} {cs : List (List Int)} {gs : List Int} (O : Ok ls cs) (Gk : GOk ls gs) {x : Int} (h : Frc cs gs x) : x ∈ univ ls := by
  cases h with
  | giv h => exact gv_univ (Gk.g _ h)
  | stp hc hl _ => exact lit_univ ((O.c _ hc).2 _ hl)
theorem gv_nz {ls : List Int} (L : Ltr ls) {x : Int} (h : Gv ls x) : x ≠ 0 := by
  rcases h with h | h
  · exact h.nz L
  · omega
theorem out_len {cs : List (List Int)} {gs U : List Int} (hU : ∀ x, Frc cs gs x → x ∈ U) {r : Option (List Int)} (h : Out cs gs r) : ∀ ks, r = some ks → ks.length ≤ U.length := by
  rintro ks rfl
  rcases h with ⟨_, h⟩ | ⟨_, ks', e, h1, h2⟩
  · cases h
  · cases e
    exact nodup_sub (strict_nodup h1) fun x hx => hU x ((h2 x).mp hx)
theorem pforced {ls : List Int} (L : Ltr ls) {P : M_Pusher} {cs : List (List Int)} (I : PInv P cs) (O : Ok ls cs) {gs : List Int} (Gk : GOk ls gs) : ∃ r, m_Pusher_forced P gs = some r ∧ Out cs gs r := by
  have hn := O.n
  have hg := Gk.n
  have h1 : cs.length * 6 ≤ 372 := by omega
  refine forced_ok (L := 6) I (fun c hc => (O.c c hc).1) (by omega) (fun c hc x hx => ((O.c c hc).2 x hx).nz L) (fun x hx => gv_nz L (Gk.g x hx)) ?_ ?_
  · exact Nat.lt_of_le_of_lt (Nat.mul_le_mul (show _ ≤ 379 by omega) (show _ ≤ 373 by omega)) (by decide)
  · exact Nat.lt_of_le_of_lt (Nat.mul_le_mul (show _ ≤ 377 by omega) hn) (by decide)
theorem lforced {ls : List Int} (L : Ltr ls) {cs : List (List Int)} (O : Ok ls cs) {gs : List Int} (Gk : GOk ls gs) : ∃ r, m_law_forced cs gs = some r ∧ Out cs gs r :=
  law_forced_ok (fun x h => frc_univ O Gk h) (univ_len ls L) (fun c hc => by have := (O.c c hc).1; omega) (by have := Gk.n; omega)
theorem asked_ok {ls : List Int} (L : Ltr ls) {P : M_Pusher} {cs : List (List Int)} (I : PInv P cs) (O : Ok ls cs) {gs : List Int} (Gk : GOk ls gs) : m_law_asked P cs gs = some true := by
  obtain ⟨r, h1, h2⟩ := pforced L I O Gk
  obtain ⟨r', g1, g2⟩ := lforced L O Gk
  obtain rfl := Out.uniq h2 g2
  have hlen := out_len (fun x h => frc_univ O Gk h) h2
  have hu := univ_len ls L
  have hsame := same_refl r fun ks e => by have := hlen ks e; omega
  have hg := Gk.n
  unfold m_law_asked
  rw [bs g1, grd_t (decide_eq_true (by omega)), List.map_id', bs h1, bs (x := false) (by rw [bs hsame, if_neg (by simp)]; simp), if_neg (by simp)]
  cases r with
  | none =>
    rw [optE_none, grd_t (decide_eq_true (by omega)), grd_t (decide_eq_true (by omega)), bs h1, bs hsame]
  | some ks =>
    have := hlen ks rfl
    rw [optE_some, grd_t (decide_eq_true (by omega)), grd_t (decide_eq_true (by omega)), grd_t (decide_eq_true (by omega)), bs h1, bs hsame]

/-! ## the law -/
theorem law_true (ns : List Int) (h : ns.length ≤ 63) : m_law ns = some true := by
  obtain ⟨s, s1, s2⟩ := seed_ok ns
  obtain ⟨ls, src1, l1, l2, L⟩ := letters_ok ns [0, 0, s] ⟨0, 0, s, rfl, by omega, by omega, s2⟩
  obtain ⟨cs, src2, c1, c2, c3, c4⟩ := clauses_ok (ns := ns) L src1 l2
  obtain ⟨g1, src3, a1, a2, a3, a4⟩ := given_ok (ns := ns) L src2 c2
  obtain ⟨g2, src4, b1, b2, b3, b4⟩ := given_ok (ns := ns) L src3 a2
  have O : Ok ls cs := ⟨c3, by omega⟩
  have G1 : GOk ls g1 := ⟨a3, a4⟩
  have G2 : GOk ls g2 := ⟨b3, b4⟩
  obtain ⟨hs, d1, d2⟩ := handed_ok cs (fun c hc => by have := (c3 c hc).1; omega) (by omega)
  have hsl : ∀ q ∈ hs, q.2.length ≤ 6 := fun q hq => by
    have : q.2 ∈ cs := by rw [← d2]; exact List.mem_map.mpr ⟨q, hq, rfl⟩
    exact (c3 _ this).1
  have hsn : hs.length = cs.length := by
    have := congrArg List.length d2
    rwa [List.length_map] at this
  have htot : tot cs < 10000000 := by have := tot_le (L := 6) (fun c hc => (c3 c hc).1); omega
  obtain ⟨P, p1, p2⟩ := init_ok hs (fun q hq => by have := hsl q hq; omega) (by omega) (by rw [d2]; exact htot)
  rw [d2] at p2
  obtain ⟨hs', e1⟩ := spoil_ok hs (by omega) (fun q hq => by have := hsl q hq; omega)
  have as1 := asked_ok L p2 O G1
  have as2 := asked_ok L p2 O G2
  obtain ⟨d, src5, t1, t2, t3, t4⟩ := take_ok ns src4 2 b2 (by decide) (by decide)
  unfold m_law
  rw [bs s1, bs l1, bs c1, bs a1, bs b1, bs d1, bs p1, bs d1, bs p1, bs d1, if_neg (by simp), bs e1]
  rw [bs (x := false) (by
    rw [bs (show m_law_asked (M_Pusher.mk P.clauses P.places P.starts P.empty) cs g1 = _ from as1), if_neg (by simp), bs (show m_law_asked (M_Pusher.mk P.clauses P.places P.starts P.empty) cs g2 = _ from as2)]
    rfl), if_neg (by simp), grd_t (decide_eq_true (by show cs.length < _; omega)), bs t1, grd_t (b := rngOk ((1 : Int) + d)) (decide_eq_true ⟨by omega, by omega⟩), List.map_id']
  have loop : ∀ (ks src : List Int) (ds : List (List Int)) (Q : M_Pusher), Src src → PInv Q ds → (∀ c ∈ ds, Cl ls c) → ds.length + ks.length ≤ 62 →
      ∃ src' ds' Q', m_law_l1 ns (ls, src1) (g1, src3) (g2, src4) ks (src, ds, Q) = some (.done (src', ds', Q')) ∧ (∀ c ∈ ds', Cl ls c) ∧ ds'.length ≤ 62 := by
    intro ks
    induction ks with
    | nil => intro src ds Q hs I hc hn; exact ⟨src, ds, Q, rfl, hc, by simpa using hn⟩
    | cons k ks ih =>
      intro src ds Q hs I hc hn
      have hn' : ds.length + (ks.length + 1) ≤ 62 := hn
      obtain ⟨c, src', m1, m2, m3⟩ := more_ok (ns := ns) L src hs
      have hc6 := m3.1
      have htd : tot ds < 10000000 := by have := tot_le (L := 6) (fun c h => (hc c h).1); omega
      obtain ⟨Q', i1, i2⟩ := include_ok I (true, c) (by show c.length < 64; omega) (by omega) htd
      have hc2 : ∀ x ∈ ds ++ [c], Cl ls x := fun x hx => by
        rcases List.mem_append.mp hx with h | h
        · exact hc x h
        · rw [List.mem_singleton.mp h]; exact m3
      have O2 : Ok ls (ds ++ [c]) := ⟨hc2, by simp; omega⟩
      obtain ⟨src2', ds', Q2, r1, r2, r3⟩ := ih src' (ds ++ [c]) Q' m2 i2 hc2 (by simp; omega)
      refine ⟨src2', ds', Q2, ?_, r2, r3⟩
      rw [m_law_l1, bs m1, grd_t (decide_eq_true (by show c.length < _; omega)), List.map_id']
      rw [bs (x := (false, Q')) (by
        rw [bs (show m_Pusher_include (M_Pusher.mk Q.clauses Q.places Q.starts Q.empty) (true, c) = _ from i1)]
        simp), if_neg (by simp), grd_t (decide_eq_true (by show c.length < _; omega)), grd_t (decide_eq_true (by show ds.length < _; omega))]
      rw [bs (x := false) (by
        rw [bs (show m_law_asked (M_Pusher.mk Q'.clauses Q'.places Q'.starts Q'.empty) (ds ++ [c]) g1 = _ from asked_ok L i2 O2 G1), if_neg (by simp), bs (show m_law_asked (M_Pusher.mk Q'.clauses Q'.places Q'.starts Q'.empty) (ds ++ [c]) g2 = _ from asked_ok L i2 O2 G2)]
        rfl), if_neg (by simp)]
      exact r1
  obtain ⟨src6, ds, Q, r1, r2, r3⟩ := loop (pyRange 0 ((1 : Int) + d).toNat) src5 cs P t4 p2 c3 (by rw [pyRange_len]; omega)
  rw [bs (show m_law_l1 ns (ls, src1) (g1, src3) (g2, src4) (pyRange 0 ((1 : Int) + d).toNat) (src5, cs, M_Pusher.mk P.clauses P.places P.starts P.empty) = _ from r1)]
  dsimp only
  have O3 : Ok ls ds := ⟨r2, r3⟩
  obtain ⟨hd, f1, f2⟩ := handed_ok ds (fun c hc => by have := (r2 c hc).1; omega) (by omega)
  have hdl : ∀ q ∈ hd, q.2.length ≤ 6 := fun q hq => by
    have : q.2 ∈ ds := by rw [← f2]; exact List.mem_map.mpr ⟨q, hq, rfl⟩
    exact (r2 _ this).1
  have hdn : hd.length = ds.length := by
    have := congrArg List.length f2
    rwa [List.length_map] at this
  have htot3 : tot ds < 10000000 := by have := tot_le (L := 6) (fun c hc => (r2 c hc).1); omega
  obtain ⟨P3, q1, q2⟩ := init_ok hd (fun q hq => by have := hdl q hq; omega) (by omega) (by rw [f2]; exact htot3)
  rw [f2] at q2
  obtain ⟨r, h1, h2⟩ := pforced L q2 O3 G2
  obtain ⟨r', k1, k2⟩ := lforced L O3 G2
  obtain rfl := Out.uniq h2 k2
  have hlen := out_len (fun x h => frc_univ O3 G2 h) h2
  have hu := univ_len ls L
  have hpush : m_push hd g2 = some r := by
    unfold m_push
    rw [bs q1, bs (show m_Pusher_forced (M_Pusher.mk P3.clauses P3.places P3.starts P3.empty) g2 = _ from h1)]
  rw [bs (x := false) (by
    rw [bs (show m_law_asked (M_Pusher.mk P.clauses P.places P.starts P.empty) cs g2 = _ from as2), if_neg (by simp), bs (show m_law_asked (M_Pusher.mk P.clauses P.places P.starts P.empty) cs g1 = _ from as1)]
    rfl), if_neg (by simp), bs f1, grd_t (decide_eq_true (by show g2.length < _; omega)), List.map_id', bs hpush, bs k1, bs (same_refl r fun ks e => by have := hlen ks e; omega), if_neg (by simp)]
  rw [bs (x := true) (by rw [bs f1, if_pos (by simp)]; simp)]
end G

namespace G
open PySem PySem.Spec PyProof.Rows L2

def top (i : Nat) : Stmt := PySem.Challenge.pw_someandall_k35_pushes_are_the_closure.main.body.getD i (.Pass ⟨0, 0, 0, 0⟩)

abbrev s_law_seed : Stmt := top 4

abbrev s_law_take : Stmt := top 5

abbrev s_law_letters : Stmt := top 6

abbrev s_law_chain : Stmt := top 9

abbrev s_law_literal : Stmt := top 7

abbrev s_law_clause : Stmt := top 8

abbrev s_law_clauses : Stmt := top 10

abbrev s_law_given : Stmt := top 11

abbrev s_law_handed : Stmt := top 12

abbrev s_Pusher_include : Stmt := inClass (top 1) 1

abbrev s_Pusher_init : Stmt := inClass (top 1) 0

abbrev s_law_spoil : Stmt := top 13

abbrev s_law_forced : Stmt := top 14

abbrev s_Pusher_push : Stmt := inClass (top 1) 2

abbrev s_Pusher_forced : Stmt := inClass (top 1) 3

abbrev s_law_same : Stmt := top 15

abbrev s_law_asked : Stmt := top 16

abbrev s_law_more : Stmt := top 17

abbrev s_push : Stmt := top 2

abbrev s_law : Stmt := top 18

def fl_Pusher (v0 v1 v2 v3 : V) : List (Str × V) := putF "_empty" v3 (putF "_starts" v2 (putF "_places" v1 (putF "_clauses" v0 ([]))))
theorem fl_Pusher_few {v0 v1 v2 v3 : V} : (fl_Pusher v0 v1 v2 v3).length < 1000 := Nat.lt_of_le_of_lt (fewl (fewl (fewl (fewl (Nat.le_refl 0))))) (by decide)
theorem fn_Pusher_clauses_places : ¬ (("_clauses" : Str) = "_places") := by decide +kernel
theorem fn_Pusher_clauses_starts : ¬ (("_clauses" : Str) = "_starts") := by decide +kernel
theorem fn_Pusher_clauses_empty : ¬ (("_clauses" : Str) = "_empty") := by decide +kernel
theorem fn_Pusher_places_clauses : ¬ (("_places" : Str) = "_clauses") := by decide +kernel
theorem fn_Pusher_places_starts : ¬ (("_places" : Str) = "_starts") := by decide +kernel
theorem fn_Pusher_places_empty : ¬ (("_places" : Str) = "_empty") := by decide +kernel
theorem fn_Pusher_starts_clauses : ¬ (("_starts" : Str) = "_clauses") := by decide +kernel
theorem fn_Pusher_starts_places : ¬ (("_starts" : Str) = "_places") := by decide +kernel
theorem fn_Pusher_starts_empty : ¬ (("_starts" : Str) = "_empty") := by decide +kernel
theorem fn_Pusher_empty_clauses : ¬ (("_empty" : Str) = "_clauses") := by decide +kernel
theorem fn_Pusher_empty_places : ¬ (("_empty" : Str) = "_places") := by decide +kernel
theorem fn_Pusher_empty_starts : ¬ (("_empty" : Str) = "_starts") := by decide +kernel
theorem fl_Pusher_clauses {v0 v1 v2 v3 : V} : (fl_Pusher v0 v1 v2 v3).lookup ("_clauses" : Str) = some v0 := by
  unfold fl_Pusher
  rw [lookup_putF, if_neg fn_Pusher_clauses_empty, lookup_putF, if_neg fn_Pusher_clauses_starts, lookup_putF, if_neg fn_Pusher_clauses_places, lookup_putF, if_pos rfl]
theorem fl_Pusher_places {v0 v1 v2 v3 : V} : (fl_Pusher v0 v1 v2 v3).lookup ("_places" : Str) = some v1 := by
  unfold fl_Pusher
  rw [lookup_putF, if_neg fn_Pusher_places_empty, lookup_putF, if_neg fn_Pusher_places_starts, lookup_putF, if_pos rfl]
theorem fl_Pusher_starts {v0 v1 v2 v3 : V} : (fl_Pusher v0 v1 v2 v3).lookup ("_starts" : Str) = some v2 := by
  unfold fl_Pusher
  rw [lookup_putF, if_neg fn_Pusher_starts_empty, lookup_putF, if_pos rfl]
theorem fl_Pusher_empty {v0 v1 v2 v3 : V} : (fl_Pusher v0 v1 v2 v3).lookup ("_empty" : Str) = some v3 := by
  unfold fl_Pusher
  rw [lookup_putF, if_pos rfl]
theorem fl_Pusher_put_clauses {w v0 v1 v2 v3 : V} : putF "_clauses" w (fl_Pusher v0 v1 v2 v3) = fl_Pusher w v1 v2 v3 := by
  unfold fl_Pusher
  simp only [putF, if_neg fn_Pusher_places_clauses, if_neg fn_Pusher_starts_clauses, if_neg fn_Pusher_empty_clauses, if_neg fn_Pusher_clauses_places, if_neg fn_Pusher_starts_places, if_neg fn_Pusher_empty_places, if_neg fn_Pusher_clauses_starts, if_neg fn_Pusher_places_starts, if_neg fn_Pusher_empty_starts, if_neg fn_Pusher_clauses_empty, if_neg fn_Pusher_places_empty, if_neg fn_Pusher_starts_empty, if_true, if_pos, reduceIte]
theorem fl_Pusher_put_places {w v0 v1 v2 v3 : V} : putF "_places" w (fl_Pusher v0 v1 v2 v3) = fl_Pusher v0 w v2 v3 := by
  unfold fl_Pusher
  simp only [putF, if_neg fn_Pusher_places_clauses, if_neg fn_Pusher_starts_clauses, if_neg fn_Pusher_empty_clauses, if_neg fn_Pusher_clauses_places, if_neg fn_Pusher_starts_places, if_neg fn_Pusher_empty_places, if_neg fn_Pusher_clauses_starts, if_neg fn_Pusher_places_starts, if_neg fn_Pusher_empty_starts, if_neg fn_Pusher_clauses_empty, if_neg fn_Pusher_places_empty, if_neg fn_Pusher_starts_empty, if_true, if_pos, reduceIte]
theorem fl_Pusher_put_starts {w v0 v1 v2 v3 : V} : putF "_starts" w (fl_Pusher v0 v1 v2 v3) = fl_Pusher v0 v1 w v3 := by
  unfold fl_Pusher
  simp only [putF, if_neg fn_Pusher_places_clauses, if_neg fn_Pusher_starts_clauses, if_neg fn_Pusher_empty_clauses, if_neg fn_Pusher_clauses_places, if_neg fn_Pusher_starts_places, if_neg fn_Pusher_empty_places, if_neg fn_Pusher_clauses_starts, if_neg fn_Pusher_places_starts, if_neg fn_Pusher_empty_starts, if_neg fn_Pusher_clauses_empty, if_neg fn_Pusher_places_empty, if_neg fn_Pusher_starts_empty, if_true, if_pos, reduceIte]
theorem fl_Pusher_put_empty {w v0 v1 v2 v3 : V} : putF "_empty" w (fl_Pusher v0 v1 v2 v3) = fl_Pusher v0 v1 v2 w := by
  unfold fl_Pusher
  simp only [putF, if_neg fn_Pusher_places_clauses, if_neg fn_Pusher_starts_clauses, if_neg fn_Pusher_empty_clauses, if_neg fn_Pusher_clauses_places, if_neg fn_Pusher_starts_places, if_neg fn_Pusher_empty_places, if_neg fn_Pusher_clauses_starts, if_neg fn_Pusher_places_starts, if_neg fn_Pusher_empty_starts, if_neg fn_Pusher_clauses_empty, if_neg fn_Pusher_places_empty, if_neg fn_Pusher_starts_empty, if_true, if_pos, reduceIte]
theorem fl_Pusher_no_push {v0 v1 v2 v3 : V} : (fl_Pusher v0 v1 v2 v3).lookup ("_push" : Str) = none := by
  unfold fl_Pusher
  rw [lookup_putF, if_neg (show ¬ (("_push" : Str) = "_empty") by decide +kernel), lookup_putF, if_neg (show ¬ (("_push" : Str) = "_starts") by decide +kernel), lookup_putF, if_neg (show ¬ (("_push" : Str) = "_places") by decide +kernel), lookup_putF, if_neg (show ¬ (("_push" : Str) = "_clauses") by decide +kernel)]
  rfl
theorem fl_Pusher_no_forced {v0 v1 v2 v3 : V} : (fl_Pusher v0 v1 v2 v3).lookup ("forced" : Str) = none := by
  unfold fl_Pusher
  rw [lookup_putF, if_neg (show ¬ (("forced" : Str) = "_empty") by decide +kernel), lookup_putF, if_neg (show ¬ (("forced" : Str) = "_starts") by decide +kernel), lookup_putF, if_neg (show ¬ (("forced" : Str) = "_places") by decide +kernel), lookup_putF, if_neg (show ¬ (("forced" : Str) = "_clauses") by decide +kernel)]
  rfl
theorem fl_Pusher_no_include {v0 v1 v2 v3 : V} : (fl_Pusher v0 v1 v2 v3).lookup ("include" : Str) = none := by
  unfold fl_Pusher
  rw [lookup_putF, if_neg (show ¬ (("include" : Str) = "_empty") by decide +kernel), lookup_putF, if_neg (show ¬ (("include" : Str) = "_starts") by decide +kernel), lookup_putF, if_neg (show ¬ (("include" : Str) = "_places") by decide +kernel), lookup_putF, if_neg (show ¬ (("include" : Str) = "_clauses") by decide +kernel)]
  rfl

structure Txt (K : PySem.W.Frag) (mg : Str → Option Value) where
  z_abs : mg "abs" = none
  z_bool : mg "bool" = none
  z_int : mg "int" = none
  z_isinstance : mg "isinstance" = none
  z_len : mg "len" = none
  z_list : mg "list" = none
  z_range : mg "range" = none
  z_set : mg "set" = none
  z_sorted : mg "sorted" = none
  z_tuple : mg "tuple" = none
  a_law_seed : Addr
  d_law_seed : FuncData
  F_law_seed : Fun K "_law_seed" "_law_seed" s_law_seed a_law_seed d_law_seed
  b_law_seed : Binds K d_law_seed ["script"] []
  g_law_seed : mg "_law_seed" = some (.ref a_law_seed)
  a_law_take : Addr
  d_law_take : FuncData
  F_law_take : Fun K "_law_take" "_law_take" s_law_take a_law_take d_law_take
  b_law_take : Binds K d_law_take ["script", "source", "size"] []
  g_law_take : mg "_law_take" = some (.ref a_law_take)
  a_law_letters : Addr
  d_law_letters : FuncData
  F_law_letters : Fun K "_law_letters" "_law_letters" s_law_letters a_law_letters d_law_letters
  b_law_letters : Binds K d_law_letters ["script", "source"] []
  g_law_letters : mg "_law_letters" = some (.ref a_law_letters)
  a_law_chain : Addr
  d_law_chain : FuncData
  F_law_chain : Fun K "_law_chain" "_law_chain" s_law_chain a_law_chain d_law_chain
  b_law_chain : Binds K d_law_chain ["script", "source", "letters"] []
  g_law_chain : mg "_law_chain" = some (.ref a_law_chain)
  a_law_literal : Addr
  d_law_literal : FuncData
  F_law_literal : Fun K "_law_literal" "_law_literal" s_law_literal a_law_literal d_law_literal
  b_law_literal : Binds K d_law_literal ["script", "source", "letters"] []
  g_law_literal : mg "_law_literal" = some (.ref a_law_literal)
  a_law_clause : Addr
  d_law_clause : FuncData
  F_law_clause : Fun K "_law_clause" "_law_clause" s_law_clause a_law_clause d_law_clause
  b_law_clause : Binds K d_law_clause ["script", "source", "letters"] []
  g_law_clause : mg "_law_clause" = some (.ref a_law_clause)
  a_law_clauses : Addr
  d_law_clauses : FuncData
  F_law_clauses : Fun K "_law_clauses" "_law_clauses" s_law_clauses a_law_clauses d_law_clauses
  b_law_clauses : Binds K d_law_clauses ["script", "source", "letters"] []
  g_law_clauses : mg "_law_clauses" = some (.ref a_law_clauses)
  a_law_given : Addr
  d_law_given : FuncData
  F_law_given : Fun K "_law_given" "_law_given" s_law_given a_law_given d_law_given
  b_law_given : Binds K d_law_given ["script", "source", "letters"] []
  g_law_given : mg "_law_given" = some (.ref a_law_given)
  a_law_handed : Addr
  d_law_handed : FuncData
  F_law_handed : Fun K "_law_handed" "_law_handed" s_law_handed a_law_handed d_law_handed
  b_law_handed : Binds K d_law_handed ["clauses"] []
  g_law_handed : mg "_law_handed" = some (.ref a_law_handed)
  a_Pusher_include : Addr
  d_Pusher_include : FuncData
  F_Pusher_include : Fun K "include" "Pusher.include" s_Pusher_include a_Pusher_include d_Pusher_include
  b_Pusher_include : Binds K d_Pusher_include ["self", "clause"] []
  a_Pusher_init : Addr
  d_Pusher_init : FuncData
  F_Pusher_init : Fun K "__init__" "Pusher.__init__" s_Pusher_init a_Pusher_init d_Pusher_init
  b_Pusher_init : Binds K d_Pusher_init ["self", "clauses"] []
  a_law_spoil : Addr
  d_law_spoil : FuncData
  F_law_spoil : Fun K "_law_spoil" "_law_spoil" s_law_spoil a_law_spoil d_law_spoil
  b_law_spoil : Binds K d_law_spoil ["handed"] []
  g_law_spoil : mg "_law_spoil" = some (.ref a_law_spoil)
  a_law_forced : Addr
  d_law_forced : FuncData
  F_law_forced : Fun K "_law_forced" "_law_forced" s_law_forced a_law_forced d_law_forced
  b_law_forced : Binds K d_law_forced ["clauses", "given"] []
  g_law_forced : mg "_law_forced" = some (.ref a_law_forced)
  a_Pusher_push : Addr
  d_Pusher_push : FuncData
  F_Pusher_push : Fun K "_push" "Pusher._push" s_Pusher_push a_Pusher_push d_Pusher_push
  b_Pusher_push : Binds K d_Pusher_push ["self", "literal", "known", "open_counts"] []
  a_Pusher_forced : Addr
  d_Pusher_forced : FuncData
  F_Pusher_forced : Fun K "forced" "Pusher.forced" s_Pusher_forced a_Pusher_forced d_Pusher_forced
  b_Pusher_forced : Binds K d_Pusher_forced ["self", "literals"] []
  a_law_same : Addr
  d_law_same : FuncData
  F_law_same : Fun K "_law_same" "_law_same" s_law_same a_law_same d_law_same
  b_law_same : Binds K d_law_same ["actual", "due"] []
  g_law_same : mg "_law_same" = some (.ref a_law_same)
  a_law_asked : Addr
  d_law_asked : FuncData
  F_law_asked : Fun K "_law_asked" "_law_asked" s_law_asked a_law_asked d_law_asked
  b_law_asked : Binds K d_law_asked ["pusher", "clauses", "given"] []
  g_law_asked : mg "_law_asked" = some (.ref a_law_asked)
  a_law_more : Addr
  d_law_more : FuncData
  F_law_more : Fun K "_law_more" "_law_more" s_law_more a_law_more d_law_more
  b_law_more : Binds K d_law_more ["script", "source", "letters"] []
  g_law_more : mg "_law_more" = some (.ref a_law_more)
  a_push : Addr
  d_push : FuncData
  F_push : Fun K "push" "push" s_push a_push d_push
  b_push : Binds K d_push ["clauses", "literals"] []
  g_push : mg "push" = some (.ref a_push)
  a_law : Addr
  d_law : FuncData
  F_law : Fun K "law" "law" s_law a_law d_law
  b_law : Binds K d_law ["script"] []
  g_law : mg "law" = some (.ref a_law)
  a_Pusher : Addr
  cl_Pusher : Cls K a_Pusher
  g_Pusher : mg "Pusher" = some (.ref a_Pusher)
  n_Pusher_clauses : NoAttr K a_Pusher "_clauses"
  n_Pusher_places : NoAttr K a_Pusher "_places"
  n_Pusher_starts : NoAttr K a_Pusher "_starts"
  n_Pusher_empty : NoAttr K a_Pusher "_empty"
  h_Pusher_include : Meth K a_Pusher "include" a_Pusher_include
  mk_Pusher : Mk K a_Pusher a_Pusher_init
  h_Pusher_push : Meth K a_Pusher "_push" a_Pusher_push
  h_Pusher_forced : Meth K a_Pusher "forced" a_Pusher_forced

section
variable {P : Program} {w : World} {K : PySem.W.Frag} {mg : Str → Option Value} {base : Heap}

theorem sc_law_seed : FnScope ["script", "seed", "cell"] ["script"] (defScope s_law_seed) := ⟨rfl, rfl, rfl, by decide +kernel, rfl, by decide +kernel, by decide +kernel⟩

theorem sc_law_take : FnScope ["script", "source", "size", "digit"] ["script", "source", "size"] (defScope s_law_take) := ⟨rfl, rfl, rfl, by decide +kernel, rfl, by decide +kernel, by decide +kernel⟩

theorem sc_law_letters : FnScope ["script", "source", "count", "kind", "k"] ["script", "source"] (defScope s_law_letters) := ⟨rfl, rfl, rfl, by decide +kernel, rfl, by decide +kernel, by decide +kernel⟩

theorem sc_law_chain : FnScope ["script", "source", "letters", "signed", "letter", "chain", "k"] ["script", "source", "letters"] (defScope s_law_chain) := ⟨rfl, rfl, rfl, by decide +kernel, rfl, by decide +kernel, by decide +kernel⟩

theorem sc_law_literal : FnScope ["script", "source", "letters", "literal"] ["script", "source", "letters"] (defScope s_law_literal) := ⟨rfl, rfl, rfl, by decide +kernel, rfl, by decide +kernel, by decide +kernel⟩

theorem sc_law_clause : FnScope ["script", "source", "letters", "literals", "k", "kind"] ["script", "source", "letters"] (defScope s_law_clause) := ⟨rfl, rfl, rfl, by decide +kernel, rfl, by decide +kernel, by decide +kernel⟩

theorem sc_law_clauses : FnScope ["script", "source", "letters", "clauses", "count", "k", "at"] ["script", "source", "letters"] (defScope s_law_clauses) := ⟨rfl, rfl, rfl, by decide +kernel, rfl, by decide +kernel, by decide +kernel⟩

theorem sc_law_given : FnScope ["script", "source", "letters", "given", "k", "literal"] ["script", "source", "letters"] (defScope s_law_given) := ⟨rfl, rfl, rfl, by decide +kernel, rfl, by decide +kernel, by decide +kernel⟩

theorem sc_law_handed : FnScope ["clauses", "handed", "k", "literal"] ["clauses"] (defScope s_law_handed) := ⟨rfl, rfl, rfl, by decide +kernel, rfl, by decide +kernel, by decide +kernel⟩

theorem sc_Pusher_include : FnScope ["self", "clause", "literals", "literal"] ["self", "clause"] (defScope s_Pusher_include) := ⟨rfl, rfl, rfl, by decide +kernel, rfl, by decide +kernel, by decide +kernel⟩

theorem sc_Pusher_init : FnScope ["self", "clauses", "clause"] ["self", "clauses"] (defScope s_Pusher_init) := ⟨rfl, rfl, rfl, by decide +kernel, rfl, by decide +kernel, by decide +kernel⟩

theorem sc_law_spoil : FnScope ["handed", "k", "clause"] ["handed"] (defScope s_law_spoil) := ⟨rfl, rfl, rfl, by decide +kernel, rfl, by decide +kernel, by decide +kernel⟩

theorem sc_law_forced : FnScope ["clauses", "given", "known", "literal", "k", "count", "clause", "left"] ["clauses", "given"] (defScope s_law_forced) := ⟨rfl, rfl, rfl, by decide +kernel, rfl, by decide +kernel, by decide +kernel⟩

theorem sc_Pusher_push : FnScope ["self", "literal", "known", "open_counts", "found", "k", "one"] ["self", "literal", "known", "open_counts"] (defScope s_Pusher_push) := ⟨rfl, rfl, rfl, by decide +kernel, rfl, by decide +kernel, by decide +kernel⟩

theorem sc_Pusher_forced : FnScope ["self", "literals", "known", "open_counts", "todo", "literal"] ["self", "literals"] (defScope s_Pusher_forced) := ⟨rfl, rfl, rfl, by decide +kernel, rfl, by decide +kernel, by decide +kernel⟩

theorem sc_law_same : FnScope ["actual", "due", "k"] ["actual", "due"] (defScope s_law_same) := ⟨rfl, rfl, rfl, by decide +kernel, rfl, by decide +kernel, by decide +kernel⟩

theorem sc_law_asked : FnScope ["pusher", "clauses", "given", "due", "handed", "got", "literal"] ["pusher", "clauses", "given"] (defScope s_law_asked) := ⟨rfl, rfl, rfl, by decide +kernel, rfl, by decide +kernel, by decide +kernel⟩

theorem sc_law_more : FnScope ["script", "source", "letters"] ["script", "source", "letters"] (defScope s_law_more) := ⟨rfl, rfl, rfl, by decide +kernel, rfl, by decide +kernel, by decide +kernel⟩

theorem sc_push : FnScope ["clauses", "literals"] ["clauses", "literals"] (defScope s_push) := ⟨rfl, rfl, rfl, by decide +kernel, rfl, by decide +kernel, by decide +kernel⟩

theorem sc_law : FnScope ["script", "source", "letters", "clauses", "first", "second", "handed", "pusher", "twin", "clause", "grown", "k", "added", "given", "literal"] ["script"] (defScope s_law) := ⟨rfl, rfl, rfl, by decide +kernel, rfl, by decide +kernel, by decide +kernel⟩

def sp_law_seed (T : Txt K mg) : Sp := fun vs H Q _ => ∃ (F0 : Hp) (R : Own) (a_script0 : Addr) (v_script0 : List V) (x_script0 : (List Int)) (r : Int),
  vs = [V.ref a_script0] ∧ SqL K F0 a_script0 v_script0 ∧ LR (rInt F0) v_script0 x_script0 ∧ Sta F0 ([] ++ R) H ∧ m_law_seed x_script0 = some r ∧ Q (V.int r) H

theorem ok_law_seed (T : Txt K mg) : FnOk P w K mg base CX0 1 T.a_law_seed T.d_law_seed ["script"] (sp_law_seed T) := by
  refine T.F_law_seed.ok sc_law_seed (fun vs H Q E h => ?_) (fun cdv A outer s H vs Q E hr h => ?_)
  · obtain ⟨_, _, _, _, _, _, rfl, _⟩ := h
    rfl
  · obtain ⟨F0, R, a_script0, v_script0, x_script0, r, rfl, hs_script0, hl_script0, S0, hm, kk⟩ := h
    have hu := hu_of hr
    unfold m_law_seed at hm
    refine ⟨_, (pss_cons (ps_set (i := 1) sc_law_seed.nd rfl (Or.inl rfl) pe_int) (pss_cons (ps_for PassesOwn.never rfl (pi_list (pv 0)) (pg_name (i := 2) sc_law_seed.nd rfl (Or.inl rfl)) (pss_one (ps_set (i := 1) sc_law_seed.nd rfl (Or.inl rfl) (pe_op op_mod (pe_op op_add (pe_op op_add (pe_op op_mul (pv 1) pe_int) (pe_op op_mod (pe_callTy call_int1 (by rfl) T.z_int (by decide +kernel) (pa_cons (pv 2) pa_nil)) pe_int)) pe_int) pe_int)))) (pss_one (ps_ret (pv 1))))), ?_⟩
    refine seqI fun N1 hN2 => ?_
    refine hN2 _ _ ?_
    refine seqI fun N3 hN4 => ?_
    revert hm; refine bndI fun y5 e6 hm7 => ?_
    refine ⟨_, rfl, _, rfl, ⟨_, (SqL.mono hs_script0 ((Same.refl _).trans S0.sub))⟩, for_list (K := K) (a := a_script0) (xs := v_script0) (fun i σ H2 => ∃ (st1 : Int) (F20 : Hp) (o23 : Option V), σ = [some (V.ref a_script0), some (V.int st1), o23] ∧ H = H2 ∧ Same F0 F20 ∧ Sta F20 ([] ++ R) H2 ∧ m_law_seed_l1 (List.drop i x_script0) st1 = some y5) ⟨(1 : Int), F0, _, rfl, rfl, (Same.refl _), S0, e6⟩ (by rintro i σ H2 _ ⟨st1, F20, o23, rfl, rfl, s21, S22, _⟩; exact (SqL.mono hs_script0 (s21.trans S22.sub))) ?_ ?_⟩
    · rintro i v25 σ H2 hi ⟨st1, F20, o23, rfl, rfl, s21, S22, hm⟩
      obtain ⟨x24, hx26, rx27⟩ := LR.getV hl_script0 hi
      rw [drop_cons hx26, m_law_seed_l1] at hm
      obtain rfl := rInt_e rx27
      refine ⟨_, rfl, _, _, rfl, rfl, .inr ⟨by decide, by decide⟩, _, rfl, ?_⟩
      refine .inl ⟨_, rfl, ?_⟩
      refine ⟨_, _, rfl, rfl, (by show (0 : Int) < 2147483647; decide), _, _, rfl, rfl, _, _, rfl, rfl, _, _, rfl, rfl, (by show (0 : Int) < 2147483647; decide), ?_⟩
      exact ⟨((((st1 * (69621 : Int)) + (x24 % (2147483647 : Int))) + (7 : Int)) % (2147483647 : Int)), F20, _, rfl, rfl, s21, S22, hm⟩
    · rintro σ H2 ⟨st1, F20, o23, rfl, rfl, s21, S22, hm⟩
      rw [LR.dropEnd hl_script0, m_law_seed_l1] at hm
      obtain rfl := Option.some.inj hm
      have hm := hm7
      refine hN4 _ _ ?_
      refine ⟨_, rfl, ?_⟩
      obtain rfl := Option.some.inj hm
      exact kk

def sp_law_take (T : Txt K mg) : Sp := fun vs H Q _ => ∃ (F0 : Hp) (R : Own) (a_script0 : Addr) (v_script0 : List V) (x_script0 : (List Int)) (a_source0 : Addr) (v_source0 : List V) (x_source0 : (List Int)) (x_size0 : Int) (r : (Int × (List Int))),
  vs = [V.ref a_script0, V.ref a_source0, V.int x_size0] ∧ SqL K F0 a_script0 v_script0 ∧ LR (rInt F0) v_script0 x_script0 ∧ LR (rInt F0) v_source0 x_source0 ∧ Sta F0 ([(a_source0, HO.lst v_source0)] ++ R) H ∧ m_law_take x_script0 x_source0 x_size0 = some r ∧ ∀ (F1 : Hp) (H1 : Hp) (v_source0p : List V), Same F0 F1 → Sta F1 ([(a_source0, HO.lst v_source0p)] ++ R) H1 → LR (rInt F1) v_source0p r.2 → Q (V.int r.1) H1

theorem ok_law_take (T : Txt K mg) : FnOk P w K mg base CX0 1 T.a_law_take T.d_law_take ["script", "source", "size"] (sp_law_take T) := by
  refine T.F_law_take.ok sc_law_take (fun vs H Q E h => ?_) (fun cdv A outer s H vs Q E hr h => ?_)
  · obtain ⟨_, _, _, _, _, _, _, _, _, _, rfl, _⟩ := h
    rfl
  · obtain ⟨F0, R, a_script0, v_script0, x_script0, a_source0, v_source0, x_source0, x_size0, r, rfl, hs_script0, hl_script0, hl_source0, S0, hm, kk⟩ := h
    have hu := hu_of hr
    unfold m_law_take at hm
    refine ⟨_, (C8.pss_cut (ps_if (pt_pure (PW.pt (pw_and (pt_cmpR oI_eq (pe_ix ix_list (pv 1) pe_int (fun _ _ => rfl)) pe_int (nomark _)) (pw_and1 (pt_cmpR op_lt (pe_ix ix_list (pv 1) pe_int (fun _ _ => rfl)) (pe_callB call_len_seq (by rfl) T.z_len PySem.boot_len (pa_cons (pv 0) pa_nil)) (nomark _)))))) (pss_cons (ps_asg (pe_callB call_abs (by rfl) T.z_abs (by decide +kernel) (pa_cons (pe_ix ix_list (pv 0) (pe_ix ix_list (pv 1) pe_int (fun _ _ => rfl)) (fun _ _ => rfl)) pa_nil)) (pg_sub (pv 1) pe_int set_list)) (pss_one (ps_asg (pe_op op_add (pe_ix ix_list (pv 1) pe_int (fun _ _ => rfl)) pe_int) (pg_sub (pv 1) pe_int set_list)))) pss_nil) (pss_cons (ps_if (pt_cmpR op_gt (pe_ix ix_list (pv 1) pe_int (fun _ _ => rfl)) pe_int (nomark _)) (pss_cons (ps_set (i := 3) sc_law_take.nd rfl (Or.inl rfl) (pe_op op_mod (pe_callTy call_int1 (by rfl) T.z_int (by decide +kernel) (pa_cons (pe_ix ix_list (pv 1) pe_int (fun _ _ => rfl)) pa_nil)) (pv 2))) (pss_cons (ps_asg (pe_op op_fdiv (pe_ix ix_list (pv 1) pe_int (fun _ _ => rfl)) (pv 2)) (pg_sub (pv 1) pe_int set_list)) (pss_one (ps_ret (pv 3))))) pss_nil) (pss_cons (ps_asg (pe_op op_mod (pe_op op_add (pe_op op_mul (pe_ix ix_list (pv 1) pe_int (fun _ _ => rfl)) pe_int) pe_int) pe_int) (pg_sub (pv 1) pe_int set_list)) (pss_one (ps_ret (pe_op op_mod (pe_op op_fdiv (pe_ix ix_list (pv 1) pe_int (fun _ _ => rfl)) pe_int) (pv 2))))))), ?_⟩
    revert hm; refine bndI fun y6 e7 hm => ?_
    refine ⟨fun σ H2 => ∃ (F1 : Hp) (v4 : List V), σ = [some (V.ref a_script0), some (V.ref a_source0), some (V.int x_size0), none] ∧ Same F0 F1 ∧ Sta F1 ([(a_source0, HO.lst v4)] ++ R) H2 ∧ LR (rInt F1) v4 y6, ?_, ?_⟩
    · clear hm; have hm := e7; clear e7
      revert hm; refine bndI fun b8 e9 hm => ?_
      refine ⟨b8, ?_, ?_⟩
      · clear hm
        have hm := e9
        clear e9
        revert hm; refine bndI fun y10 e11 hm => ?_
        obtain ⟨v12, ev13, rv14⟩ := LR.atI hl_source0 e11
        obtain rfl := rInt_e rv14
        refine ⟨_, rfl, _, _, _, _, rfl, rfl, (SqL.of (S0.get 0 rfl)), ev13, _, _, rfl, rfl, _, rfl, ?_⟩
        by_cases c15 : (decide (y10 = (0 : Int))) = true
        · revert hm; refine ifTI c15 fun hm => ?_
          refine goT c15 ?_
          revert hm; refine bndI fun y16 e17 hm => ?_
          obtain ⟨v18, ev19, rv20⟩ := LR.atI hl_source0 e17
          obtain rfl := rInt_e rv20
          refine ⟨_, rfl, _, _, _, _, rfl, rfl, (SqL.of (S0.get 0 rfl)), ev19, _, rfl, _, _, rfl, .inl (SqL.mono hs_script0 ((Same.refl _).trans S0.sub)), ?_⟩
          rw [LR.length hl_script0]
          refine ⟨_, _, rfl, rfl, _, rfl, ?_⟩
          exact ⟨Option.some.inj hm, rfl⟩
        · revert hm; refine ifFI c15 fun hm => ?_
          exact goF c15 ⟨Option.some.inj hm, rfl⟩
      by_cases c21 : b8 = true
      · revert hm; refine ifTI c21 fun hm => ?_
        refine goT c21 ?_
        refine seqI fun N22 hN23 => ?_
        revert hm; refine bndI fun y24 e25 hm => ?_
        obtain ⟨v26, ev27, rv28⟩ := LR.atI hl_source0 e25
        obtain rfl := rInt_e rv28
        revert hm; refine bndI fun y29 e30 hm => ?_
        obtain ⟨v31, ev32, rv33⟩ := LR.atI hl_script0 e30
        obtain rfl := rInt_e rv33
        revert hm; refine bndI fun j34 e35 hm => ?_
        refine ⟨_, rfl, _, rfl, _, _, _, _, rfl, rfl, (SqL.of (S0.get 0 rfl)), ev27, _, _, _, _, rfl, rfl, (SqL.mono hs_script0 ((Same.refl _).trans S0.sub)), ev32, _, rfl, _, rfl, _, _, _, _, rfl, rfl, (S0.get 0 rfl), (by rw [LR.length hl_source0]; exact e35), ?_⟩
        have hl36 : LR (rInt F0) (v_source0.set j34 (V.int (if y29 < 0 then -y29 else y29))) (x_source0.set j34 (if y29 < 0 then -y29 else y29)) := LR.set hl_source0 rfl
        have S37 : Sta F0 ([(a_source0, HO.lst (v_source0.set j34 (V.int (if y29 < 0 then -y29 else y29))))] ++ R) _ := S0.set 0 rfl _
        refine hN23 _ _ ?_
        revert hm; refine bndI fun y38 e39 hm => ?_
        obtain ⟨v40, ev41, rv42⟩ := LR.atI hl36 e39
        obtain rfl := rInt_e rv42
        revert hm; refine bndI fun j43 e44 hm => ?_
        refine ⟨_, rfl, _, _, _, _, rfl, rfl, (SqL.of (S37.get 0 rfl)), ev41, _, _, rfl, rfl, _, rfl, _, _, _, _, rfl, rfl, (S37.get 0 rfl), (by rw [LR.length hl36]; exact e44), ?_⟩
        clear S0
        have hl45 : LR (rInt F0) ((v_source0.set j34 (V.int (if y29 < 0 then -y29 else y29))).set j43 (V.int (y38 + (1 : Int)))) ((x_source0.set j34 (if y29 < 0 then -y29 else y29)).set j43 (y38 + (1 : Int))) := LR.set hl36 rfl
        have S46 : Sta F0 ([(a_source0, HO.lst ((v_source0.set j34 (V.int (if y29 < 0 then -y29 else y29))).set j43 (V.int (y38 + (1 : Int)))))] ++ R) _ := S37.set 0 rfl _
        obtain rfl := Option.some.inj hm
        exact ⟨F0, ((v_source0.set j34 (V.int (if y29 < 0 then -y29 else y29))).set j43 (V.int (y38 + (1 : Int)))), rfl, (Same.refl _), S46, hl45⟩
      · revert hm; refine ifFI c21 fun hm => ?_
        refine goF c21 ?_
        obtain rfl := Option.some.inj hm
        exact ⟨F0, v_source0, rfl, (Same.refl _), S0, hl_source0⟩
    · rintro σ H2 ⟨F1, v4, rfl, s2, S3, hl5⟩
      refine seqI fun N47 hN48 => ?_
      revert hm; refine bndI fun y49 e50 hm => ?_
      obtain ⟨v51, ev52, rv53⟩ := LR.atI hl5 e50
      obtain rfl := rInt_e rv53
      refine ⟨_, rfl, _, _, _, _, rfl, rfl, (SqL.of (S3.get 0 rfl)), ev52, _, _, rfl, rfl, _, rfl, ?_⟩
      by_cases c54 : (decide (y49 > (0 : Int))) = true
      · revert hm; refine ifTI c54 fun hm => ?_
        refine goT c54 ?_
        refine seqI fun N55 hN56 => ?_
        revert hm; refine bndI fun y57 e58 hm => ?_
        obtain ⟨v59, ev60, rv61⟩ := LR.atI hl5 e58
        obtain rfl := rInt_e rv61
        refine ⟨_, rfl, _, _, _, _, rfl, rfl, (SqL.of (S3.get 0 rfl)), ev60, ?_⟩
        refine .inl ⟨_, rfl, ?_⟩
        revert hm; refine grdI fun g62 hm => ?_
        refine ⟨_, rfl, _, _, rfl, rfl, divOk_mod g62, ?_⟩
        refine hN56 _ _ ?_
        refine seqI fun N63 hN64 => ?_
        revert hm; refine bndI fun y65 e66 hm => ?_
        obtain ⟨v67, ev68, rv69⟩ := LR.atI hl5 e66
        obtain rfl := rInt_e rv69
        revert hm; refine grdI fun g70 hm => ?_
        revert hm; refine bndI fun j71 e72 hm => ?_
        refine ⟨_, rfl, _, _, _, _, rfl, rfl, (SqL.of (S3.get 0 rfl)), ev68, _, rfl, _, _, rfl, rfl, divOk_fdiv g70, _, rfl, _, _, _, _, rfl, rfl, (S3.get 0 rfl), (by rw [LR.length hl5]; exact e72), ?_⟩
        have hl73 : LR (rInt F1) (v4.set j71 (V.int (y65 / x_size0))) (y6.set j71 (y65 / x_size0)) := LR.set hl5 rfl
        have S74 : Sta F1 ([(a_source0, HO.lst (v4.set j71 (V.int (y65 / x_size0))))] ++ R) _ := S3.set 0 rfl _
        refine hN64 _ _ ?_
        refine ⟨_, rfl, ?_⟩
        clear S3
        obtain rfl := Option.some.inj hm
        exact kk _ _ (v4.set j71 (V.int (y65 / x_size0))) s2 S74 hl73
      · revert hm; refine ifFI c54 fun hm => ?_
        refine goF c54 ?_
        refine hN48 _ _ ?_
        refine seqI fun N75 hN76 => ?_
        revert hm; refine bndI fun y77 e78 hm => ?_
        obtain ⟨v79, ev80, rv81⟩ := LR.atI hl5 e78
        obtain rfl := rInt_e rv81
        revert hm; refine bndI fun j82 e83 hm => ?_
        refine ⟨_, rfl, _, _, _, _, rfl, rfl, (SqL.of (S3.get 0 rfl)), ev80, _, _, rfl, rfl, .inr ⟨by decide, by decide⟩, _, _, rfl, rfl, _, _, rfl, rfl, (by show (0 : Int) < 2147483647; decide), _, rfl, _, _, _, _, rfl, rfl, (S3.get 0 rfl), (by rw [LR.length hl5]; exact e83), ?_⟩
        have hl84 : LR (rInt F1) (v4.set j82 (V.int (((y77 * (48271 : Int)) + (12345 : Int)) % (2147483647 : Int)))) (y6.set j82 (((y77 * (48271 : Int)) + (12345 : Int)) % (2147483647 : Int))) := LR.set hl5 rfl
        have S85 : Sta F1 ([(a_source0, HO.lst (v4.set j82 (V.int (((y77 * (48271 : Int)) + (12345 : Int)) % (2147483647 : Int)))))] ++ R) _ := S3.set 0 rfl _
        refine hN76 _ _ ?_
        revert hm; refine bndI fun y86 e87 hm => ?_
        obtain ⟨v88, ev89, rv90⟩ := LR.atI hl84 e87
        obtain rfl := rInt_e rv90
        revert hm; refine grdI fun g91 hm => ?_
        refine ⟨_, rfl, _, _, _, _, rfl, rfl, (SqL.of (S85.get 0 rfl)), ev89, _, _, rfl, rfl, ⟨by decide, by decide⟩, _, rfl, _, _, rfl, rfl, divOk_mod g91, ?_⟩
        clear S3
        obtain rfl := Option.some.inj hm
        exact kk _ _ (v4.set j82 (V.int (((y77 * (48271 : Int)) + (12345 : Int)) % (2147483647 : Int)))) s2 S85 hl84

def sp_law_letters (T : Txt K mg) : Sp := fun vs H Q _ => ∃ (F0 : Hp) (R : Own) (a_script0 : Addr) (v_script0 : List V) (x_script0 : (List Int)) (a_source0 : Addr) (v_source0 : List V) (x_source0 : (List Int)) (r : ((List Int) × (List Int))),
  vs = [V.ref a_script0, V.ref a_source0] ∧ SqL K F0 a_script0 v_script0 ∧ LR (rInt F0) v_script0 x_script0 ∧ LR (rInt F0) v_source0 x_source0 ∧ Sta F0 ([(a_source0, HO.lst v_source0)] ++ R) H ∧ m_law_letters x_script0 x_source0 = some r ∧ ∀ (F1 : Hp) (H1 : Hp) (v_source0p : List V) (a_ret0p : Addr) (v_ret0p : List V), Same F0 F1 → Sta F1 ([(a_ret0p, HO.lst v_ret0p), (a_source0, HO.lst v_source0p)] ++ R) H1 → LR (rInt F1) v_source0p r.2 → LR (rInt F1) v_ret0p r.1 → Q (V.ref a_ret0p) H1

theorem ok_law_letters (T : Txt K mg) : FnOk P w K mg base CX0 2 T.a_law_letters T.d_law_letters ["script", "source"] (sp_law_letters T) := by
  refine T.F_law_letters.ok sc_law_letters (fun vs H Q E h => ?_) (fun cdv A outer s H vs Q E hr h => ?_)
  · obtain ⟨_, _, _, _, _, _, _, _, _, rfl, _⟩ := h
    rfl
  · obtain ⟨F0, R, a_script0, v_script0, x_script0, a_source0, v_source0, x_source0, r, rfl, hs_script0, hl_script0, hl_source0, S0, hm, kk⟩ := h
    have hu := hu_of hr
    unfold m_law_letters at hm
    refine ⟨_, (pss_cons (ps_set (i := 2) sc_law_letters.nd rfl (Or.inl rfl) (pe_op op_add pe_int (pe_call (ok_law_take T) (hr.mono (by decide)) rfl T.g_law_take T.F_law_take.kp T.b_law_take .nil pass0 (pa_cons (pv 0) (pa_cons (pv 1) (pa_cons pe_int pa_nil)))))) (C8.pss_cut (ps_if (pt_cmpR oI_eq (pe_call (ok_law_take T) (hr.mono (by decide)) rfl T.g_law_take T.F_law_take.kp T.b_law_take .nil pass0 (pa_cons (pv 0) (pa_cons (pv 1) (pa_cons pe_int pa_nil)))) pe_int (nomark _)) (pss_one (ps_set (i := 2) sc_law_letters.nd rfl (Or.inl rfl) (pe_op op_add (pv 2) pe_int))) pss_nil) (pss_cons (ps_set (i := 3) sc_law_letters.nd rfl (Or.inl rfl) (pe_call (ok_law_take T) (hr.mono (by decide)) rfl T.g_law_take T.F_law_take.kp T.b_law_take .nil pass0 (pa_cons (pv 0) (pa_cons (pv 1) (pa_cons pe_int pa_nil))))) (pss_cons (ps_if (pt_cmpR oI_eq (pv 3) pe_int (nomark _)) (pss_one (ps_ret (pe_lc (own := [("k", 4)]) rfl sc_law_letters.nd (pi_range1 rfl T.z_range (pa_cons (pv 2) pa_nil)) (blkOk_by (own := [("k", 4)]) (N := ["script", "source", "count", "kind", "k"]) (sc := defScope s_law_letters) (by decide +kernel)) (fun _ _ _ _ _ => (pg_name (i := 4) sc_law_letters.nd rfl (Or.inl rfl))) (fun _ _ _ _ _ => pts_nil) (fun _ _ _ _ _ => (pe_op op_sub pe_int (pe_op op_mul pe_int (pv 4))))))) pss_nil) (pss_cons (ps_if (pt_cmpR oI_eq (pv 3) pe_int (nomark _)) (pss_one (ps_ret (pe_lc (own := [("k", 4)]) rfl sc_law_letters.nd (pi_range1 rfl T.z_range (pa_cons (pv 2) pa_nil)) (blkOk_by (own := [("k", 4)]) (N := ["script", "source", "count", "kind", "k"]) (sc := defScope s_law_letters) (by decide +kernel)) (fun _ _ _ _ _ => (pg_name (i := 4) sc_law_letters.nd rfl (Or.inl rfl))) (fun _ _ _ _ _ => pts_nil) (fun _ _ _ _ _ => (pe_op op_add pe_int (pe_op op_mul pe_int (pv 4))))))) pss_nil) (pss_one (ps_ret (pe_lc (own := [("k", 4)]) rfl sc_law_letters.nd (pi_range1 rfl T.z_range (pa_cons (pv 2) pa_nil)) (blkOk_by (own := [("k", 4)]) (N := ["script", "source", "count", "kind", "k"]) (sc := defScope s_law_letters) (by decide +kernel)) (fun _ _ _ _ _ => (pg_name (i := 4) sc_law_letters.nd rfl (Or.inl rfl))) (fun _ _ _ _ _ => pts_nil) (fun _ _ _ _ _ => (pe_op op_add pe_int (pv 4))))))))))), ?_⟩
    refine seqI fun N1 hN2 => ?_
    revert hm; refine bndI fun y3 e4 hm => ?_
    refine ⟨_, rfl, _, rfl, F0, ([] ++ R), a_script0, v_script0, x_script0, a_source0, v_source0, x_source0, (6 : Int), _, rfl, (SqL.mono hs_script0 (Same.refl _)), (hl_script0), hl_source0, S0, e4, fun F5 H6 v9 s7 S8 hl10 => ?_⟩
    have S11 : Sta F5 ([(a_source0, HO.lst v9)] ++ R) _ := S8
    refine ⟨_, _, rfl, rfl, ?_⟩
    clear S8
    refine hN2 _ _ ?_
    revert hm; refine bndI fun y17 e18 hm => ?_
    refine ⟨fun σ H2 => ∃ (F12 : Hp) (v15 : List V), σ = [some (V.ref a_script0), some (V.ref a_source0), some (V.int y17.1), none, none] ∧ Same F5 F12 ∧ Sta F12 ([(a_source0, HO.lst v15)] ++ R) H2 ∧ LR (rInt F12) v15 y17.2, ?_, ?_⟩
    · clear hm; have hm := e18; clear e18
      revert hm; refine bndI fun y19 e20 hm => ?_
      refine ⟨_, rfl, _, rfl, F5, ([] ++ R), a_script0, v_script0, x_script0, a_source0, v9, y3.2, (8 : Int), _, rfl, (SqL.mono hs_script0 s7), ((hl_script0.mono s7)), hl10, S11, e20, fun F21 H22 v25 s23 S24 hl26 => ?_⟩
      have S27 : Sta F21 ([(a_source0, HO.lst v25)] ++ R) _ := S24
      refine ⟨_, _, rfl, rfl, _, rfl, ?_⟩
      clear S24
      by_cases c28 : (decide (y19.1 = (5 : Int))) = true
      · revert hm; refine ifTI c28 fun hm => ?_
        refine goT c28 ?_
        refine ⟨_, rfl, _, _, rfl, rfl, ?_⟩
        obtain rfl := Option.some.inj hm
        exact ⟨F21, v25, rfl, s23, S27, hl26⟩
      · revert hm; refine ifFI c28 fun hm => ?_
        refine goF c28 ?_
        obtain rfl := Option.some.inj hm
        exact ⟨F21, v25, rfl, s23, S27, hl26⟩
    · rintro σ H2 ⟨F12, v15, rfl, s13, S14, hl16⟩
      refine seqI fun N29 hN30 => ?_
      revert hm; refine bndI fun y31 e32 hm => ?_
      refine ⟨_, rfl, _, rfl, F12, ([] ++ R), a_script0, v_script0, x_script0, a_source0, v15, y17.2, (4 : Int), _, rfl, (SqL.mono hs_script0 (s7.trans s13)), ((hl_script0.mono (s7.trans s13))), hl16, S14, e32, fun F33 H34 v37 s35 S36 hl38 => ?_⟩
      have S39 : Sta F33 ([(a_source0, HO.lst v37)] ++ R) _ := S36
      refine hN30 _ _ ?_
      refine seqI fun N40 hN41 => ?_
      refine ⟨_, rfl, _, _, rfl, rfl, _, rfl, ?_⟩
      clear S36
      by_cases c42 : (decide (y31.1 = (3 : Int))) = true
      · revert hm; refine ifTI c42 fun hm => ?_
        refine goT c42 ?_
        revert hm; refine grdI fun g43 hm => ?_
        revert hm; refine grdI fun g58 hm => ?_
        have e44 : lcO (fun x48 => some (some ((999999 : Int) - ((2 : Int) * x48)))) (pyRange 0 y17.1.toNat) = some ((pyRange 0 y17.1.toNat).map fun x48 => ((999999 : Int) - ((2 : Int) * x48))) := lc_map (fun x48 => ((999999 : Int) - ((2 : Int) * x48))) (pyRange 0 y17.1.toNat)
        refine ⟨_, rfl, _, rfl, (rngOk_lo g43), (rngOk_hi g43), fun a56 np57 => lc_rng (lo := 0) (n := y17.1.toNat) (fun i H2 => ∃ (F49 : Hp) (v50 : List V) (acc51 : List Int) (r45 : List Int), Same F33 F49 ∧ Sta F49 ([(a56, HO.lst v50), (a_source0, HO.lst v37)] ++ R) H2 ∧ LR (rInt F49) v50 acc51 ∧ acc51.length ≤ i ∧ lcO (fun x48 => some (some ((999999 : Int) - ((2 : Int) * x48)))) (List.drop i (pyRange 0 y17.1.toNat)) = some r45 ∧ ((pyRange 0 y17.1.toNat).map fun x48 => ((999999 : Int) - ((2 : Int) * x48))) = acc51 ++ r45) ⟨F33, [], [], _, Same.refl _, S39.new np57 _, trivial, Nat.le_refl _, e44, rfl⟩ ?_ ?_⟩
        · rintro i x48 H2 hi ⟨F49, v50, acc51, r45, s52, S53, hl54, hn55, hr46, hy47⟩
          have hx60 := hi
          rw [drop_cons hx60] at hr46
          revert hr46; refine lcI fun y62 r63 hm hr65 hc66 => ?_
          refine ⟨rfl, ?_⟩
          refine tYesI ?_
          rw [if_pos rfl]
          refine ⟨_, rfl, _, _, rfl, rfl, .inl ⟨by decide, by decide⟩, _, _, rfl, rfl, ?_⟩
          obtain rfl := Option.some.inj hm
          have hlt : v50.length < 16777216 := by rw [LR.length hl54]; have := (List.getElem?_eq_some_iff.mp hx60).1; have := of_decide_eq_true g58; omega
          have S67 : Sta F49 ([(a56, HO.lst (v50 ++ [V.int ((999999 : Int) - ((2 : Int) * x48))])), (a_source0, HO.lst v37)] ++ R) _ := S53.set 0 rfl _
          exact ⟨_, (S53.get 0 rfl), hlt, F49, _, (acc51 ++ [((999999 : Int) - ((2 : Int) * x48))]), r63, s52, S67, LR.snoc hl54 rfl, by rw [List.length_append]; exact Nat.succ_le_succ hn55, hr65, by rw [List.append_assoc]; exact hy47.trans (congrArg (acc51 ++ ·) hc66)⟩
        rintro H2 ⟨F49, v50, acc51, r45, s52, S53, hl54, hn55, hr46, hy47⟩
        rw [drop_rng] at hr46
        obtain rfl := Option.some.inj hr46
        rw [List.append_nil] at hy47
        subst hy47
        have S68 : Sta F49 ([(a56, HO.lst v50), (a_source0, HO.lst v37)] ++ R) _ := S53
        obtain rfl := Option.some.inj hm
        exact kk _ _ v37 a56 v50 (s7.trans (s13.trans (s35.trans s52))) S68 (hl38.mono s52) hl54
      · revert hm; refine ifFI c42 fun hm => ?_
        refine goF c42 ?_
        refine hN41 _ _ ?_
        refine seqI fun N69 hN70 => ?_
        refine ⟨_, rfl, _, _, rfl, rfl, _, rfl, ?_⟩
        by_cases c71 : (decide (y31.1 = (2 : Int))) = true
        · revert hm; refine ifTI c71 fun hm => ?_
          refine goT c71 ?_
          revert hm; refine grdI fun g72 hm => ?_
          revert hm; refine grdI fun g87 hm => ?_
          have e73 : lcO (fun x77 => some (some ((7 : Int) + ((11 : Int) * x77)))) (pyRange 0 y17.1.toNat) = some ((pyRange 0 y17.1.toNat).map fun x77 => ((7 : Int) + ((11 : Int) * x77))) := lc_map (fun x77 => ((7 : Int) + ((11 : Int) * x77))) (pyRange 0 y17.1.toNat)
          refine ⟨_, rfl, _, rfl, (rngOk_lo g72), (rngOk_hi g72), fun a85 np86 => lc_rng (lo := 0) (n := y17.1.toNat) (fun i H2 => ∃ (F78 : Hp) (v79 : List V) (acc80 : List Int) (r74 : List Int), Same F33 F78 ∧ Sta F78 ([(a85, HO.lst v79), (a_source0, HO.lst v37)] ++ R) H2 ∧ LR (rInt F78) v79 acc80 ∧ acc80.length ≤ i ∧ lcO (fun x77 => some (some ((7 : Int) + ((11 : Int) * x77)))) (List.drop i (pyRange 0 y17.1.toNat)) = some r74 ∧ ((pyRange 0 y17.1.toNat).map fun x77 => ((7 : Int) + ((11 : Int) * x77))) = acc80 ++ r74) ⟨F33, [], [], _, Same.refl _, S39.new np86 _, trivial, Nat.le_refl _, e73, rfl⟩ ?_ ?_⟩
          · rintro i x77 H2 hi ⟨F78, v79, acc80, r74, s81, S82, hl83, hn84, hr75, hy76⟩
            have hx89 := hi
            rw [drop_cons hx89] at hr75
            revert hr75; refine lcI fun y91 r92 hm hr94 hc95 => ?_
            refine ⟨rfl, ?_⟩
            refine tYesI ?_
            rw [if_pos rfl]
            refine ⟨_, rfl, _, _, rfl, rfl, .inl ⟨by decide, by decide⟩, _, _, rfl, rfl, ?_⟩
            obtain rfl := Option.some.inj hm
            have hlt : v79.length < 16777216 := by rw [LR.length hl83]; have := (List.getElem?_eq_some_iff.mp hx89).1; have := of_decide_eq_true g87; omega
            have S96 : Sta F78 ([(a85, HO.lst (v79 ++ [V.int ((7 : Int) + ((11 : Int) * x77))])), (a_source0, HO.lst v37)] ++ R) _ := S82.set 0 rfl _
            exact ⟨_, (S82.get 0 rfl), hlt, F78, _, (acc80 ++ [((7 : Int) + ((11 : Int) * x77))]), r92, s81, S96, LR.snoc hl83 rfl, by rw [List.length_append]; exact Nat.succ_le_succ hn84, hr94, by rw [List.append_assoc]; exact hy76.trans (congrArg (acc80 ++ ·) hc95)⟩
          rintro H2 ⟨F78, v79, acc80, r74, s81, S82, hl83, hn84, hr75, hy76⟩
          rw [drop_rng] at hr75
          obtain rfl := Option.some.inj hr75
          rw [List.append_nil] at hy76
          subst hy76
          have S97 : Sta F78 ([(a85, HO.lst v79), (a_source0, HO.lst v37)] ++ R) _ := S82
          obtain rfl := Option.some.inj hm
          exact kk _ _ v37 a85 v79 (s7.trans (s13.trans (s35.trans s81))) S97 (hl38.mono s81) hl83
        · revert hm; refine ifFI c71 fun hm => ?_
          refine goF c71 ?_
          refine hN70 _ _ ?_
          revert hm; refine grdI fun g98 hm => ?_
          revert hm; refine grdI fun g113 hm => ?_
          have e99 : lcO (fun x103 => some (some ((1 : Int) + x103))) (pyRange 0 y17.1.toNat) = some ((pyRange 0 y17.1.toNat).map fun x103 => ((1 : Int) + x103)) := lc_map (fun x103 => ((1 : Int) + x103)) (pyRange 0 y17.1.toNat)
          refine ⟨_, rfl, _, rfl, (rngOk_lo g98), (rngOk_hi g98), fun a111 np112 => lc_rng (lo := 0) (n := y17.1.toNat) (fun i H2 => ∃ (F104 : Hp) (v105 : List V) (acc106 : List Int) (r100 : List Int), Same F33 F104 ∧ Sta F104 ([(a111, HO.lst v105), (a_source0, HO.lst v37)] ++ R) H2 ∧ LR (rInt F104) v105 acc106 ∧ acc106.length ≤ i ∧ lcO (fun x103 => some (some ((1 : Int) + x103))) (List.drop i (pyRange 0 y17.1.toNat)) = some r100 ∧ ((pyRange 0 y17.1.toNat).map fun x103 => ((1 : Int) + x103)) = acc106 ++ r100) ⟨F33, [], [], _, Same.refl _, S39.new np112 _, trivial, Nat.le_refl _, e99, rfl⟩ ?_ ?_⟩
          · rintro i x103 H2 hi ⟨F104, v105, acc106, r100, s107, S108, hl109, hn110, hr101, hy102⟩
            have hx115 := hi
            rw [drop_cons hx115] at hr101
            revert hr101; refine lcI fun y117 r118 hm hr120 hc121 => ?_
            refine ⟨rfl, ?_⟩
            refine tYesI ?_
            rw [if_pos rfl]
            refine ⟨_, rfl, _, _, rfl, rfl, ?_⟩
            obtain rfl := Option.some.inj hm
            have hlt : v105.length < 16777216 := by rw [LR.length hl109]; have := (List.getElem?_eq_some_iff.mp hx115).1; have := of_decide_eq_true g113; omega
            have S122 : Sta F104 ([(a111, HO.lst (v105 ++ [V.int ((1 : Int) + x103)])), (a_source0, HO.lst v37)] ++ R) _ := S108.set 0 rfl _
            exact ⟨_, (S108.get 0 rfl), hlt, F104, _, (acc106 ++ [((1 : Int) + x103)]), r118, s107, S122, LR.snoc hl109 rfl, by rw [List.length_append]; exact Nat.succ_le_succ hn110, hr120, by rw [List.append_assoc]; exact hy102.trans (congrArg (acc106 ++ ·) hc121)⟩
          rintro H2 ⟨F104, v105, acc106, r100, s107, S108, hl109, hn110, hr101, hy102⟩
          rw [drop_rng] at hr101
          obtain rfl := Option.some.inj hr101
          rw [List.append_nil] at hy102
          subst hy102
          have S123 : Sta F104 ([(a111, HO.lst v105), (a_source0, HO.lst v37)] ++ R) _ := S108
          obtain rfl := Option.some.inj hm
          exact kk _ _ v37 a111 v105 (s7.trans (s13.trans (s35.trans s107))) S123 (hl38.mono s107) hl109

def sp_law_chain (T : Txt K mg) : Sp := fun vs H Q _ => ∃ (F0 : Hp) (R : Own) (a_script0 : Addr) (v_script0 : List V) (x_script0 : (List Int)) (a_source0 : Addr) (v_source0 : List V) (x_source0 : (List Int)) (a_letters0 : Addr) (v_letters0 : List V) (x_letters0 : (List Int)) (r : ((List (List Int)) × (List Int))),
  vs = [V.ref a_script0, V.ref a_source0, V.ref a_letters0] ∧ SqL K F0 a_script0 v_script0 ∧ LR (rInt F0) v_script0 x_script0 ∧ LR (rInt F0) v_source0 x_source0 ∧ SqL K (ov F0 R) a_letters0 v_letters0 ∧ LR (rInt F0) v_letters0 x_letters0 ∧ Sta F0 ([(a_source0, HO.lst v_source0)] ++ R) H ∧ m_law_chain x_script0 x_source0 x_letters0 = some r ∧ ∀ (F1 : Hp) (H1 : Hp) (v_source0p : List V) (a_ret0p : Addr) (v_ret0p : List V), Same F0 F1 → Sta F1 ([(a_ret0p, HO.lst v_ret0p), (a_source0, HO.lst v_source0p)] ++ R) H1 → LR (rInt F1) v_source0p r.2 → LR ((rLst K rInt) F1) v_ret0p r.1 → Q (V.ref a_ret0p) H1

theorem ok_law_chain (T : Txt K mg) : FnOk P w K mg base CX0 2 T.a_law_chain T.d_law_chain ["script", "source", "letters"] (sp_law_chain T) := by
  refine T.F_law_chain.ok sc_law_chain (fun vs H Q E h => ?_) (fun cdv A outer s H vs Q E hr h => ?_)
  · obtain ⟨_, _, _, _, _, _, _, _, _, _, _, _, rfl, _⟩ := h
    rfl
  · obtain ⟨F0, R, a_script0, v_script0, x_script0, a_source0, v_source0, x_source0, a_letters0, v_letters0, x_letters0, r, rfl, hs_script0, hl_script0, hl_source0, hs_letters0, hl_letters0, S0, hm, kk⟩ := h
    have hu := hu_of hr
    unfold m_law_chain at hm
    refine ⟨_, (pss_cons (ps_set (i := 3) sc_law_chain.nd rfl (Or.inl rfl) (pe_lst pa_nil)) (pss_cons (ps_for PassesOwn.never rfl (pi_list (pv 2)) (pg_name (i := 4) sc_law_chain.nd rfl (Or.inl rfl)) (pss_one (ps_if (pt_cmpR oI_eq (pe_call (ok_law_take T) (hr.mono (by decide)) rfl T.g_law_take T.F_law_take.kp T.b_law_take .nil pass0 (pa_cons (pv 0) (pa_cons (pv 1) (pa_cons pe_int pa_nil)))) pe_int (nomark _)) (pss_one (ps_expr (pe_bm PySem.F.plainAttrs_list PySem.F.slot_list_append PySem.F.type_list_append mt_append (pv 3) (pa_cons (pe_op op_sub pe_int (pv 4)) pa_nil)))) (pss_one (ps_expr (pe_bm PySem.F.plainAttrs_list PySem.F.slot_list_append PySem.F.type_list_append mt_append (pv 3) (pa_cons (pv 4) pa_nil))))))) (pss_cons (ps_set (i := 5) sc_law_chain.nd rfl (Or.inl rfl) (pe_lst pa_nil)) (pss_cons (ps_for PassesOwn.never rfl (pi_range1 rfl T.z_range (pa_cons (pe_op op_sub (pe_callB call_len_seq (by rfl) T.z_len PySem.boot_len (pa_cons (pv 3) pa_nil)) pe_int) pa_nil)) (pg_name (i := 6) sc_law_chain.nd rfl (Or.inl rfl)) (pss_one (ps_expr (pe_bm PySem.F.plainAttrs_list PySem.F.slot_list_append PySem.F.type_list_append mt_append (pv 5) (pa_cons (pe_lst (pa_cons (pe_op op_sub pe_int (pe_ix ix_list (pv 3) (pv 6) (fun _ _ => rfl))) (pa_cons (pe_ix ix_list (pv 3) (pe_op op_add (pv 6) pe_int) (fun _ _ => rfl)) pa_nil))) pa_nil))))) (C8.pss_cut (ps_if (pt_cmpR oI_eq (pe_call (ok_law_take T) (hr.mono (by decide)) rfl T.g_law_take T.F_law_take.kp T.b_law_take .nil pass0 (pa_cons (pv 0) (pa_cons (pv 1) (pa_cons pe_int pa_nil)))) pe_int (nomark _)) (pss_one (ps_expr (pe_bm0 PySem.F.plainAttrs_list PySem.F.slot_list_reverse PySem.F.type_list_reverse mt_reverse (pv 5)))) pss_nil) (pss_one (ps_ret (pv 5)))))))), ?_⟩
    refine seqI fun N1 hN2 => ?_
    refine ⟨(by show 0 ≤ sizeLine; decide), ?_⟩
    intro a3 np4
    have hl5 : LR (rInt F0) [] ([] : (List Int)) := trivial
    have S6 : Sta F0 ([(a3, HO.lst []), (a_source0, HO.lst v_source0)] ++ R) _ := S0.new np4 _
    refine hN2 _ _ ?_
    refine seqI fun N7 hN8 => ?_
    revert hm; refine bndI fun y9 e10 hm11 => ?_
    refine ⟨_, rfl, _, rfl, ⟨_, (SqL.mono hs_letters0 (S6.bor (Same.refl _) (fun _ q => (List.mem_append_right _ q))))⟩, for_list (K := K) (a := a_letters0) (xs := v_letters0) (fun i σ H2 => ∃ (st1 : ((List Int) × (List Int))) (F32 : Hp) (v36 : List V) (v38 : List V) (o35 : Option V), σ = [some (V.ref a_script0), some (V.ref a_source0), some (V.ref a_letters0), some (V.ref a3), o35, none, none] ∧ Same F0 F32 ∧ Sta F32 ([(a3, HO.lst v36), (a_source0, HO.lst v38)] ++ R) H2 ∧ LR (rInt F32) v36 st1.1 ∧ LR (rInt F32) v38 st1.2 ∧ m_law_chain_l1 x_script0 (List.drop i x_letters0) st1 = some y9) ⟨(([] : (List Int)), x_source0), F0, [], v_source0, _, rfl, (Same.refl _), S6, hl5, hl_source0, e10⟩ (by rintro i σ H2 _ ⟨st1, F32, v36, v38, o35, rfl, s33, S34, hl37, hl39, _⟩; exact (SqL.mono hs_letters0 (S34.bor s33 (fun _ q => (List.mem_append_right _ q))))) ?_ ?_⟩
    clear S0
    · rintro i v41 σ H2 hi ⟨st1, F32, v36, v38, o35, rfl, s33, S34, hl37, hl39, hm⟩
      obtain ⟨x40, hx42, rx43⟩ := LR.getV hl_letters0 hi
      rw [drop_cons hx42, m_law_chain_l1] at hm
      obtain rfl := rInt_e rx43
      have S44 : Sta F32 ([(a_source0, HO.lst v38), (a3, HO.lst v36)] ++ R) _ := S34.pick [1, 0] (by decide) rfl
      revert hm; refine bndI fun y45 e46 hm => ?_
      refine ⟨_, rfl, _, rfl, F32, ([(a3, HO.lst v36)] ++ R), a_script0, v_script0, x_script0, a_source0, v38, st1.2, (2 : Int), _, rfl, (SqL.mono hs_script0 s33), ((hl_script0.mono s33)), hl39, S44, e46, fun F47 H48 v51 s49 S50 hl52 => ?_⟩
      clear S34
      have S53 : Sta F47 ([(a_source0, HO.lst v51), (a3, HO.lst v36)] ++ R) _ := S50
      refine ⟨_, _, rfl, rfl, _, rfl, ?_⟩
      clear S50
      by_cases c54 : (decide (y45.1 = (1 : Int))) = true
      · revert hm; refine ifTI c54 fun hm => ?_
        refine goT c54 ?_
        revert hm; refine grdI fun g55 hm => ?_
        refine ⟨_, rfl, .inl ⟨rfl, _, (SqL.of (S53.get 1 rfl))⟩, _, rfl, _, _, rfl, rfl, _, _, _, rfl, rfl, (S53.get 1 rfl), (by rw [LR.length (hl37.mono s49)]; exact of_decide_eq_true g55), ?_⟩
        have hl56 : LR (rInt F47) (v36 ++ [V.int ((0 : Int) - x40)]) (st1.1 ++ [((0 : Int) - x40)]) := LR.snoc (hl37.mono s49) rfl
        have S57 : Sta F47 ([(a_source0, HO.lst v51), (a3, HO.lst (v36 ++ [V.int ((0 : Int) - x40)]))] ++ R) _ := S53.set 1 rfl _
        have S58 : Sta F47 ([(a3, HO.lst (v36 ++ [V.int ((0 : Int) - x40)])), (a_source0, HO.lst v51)] ++ R) _ := S57.pick [1, 0] (by decide) rfl
        exact ⟨((st1.1 ++ [((0 : Int) - x40)]), y45.2), F47, (v36 ++ [V.int ((0 : Int) - x40)]), v51, _, rfl, (s33.trans s49), S58, hl56, hl52, hm⟩
      · revert hm; refine ifFI c54 fun hm => ?_
        refine goF c54 ?_
        revert hm; refine grdI fun g59 hm => ?_
        refine ⟨_, rfl, .inl ⟨rfl, _, (SqL.of (S53.get 1 rfl))⟩, _, rfl, _, _, _, rfl, rfl, (S53.get 1 rfl), (by rw [LR.length (hl37.mono s49)]; exact of_decide_eq_true g59), ?_⟩
        have hl60 : LR (rInt F47) (v36 ++ [V.int x40]) (st1.1 ++ [x40]) := LR.snoc (hl37.mono s49) rfl
        have S61 : Sta F47 ([(a_source0, HO.lst v51), (a3, HO.lst (v36 ++ [V.int x40]))] ++ R) _ := S53.set 1 rfl _
        have S62 : Sta F47 ([(a3, HO.lst (v36 ++ [V.int x40])), (a_source0, HO.lst v51)] ++ R) _ := S61.pick [1, 0] (by decide) rfl
        exact ⟨((st1.1 ++ [x40]), y45.2), F47, (v36 ++ [V.int x40]), v51, _, rfl, (s33.trans s49), S62, hl60, hl52, hm⟩
    · rintro σ H2 ⟨st1, F32, v36, v38, o35, rfl, s33, S34, hl37, hl39, hm⟩
      rw [LR.dropEnd hl_letters0, m_law_chain_l1] at hm
      obtain rfl := Option.some.inj hm
      have hm := hm11
      refine hN8 _ _ ?_
      refine seqI fun N63 hN64 => ?_
      refine ⟨(by show 0 ≤ sizeLine; decide), ?_⟩
      intro a65 np66
      have hl67 : LR ((rLst K rInt) F32) [] ([] : (List (List Int))) := trivial
      have S68 : Sta F32 ([(a65, HO.lst []), (a3, HO.lst v36), (a_source0, HO.lst v38)] ++ R) _ := S34.new np66 _
      refine hN64 _ _ ?_
      refine seqI fun N69 hN70 => ?_
      refine ⟨_, rfl, _, _, rfl, .inl (SqL.of (S68.get 1 rfl)), ?_⟩
      clear S34
      rw [LR.length hl37]
      revert hm; refine grdI fun g74 hm => ?_
      revert hm; refine bndI fun y71 e72 hm73 => ?_
      refine ⟨_, _, rfl, rfl, _, rfl, (rngOk_lo g74), (rngOk_hi g74), for_rng (lo := 0) (n := ((st1.1.length : Int) - (1 : Int)).toNat) (fun i σ H2 => ∃ (st2 : (List (List Int))) (F91 : Hp) (v95 : List V) (o94 : Option V), σ = [some (V.ref a_script0), some (V.ref a_source0), some (V.ref a_letters0), some (V.ref a3), o35, some (V.ref a65), o94] ∧ Same F32 F91 ∧ Sta F91 ([(a65, HO.lst v95), (a3, HO.lst v36), (a_source0, HO.lst v38)] ++ R) H2 ∧ LR ((rLst K rInt) F91) v95 st2 ∧ m_law_chain_l2 st1 (List.drop i (pyRange 0 ((st1.1.length : Int) - (1 : Int)).toNat)) st2 = some y71) ⟨([] : (List (List Int))), F32, [], _, rfl, (Same.refl _), S68, hl67, e72⟩ ?_ ?_⟩
      · rintro i x97 σ H2 hi ⟨st2, F91, v95, o94, rfl, s92, S93, hl96, hm⟩
        rw [drop_cons hi, m_law_chain_l2] at hm
        revert hm; refine bndI fun y99 e100 hm => ?_
        obtain ⟨v101, ev102, rv103⟩ := LR.atI hl37 e100
        obtain rfl := rInt_e rv103
        revert hm; refine bndI fun y104 e105 hm => ?_
        obtain ⟨v106, ev107, rv108⟩ := LR.atI hl37 e105
        obtain rfl := rInt_e rv108
        refine ⟨_, rfl, .inl ⟨rfl, _, (SqL.of (S93.get 0 rfl))⟩, _, rfl, _, rfl, _, _, _, _, rfl, rfl, (SqL.of (S93.get 1 rfl)), ev102, _, _, rfl, rfl, _, rfl, _, rfl, _, _, rfl, rfl, _, _, _, _, rfl, rfl, (SqL.of (S93.get 1 rfl)), ev107, (by show 2 ≤ sizeLine; decide), ?_⟩
        intro a109 np110
        have hl111 : LR (rInt F91) [V.int ((0 : Int) - y99), V.int y104] ([((0 : Int) - y99), y104] : (List Int)) := ⟨rfl, rfl, trivial⟩
        have S112 : Sta F91 ([(a109, HO.lst [V.int ((0 : Int) - y99), V.int y104]), (a65, HO.lst v95), (a3, HO.lst v36), (a_source0, HO.lst v38)] ++ R) _ := S93.new np110 _
        obtain ⟨F113, s114, S115, h116⟩ : ∃ F', Same F91 F' ∧ Sta F' ([(a65, HO.lst v95), (a3, HO.lst v36), (a_source0, HO.lst v38)] ++ R) _ ∧ F' a109 = some (HO.lst [V.int ((0 : Int) - y99), V.int y104]) := ⟨_, S112.frzS, S112.frz, upd_same⟩
        revert hm; refine grdI fun g117 hm => ?_
        refine ⟨_, _, _, rfl, rfl, (S115.get 0 rfl), (by rw [LR.length (hl96.mono s114)]; exact of_decide_eq_true g117), ?_⟩
        clear S93
        have hl118 : LR ((rLst K rInt) F113) (v95 ++ [V.ref a109]) (st2 ++ [([((0 : Int) - y99), y104] : (List Int))]) := LR.snoc (hl96.mono s114) ⟨_, _, rfl, SqL.mono (SqL.of h116) (Same.refl _), (hl111.mono s114)⟩
        have S119 : Sta F113 ([(a65, HO.lst (v95 ++ [V.ref a109])), (a3, HO.lst v36), (a_source0, HO.lst v38)] ++ R) _ := S115.set 0 rfl _
        exact ⟨(st2 ++ [([((0 : Int) - y99), y104] : (List Int))]), F113, (v95 ++ [V.ref a109]), _, rfl, (s92.trans s114), S119, hl118, hm⟩
      · rintro σ H2 ⟨st2, F91, v95, o94, rfl, s92, S93, hl96, hm⟩
        rw [drop_rng, m_law_chain_l2] at hm
        obtain rfl := Option.some.inj hm
        have hm := hm73
        refine hN70 _ _ ?_
        revert hm; refine bndI fun y127 e128 hm => ?_
        refine ⟨fun σ H2 => ∃ (F120 : Hp) (v123 : List V) (v125 : List V), σ = [some (V.ref a_script0), some (V.ref a_source0), some (V.ref a_letters0), some (V.ref a3), o35, some (V.ref a65), o94] ∧ Same F91 F120 ∧ Sta F120 ([(a65, HO.lst v123), (a3, HO.lst v36), (a_source0, HO.lst v125)] ++ R) H2 ∧ LR ((rLst K rInt) F120) v123 y127.1 ∧ LR (rInt F120) v125 y127.2, ?_, ?_⟩
        · clear hm; have hm := e128; clear e128
          have S129 : Sta F91 ([(a_source0, HO.lst v38), (a65, HO.lst v95), (a3, HO.lst v36)] ++ R) _ := S93.pick [2, 0, 1] (by decide) rfl
          revert hm; refine bndI fun y130 e131 hm => ?_
          refine ⟨_, rfl, _, rfl, F91, ([(a65, HO.lst v95), (a3, HO.lst v36)] ++ R), a_script0, v_script0, x_script0, a_source0, v38, st1.2, (2 : Int), _, rfl, (SqL.mono hs_script0 (s33.trans s92)), ((hl_script0.mono (s33.trans s92))), (hl39.mono s92), S129, e131, fun F132 H133 v136 s134 S135 hl137 => ?_⟩
          clear S93
          have S138 : Sta F132 ([(a_source0, HO.lst v136), (a65, HO.lst v95), (a3, HO.lst v36)] ++ R) _ := S135
          refine ⟨_, _, rfl, rfl, _, rfl, ?_⟩
          clear S135
          by_cases c139 : (decide (y130.1 = (1 : Int))) = true
          · revert hm; refine ifTI c139 fun hm => ?_
            refine goT c139 ?_
            refine ⟨_, rfl, .inl ⟨rfl, _, (SqL.of (S138.get 1 rfl))⟩, _, _, rfl, rfl, (S138.get 1 rfl), ?_⟩
            have hl140 : LR ((rLst K rInt) F132) v95.reverse st2.reverse := LR.reverse (hl96.mono s134)
            have S141 : Sta F132 ([(a_source0, HO.lst v136), (a65, HO.lst v95.reverse), (a3, HO.lst v36)] ++ R) _ := S138.set 1 rfl _
            obtain rfl := Option.some.inj hm
            have S142 : Sta F132 ([(a65, HO.lst v95.reverse), (a3, HO.lst v36), (a_source0, HO.lst v136)] ++ R) _ := S141.pick [1, 2, 0] (by decide) rfl
            exact ⟨F132, v95.reverse, v136, rfl, s134, S142, hl140, hl137⟩
          · revert hm; refine ifFI c139 fun hm => ?_
            refine goF c139 ?_
            obtain rfl := Option.some.inj hm
            have S143 : Sta F132 ([(a65, HO.lst v95), (a3, HO.lst v36), (a_source0, HO.lst v136)] ++ R) _ := S138.pick [1, 2, 0] (by decide) rfl
            exact ⟨F132, v95, v136, rfl, s134, S143, (hl96.mono s134), hl137⟩
        · rintro σ H2 ⟨F120, v123, v125, rfl, s121, S122, hl124, hl126⟩
          refine ⟨_, rfl, ?_⟩
          obtain rfl := Option.some.inj hm
          have S144 : Sta F120 ([(a65, HO.lst v123), (a_source0, HO.lst v125)] ++ R) _ := S122.pick [0, 2] (by decide) rfl
          exact kk _ _ v125 a65 v123 (s33.trans (s92.trans s121)) S144 hl126 hl124

def sp_law_literal (T : Txt K mg) : Sp := fun vs H Q _ => ∃ (F0 : Hp) (R : Own) (a_script0 : Addr) (v_script0 : List V) (x_script0 : (List Int)) (a_source0 : Addr) (v_source0 : List V) (x_source0 : (List Int)) (a_letters0 : Addr) (v_letters0 : List V) (x_letters0 : (List Int)) (r : (Int × (List Int))),
  vs = [V.ref a_script0, V.ref a_source0, V.ref a_letters0] ∧ SqL K F0 a_script0 v_script0 ∧ LR (rInt F0) v_script0 x_script0 ∧ LR (rInt F0) v_source0 x_source0 ∧ SqL K (ov F0 R) a_letters0 v_letters0 ∧ LR (rInt F0) v_letters0 x_letters0 ∧ Sta F0 ([(a_source0, HO.lst v_source0)] ++ R) H ∧ m_law_literal x_script0 x_source0 x_letters0 = some r ∧ ∀ (F1 : Hp) (H1 : Hp) (v_source0p : List V), Same F0 F1 → Sta F1 ([(a_source0, HO.lst v_source0p)] ++ R) H1 → LR (rInt F1) v_source0p r.2 → Q (V.int r.1) H1

theorem ok_law_literal (T : Txt K mg) : FnOk P w K mg base CX0 2 T.a_law_literal T.d_law_literal ["script", "source", "letters"] (sp_law_literal T) := by
  refine T.F_law_literal.ok sc_law_literal (fun vs H Q E h => ?_) (fun cdv A outer s H vs Q E hr h => ?_)
  · obtain ⟨_, _, _, _, _, _, _, _, _, _, _, _, rfl, _⟩ := h
    rfl
  · obtain ⟨F0, R, a_script0, v_script0, x_script0, a_source0, v_source0, x_source0, a_letters0, v_letters0, x_letters0, r, rfl, hs_script0, hl_script0, hl_source0, hs_letters0, hl_letters0, S0, hm, kk⟩ := h
    have hu := hu_of hr
    unfold m_law_literal at hm
    refine ⟨_, (pss_cons (ps_set (i := 3) sc_law_literal.nd rfl (Or.inl rfl) (pe_ix ix_list (pv 2) (pe_call (ok_law_take T) (hr.mono (by decide)) rfl T.g_law_take T.F_law_take.kp T.b_law_take .nil pass0 (pa_cons (pv 0) (pa_cons (pv 1) (pa_cons (pe_callB call_len_seq (by rfl) T.z_len PySem.boot_len (pa_cons (pv 2) pa_nil)) pa_nil)))) (fun _ _ => rfl))) (pss_cons (ps_if (pt_cmpR oI_eq (pe_call (ok_law_take T) (hr.mono (by decide)) rfl T.g_law_take T.F_law_take.kp T.b_law_take .nil pass0 (pa_cons (pv 0) (pa_cons (pv 1) (pa_cons pe_int pa_nil)))) pe_int (nomark _)) (pss_one (ps_ret (pe_op op_sub pe_int (pv 3)))) pss_nil) (pss_one (ps_ret (pv 3))))), ?_⟩
    refine seqI fun N1 hN2 => ?_
    refine ⟨_, rfl, _, rfl, _, rfl, _, rfl, _, _, rfl, .inl (SqL.mono hs_letters0 (S0.bor (Same.refl _) (fun _ q => (List.mem_append_right _ q)))), ?_⟩
    rw [LR.length hl_letters0]
    revert hm; refine bndI fun y3 e4 hm => ?_
    refine ⟨F0, ([] ++ R), a_script0, v_script0, x_script0, a_source0, v_source0, x_source0, (x_letters0.length : Int), _, rfl, (SqL.mono hs_script0 (Same.refl _)), (hl_script0), hl_source0, S0, e4, fun F5 H6 v9 s7 S8 hl10 => ?_⟩
    have S11 : Sta F5 ([(a_source0, HO.lst v9)] ++ R) _ := S8
    revert hm; refine bndI fun y12 e13 hm => ?_
    obtain ⟨v14, ev15, rv16⟩ := LR.atI hl_letters0 e13
    obtain rfl := rInt_e rv16
    refine ⟨_, _, _, _, rfl, rfl, (SqL.mono hs_letters0 (S11.bor s7 (fun _ q => (List.mem_append_right _ q)))), ev15, ?_⟩
    clear S8
    refine hN2 _ _ ?_
    refine seqI fun N17 hN18 => ?_
    revert hm; refine bndI fun y19 e20 hm => ?_
    refine ⟨_, rfl, _, rfl, F5, ([] ++ R), a_script0, v_script0, x_script0, a_source0, v9, y3.2, (2 : Int), _, rfl, (SqL.mono hs_script0 s7), ((hl_script0.mono s7)), hl10, S11, e20, fun F21 H22 v25 s23 S24 hl26 => ?_⟩
    have S27 : Sta F21 ([(a_source0, HO.lst v25)] ++ R) _ := S24
    refine ⟨_, _, rfl, rfl, _, rfl, ?_⟩
    clear S24
    by_cases c28 : (decide (y19.1 = (1 : Int))) = true
    · revert hm; refine ifTI c28 fun hm => ?_
      refine goT c28 ?_
      refine ⟨_, rfl, _, _, rfl, rfl, ?_⟩
      obtain rfl := Option.some.inj hm
      exact kk _ _ v25 (s7.trans s23) S27 hl26
    · revert hm; refine ifFI c28 fun hm => ?_
      refine goF c28 ?_
      refine hN18 _ _ ?_
      refine ⟨_, rfl, ?_⟩
      obtain rfl := Option.some.inj hm
      exact kk _ _ v25 (s7.trans s23) S27 hl26

def sp_law_clause (T : Txt K mg) : Sp := fun vs H Q _ => ∃ (F0 : Hp) (R : Own) (a_script0 : Addr) (v_script0 : List V) (x_script0 : (List Int)) (a_source0 : Addr) (v_source0 : List V) (x_source0 : (List Int)) (a_letters0 : Addr) (v_letters0 : List V) (x_letters0 : (List Int)) (r : ((List Int) × (List Int))),
  vs = [V.ref a_script0, V.ref a_source0, V.ref a_letters0] ∧ SqL K F0 a_script0 v_script0 ∧ LR (rInt F0) v_script0 x_script0 ∧ LR (rInt F0) v_source0 x_source0 ∧ SqL K (ov F0 R) a_letters0 v_letters0 ∧ LR (rInt F0) v_letters0 x_letters0 ∧ Sta F0 ([(a_source0, HO.lst v_source0)] ++ R) H ∧ m_law_clause x_script0 x_source0 x_letters0 = some r ∧ ∀ (F1 : Hp) (H1 : Hp) (v_source0p : List V) (a_ret0p : Addr) (v_ret0p : List V), Same F0 F1 → Sta F1 ([(a_ret0p, HO.lst v_ret0p), (a_source0, HO.lst v_source0p)] ++ R) H1 → LR (rInt F1) v_source0p r.2 → LR (rInt F1) v_ret0p r.1 → Q (V.ref a_ret0p) H1

theorem ok_law_clause (T : Txt K mg) : FnOk P w K mg base CX0 3 T.a_law_clause T.d_law_clause ["script", "source", "letters"] (sp_law_clause T) := by
  refine T.F_law_clause.ok sc_law_clause (fun vs H Q E h => ?_) (fun cdv A outer s H vs Q E hr h => ?_)
  · obtain ⟨_, _, _, _, _, _, _, _, _, _, _, _, rfl, _⟩ := h
    rfl
  · obtain ⟨F0, R, a_script0, v_script0, x_script0, a_source0, v_source0, x_source0, a_letters0, v_letters0, x_letters0, r, rfl, hs_script0, hl_script0, hl_source0, hs_letters0, hl_letters0, S0, hm, kk⟩ := h
    have hu := hu_of hr
    unfold m_law_clause at hm
    refine ⟨_, (pss_cons (ps_set (i := 3) sc_law_clause.nd rfl (Or.inl rfl) (pe_lst pa_nil)) (pss_cons (ps_for PassesOwn.never rfl (pi_range1 rfl T.z_range (pa_cons (pe_ix ix_list (pe_lst (pa_cons pe_int (pa_cons pe_int (pa_cons pe_int (pa_cons pe_int (pa_cons pe_int (pa_cons pe_int (pa_cons pe_int (pa_cons pe_int pa_nil))))))))) (pe_call (ok_law_take T) (hr.mono (by decide)) rfl T.g_law_take T.F_law_take.kp T.b_law_take .nil pass0 (pa_cons (pv 0) (pa_cons (pv 1) (pa_cons pe_int pa_nil)))) (fun _ _ => rfl)) pa_nil)) (pg_name (i := 4) sc_law_clause.nd rfl (Or.inl rfl)) (pss_one (ps_expr (pe_bm PySem.F.plainAttrs_list PySem.F.slot_list_append PySem.F.type_list_append mt_append (pv 3) (pa_cons (pe_call (ok_law_literal T) (hr.mono (by decide)) rfl T.g_law_literal T.F_law_literal.kp T.b_law_literal .nil pass0 (pa_cons (pv 0) (pa_cons (pv 1) (pa_cons (pv 2) pa_nil)))) pa_nil))))) (pss_cons (ps_set (i := 5) sc_law_clause.nd rfl (Or.inl rfl) (pe_call (ok_law_take T) (hr.mono (by decide)) rfl T.g_law_take T.F_law_take.kp T.b_law_take .nil pass0 (pa_cons (pv 0) (pa_cons (pv 1) (pa_cons pe_int pa_nil))))) (C8.pss_cut (ps_if (pt_cmpR oI_eq (pv 5) pe_int (nomark _)) (pss_one (ps_expr (pe_bm PySem.F.plainAttrs_list PySem.F.slot_list_append PySem.F.type_list_append mt_append (pv 3) (pa_cons (pe_ix ix_list (pv 3) pe_int (fun _ _ => rfl)) pa_nil)))) pss_nil) (C8.pss_cut (ps_if (pt_cmpR oI_eq (pv 5) pe_int (nomark _)) (pss_one (ps_expr (pe_bm PySem.F.plainAttrs_list PySem.F.slot_list_append PySem.F.type_list_append mt_append (pv 3) (pa_cons (pe_op op_sub pe_int (pe_ix ix_list (pv 3) pe_int (fun _ _ => rfl))) pa_nil)))) pss_nil) (C8.pss_cut (ps_if (pt_cut (PW.pt (pw_and (pt_cmpR oI_eq (pv 5) pe_int (nomark _)) (pw_and1 (pt_cmpR oI_eq (pe_call (ok_law_take T) (hr.mono (by decide)) rfl T.g_law_take T.F_law_take.kp T.b_law_take .nil pass0 (pa_cons (pv 0) (pa_cons (pv 1) (pa_cons pe_int pa_nil)))) pe_int (nomark _)))))) (pss_one (ps_set (i := 3) sc_law_clause.nd rfl (Or.inl rfl) (pe_lst pa_nil))) pss_nil) (pss_one (ps_ret (pv 3))))))))), ?_⟩
    refine seqI fun N1 hN2 => ?_
    refine ⟨(by show 0 ≤ sizeLine; decide), ?_⟩
    intro a3 np4
    have hl5 : LR (rInt F0) [] ([] : (List Int)) := trivial
    have S6 : Sta F0 ([(a3, HO.lst []), (a_source0, HO.lst v_source0)] ++ R) _ := S0.new np4 _
    refine hN2 _ _ ?_
    refine seqI fun N7 hN8 => ?_
    refine ⟨(by show 8 ≤ sizeLine; decide), ?_⟩
    clear S0
    intro a12 np13
    have hl14 : LR (rInt F0) [V.int 2, V.int 2, V.int 3, V.int 2, V.int 3, V.int 2, V.int 1, V.int 4] ([(2 : Int), (2 : Int), (3 : Int), (2 : Int), (3 : Int), (2 : Int), (1 : Int), (4 : Int)] : (List Int)) := ⟨rfl, rfl, rfl, rfl, rfl, rfl, rfl, rfl, trivial⟩
    have S15 : Sta F0 ([(a12, HO.lst [V.int 2, V.int 2, V.int 3, V.int 2, V.int 3, V.int 2, V.int 1, V.int 4]), (a3, HO.lst []), (a_source0, HO.lst v_source0)] ++ R) _ := S6.new np13 _
    have S16 : Sta F0 ([(a_source0, HO.lst v_source0), (a12, HO.lst [V.int 2, V.int 2, V.int 3, V.int 2, V.int 3, V.int 2, V.int 1, V.int 4]), (a3, HO.lst [])] ++ R) _ := S15.pick [2, 0, 1] (by decide) rfl
    revert hm; refine bndI fun y17 e18 hm => ?_
    refine ⟨_, rfl, _, rfl, F0, ([(a12, HO.lst [V.int 2, V.int 2, V.int 3, V.int 2, V.int 3, V.int 2, V.int 1, V.int 4]), (a3, HO.lst [])] ++ R), a_script0, v_script0, x_script0, a_source0, v_source0, x_source0, (8 : Int), _, rfl, (SqL.mono hs_script0 (Same.refl _)), (hl_script0), hl_source0, S16, e18, fun F19 H20 v23 s21 S22 hl24 => ?_⟩
    clear S6 S15
    have S25 : Sta F19 ([(a_source0, HO.lst v23), (a12, HO.lst [V.int 2, V.int 2, V.int 3, V.int 2, V.int 3, V.int 2, V.int 1, V.int 4]), (a3, HO.lst [])] ++ R) _ := S22
    revert hm; refine bndI fun y26 e27 hm => ?_
    obtain ⟨v28, ev29, rv30⟩ := LR.atI hl14 e27
    obtain rfl := rInt_e rv30
    revert hm; refine grdI fun g31 hm => ?_
    revert hm; refine bndI fun y9 e10 hm11 => ?_
    refine ⟨_, _, _, _, rfl, rfl, (SqL.of (S25.get 1 rfl)), ev29, _, rfl, (rngOk_lo g31), (rngOk_hi g31), for_rng (lo := 0) (n := y26.toNat) (fun i σ H2 => ∃ (st1 : ((List Int) × (List Int))) (F52 : Hp) (v56 : List V) (v58 : List V) (o55 : Option V), σ = [some (V.ref a_script0), some (V.ref a_source0), some (V.ref a_letters0), some (V.ref a3), o55, none] ∧ Same F19 F52 ∧ Sta F52 ([(a_source0, HO.lst v56), (a12, HO.lst [V.int 2, V.int 2, V.int 3, V.int 2, V.int 3, V.int 2, V.int 1, V.int 4]), (a3, HO.lst v58)] ++ R) H2 ∧ LR (rInt F52) v56 st1.1 ∧ LR (rInt F52) v58 st1.2 ∧ m_law_clause_l1 x_script0 x_letters0 (List.drop i (pyRange 0 y26.toNat)) st1 = some y9) ⟨(y17.2, ([] : (List Int))), F19, v23, [], _, rfl, (Same.refl _), S25, hl24, (hl5.mono s21), e10⟩ ?_ ?_⟩
    clear S22
    · rintro i x60 σ H2 hi ⟨st1, F52, v56, v58, o55, rfl, s53, S54, hl57, hl59, hm⟩
      rw [drop_cons hi, m_law_clause_l1] at hm
      revert hm; refine bndI fun y62 e63 hm => ?_
      refine ⟨_, rfl, .inl ⟨rfl, _, (SqL.of (S54.get 2 rfl))⟩, _, rfl, _, rfl, _, rfl, F52, ([(a12, HO.lst [V.int 2, V.int 2, V.int 3, V.int 2, V.int 3, V.int 2, V.int 1, V.int 4]), (a3, HO.lst v58)] ++ R), a_script0, v_script0, x_script0, a_source0, v56, st1.1, a_letters0, v_letters0, x_letters0, _, rfl, (SqL.mono hs_script0 (s21.trans s53)), ((hl_script0.mono (s21.trans s53))), hl57, (SqL.mono hs_letters0 (S54.tl.ovR (s21.trans s53) (fun _ q => (List.mem_append_right _ q)))), (hl_letters0.mono (s21.trans s53)), S54, e63, fun F64 H65 v68 s66 S67 hl69 => ?_⟩
      have S70 : Sta F64 ([(a_source0, HO.lst v68), (a12, HO.lst [V.int 2, V.int 2, V.int 3, V.int 2, V.int 3, V.int 2, V.int 1, V.int 4]), (a3, HO.lst v58)] ++ R) _ := S67
      revert hm; refine grdI fun g71 hm => ?_
      refine ⟨_, _, _, rfl, rfl, (S70.get 2 rfl), (by rw [LR.length (hl59.mono s66)]; exact of_decide_eq_true g71), ?_⟩
      clear S67
      have hl72 : LR (rInt F64) (v58 ++ [V.int y62.1]) (st1.2 ++ [y62.1]) := LR.snoc (hl59.mono s66) rfl
      have S73 : Sta F64 ([(a_source0, HO.lst v68), (a12, HO.lst [V.int 2, V.int 2, V.int 3, V.int 2, V.int 3, V.int 2, V.int 1, V.int 4]), (a3, HO.lst (v58 ++ [V.int y62.1]))] ++ R) _ := S70.set 2 rfl _
      exact ⟨(y62.2, (st1.2 ++ [y62.1])), F64, v68, (v58 ++ [V.int y62.1]), _, rfl, (s53.trans s66), S73, hl69, hl72, hm⟩
    · rintro σ H2 ⟨st1, F52, v56, v58, o55, rfl, s53, S54, hl57, hl59, hm⟩
      rw [drop_rng, m_law_clause_l1] at hm
      obtain rfl := Option.some.inj hm
      have hm := hm11
      refine hN8 _ _ ?_
      refine seqI fun N74 hN75 => ?_
      revert hm; refine bndI fun y76 e77 hm => ?_
      refine ⟨_, rfl, _, rfl, F52, ([(a12, HO.lst [V.int 2, V.int 2, V.int 3, V.int 2, V.int 3, V.int 2, V.int 1, V.int 4]), (a3, HO.lst v58)] ++ R), a_script0, v_script0, x_script0, a_source0, v56, st1.1, (16 : Int), _, rfl, (SqL.mono hs_script0 (s21.trans s53)), ((hl_script0.mono (s21.trans s53))), hl57, S54, e77, fun F78 H79 v82 s80 S81 hl83 => ?_⟩
      have S84 : Sta F78 ([(a_source0, HO.lst v82), (a12, HO.lst [V.int 2, V.int 2, V.int 3, V.int 2, V.int 3, V.int 2, V.int 1, V.int 4]), (a3, HO.lst v58)] ++ R) _ := S81
      refine hN75 _ _ ?_
      revert hm; refine bndI fun y90 e91 hm => ?_
      refine ⟨fun σ H2 => ∃ (F85 : Hp) (v88 : List V), σ = [some (V.ref a_script0), some (V.ref a_source0), some (V.ref a_letters0), some (V.ref a3), o55, some (V.int y76.1)] ∧ Same F78 F85 ∧ Sta F85 ([(a_source0, HO.lst v82), (a12, HO.lst [V.int 2, V.int 2, V.int 3, V.int 2, V.int 3, V.int 2, V.int 1, V.int 4]), (a3, HO.lst v88)] ++ R) H2 ∧ LR (rInt F85) v88 y90, ?_, ?_⟩
      · clear hm; have hm := e91; clear e91
        refine ⟨_, rfl, _, _, rfl, rfl, _, rfl, ?_⟩
        by_cases c92 : (decide (y76.1 = (3 : Int))) = true
        · revert hm; refine ifTI c92 fun hm => ?_
          refine goT c92 ?_
          revert hm; refine bndI fun y93 e94 hm => ?_
          obtain ⟨v95, ev96, rv97⟩ := LR.atI hl59 e94
          obtain rfl := rInt_e rv97
          revert hm; refine grdI fun g98 hm => ?_
          refine ⟨_, rfl, .inl ⟨rfl, _, (SqL.of (S84.get 2 rfl))⟩, _, rfl, _, _, _, _, rfl, rfl, (SqL.of (S84.get 2 rfl)), ev96, _, _, _, rfl, rfl, (S84.get 2 rfl), (by rw [LR.length (hl59.mono s80)]; exact of_decide_eq_true g98), ?_⟩
          have hl99 : LR (rInt F78) (v58 ++ [V.int y93]) (st1.2 ++ [y93]) := LR.snoc (hl59.mono s80) rfl
          have S100 : Sta F78 ([(a_source0, HO.lst v82), (a12, HO.lst [V.int 2, V.int 2, V.int 3, V.int 2, V.int 3, V.int 2, V.int 1, V.int 4]), (a3, HO.lst (v58 ++ [V.int y93]))] ++ R) _ := S84.set 2 rfl _
          obtain rfl := Option.some.inj hm
          exact ⟨F78, (v58 ++ [V.int y93]), rfl, (Same.refl _), S100, hl99⟩
        · revert hm; refine ifFI c92 fun hm => ?_
          refine goF c92 ?_
          obtain rfl := Option.some.inj hm
          exact ⟨F78, v58, rfl, (Same.refl _), S84, (hl59.mono s80)⟩
      · rintro σ H2 ⟨F85, v88, rfl, s86, S87, hl89⟩
        revert hm; refine bndI fun y106 e107 hm => ?_
        refine ⟨fun σ H2 => ∃ (F101 : Hp) (v104 : List V), σ = [some (V.ref a_script0), some (V.ref a_source0), some (V.ref a_letters0), some (V.ref a3), o55, some (V.int y76.1)] ∧ Same F85 F101 ∧ Sta F101 ([(a_source0, HO.lst v82), (a12, HO.lst [V.int 2, V.int 2, V.int 3, V.int 2, V.int 3, V.int 2, V.int 1, V.int 4]), (a3, HO.lst v104)] ++ R) H2 ∧ LR (rInt F101) v104 y106, ?_, ?_⟩
        · clear hm; have hm := e107; clear e107
          refine ⟨_, rfl, _, _, rfl, rfl, _, rfl, ?_⟩
          by_cases c108 : (decide (y76.1 = (7 : Int))) = true
          · revert hm; refine ifTI c108 fun hm => ?_
            refine goT c108 ?_
            revert hm; refine bndI fun y109 e110 hm => ?_
            obtain ⟨v111, ev112, rv113⟩ := LR.atI hl89 e110
            obtain rfl := rInt_e rv113
            revert hm; refine grdI fun g114 hm => ?_
            refine ⟨_, rfl, .inl ⟨rfl, _, (SqL.of (S87.get 2 rfl))⟩, _, rfl, _, _, _, _, rfl, rfl, (SqL.of (S87.get 2 rfl)), ev112, _, _, rfl, rfl, _, _, _, rfl, rfl, (S87.get 2 rfl), (by rw [LR.length hl89]; exact of_decide_eq_true g114), ?_⟩
            have hl115 : LR (rInt F85) (v88 ++ [V.int ((0 : Int) - y109)]) (y90 ++ [((0 : Int) - y109)]) := LR.snoc hl89 rfl
            have S116 : Sta F85 ([(a_source0, HO.lst v82), (a12, HO.lst [V.int 2, V.int 2, V.int 3, V.int 2, V.int 3, V.int 2, V.int 1, V.int 4]), (a3, HO.lst (v88 ++ [V.int ((0 : Int) - y109)]))] ++ R) _ := S87.set 2 rfl _
            obtain rfl := Option.some.inj hm
            exact ⟨F85, (v88 ++ [V.int ((0 : Int) - y109)]), rfl, (Same.refl _), S116, hl115⟩
          · revert hm; refine ifFI c108 fun hm => ?_
            refine goF c108 ?_
            obtain rfl := Option.some.inj hm
            exact ⟨F85, v88, rfl, (Same.refl _), S87, hl89⟩
        · rintro σ H2 ⟨F101, v104, rfl, s102, S103, hl105⟩
          revert hm; refine bndI fun y125 e126 hm => ?_
          refine ⟨fun σ H2 => ∃ (F117 : Hp) (a120 : Addr) (v121 : List V) (v123 : List V), σ = [some (V.ref a_script0), some (V.ref a_source0), some (V.ref a_letters0), some (V.ref a120), o55, some (V.int y76.1)] ∧ Same F101 F117 ∧ Sta F117 ([(a120, HO.lst v121), (a_source0, HO.lst v123), (a12, HO.lst [V.int 2, V.int 2, V.int 3, V.int 2, V.int 3, V.int 2, V.int 1, V.int 4])] ++ R) H2 ∧ LR (rInt F117) v121 y125.1 ∧ LR (rInt F117) v123 y125.2, ?_, ?_⟩
          · clear hm; have hm := e126; clear e126
            revert hm; refine bndI fun b127 e128 hm => ?_
            refine ⟨fun b H' => ∃ (F129 : Hp) (v132 : List V), Same F101 F129 ∧ Sta F129 ([(a_source0, HO.lst v132), (a12, HO.lst [V.int 2, V.int 2, V.int 3, V.int 2, V.int 3, V.int 2, V.int 1, V.int 4]), (a3, HO.lst v104)] ++ R) H' ∧ LR (rInt F129) v132 b127.2 ∧ b127.1 = b, ?_, ?_⟩
            · clear hm
              have hm := e128
              clear e128
              refine ⟨_, rfl, _, _, rfl, rfl, _, rfl, ?_⟩
              by_cases c134 : (decide (y76.1 = (11 : Int))) = true
              · revert hm; refine ifTI c134 fun hm => ?_
                refine goT c134 ?_
                revert hm; refine bndI fun y135 e136 hm => ?_
                refine ⟨_, rfl, _, rfl, F101, ([(a12, HO.lst [V.int 2, V.int 2, V.int 3, V.int 2, V.int 3, V.int 2, V.int 1, V.int 4]), (a3, HO.lst v104)] ++ R), a_script0, v_script0, x_script0, a_source0, v82, y76.2, (4 : Int), _, rfl, (SqL.mono hs_script0 (s21.trans (s53.trans (s80.trans (s86.trans s102))))), ((hl_script0.mono (s21.trans (s53.trans (s80.trans (s86.trans s102)))))), (hl83.mono (s86.trans s102)), S103, e136, fun F137 H138 v141 s139 S140 hl142 => ?_⟩
                have S143 : Sta F137 ([(a_source0, HO.lst v141), (a12, HO.lst [V.int 2, V.int 2, V.int 3, V.int 2, V.int 3, V.int 2, V.int 1, V.int 4]), (a3, HO.lst v104)] ++ R) _ := S140
                refine ⟨_, _, rfl, rfl, _, rfl, ?_⟩
                clear S140
                obtain rfl := Option.some.inj hm
                exact ⟨F137, v141, s139, S143, hl142, rfl⟩
              · revert hm; refine ifFI c134 fun hm => ?_
                obtain rfl := Option.some.inj hm
                exact goF c134 ⟨F101, v82, (Same.refl _), S103, (hl83.mono (s86.trans s102)), rfl⟩
            rintro b144 H145 ⟨F129, v132, s130, S131, hl133, rfl⟩
            by_cases c146 : b127.1 = true
            · revert hm; refine ifTI c146 fun hm => ?_
              refine goT c146 ?_
              refine ⟨(by show 0 ≤ sizeLine; decide), ?_⟩
              intro a147 np148
              have hl149 : LR (rInt F129) [] ([] : (List Int)) := trivial
              have S150 : Sta F129 ([(a147, HO.lst []), (a_source0, HO.lst v132), (a12, HO.lst [V.int 2, V.int 2, V.int 3, V.int 2, V.int 3, V.int 2, V.int 1, V.int 4]), (a3, HO.lst v104)] ++ R) _ := S131.new np148 _
              obtain rfl := Option.some.inj hm
              have S151 : Sta F129 ([(a147, HO.lst []), (a_source0, HO.lst v132), (a12, HO.lst [V.int 2, V.int 2, V.int 3, V.int 2, V.int 3, V.int 2, V.int 1, V.int 4])] ++ R) _ := S150.pick [0, 1, 2] (by decide) rfl
              exact ⟨F129, a147, [], v132, rfl, s130, S151, hl149, hl133⟩
            · revert hm; refine ifFI c146 fun hm => ?_
              refine goF c146 ?_
              obtain rfl := Option.some.inj hm
              have S152 : Sta F129 ([(a3, HO.lst v104), (a_source0, HO.lst v132), (a12, HO.lst [V.int 2, V.int 2, V.int 3, V.int 2, V.int 3, V.int 2, V.int 1, V.int 4])] ++ R) _ := S131.pick [2, 0, 1] (by decide) rfl
              exact ⟨F129, a3, v104, v132, rfl, s130, S152, (hl105.mono s130), hl133⟩
          · rintro σ H2 ⟨F117, a120, v121, v123, rfl, s118, S119, hl122, hl124⟩
            refine ⟨_, rfl, ?_⟩
            obtain rfl := Option.some.inj hm
            have S153 : Sta F117 ([(a120, HO.lst v121), (a_source0, HO.lst v123)] ++ R) _ := S119.pick [0, 1] (by decide) rfl
            exact kk _ _ v123 a120 v121 (s21.trans (s53.trans (s80.trans (s86.trans (s102.trans s118))))) S153 hl124 hl122

def sp_law_clauses (T : Txt K mg) : Sp := fun vs H Q _ => ∃ (F0 : Hp) (R : Own) (a_script0 : Addr) (v_script0 : List V) (x_script0 : (List Int)) (a_source0 : Addr) (v_source0 : List V) (x_source0 : (List Int)) (a_letters0 : Addr) (v_letters0 : List V) (x_letters0 : (List Int)) (r : ((List (List Int)) × (List Int))),
  vs = [V.ref a_script0, V.ref a_source0, V.ref a_letters0] ∧ SqL K F0 a_script0 v_script0 ∧ LR (rInt F0) v_script0 x_script0 ∧ LR (rInt F0) v_source0 x_source0 ∧ SqL K (ov F0 R) a_letters0 v_letters0 ∧ LR (rInt F0) v_letters0 x_letters0 ∧ Sta F0 ([(a_source0, HO.lst v_source0)] ++ R) H ∧ m_law_clauses x_script0 x_source0 x_letters0 = some r ∧ ∀ (F1 : Hp) (H1 : Hp) (v_source0p : List V) (a_ret0p : Addr) (v_ret0p : List V), Same F0 F1 → Sta F1 ([(a_ret0p, HO.lst v_ret0p), (a_source0, HO.lst v_source0p)] ++ R) H1 → LR (rInt F1) v_source0p r.2 → LR ((rLst K rInt) F1) v_ret0p r.1 → Q (V.ref a_ret0p) H1

theorem ok_law_clauses (T : Txt K mg) : FnOk P w K mg base CX0 4 T.a_law_clauses T.d_law_clauses ["script", "source", "letters"] (sp_law_clauses T) := by
  refine T.F_law_clauses.ok sc_law_clauses (fun vs H Q E h => ?_) (fun cdv A outer s H vs Q E hr h => ?_)
  · obtain ⟨_, _, _, _, _, _, _, _, _, _, _, _, rfl, _⟩ := h
    rfl
  · obtain ⟨F0, R, a_script0, v_script0, x_script0, a_source0, v_source0, x_source0, a_letters0, v_letters0, x_letters0, r, rfl, hs_script0, hl_script0, hl_source0, hs_letters0, hl_letters0, S0, hm, kk⟩ := h
    have hu := hu_of hr
    unfold m_law_clauses at hm
    refine ⟨_, (pss_cons (ps_set (i := 3) sc_law_clauses.nd rfl (Or.inl rfl) (pe_lst pa_nil)) (C8.pss_cut (ps_if (pt_cmpR oI_eq (pe_call (ok_law_take T) (hr.mono (by decide)) rfl T.g_law_take T.F_law_take.kp T.b_law_take .nil pass0 (pa_cons (pv 0) (pa_cons (pv 1) (pa_cons pe_int pa_nil)))) pe_int (nomark _)) (pss_one (ps_set (i := 3) sc_law_clauses.nd rfl (Or.inl rfl) (pe_call (ok_law_chain T) (hr.mono (by decide)) rfl T.g_law_chain T.F_law_chain.kp T.b_law_chain .nil pass0 (pa_cons (pv 0) (pa_cons (pv 1) (pa_cons (pv 2) pa_nil)))))) pss_nil) (pss_cons (ps_set (i := 4) sc_law_clauses.nd rfl (Or.inl rfl) (pe_call (ok_law_take T) (hr.mono (by decide)) rfl T.g_law_take T.F_law_take.kp T.b_law_take .nil pass0 (pa_cons (pv 0) (pa_cons (pv 1) (pa_cons pe_int pa_nil))))) (C8.pss_cut (ps_if (pt_cmpR oI_eq (pe_call (ok_law_take T) (hr.mono (by decide)) rfl T.g_law_take T.F_law_take.kp T.b_law_take .nil pass0 (pa_cons (pv 0) (pa_cons (pv 1) (pa_cons pe_int pa_nil)))) pe_int (nomark _)) (pss_one (ps_set (i := 4) sc_law_clauses.nd rfl (Or.inl rfl) (pe_op op_add (pv 4) pe_int))) pss_nil) (pss_cons (ps_for PassesOwn.never rfl (pi_range1 rfl T.z_range (pa_cons (pv 4) pa_nil)) (pg_name (i := 5) sc_law_clauses.nd rfl (Or.inl rfl)) (pss_cons (ps_set (i := 6) sc_law_clauses.nd rfl (Or.inl rfl) (pe_call (ok_law_take T) (hr.mono (by decide)) rfl T.g_law_take T.F_law_take.kp T.b_law_take .nil pass0 (pa_cons (pv 0) (pa_cons (pv 1) (pa_cons (pe_op op_add (pe_callB call_len_seq (by rfl) T.z_len PySem.boot_len (pa_cons (pv 3) pa_nil)) pe_int) pa_nil))))) (pss_one (ps_expr (pe_bm PySem.F.plainAttrs_list PySem.F.slot_list_insert PySem.F.type_list_insert mt_insert (pv 3) (pa_cons (pv 6) (pa_cons (pe_call (ok_law_clause T) (hr.mono (by decide)) rfl T.g_law_clause T.F_law_clause.kp T.b_law_clause .nil pass0 (pa_cons (pv 0) (pa_cons (pv 1) (pa_cons (pv 2) pa_nil)))) pa_nil))))))) (pss_one (ps_ret (pv 3)))))))), ?_⟩
    refine seqI fun N1 hN2 => ?_
    refine ⟨(by show 0 ≤ sizeLine; decide), ?_⟩
    intro a3 np4
    have hl5 : LR ((rLst K rInt) F0) [] ([] : (List (List Int))) := trivial
    have S6 : Sta F0 ([(a3, HO.lst []), (a_source0, HO.lst v_source0)] ++ R) _ := S0.new np4 _
    refine hN2 _ _ ?_
    revert hm; refine bndI fun y15 e16 hm => ?_
    refine ⟨fun σ H2 => ∃ (F7 : Hp) (a10 : Addr) (v11 : List V) (v13 : List V), σ = [some (V.ref a_script0), some (V.ref a_source0), some (V.ref a_letters0), some (V.ref a10), none, none, none] ∧ Same F0 F7 ∧ Sta F7 ([(a10, HO.lst v11), (a_source0, HO.lst v13)] ++ R) H2 ∧ LR ((rLst K rInt) F7) v11 y15.1 ∧ LR (rInt F7) v13 y15.2, ?_, ?_⟩
    · clear hm; have hm := e16; clear e16
      have S17 : Sta F0 ([(a_source0, HO.lst v_source0), (a3, HO.lst [])] ++ R) _ := S6.pick [1, 0] (by decide) rfl
      revert hm; refine bndI fun y18 e19 hm => ?_
      refine ⟨_, rfl, _, rfl, F0, ([(a3, HO.lst [])] ++ R), a_script0, v_script0, x_script0, a_source0, v_source0, x_source0, (2 : Int), _, rfl, (SqL.mono hs_script0 (Same.refl _)), (hl_script0), hl_source0, S17, e19, fun F20 H21 v24 s22 S23 hl25 => ?_⟩
      clear S6
      have S26 : Sta F20 ([(a_source0, HO.lst v24), (a3, HO.lst [])] ++ R) _ := S23
      refine ⟨_, _, rfl, rfl, _, rfl, ?_⟩
      clear S23
      by_cases c27 : (decide (y18.1 = (1 : Int))) = true
      · revert hm; refine ifTI c27 fun hm => ?_
        refine goT c27 ?_
        revert hm; refine bndI fun y28 e29 hm => ?_
        refine ⟨_, rfl, _, rfl, _, rfl, F20, ([(a3, HO.lst [])] ++ R), a_script0, v_script0, x_script0, a_source0, v24, y18.2, a_letters0, v_letters0, x_letters0, _, rfl, (SqL.mono hs_script0 s22), ((hl_script0.mono s22)), hl25, (SqL.mono hs_letters0 (S26.tl.ovR s22 (fun _ q => (List.mem_append_right _ q)))), (hl_letters0.mono s22), S26, e29, fun F30 H31 v34 a36 v37 s32 S33 hl35 hl38 => ?_⟩
        have S39 : Sta F30 ([(a36, HO.lst v37), (a_source0, HO.lst v34), (a3, HO.lst [])] ++ R) _ := S33
        obtain rfl := Option.some.inj hm
        have S40 : Sta F30 ([(a36, HO.lst v37), (a_source0, HO.lst v34)] ++ R) _ := S39.pick [0, 1] (by decide) rfl
        exact ⟨F30, a36, v37, v34, rfl, (s22.trans s32), S40, hl38, hl35⟩
      · revert hm; refine ifFI c27 fun hm => ?_
        refine goF c27 ?_
        obtain rfl := Option.some.inj hm
        have S41 : Sta F20 ([(a3, HO.lst []), (a_source0, HO.lst v24)] ++ R) _ := S26.pick [1, 0] (by decide) rfl
        exact ⟨F20, a3, [], v24, rfl, s22, S41, (hl5.mono s22), hl25⟩
    · rintro σ H2 ⟨F7, a10, v11, v13, rfl, s8, S9, hl12, hl14⟩
      refine seqI fun N42 hN43 => ?_
      have S44 : Sta F7 ([(a_source0, HO.lst v13), (a10, HO.lst v11)] ++ R) _ := S9.pick [1, 0] (by decide) rfl
      revert hm; refine bndI fun y45 e46 hm => ?_
      refine ⟨_, rfl, _, rfl, F7, ([(a10, HO.lst v11)] ++ R), a_script0, v_script0, x_script0, a_source0, v13, y15.2, (12 : Int), _, rfl, (SqL.mono hs_script0 s8), ((hl_script0.mono s8)), hl14, S44, e46, fun F47 H48 v51 s49 S50 hl52 => ?_⟩
      clear S9
      have S53 : Sta F47 ([(a_source0, HO.lst v51), (a10, HO.lst v11)] ++ R) _ := S50
      refine hN43 _ _ ?_
      revert hm; refine bndI fun y59 e60 hm => ?_
      refine ⟨fun σ H2 => ∃ (F54 : Hp) (v57 : List V), σ = [some (V.ref a_script0), some (V.ref a_source0), some (V.ref a_letters0), some (V.ref a10), some (V.int y59.1), none, none] ∧ Same F47 F54 ∧ Sta F54 ([(a_source0, HO.lst v57), (a10, HO.lst v11)] ++ R) H2 ∧ LR (rInt F54) v57 y59.2, ?_, ?_⟩
      · clear hm; have hm := e60; clear e60
        revert hm; refine bndI fun y61 e62 hm => ?_
        refine ⟨_, rfl, _, rfl, F47, ([(a10, HO.lst v11)] ++ R), a_script0, v_script0, x_script0, a_source0, v51, y45.2, (8 : Int), _, rfl, (SqL.mono hs_script0 (s8.trans s49)), ((hl_script0.mono (s8.trans s49))), hl52, S53, e62, fun F63 H64 v67 s65 S66 hl68 => ?_⟩
        have S69 : Sta F63 ([(a_source0, HO.lst v67), (a10, HO.lst v11)] ++ R) _ := S66
        refine ⟨_, _, rfl, rfl, _, rfl, ?_⟩
        clear S66
        by_cases c70 : (decide (y61.1 = (5 : Int))) = true
        · revert hm; refine ifTI c70 fun hm => ?_
          refine goT c70 ?_
          refine ⟨_, rfl, _, _, rfl, rfl, ?_⟩
          obtain rfl := Option.some.inj hm
          exact ⟨F63, v67, rfl, s65, S69, hl68⟩
        · revert hm; refine ifFI c70 fun hm => ?_
          refine goF c70 ?_
          obtain rfl := Option.some.inj hm
          exact ⟨F63, v67, rfl, s65, S69, hl68⟩
      · rintro σ H2 ⟨F54, v57, rfl, s55, S56, hl58⟩
        refine seqI fun N71 hN72 => ?_
        revert hm; refine grdI fun g76 hm => ?_
        revert hm; refine bndI fun y73 e74 hm75 => ?_
        refine ⟨_, rfl, _, rfl, (rngOk_lo g76), (rngOk_hi g76), for_rng (lo := 0) (n := y59.1.toNat) (fun i σ H2 => ∃ (st1 : ((List Int) × (List (List Int)))) (F100 : Hp) (v105 : List V) (v107 : List V) (o103 : Option V) (o104 : Option V), σ = [some (V.ref a_script0), some (V.ref a_source0), some (V.ref a_letters0), some (V.ref a10), some (V.int y59.1), o103, o104] ∧ Same F54 F100 ∧ Sta F100 ([(a_source0, HO.lst v105), (a10, HO.lst v107)] ++ R) H2 ∧ LR (rInt F100) v105 st1.1 ∧ LR ((rLst K rInt) F100) v107 st1.2 ∧ m_law_clauses_l1 x_script0 x_letters0 (List.drop i (pyRange 0 y59.1.toNat)) st1 = some y73) ⟨(y59.2, y15.1), F54, v57, v11, _, _, rfl, (Same.refl _), S56, hl58, (hl12.mono (s49.trans s55)), e74⟩ ?_ ?_⟩
        · rintro i x109 σ H2 hi ⟨st1, F100, v105, v107, o103, o104, rfl, s101, S102, hl106, hl108, hm⟩
          rw [drop_cons hi, m_law_clauses_l1] at hm
          refine seqI fun N111 hN112 => ?_
          refine ⟨_, rfl, _, rfl, _, rfl, _, _, rfl, .inl (SqL.of (S102.get 1 rfl)), ?_⟩
          rw [LR.length hl108]
          revert hm; refine bndI fun y113 e114 hm => ?_
          refine ⟨_, _, rfl, rfl, F100, ([(a10, HO.lst v107)] ++ R), a_script0, v_script0, x_script0, a_source0, v105, st1.1, ((st1.2.length : Int) + (1 : Int)), _, rfl, (SqL.mono hs_script0 (s8.trans (s49.trans (s55.trans s101)))), ((hl_script0.mono (s8.trans (s49.trans (s55.trans s101))))), hl106, S102, e114, fun F115 H116 v119 s117 S118 hl120 => ?_⟩
          have S121 : Sta F115 ([(a_source0, HO.lst v119), (a10, HO.lst v107)] ++ R) _ := S118
          refine hN112 _ _ ?_
          revert hm; refine bndI fun y122 e123 hm => ?_
          refine ⟨_, rfl, .inl ⟨rfl, _, (SqL.of (S121.get 1 rfl))⟩, _, rfl, _, rfl, _, rfl, _, rfl, F115, ([(a10, HO.lst v107)] ++ R), a_script0, v_script0, x_script0, a_source0, v119, y113.2, a_letters0, v_letters0, x_letters0, _, rfl, (SqL.mono hs_script0 (s8.trans (s49.trans (s55.trans (s101.trans s117))))), ((hl_script0.mono (s8.trans (s49.trans (s55.trans (s101.trans s117)))))), hl120, (SqL.mono hs_letters0 (S121.tl.ovR (s8.trans (s49.trans (s55.trans (s101.trans s117)))) (fun _ q => (List.mem_append_right _ q)))), (hl_letters0.mono (s8.trans (s49.trans (s55.trans (s101.trans s117))))), S121, e123, fun F124 H125 v128 a130 v131 s126 S127 hl129 hl132 => ?_⟩
          clear S118
          have S133 : Sta F124 ([(a130, HO.lst v131), (a_source0, HO.lst v128), (a10, HO.lst v107)] ++ R) _ := S127
          obtain ⟨F134, s135, S136, h137⟩ : ∃ F', Same F124 F' ∧ Sta F' ([(a_source0, HO.lst v128), (a10, HO.lst v107)] ++ R) _ ∧ F' a130 = some (HO.lst v131) := ⟨_, S133.frzS, S133.frz, upd_same⟩
          revert hm; refine grdI fun g138 hm => ?_
          revert hm; refine grdI fun g139 hm => ?_
          clear S127
          obtain ⟨rg1, rg2⟩ := of_decide_eq_true g139
          refine ⟨_, _, _, _, rfl, rfl, (S136.get 1 rfl), (by rw [LR.length (hl108.mono (s117.trans (s126.trans s135)))]; exact of_decide_eq_true g138), rg1, (by omega), ?_⟩
          have hl140 : LR ((rLst K rInt) F134) (v107.take y113.1.toNat ++ [V.ref a130] ++ v107.drop y113.1.toNat) (st1.2.take y113.1.toNat ++ [y122.1] ++ st1.2.drop y113.1.toNat) := LR.insI ⟨_, _, rfl, SqL.mono (SqL.of h137) (Same.refl _), (hl132.mono s135)⟩ _ (hl108.mono (s117.trans (s126.trans s135)))
          have S141 : Sta F134 ([(a_source0, HO.lst v128), (a10, HO.lst (v107.take y113.1.toNat ++ [V.ref a130] ++ v107.drop y113.1.toNat))] ++ R) _ := S136.set 1 rfl _
          exact ⟨(y122.2, (st1.2.take y113.1.toNat ++ [y122.1] ++ st1.2.drop y113.1.toNat)), F134, v128, (v107.take y113.1.toNat ++ [V.ref a130] ++ v107.drop y113.1.toNat), _, _, rfl, (s101.trans (s117.trans (s126.trans s135))), S141, (hl129.mono s135), hl140, hm⟩
        · rintro σ H2 ⟨st1, F100, v105, v107, o103, o104, rfl, s101, S102, hl106, hl108, hm⟩
          rw [drop_rng, m_law_clauses_l1] at hm
          obtain rfl := Option.some.inj hm
          have hm := hm75
          refine hN72 _ _ ?_
          refine ⟨_, rfl, ?_⟩
          obtain rfl := Option.some.inj hm
          have S142 : Sta F100 ([(a10, HO.lst v107), (a_source0, HO.lst v105)] ++ R) _ := S102.pick [1, 0] (by decide) rfl
          exact kk _ _ v105 a10 v107 (s8.trans (s49.trans (s55.trans s101))) S142 hl106 hl108

def sp_law_given (T : Txt K mg) : Sp := fun vs H Q _ => ∃ (F0 : Hp) (R : Own) (a_script0 : Addr) (v_script0 : List V) (x_script0 : (List Int)) (a_source0 : Addr) (v_source0 : List V) (x_source0 : (List Int)) (a_letters0 : Addr) (v_letters0 : List V) (x_letters0 : (List Int)) (r : ((List Int) × (List Int))),
  vs = [V.ref a_script0, V.ref a_source0, V.ref a_letters0] ∧ SqL K F0 a_script0 v_script0 ∧ LR (rInt F0) v_script0 x_script0 ∧ LR (rInt F0) v_source0 x_source0 ∧ SqL K (ov F0 R) a_letters0 v_letters0 ∧ LR (rInt F0) v_letters0 x_letters0 ∧ Sta F0 ([(a_source0, HO.lst v_source0)] ++ R) H ∧ m_law_given x_script0 x_source0 x_letters0 = some r ∧ ∀ (F1 : Hp) (H1 : Hp) (v_source0p : List V) (a_ret0p : Addr) (v_ret0p : List V), Same F0 F1 → Sta F1 ([(a_ret0p, HO.lst v_ret0p), (a_source0, HO.lst v_source0p)] ++ R) H1 → LR (rInt F1) v_source0p r.2 → LR (rInt F1) v_ret0p r.1 → Q (V.ref a_ret0p) H1

theorem ok_law_given (T : Txt K mg) : FnOk P w K mg base CX0 3 T.a_law_given T.d_law_given ["script", "source", "letters"] (sp_law_given T) := by
  refine T.F_law_given.ok sc_law_given (fun vs H Q E h => ?_) (fun cdv A outer s H vs Q E hr h => ?_)
  · obtain ⟨_, _, _, _, _, _, _, _, _, _, _, _, rfl, _⟩ := h
    rfl
  · obtain ⟨F0, R, a_script0, v_script0, x_script0, a_source0, v_source0, x_source0, a_letters0, v_letters0, x_letters0, r, rfl, hs_script0, hl_script0, hl_source0, hs_letters0, hl_letters0, S0, hm, kk⟩ := h
    have hu := hu_of hr
    unfold m_law_given at hm
    refine ⟨_, (pss_cons (ps_set (i := 3) sc_law_given.nd rfl (Or.inl rfl) (pe_lst pa_nil)) (pss_cons (ps_for PassesOwn.never rfl (pi_range1 rfl T.z_range (pa_cons (pe_ix ix_list (pe_lst (pa_cons pe_int (pa_cons pe_int (pa_cons pe_int (pa_cons pe_int (pa_cons pe_int (pa_cons pe_int (pa_cons pe_int (pa_cons pe_int pa_nil))))))))) (pe_call (ok_law_take T) (hr.mono (by decide)) rfl T.g_law_take T.F_law_take.kp T.b_law_take .nil pass0 (pa_cons (pv 0) (pa_cons (pv 1) (pa_cons pe_int pa_nil)))) (fun _ _ => rfl)) pa_nil)) (pg_name (i := 4) sc_law_given.nd rfl (Or.inl rfl)) (pss_cons (ps_set (i := 5) sc_law_given.nd rfl (Or.inl rfl) (pe_call (ok_law_literal T) (hr.mono (by decide)) rfl T.g_law_literal T.F_law_literal.kp T.b_law_literal .nil pass0 (pa_cons (pv 0) (pa_cons (pv 1) (pa_cons (pv 2) pa_nil))))) (C8.pss_cut (ps_if (pt_cmpR oI_eq (pe_call (ok_law_take T) (hr.mono (by decide)) rfl T.g_law_take T.F_law_take.kp T.b_law_take .nil pass0 (pa_cons (pv 0) (pa_cons (pv 1) (pa_cons pe_int pa_nil)))) pe_int (nomark _)) (pss_one (ps_set (i := 5) sc_law_given.nd rfl (Or.inl rfl) (pe_ix ix_list (pe_lst (pa_cons pe_int (pa_cons (pe_op op_sub pe_int pe_int) pa_nil))) (pe_call (ok_law_take T) (hr.mono (by decide)) rfl T.g_law_take T.F_law_take.kp T.b_law_take .nil pass0 (pa_cons (pv 0) (pa_cons (pv 1) (pa_cons pe_int pa_nil)))) (fun _ _ => rfl)))) pss_nil) (pss_one (ps_expr (pe_bm PySem.F.plainAttrs_list PySem.F.slot_list_append PySem.F.type_list_append mt_append (pv 3) (pa_cons (pv 5) pa_nil))))))) (C8.pss_cut (ps_if (pt_cut (PW.pt (pw_and (pt_cmpR (op_neD hr.units) (pv 3) (pe_lst pa_nil) (nomark _)) (pw_and1 (pt_cmpR oI_eq (pe_call (ok_law_take T) (hr.mono (by decide)) rfl T.g_law_take T.F_law_take.kp T.b_law_take .nil pass0 (pa_cons (pv 0) (pa_cons (pv 1) (pa_cons pe_int pa_nil)))) pe_int (nomark _)))))) (pss_one (ps_expr (pe_bm PySem.F.plainAttrs_list PySem.F.slot_list_append PySem.F.type_list_append mt_append (pv 3) (pa_cons (pe_ix ix_list (pv 3) pe_int (fun _ _ => rfl)) pa_nil)))) pss_nil) (pss_one (ps_ret (pv 3)))))), ?_⟩
    refine seqI fun N1 hN2 => ?_
    refine ⟨(by show 0 ≤ sizeLine; decide), ?_⟩
    intro a3 np4
    have hl5 : LR (rInt F0) [] ([] : (List Int)) := trivial
    have S6 : Sta F0 ([(a3, HO.lst []), (a_source0, HO.lst v_source0)] ++ R) _ := S0.new np4 _
    refine hN2 _ _ ?_
    refine seqI fun N7 hN8 => ?_
    refine ⟨(by show 8 ≤ sizeLine; decide), ?_⟩
    clear S0
    intro a12 np13
    have hl14 : LR (rInt F0) [V.int 1, V.int 0, V.int 1, V.int 2, V.int 2, V.int 3, V.int 1, V.int 4] ([(1 : Int), (0 : Int), (1 : Int), (2 : Int), (2 : Int), (3 : Int), (1 : Int), (4 : Int)] : (List Int)) := ⟨rfl, rfl, rfl, rfl, rfl, rfl, rfl, rfl, trivial⟩
    have S15 : Sta F0 ([(a12, HO.lst [V.int 1, V.int 0, V.int 1, V.int 2, V.int 2, V.int 3, V.int 1, V.int 4]), (a3, HO.lst []), (a_source0, HO.lst v_source0)] ++ R) _ := S6.new np13 _
    have S16 : Sta F0 ([(a_source0, HO.lst v_source0), (a12, HO.lst [V.int 1, V.int 0, V.int 1, V.int 2, V.int 2, V.int 3, V.int 1, V.int 4]), (a3, HO.lst [])] ++ R) _ := S15.pick [2, 0, 1] (by decide) rfl
    revert hm; refine bndI fun y17 e18 hm => ?_
    refine ⟨_, rfl, _, rfl, F0, ([(a12, HO.lst [V.int 1, V.int 0, V.int 1, V.int 2, V.int 2, V.int 3, V.int 1, V.int 4]), (a3, HO.lst [])] ++ R), a_script0, v_script0, x_script0, a_source0, v_source0, x_source0, (8 : Int), _, rfl, (SqL.mono hs_script0 (Same.refl _)), (hl_script0), hl_source0, S16, e18, fun F19 H20 v23 s21 S22 hl24 => ?_⟩
    clear S6 S15
    have S25 : Sta F19 ([(a_source0, HO.lst v23), (a12, HO.lst [V.int 1, V.int 0, V.int 1, V.int 2, V.int 2, V.int 3, V.int 1, V.int 4]), (a3, HO.lst [])] ++ R) _ := S22
    revert hm; refine bndI fun y26 e27 hm => ?_
    obtain ⟨v28, ev29, rv30⟩ := LR.atI hl14 e27
    obtain rfl := rInt_e rv30
    revert hm; refine grdI fun g31 hm => ?_
    revert hm; refine bndI fun y9 e10 hm11 => ?_
    refine ⟨_, _, _, _, rfl, rfl, (SqL.of (S25.get 1 rfl)), ev29, _, rfl, (rngOk_lo g31), (rngOk_hi g31), for_rng (lo := 0) (n := y26.toNat) (fun i σ H2 => ∃ (st1 : ((List Int) × (List Int))) (F55 : Hp) (v60 : List V) (v62 : List V) (o58 : Option V) (o59 : Option V), σ = [some (V.ref a_script0), some (V.ref a_source0), some (V.ref a_letters0), some (V.ref a3), o58, o59] ∧ Same F19 F55 ∧ Sta F55 ([(a_source0, HO.lst v60), (a12, HO.lst [V.int 1, V.int 0, V.int 1, V.int 2, V.int 2, V.int 3, V.int 1, V.int 4]), (a3, HO.lst v62)] ++ R) H2 ∧ LR (rInt F55) v60 st1.1 ∧ LR (rInt F55) v62 st1.2 ∧ m_law_given_l1 x_script0 x_letters0 (List.drop i (pyRange 0 y26.toNat)) st1 = some y9) ⟨(y17.2, ([] : (List Int))), F19, v23, [], _, _, rfl, (Same.refl _), S25, hl24, (hl5.mono s21), e10⟩ ?_ ?_⟩
    clear S22
    · rintro i x64 σ H2 hi ⟨st1, F55, v60, v62, o58, o59, rfl, s56, S57, hl61, hl63, hm⟩
      rw [drop_cons hi, m_law_given_l1] at hm
      refine seqI fun N66 hN67 => ?_
      revert hm; refine bndI fun y68 e69 hm => ?_
      refine ⟨_, rfl, _, rfl, _, rfl, F55, ([(a12, HO.lst [V.int 1, V.int 0, V.int 1, V.int 2, V.int 2, V.int 3, V.int 1, V.int 4]), (a3, HO.lst v62)] ++ R), a_script0, v_script0, x_script0, a_source0, v60, st1.1, a_letters0, v_letters0, x_letters0, _, rfl, (SqL.mono hs_script0 (s21.trans s56)), ((hl_script0.mono (s21.trans s56))), hl61, (SqL.mono hs_letters0 (S57.tl.ovR (s21.trans s56) (fun _ q => (List.mem_append_right _ q)))), (hl_letters0.mono (s21.trans s56)), S57, e69, fun F70 H71 v74 s72 S73 hl75 => ?_⟩
      have S76 : Sta F70 ([(a_source0, HO.lst v74), (a12, HO.lst [V.int 1, V.int 0, V.int 1, V.int 2, V.int 2, V.int 3, V.int 1, V.int 4]), (a3, HO.lst v62)] ++ R) _ := S73
      refine hN67 _ _ ?_
      revert hm; refine bndI fun y82 e83 hm => ?_
      refine ⟨fun σ H2 => ∃ (F77 : Hp) (v80 : List V), σ = [some (V.ref a_script0), some (V.ref a_source0), some (V.ref a_letters0), some (V.ref a3), some (V.int x64), some (V.int y82.1)] ∧ Same F70 F77 ∧ Sta F77 ([(a_source0, HO.lst v80), (a12, HO.lst [V.int 1, V.int 0, V.int 1, V.int 2, V.int 2, V.int 3, V.int 1, V.int 4]), (a3, HO.lst v62)] ++ R) H2 ∧ LR (rInt F77) v80 y82.2, ?_, ?_⟩
      · clear hm; have hm := e83; clear e83
        revert hm; refine bndI fun y84 e85 hm => ?_
        refine ⟨_, rfl, _, rfl, F70, ([(a12, HO.lst [V.int 1, V.int 0, V.int 1, V.int 2, V.int 2, V.int 3, V.int 1, V.int 4]), (a3, HO.lst v62)] ++ R), a_script0, v_script0, x_script0, a_source0, v74, y68.2, (8 : Int), _, rfl, (SqL.mono hs_script0 (s21.trans (s56.trans s72))), ((hl_script0.mono (s21.trans (s56.trans s72)))), hl75, S76, e85, fun F86 H87 v90 s88 S89 hl91 => ?_⟩
        have S92 : Sta F86 ([(a_source0, HO.lst v90), (a12, HO.lst [V.int 1, V.int 0, V.int 1, V.int 2, V.int 2, V.int 3, V.int 1, V.int 4]), (a3, HO.lst v62)] ++ R) _ := S89
        refine ⟨_, _, rfl, rfl, _, rfl, ?_⟩
        clear S89
        by_cases c93 : (decide (y84.1 = (3 : Int))) = true
        · revert hm; refine ifTI c93 fun hm => ?_
          refine goT c93 ?_
          refine ⟨_, _, rfl, rfl, (by show 2 ≤ sizeLine; decide), ?_⟩
          intro a94 np95
          have hl96 : LR (rInt F86) [V.int 888, V.int ((0 : Int) - (888 : Int))] ([(888 : Int), ((0 : Int) - (888 : Int))] : (List Int)) := ⟨rfl, rfl, trivial⟩
          have S97 : Sta F86 ([(a94, HO.lst [V.int 888, V.int ((0 : Int) - (888 : Int))]), (a_source0, HO.lst v90), (a12, HO.lst [V.int 1, V.int 0, V.int 1, V.int 2, V.int 2, V.int 3, V.int 1, V.int 4]), (a3, HO.lst v62)] ++ R) _ := S92.new np95 _
          have S98 : Sta F86 ([(a_source0, HO.lst v90), (a94, HO.lst [V.int 888, V.int ((0 : Int) - (888 : Int))]), (a12, HO.lst [V.int 1, V.int 0, V.int 1, V.int 2, V.int 2, V.int 3, V.int 1, V.int 4]), (a3, HO.lst v62)] ++ R) _ := S97.pick [1, 0, 2, 3] (by decide) rfl
          revert hm; refine bndI fun y99 e100 hm => ?_
          refine ⟨_, rfl, _, rfl, F86, ([(a94, HO.lst [V.int 888, V.int ((0 : Int) - (888 : Int))]), (a12, HO.lst [V.int 1, V.int 0, V.int 1, V.int 2, V.int 2, V.int 3, V.int 1, V.int 4]), (a3, HO.lst v62)] ++ R), a_script0, v_script0, x_script0, a_source0, v90, y84.2, (2 : Int), _, rfl, (SqL.mono hs_script0 (s21.trans (s56.trans (s72.trans s88)))), ((hl_script0.mono (s21.trans (s56.trans (s72.trans s88))))), hl91, S98, e100, fun F101 H102 v105 s103 S104 hl106 => ?_⟩
          clear S92 S97
          have S107 : Sta F101 ([(a_source0, HO.lst v105), (a94, HO.lst [V.int 888, V.int ((0 : Int) - (888 : Int))]), (a12, HO.lst [V.int 1, V.int 0, V.int 1, V.int 2, V.int 2, V.int 3, V.int 1, V.int 4]), (a3, HO.lst v62)] ++ R) _ := S104
          revert hm; refine bndI fun y108 e109 hm => ?_
          obtain ⟨v110, ev111, rv112⟩ := LR.atI hl96 e109
          obtain rfl := rInt_e rv112
          refine ⟨_, _, _, _, rfl, rfl, (SqL.of (S107.get 1 rfl)), ev111, ?_⟩
          clear S104
          obtain rfl := Option.some.inj hm
          have S113 : Sta F101 ([(a_source0, HO.lst v105), (a12, HO.lst [V.int 1, V.int 0, V.int 1, V.int 2, V.int 2, V.int 3, V.int 1, V.int 4]), (a3, HO.lst v62)] ++ R) _ := S107.pick [0, 2, 3] (by decide) rfl
          exact ⟨F101, v105, rfl, (s88.trans s103), S113, hl106⟩
        · revert hm; refine ifFI c93 fun hm => ?_
          refine goF c93 ?_
          obtain rfl := Option.some.inj hm
          exact ⟨F86, v90, rfl, s88, S92, hl91⟩
      · rintro σ H2 ⟨F77, v80, rfl, s78, S79, hl81⟩
        revert hm; refine grdI fun g114 hm => ?_
        refine ⟨_, rfl, .inl ⟨rfl, _, (SqL.of (S79.get 2 rfl))⟩, _, rfl, _, _, _, rfl, rfl, (S79.get 2 rfl), (by rw [LR.length (hl63.mono (s72.trans s78))]; exact of_decide_eq_true g114), ?_⟩
        have hl115 : LR (rInt F77) (v62 ++ [V.int y82.1]) (st1.2 ++ [y82.1]) := LR.snoc (hl63.mono (s72.trans s78)) rfl
        have S116 : Sta F77 ([(a_source0, HO.lst v80), (a12, HO.lst [V.int 1, V.int 0, V.int 1, V.int 2, V.int 2, V.int 3, V.int 1, V.int 4]), (a3, HO.lst (v62 ++ [V.int y82.1]))] ++ R) _ := S79.set 2 rfl _
        exact ⟨(y82.2, (st1.2 ++ [y82.1])), F77, v80, (v62 ++ [V.int y82.1]), _, _, rfl, (s56.trans (s72.trans s78)), S116, hl81, hl115, hm⟩
    · rintro σ H2 ⟨st1, F55, v60, v62, o58, o59, rfl, s56, S57, hl61, hl63, hm⟩
      rw [drop_rng, m_law_given_l1] at hm
      obtain rfl := Option.some.inj hm
      have hm := hm11
      refine hN8 _ _ ?_
      revert hm; refine bndI fun y124 e125 hm => ?_
      refine ⟨fun σ H2 => ∃ (F117 : Hp) (v120 : List V) (v122 : List V), σ = [some (V.ref a_script0), some (V.ref a_source0), some (V.ref a_letters0), some (V.ref a3), o58, o59] ∧ Same F55 F117 ∧ Sta F117 ([(a_source0, HO.lst v120), (a12, HO.lst [V.int 1, V.int 0, V.int 1, V.int 2, V.int 2, V.int 3, V.int 1, V.int 4]), (a3, HO.lst v122)] ++ R) H2 ∧ LR (rInt F117) v120 y124.1 ∧ LR (rInt F117) v122 y124.2, ?_, ?_⟩
      · clear hm; have hm := e125; clear e125
        revert hm; refine bndI fun b126 e127 hm => ?_
        refine ⟨fun b H' => ∃ (F128 : Hp) (v131 : List V), Same F55 F128 ∧ Sta F128 ([(a_source0, HO.lst v131), (a12, HO.lst [V.int 1, V.int 0, V.int 1, V.int 2, V.int 2, V.int 3, V.int 1, V.int 4]), (a3, HO.lst v62)] ++ R) H' ∧ LR (rInt F128) v131 b126.2 ∧ b126.1 = b, ?_, ?_⟩
        · clear hm
          have hm := e127
          clear e127
          refine ⟨_, rfl, (by show 0 ≤ sizeLine; decide), ?_⟩
          intro a133 np134
          have hl135 : LR (rInt F55) [] ([] : (List Int)) := trivial
          have S136 : Sta F55 ([(a133, HO.lst []), (a_source0, HO.lst v60), (a12, HO.lst [V.int 1, V.int 0, V.int 1, V.int 2, V.int 2, V.int 3, V.int 1, V.int 4]), (a3, HO.lst v62)] ++ R) _ := S57.new np134 _
          refine ⟨_, _, (dat_dp (K := K) (r := (rLst K rInt)) ⟨_, _, rfl, (SqL.of (S136.get 3 rfl)), LR.mono hl63 S136.sub⟩), (dat_dp (K := K) (r := (rLst K rInt)) ⟨_, _, rfl, (SqL.of (S136.get 0 rfl)), LR.mono hl135 S136.sub⟩), (dat_shaped (K := K) (r := (rLst K rInt)) (Nat.le_of_ble_eq_true rfl) _ (DPl.pl _)), (dat_shaped (K := K) (r := (rLst K rInt)) (Nat.le_of_ble_eq_true rfl) _ (DPl.pl _)), ?_⟩
          clear S57
          rw [dat_eqv (K := K) (r := (rLst K rInt)) st1.2 ([] : (List Int))]
          refine ⟨_, rfl, ?_⟩
          by_cases c137 : (!decide (st1.2 = ([] : (List Int)))) = true
          · revert hm; refine ifTI c137 fun hm => ?_
            refine goT c137 ?_
            have S138 : Sta F55 ([(a_source0, HO.lst v60), (a133, HO.lst []), (a12, HO.lst [V.int 1, V.int 0, V.int 1, V.int 2, V.int 2, V.int 3, V.int 1, V.int 4]), (a3, HO.lst v62)] ++ R) _ := S136.pick [1, 0, 2, 3] (by decide) rfl
            revert hm; refine bndI fun y139 e140 hm => ?_
            refine ⟨_, rfl, _, rfl, F55, ([(a133, HO.lst []), (a12, HO.lst [V.int 1, V.int 0, V.int 1, V.int 2, V.int 2, V.int 3, V.int 1, V.int 4]), (a3, HO.lst v62)] ++ R), a_script0, v_script0, x_script0, a_source0, v60, st1.1, (8 : Int), _, rfl, (SqL.mono hs_script0 (s21.trans s56)), ((hl_script0.mono (s21.trans s56))), hl61, S138, e140, fun F141 H142 v145 s143 S144 hl146 => ?_⟩
            clear S136
            have S147 : Sta F141 ([(a_source0, HO.lst v145), (a133, HO.lst []), (a12, HO.lst [V.int 1, V.int 0, V.int 1, V.int 2, V.int 2, V.int 3, V.int 1, V.int 4]), (a3, HO.lst v62)] ++ R) _ := S144
            refine ⟨_, _, rfl, rfl, _, rfl, ?_⟩
            clear S144
            obtain rfl := Option.some.inj hm
            have S148 : Sta F141 ([(a_source0, HO.lst v145), (a12, HO.lst [V.int 1, V.int 0, V.int 1, V.int 2, V.int 2, V.int 3, V.int 1, V.int 4]), (a3, HO.lst v62)] ++ R) _ := S147.pick [0, 2, 3] (by decide) rfl
            exact ⟨F141, v145, s143, S148, hl146, rfl⟩
          · revert hm; refine ifFI c137 fun hm => ?_
            obtain rfl := Option.some.inj hm
            have S149 : Sta F55 ([(a_source0, HO.lst v60), (a12, HO.lst [V.int 1, V.int 0, V.int 1, V.int 2, V.int 2, V.int 3, V.int 1, V.int 4]), (a3, HO.lst v62)] ++ R) _ := S136.pick [1, 2, 3] (by decide) rfl
            exact goF c137 ⟨F55, v60, (Same.refl _), S149, hl61, rfl⟩
        rintro b150 H151 ⟨F128, v131, s129, S130, hl132, rfl⟩
        by_cases c152 : b126.1 = true
        · revert hm; refine ifTI c152 fun hm => ?_
          refine goT c152 ?_
          revert hm; refine bndI fun y153 e154 hm => ?_
          obtain ⟨v155, ev156, rv157⟩ := LR.atI hl63 e154
          obtain rfl := rInt_e rv157
          revert hm; refine grdI fun g158 hm => ?_
          refine ⟨_, rfl, .inl ⟨rfl, _, (SqL.of (S130.get 2 rfl))⟩, _, rfl, _, _, _, _, rfl, rfl, (SqL.of (S130.get 2 rfl)), ev156, _, _, _, rfl, rfl, (S130.get 2 rfl), (by rw [LR.length (hl63.mono s129)]; exact of_decide_eq_true g158), ?_⟩
          have hl159 : LR (rInt F128) (v62 ++ [V.int y153]) (st1.2 ++ [y153]) := LR.snoc (hl63.mono s129) rfl
          have S160 : Sta F128 ([(a_source0, HO.lst v131), (a12, HO.lst [V.int 1, V.int 0, V.int 1, V.int 2, V.int 2, V.int 3, V.int 1, V.int 4]), (a3, HO.lst (v62 ++ [V.int y153]))] ++ R) _ := S130.set 2 rfl _
          obtain rfl := Option.some.inj hm
          exact ⟨F128, v131, (v62 ++ [V.int y153]), rfl, s129, S160, hl132, hl159⟩
        · revert hm; refine ifFI c152 fun hm => ?_
          refine goF c152 ?_
          obtain rfl := Option.some.inj hm
          exact ⟨F128, v131, v62, rfl, s129, S130, hl132, (hl63.mono s129)⟩
      · rintro σ H2 ⟨F117, v120, v122, rfl, s118, S119, hl121, hl123⟩
        refine ⟨_, rfl, ?_⟩
        obtain rfl := Option.some.inj hm
        have S161 : Sta F117 ([(a3, HO.lst v122), (a_source0, HO.lst v120)] ++ R) _ := S119.pick [2, 0] (by decide) rfl
        exact kk _ _ v120 a3 v122 (s21.trans (s56.trans s118)) S161 hl121 hl123

def sp_law_handed (T : Txt K mg) : Sp := fun vs H Q _ => ∃ (F0 : Hp) (R : Own) (a_clauses0 : Addr) (v_clauses0 : List V) (x_clauses0 : (List (List Int))) (r : (List (Bool × List Int))),
  vs = [V.ref a_clauses0] ∧ SqL K (ov F0 R) a_clauses0 v_clauses0 ∧ LR ((rLst K rInt) F0) v_clauses0 x_clauses0 ∧ Sta F0 ([] ++ R) H ∧ m_law_handed x_clauses0 = some r ∧ ∀ (F1 : Hp) (H1 : Hp) (a_ret0p : Addr) (v_ret0p : List V) (in_ret0p : Own), Same F0 F1 → Sta F1 ([(a_ret0p, HO.lst v_ret0p)] ++ (in_ret0p ++ R)) H1 → LRO ((roSeq K rInt) F1) v_ret0p r in_ret0p → Q (V.ref a_ret0p) H1

theorem ok_law_handed (T : Txt K mg) : FnOk P w K mg base CX0 1 T.a_law_handed T.d_law_handed ["clauses"] (sp_law_handed T) := by
  refine T.F_law_handed.ok sc_law_handed (fun vs H Q E h => ?_) (fun cdv A outer s H vs Q E hr h => ?_)
  · obtain ⟨_, _, _, _, _, _, rfl, _⟩ := h
    rfl
  · obtain ⟨F0, R, a_clauses0, v_clauses0, x_clauses0, r, rfl, hs_clauses0, hl_clauses0, S0, hm, kk⟩ := h
    have hu := hu_of hr
    unfold m_law_handed at hm
    refine ⟨_, (pss_cons (ps_set (i := 1) sc_law_handed.nd rfl (Or.inl rfl) (pe_lst pa_nil)) (pss_cons (ps_for PassesOwn.never rfl (pi_range1 rfl T.z_range (pa_cons (pe_callB call_len_seq (by rfl) T.z_len PySem.boot_len (pa_cons (pv 0) pa_nil)) pa_nil)) (pg_name (i := 2) sc_law_handed.nd rfl (Or.inl rfl)) (pss_one (ps_if (pt_cmpR oI_eq (pe_op op_mod (pe_callTy call_int1 (by rfl) T.z_int (by decide +kernel) (pa_cons (pv 2) pa_nil)) pe_int) pe_int (nomark _)) (pss_one (ps_expr (pe_bm PySem.F.plainAttrs_list PySem.F.slot_list_append PySem.F.type_list_append mt_append (pv 1) (pa_cons (pe_tupleOf (by rfl) T.z_tuple (pe_ix ix_list (pv 0) (pv 2) (fun _ _ => rfl))) pa_nil)))) (pss_one (ps_expr (pe_bm PySem.F.plainAttrs_list PySem.F.slot_list_append PySem.F.type_list_append mt_append (pv 1) (pa_cons (pe_lc (own := [("literal", 3)]) rfl sc_law_handed.nd (pi_list (pe_ix ix_list (pv 0) (pv 2) (fun _ _ => rfl))) (blkOk_by (own := [("literal", 3)]) (N := ["clauses", "handed", "k", "literal"]) (sc := defScope s_law_handed) (by decide +kernel)) (fun _ _ _ _ _ => (pg_name (i := 3) sc_law_handed.nd rfl (Or.inl rfl))) (fun _ _ _ _ _ => pts_nil) (fun _ _ _ _ _ => (pv 3))) pa_nil))))))) (pss_one (ps_ret (pv 1))))), ?_⟩
    refine seqI fun N1 hN2 => ?_
    refine ⟨(by show 0 ≤ sizeLine; decide), ?_⟩
    intro a3 np4
    have hl5 : LR ((rSeq K rInt) F0) [] ([] : (List (Bool × List Int))) := trivial
    obtain ⟨in6, S7, hl8⟩ : ∃ i : Own, Sta F0 ([(a3, HO.lst [])] ++ (i ++ R)) _ ∧ LRO ((roSeq K rInt) F0) ([] : List V) ([] : (List (Bool × List Int))) i := ⟨[], S0.new np4 _, rfl⟩
    refine hN2 _ _ ?_
    refine seqI fun N9 hN10 => ?_
    refine ⟨_, rfl, _, _, rfl, .inl (SqL.mono hs_clauses0 (S7.bor (Same.refl _) (fun _ q => (List.mem_append_right _ (List.mem_append_right _ q))))), ?_⟩
    clear S0
    rw [LR.length hl_clauses0]
    revert hm; refine grdI fun g14 hm => ?_
    revert hm; refine bndI fun y11 e12 hm13 => ?_
    refine ⟨_, rfl, (rngOk_lo g14), (rngOk_hi g14), for_rng (lo := 0) (n := (x_clauses0.length : Int).toNat) (fun i σ H2 => ∃ (st1 : (List (Bool × List Int))) (F36 : Hp) (v41 : List V) (in43 : Own) (o39 : Option V) (o40 : Option V), σ = [some (V.ref a_clauses0), some (V.ref a3), o39, o40] ∧ Same F0 F36 ∧ Sta F36 ([(a3, HO.lst v41)] ++ (in43 ++ R)) H2 ∧ LRO ((roSeq K rInt) F36) v41 st1 in43 ∧ m_law_handed_l1 x_clauses0 (List.drop i (pyRange 0 (x_clauses0.length : Int).toNat)) st1 = some y11) ⟨([] : (List (Bool × List Int))), F0, [], in6, _, _, rfl, (Same.refl _), S7, hl8, e12⟩ ?_ ?_⟩
    · rintro i x44 σ H2 hi ⟨st1, F36, v41, in43, o39, o40, rfl, s37, S38, hl42, hm⟩
      rw [drop_cons hi, m_law_handed_l1] at hm
      refine ⟨_, rfl, ?_⟩
      refine .inl ⟨_, rfl, ?_⟩
      refine ⟨_, _, rfl, rfl, (by show (0 : Int) < 3; decide), _, _, rfl, rfl, _, rfl, ?_⟩
      by_cases c46 : (decide ((x44 % (3 : Int)) = (1 : Int))) = true
      · revert hm; refine ifTI c46 fun hm => ?_
        refine goT c46 ?_
        revert hm; refine bndI fun y47 e48 hm => ?_
        obtain ⟨v49, ev50, rv51⟩ := LR.atI hl_clauses0 e48
        obtain ⟨a52, v53, rfl, hs54, hl55⟩ := rv51
        refine ⟨_, rfl, .inl ⟨rfl, _, (SqL.of (S38.get 0 rfl))⟩, _, rfl, _, rfl, _, _, _, _, rfl, rfl, (SqL.mono hs_clauses0 (S38.bor s37 (fun _ q => (List.mem_append_right _ (List.mem_append_right _ q))))), ev50, ?_⟩
        refine .inl ⟨_, _, rfl, (SqL.mono hs54 (s37.trans S38.sub)), ?_⟩
        intro a56 np57
        obtain ⟨F58, s59, S60, h61⟩ : ∃ F', Same F36 F' ∧ Sta F' ([(a3, HO.lst v41)] ++ (in43 ++ R)) _ ∧ F' a56 = some (HO.tup v53) := ⟨_, S38.sameF np57 _, S38.newF np57 _, upd_same⟩
        have hl62 : LR (rInt F58) v53 y47 := hl55.mono (s37.trans s59)
        revert hm; refine grdI fun g63 hm => ?_
        refine ⟨_, _, _, rfl, rfl, (S60.get 0 rfl), (by rw [LRO.length (LRO.mono hl42 s59)]; exact of_decide_eq_true g63), ?_⟩
        have S64 : Sta F58 ([(a3, HO.lst (v41 ++ [V.ref a56]))] ++ (in43 ++ R)) _ := S60.set 0 rfl _
        obtain ⟨in65, S66, hl67⟩ : ∃ i : Own, Sta F58 ([(a3, HO.lst (v41 ++ [V.ref a56]))] ++ (i ++ R)) _ ∧ LRO ((roSeq K rInt) F58) (v41 ++ [V.ref a56]) (st1 ++ [(false, y47)]) i := ⟨_, Sta.jn (cs := [(a3, HO.lst (v41 ++ [V.ref a56]))]) (a := in43) (b := []) (ys := R) S64, LRO.snoc (roSeq_t (SqT.mono (SqT.of h61) (Same.refl _)) hl62) (LRO.mono hl42 s59)⟩
        exact ⟨(st1 ++ [(false, y47)]), F58, (v41 ++ [V.ref a56]), in65, _, _, rfl, (s37.trans s59), S66, hl67, hm⟩
      · revert hm; refine ifFI c46 fun hm => ?_
        refine goF c46 ?_
        revert hm; refine bndI fun y68 e69 hm => ?_
        obtain ⟨v70, ev71, rv72⟩ := LR.atI hl_clauses0 e69
        obtain ⟨a73, v74, rfl, hs75, hl76⟩ := rv72
        revert hm; refine grdI fun g91 hm => ?_
        have e77 : lcO (fun x81 => some (some x81)) y68 = some (y68.map fun x81 => x81) := lc_map (fun x81 => x81) y68
        refine ⟨_, rfl, .inl ⟨rfl, _, (SqL.of (S38.get 0 rfl))⟩, _, rfl, _, rfl, _, _, _, _, rfl, rfl, (SqL.mono hs_clauses0 (S38.bor s37 (fun _ q => (List.mem_append_right _ (List.mem_append_right _ q))))), ev71, _, rfl, ⟨_, (SqL.mono hs75 (s37.trans S38.sub))⟩, fun a89 np90 => lc_list (K := K) (a := a73) (xs := v74) (fun i H2 => ∃ (F82 : Hp) (v83 : List V) (acc84 : List Int) (r78 : List Int), Same F36 F82 ∧ Sta F82 ([(a89, HO.lst v83), (a3, HO.lst v41)] ++ (in43 ++ R)) H2 ∧ LR (rInt F82) v83 acc84 ∧ acc84.length ≤ i ∧ lcO (fun x81 => some (some x81)) (List.drop i y68) = some r78 ∧ (y68.map fun x81 => x81) = acc84 ++ r78) ⟨F36, [], [], _, Same.refl _, S38.new np90 _, trivial, Nat.le_refl _, e77, rfl⟩ (by rintro i H2 _ ⟨F82, v83, acc84, r78, s85, S86, hl87, hn88, hr79, hy80⟩; exact (SqL.mono hs75 ((s37.trans s85).trans S86.sub))) ?_ ?_⟩
        · rintro i v92 H2 hi ⟨F82, v83, acc84, r78, s85, S86, hl87, hn88, hr79, hy80⟩
          obtain ⟨x81, hx93, rx94⟩ := LR.getV hl76 hi
          rw [drop_cons hx93] at hr79
          revert hr79; refine lcI fun y95 r96 hm hr98 hc99 => ?_
          obtain rfl := rInt_e rx94
          refine ⟨rfl, ?_⟩
          refine tYesI ?_
          rw [if_pos rfl]
          refine ⟨_, rfl, ?_⟩
          obtain rfl := Option.some.inj hm
          have hlt : v83.length < 16777216 := by rw [LR.length hl87]; have := (List.getElem?_eq_some_iff.mp hx93).1; have := of_decide_eq_true g91; omega
          have S100 : Sta F82 ([(a89, HO.lst (v83 ++ [V.int x81])), (a3, HO.lst v41)] ++ (in43 ++ R)) _ := S86.set 0 rfl _
          exact ⟨_, (S86.get 0 rfl), hlt, F82, _, (acc84 ++ [x81]), r96, s85, S100, LR.snoc hl87 rfl, by rw [List.length_append]; exact Nat.succ_le_succ hn88, hr98, by rw [List.append_assoc]; exact hy80.trans (congrArg (acc84 ++ ·) hc99)⟩
        rintro H2 ⟨F82, v83, acc84, r78, s85, S86, hl87, hn88, hr79, hy80⟩
        rw [LR.dropEnd hl76] at hr79
        obtain rfl := Option.some.inj hr79
        rw [List.append_nil] at hy80
        subst hy80
        have S101 : Sta F82 ([(a89, HO.lst v83), (a3, HO.lst v41)] ++ (in43 ++ R)) _ := S86
        revert hm; refine grdI fun g102 hm => ?_
        refine ⟨_, _, _, rfl, rfl, (S101.get 1 rfl), (by rw [LRO.length (LRO.mono hl42 s85)]; exact of_decide_eq_true g102), ?_⟩
        clear S86
        have S103 : Sta F82 ([(a89, HO.lst v83), (a3, HO.lst (v41 ++ [V.ref a89]))] ++ (in43 ++ R)) _ := S101.set 1 rfl _
        have S104 : Sta F82 ([(a3, HO.lst (v41 ++ [V.ref a89]))] ++ (in43 ++ ([(a89, HO.lst v83)] ++ R))) _ := Sta.pickS (segs := [[(a89, HO.lst v83)], [(a3, HO.lst (v41 ++ [V.ref a89]))], in43]) (segs' := [[(a3, HO.lst (v41 ++ [V.ref a89]))], in43, [(a89, HO.lst v83)]]) (R := R) [1, 2, 0] (by decide) rfl S103
        obtain ⟨in105, S106, hl107⟩ : ∃ i : Own, Sta F82 ([(a3, HO.lst (v41 ++ [V.ref a89]))] ++ (i ++ R)) _ ∧ LRO ((roSeq K rInt) F82) (v41 ++ [V.ref a89]) (st1 ++ [(true, (y68.map fun x81 => x81))]) i := ⟨_, Sta.jn (cs := [(a3, HO.lst (v41 ++ [V.ref a89]))]) (a := in43) (b := [(a89, HO.lst v83)]) (ys := R) S104, LRO.snoc (roSeq_l hl87) (LRO.mono hl42 s85)⟩
        exact ⟨(st1 ++ [(true, (y68.map fun x81 => x81))]), F82, (v41 ++ [V.ref a89]), in105, _, _, rfl, (s37.trans s85), S106, hl107, hm⟩
    · rintro σ H2 ⟨st1, F36, v41, in43, o39, o40, rfl, s37, S38, hl42, hm⟩
      rw [drop_rng, m_law_handed_l1] at hm
      obtain rfl := Option.some.inj hm
      have hm := hm13
      refine hN10 _ _ ?_
      refine ⟨_, rfl, ?_⟩
      obtain rfl := Option.some.inj hm
      exact kk _ _ a3 v41 in43 s37 S38 hl42

def sp_Pusher_include (T : Txt K mg) : Sp := fun vs H Q _ => ∃ (F0 : Hp) (R : Own) (a_self0 : Addr) (dx_self0 : Addr) (x_self0 : M_Pusher) (a_self0_clauses0 : Addr) (v_self0_clauses0 : List V) (a_self0_places0 : Addr) (v_self0_places0 : List (Key × V)) (in_self0_places0 : Own) (a_self0_starts0 : Addr) (v_self0_starts0 : List V) (a_clause0 : Addr) (v_clause0 : List V) (x_clause0 : (Bool × List Int)) (r : M_Pusher),
  vs = [V.ref a_self0, V.ref a_clause0] ∧ LR ((rLst K rInt) F0) v_self0_clauses0 x_self0.clauses ∧ KRO Sum.inl ((roM rInt) F0) v_self0_places0 x_self0.places in_self0_places0 ∧ LR (rInt F0) v_self0_starts0 x_self0.starts ∧ SqB K x_clause0.1 (ov F0 R) a_clause0 v_clause0 ∧ LR (rInt F0) v_clause0 x_clause0.2 ∧ Sta F0 ([(a_self0, HO.ins T.a_Pusher dx_self0 (fl_Pusher (V.ref a_self0_clauses0) (V.ref a_self0_places0) (V.ref a_self0_starts0) (V.bl x_self0.empty))), (a_self0_clauses0, HO.lst v_self0_clauses0), (a_self0_places0, HO.dK v_self0_places0), (a_self0_starts0, HO.lst v_self0_starts0)] ++ (in_self0_places0 ++ R)) H ∧ m_Pusher_include x_self0 x_clause0 = some r ∧ ∀ (F1 : Hp) (H1 : Hp) (a_self0p_clauses0 : Addr) (v_self0p_clauses0 : List V) (a_self0p_places0 : Addr) (v_self0p_places0 : List (Key × V)) (in_self0p_places0 : Own) (a_self0p_starts0 : Addr) (v_self0p_starts0 : List V), Same F0 F1 → Sta F1 ([(a_self0, HO.ins T.a_Pusher dx_self0 (fl_Pusher (V.ref a_self0p_clauses0) (V.ref a_self0p_places0) (V.ref a_self0p_starts0) (V.bl r.empty))), (a_self0p_clauses0, HO.lst v_self0p_clauses0), (a_self0p_places0, HO.dK v_self0p_places0), (a_self0p_starts0, HO.lst v_self0p_starts0)] ++ (in_self0p_places0 ++ R)) H1 → LR ((rLst K rInt) F1) v_self0p_clauses0 r.clauses → KRO Sum.inl ((roM rInt) F1) v_self0p_places0 r.places in_self0p_places0 → LR (rInt F1) v_self0p_starts0 r.starts → Q (V.non) H1

theorem ok_Pusher_include (T : Txt K mg) : FnOk P w K mg base CX0 1 T.a_Pusher_include T.d_Pusher_include ["self", "clause"] (sp_Pusher_include T) := by
  refine T.F_Pusher_include.ok sc_Pusher_include (fun vs H Q E h => ?_) (fun cdv A outer s H vs Q E hr h => ?_)
  · obtain ⟨_, _, _, _, _, _, _, _, _, _, _, _, _, _, _, _, rfl, _⟩ := h
    rfl
  · obtain ⟨F0, R, a_self0, dx_self0, x_self0, a_self0_clauses0, v_self0_clauses0, a_self0_places0, v_self0_places0, in_self0_places0, a_self0_starts0, v_self0_starts0, a_clause0, v_clause0, x_clause0, r, rfl, hl_self0_clauses0, hl_self0_places0, hl_self0_starts0, hs_clause0, hl_clause0, S0, hm, kk⟩ := h
    have hu := hu_of hr
    unfold m_Pusher_include at hm
    refine ⟨_, (pss_cons (ps_set (i := 2) sc_Pusher_include.nd rfl (Or.inl rfl) (pe_sortSetQ (by rfl) T.z_sorted (by rfl) T.z_set (pv 1))) (pss_cons (ps_for PassesOwn.never rfl (pi_list (pv 2)) (pg_name (i := 3) sc_Pusher_include.nd rfl (Or.inl rfl)) (pss_one (ps_expr (pe_cut (pe_bm PySem.F.plainAttrs_list PySem.F.slot_list_append PySem.F.type_list_append mt_append (pe_dsetd (pe_fld (pv 0) rfl) (pv 3) (pe_lst pa_nil) ⟨rfl, rfl, rfl, rfl⟩) (pa_cons (pe_callB call_len_seq (by rfl) T.z_len PySem.boot_len (pa_cons (pe_fld (pv 0) rfl) pa_nil)) pa_nil)))))) (pss_cons (ps_expr (pe_bm PySem.F.plainAttrs_list PySem.F.slot_list_append PySem.F.type_list_append mt_append (pe_fld (pv 0) rfl) (pa_cons (pv 2) pa_nil))) (pss_one (ps_if (pt_not (pt_truth (pv 2) (by intro _; rfl))) (pss_one (ps_fld (pv 0) pe_bl rfl)) (pss_one (ps_if (pt_cmpR oI_eq (pe_callB call_len_seq (by rfl) T.z_len PySem.boot_len (pa_cons (pv 2) pa_nil)) pe_int (nomark _)) (pss_one (ps_expr (pe_bm PySem.F.plainAttrs_list PySem.F.slot_list_append PySem.F.type_list_append mt_append (pe_fld (pv 0) rfl) (pa_cons (pe_ix ix_list (pv 2) pe_int (fun _ _ => rfl)) pa_nil)))) pss_nil))))))), ?_⟩
    refine seqI fun N1 hN2 => ?_
    revert hm; refine grdI fun g3 hm => ?_
    refine ⟨_, rfl, _, x_clause0.1, x_clause0.2, rfl, (by rw [← lr_map hl_clause0]; exact (SqB.mono hs_clause0 (S0.bor (Same.refl _) (fun _ q => (List.mem_append_right _ (List.mem_append_right _ q)))))), (of_decide_eq_true g3), ?_⟩
    intro ys4 a5 pw7 pm6 np8
    obtain rfl := mset_eq pw7 pm6
    have hl9 : LR (rInt F0) ((mset x_clause0.2).map V.int) (mset x_clause0.2) := lr_ints _
    have S10 : Sta F0 ([(a5, HO.lst ((mset x_clause0.2).map V.int)), (a_self0, HO.ins T.a_Pusher dx_self0 (fl_Pusher (V.ref a_self0_clauses0) (V.ref a_self0_places0) (V.ref a_self0_starts0) (V.bl x_self0.empty))), (a_self0_clauses0, HO.lst v_self0_clauses0), (a_self0_places0, HO.dK v_self0_places0), (a_self0_starts0, HO.lst v_self0_starts0)] ++ (in_self0_places0 ++ R)) _ := S0.new np8 _
    refine hN2 _ _ ?_
    refine seqI fun N11 hN12 => ?_
    revert hm; refine bndI fun y13 e14 hm15 => ?_
    refine ⟨_, rfl, _, rfl, ⟨_, (SqL.of (S10.get 0 rfl))⟩, for_list (K := K) (a := a5) (xs := ((mset x_clause0.2).map V.int)) (fun i σ H2 => ∃ (st1 : M_Pusher) (F48 : Hp) (a52 : Addr) (v53 : List V) (a55 : Addr) (v56 : List (Key × V)) (in58 : Own) (a59 : Addr) (v60 : List V) (o51 : Option V), σ = [some (V.ref a_self0), some (V.ref a_clause0), some (V.ref a5), o51] ∧ Same F0 F48 ∧ Sta F48 ([(a5, HO.lst ((mset x_clause0.2).map V.int)), (a_self0, HO.ins T.a_Pusher dx_self0 (fl_Pusher (V.ref a52) (V.ref a55) (V.ref a59) (V.bl st1.empty))), (a52, HO.lst v53), (a55, HO.dK v56), (a59, HO.lst v60)] ++ (in58 ++ R)) H2 ∧ LR ((rLst K rInt) F48) v53 st1.clauses ∧ KRO Sum.inl ((roM rInt) F48) v56 st1.places in58 ∧ LR (rInt F48) v60 st1.starts ∧ m_Pusher_include_l1 (List.drop i (mset x_clause0.2)) st1 = some y13) ⟨(M_Pusher.mk x_self0.clauses x_self0.places x_self0.starts x_self0.empty), F0, a_self0_clauses0, v_self0_clauses0, a_self0_places0, v_self0_places0, in_self0_places0, a_self0_starts0, v_self0_starts0, _, rfl, (Same.refl _), S10, hl_self0_clauses0, hl_self0_places0, hl_self0_starts0, e14⟩ (by rintro i σ H2 _ ⟨st1, F48, a52, v53, a55, v56, in58, a59, v60, o51, rfl, s49, S50, hl54, hl57, hl61, _⟩; exact (SqL.of (S50.get 0 rfl))) ?_ ?_⟩
    clear S0
    · rintro i v63 σ H2 hi ⟨st1, F48, a52, v53, a55, v56, in58, a59, v60, o51, rfl, s49, S50, hl54, hl57, hl61, hm⟩
      obtain ⟨x62, hx64, rx65⟩ := LR.getV hl9 hi
      rw [drop_cons hx64, m_Pusher_include_l1] at hm
      obtain rfl := rInt_e rx65
      revert hm; refine grdI fun g66 hm => ?_
      revert hm; refine grdI fun g67 hm => ?_
      refine ⟨fun v H2 => v = V.non ∧ ∃ (F68 : Hp) (v69 : List (Key × V)) (in70 : Own), Same F48 F68 ∧ Sta F68 ([(a5, HO.lst ((mset x_clause0.2).map V.int)), (a_self0, HO.ins T.a_Pusher dx_self0 (fl_Pusher (V.ref a52) (V.ref a55) (V.ref a59) (V.bl st1.empty))), (a52, HO.lst v53), (a55, HO.dK v69), (a59, HO.lst v60)] ++ (in70 ++ R)) H2 ∧ KRO Sum.inl ((roM rInt) F68) v69 (mapp st1.places x62 (st1.clauses.length : Int)) in70, ?_, ?_⟩
      · refine ⟨_, rfl, _, _, _, _, _, rfl, (S50.get 1 rfl), T.cl_Pusher, T.n_Pusher_places, fl_Pusher_places, _, rfl, (.inl ⟨_, .inl (S50.get 3 rfl)⟩), _, rfl, (by show 0 ≤ sizeLine; decide), ?_⟩
        intro a76 np77
        have S78 : Sta F48 ([(a76, HO.lst []), (a5, HO.lst ((mset x_clause0.2).map V.int)), (a_self0, HO.ins T.a_Pusher dx_self0 (fl_Pusher (V.ref a52) (V.ref a55) (V.ref a59) (V.bl st1.empty))), (a52, HO.lst v53), (a55, HO.dK v56), (a59, HO.lst v60)] ++ (in58 ++ R)) _ := S50.new np77 _
        have hK := hl57
        rcases KRO.find kinj_int x62 hK with ⟨q79, q80⟩ | ⟨x81, v82, c83, c84, c85, q79, q80, q86, q87, q88⟩
        · refine ⟨_, (Sum.inl x62), (S78.get 4 rfl), rfl, (by rw [KRO.length hl57]; exact of_decide_eq_true g66), (fun v hv => by rw [q80] at hv; cases hv), fun _ => ?_⟩
          rw [putK_new q80]
          have S89 : Sta F48 ([(a76, HO.lst []), (a5, HO.lst ((mset x_clause0.2).map V.int)), (a_self0, HO.ins T.a_Pusher dx_self0 (fl_Pusher (V.ref a52) (V.ref a55) (V.ref a59) (V.bl st1.empty))), (a52, HO.lst v53), (a55, HO.dK (v56 ++ [((Sum.inl x62), V.ref a76)])), (a59, HO.lst v60)] ++ (in58 ++ R)) _ := S78.set 4 rfl _
          refine ⟨.inl ⟨rfl, _, (SqL.of (S89.get 0 rfl))⟩, _, rfl, _, _, _, _, _, rfl, (S89.get 2 rfl), T.cl_Pusher, T.n_Pusher_clauses, fl_Pusher_clauses, _, _, rfl, .inl (SqL.of (S89.get 3 rfl)), ?_⟩
          clear S78
          rw [LR.length hl54]
          refine ⟨_, _, _, rfl, rfl, (S89.get 0 rfl), (by decide), ?_⟩
          have S90 : Sta F48 ([(a76, HO.lst ([] ++ [V.int (st1.clauses.length : Int)])), (a5, HO.lst ((mset x_clause0.2).map V.int)), (a_self0, HO.ins T.a_Pusher dx_self0 (fl_Pusher (V.ref a52) (V.ref a55) (V.ref a59) (V.bl st1.empty))), (a52, HO.lst v53), (a55, HO.dK (v56 ++ [((Sum.inl x62), V.ref a76)])), (a59, HO.lst v60)] ++ (in58 ++ R)) _ := S89.set 0 rfl _
          have S91 : Sta F48 ([(a5, HO.lst ((mset x_clause0.2).map V.int)), (a_self0, HO.ins T.a_Pusher dx_self0 (fl_Pusher (V.ref a52) (V.ref a55) (V.ref a59) (V.bl st1.empty))), (a52, HO.lst v53), (a55, HO.dK (v56 ++ [((Sum.inl x62), V.ref a76)])), (a59, HO.lst v60)] ++ (in58 ++ ([(a76, HO.lst ([] ++ [V.int (st1.clauses.length : Int)]))] ++ R))) _ := Sta.pickS (segs := [[(a76, HO.lst ([] ++ [V.int (st1.clauses.length : Int)]))], [(a5, HO.lst ((mset x_clause0.2).map V.int))], [(a_self0, HO.ins T.a_Pusher dx_self0 (fl_Pusher (V.ref a52) (V.ref a55) (V.ref a59) (V.bl st1.empty)))], [(a52, HO.lst v53)], [(a55, HO.dK (v56 ++ [((Sum.inl x62), V.ref a76)]))], [(a59, HO.lst v60)], in58]) (segs' := [[(a5, HO.lst ((mset x_clause0.2).map V.int))], [(a_self0, HO.ins T.a_Pusher dx_self0 (fl_Pusher (V.ref a52) (V.ref a55) (V.ref a59) (V.bl st1.empty)))], [(a52, HO.lst v53)], [(a55, HO.dK (v56 ++ [((Sum.inl x62), V.ref a76)]))], [(a59, HO.lst v60)], in58, [(a76, HO.lst ([] ++ [V.int (st1.clauses.length : Int)]))]]) (R := R) [1, 2, 3, 4, 5, 6, 0] (by decide) rfl S90
          refine ⟨rfl, F48, _, _, (Same.refl _), Sta.jn (cs := [(a5, HO.lst ((mset x_clause0.2).map V.int)), (a_self0, HO.ins T.a_Pusher dx_self0 (fl_Pusher (V.ref a52) (V.ref a55) (V.ref a59) (V.bl st1.empty))), (a52, HO.lst v53), (a55, HO.dK (v56 ++ [((Sum.inl x62), V.ref a76)])), (a59, HO.lst v60)]) (a := in58) (b := [(a76, HO.lst ([] ++ [V.int (st1.clauses.length : Int)]))]) (ys := R) S91, ?_⟩
          have hz := KRO.snoc (f := Sum.inl) (k := x62) (r := (roM rInt) F48) (v := V.ref a76) (x := [(st1.clauses.length : Int)]) ⟨_, [V.int (st1.clauses.length : Int)], rfl, rfl, ⟨rfl, trivial⟩⟩ hl57
          show KRO Sum.inl ((roM rInt) F48) _ (mapp _ _ _) _
          unfold mapp; rw [q79]; exact hz
        · obtain ⟨a92, v93, rfl, rfl, hl94⟩ := q86
          subst q87
          have S96 : Sta F48 ([(a92, HO.lst v93)] ++ ([(a5, HO.lst ((mset x_clause0.2).map V.int)), (a_self0, HO.ins T.a_Pusher dx_self0 (fl_Pusher (V.ref a52) (V.ref a55) (V.ref a59) (V.bl st1.empty))), (a52, HO.lst v53), (a55, HO.dK v56), (a59, HO.lst v60)] ++ ((c83 ++ c85) ++ R))) _ := Sta.op3 (cs := [(a5, HO.lst ((mset x_clause0.2).map V.int)), (a_self0, HO.ins T.a_Pusher dx_self0 (fl_Pusher (V.ref a52) (V.ref a55) (V.ref a59) (V.bl st1.empty))), (a52, HO.lst v53), (a55, HO.dK v56), (a59, HO.lst v60)]) (a := c83) (b := [(a92, HO.lst v93)]) (c := c85) (ys := R) S78.tl
          refine ⟨_, (Sum.inl x62), (S96.get 4 rfl), rfl, (by rw [KRO.length hK]; exact of_decide_eq_true g66), fun v hv => ?_, (fun hn => by rw [q80] at hn; cases hn)⟩
          obtain rfl := Option.some.inj (q80.symm.trans hv)
          refine ⟨.inl ⟨rfl, _, (SqL.of (S96.get 0 rfl))⟩, _, rfl, _, _, _, _, _, rfl, (S96.get 2 rfl), T.cl_Pusher, T.n_Pusher_clauses, fl_Pusher_clauses, _, _, rfl, .inl (SqL.of (S96.get 3 rfl)), ?_⟩
          clear S78
          rw [LR.length hl54]
          refine ⟨_, _, _, rfl, rfl, (S96.get 0 rfl), (by rw [LR.length hl94]; have := of_decide_eq_true g67; rw [q79] at this; exact this), ?_⟩
          have S97 : Sta F48 ([(a92, HO.lst (v93 ++ [V.int (st1.clauses.length : Int)])), (a5, HO.lst ((mset x_clause0.2).map V.int)), (a_self0, HO.ins T.a_Pusher dx_self0 (fl_Pusher (V.ref a52) (V.ref a55) (V.ref a59) (V.bl st1.empty))), (a52, HO.lst v53), (a55, HO.dK v56), (a59, HO.lst v60)] ++ ((c83 ++ c85) ++ R)) _ := S96.set 0 rfl _
          refine ⟨rfl, F48, _, _, (Same.refl _), Sta.cl3 (cs := [(a5, HO.lst ((mset x_clause0.2).map V.int)), (a_self0, HO.ins T.a_Pusher dx_self0 (fl_Pusher (V.ref a52) (V.ref a55) (V.ref a59) (V.bl st1.empty))), (a52, HO.lst v53), (a55, HO.dK v56), (a59, HO.lst v60)]) (a := c83) (b := [(a92, HO.lst (v93 ++ [V.int (st1.clauses.length : Int)]))]) (c := c85) (ys := R) S97, ?_⟩
          have hz := q88 (x81 ++ [(st1.clauses.length : Int)]) _ ⟨_, _, rfl, rfl, LR.snoc hl94 rfl⟩
          show KRO Sum.inl ((roM rInt) F48) _ (mapp _ _ _) _
          unfold mapp; rw [q79]; exact hz
      · rintro v74 H75 ⟨rfl, F68, v69, in70, s71, S72, hl73⟩
        exact ⟨(M_Pusher.mk st1.clauses (mapp st1.places x62 (st1.clauses.length : Int)) st1.starts st1.empty), F68, a52, v53, a55, v69, in70, a59, v60, _, rfl, (s49.trans s71), S72, (hl54.mono s71), hl73, (hl61.mono s71), hm⟩
    · rintro σ H2 ⟨st1, F48, a52, v53, a55, v56, in58, a59, v60, o51, rfl, s49, S50, hl54, hl57, hl61, hm⟩
      rw [LR.dropEnd hl9, m_Pusher_include_l1] at hm
      obtain rfl := Option.some.inj hm
      have hm := hm15
      refine hN12 _ _ ?_
      refine seqI fun N98 hN99 => ?_
      obtain ⟨F100, s101, S102, h103⟩ : ∃ F', Same F48 F' ∧ Sta F' ([(a_self0, HO.ins T.a_Pusher dx_self0 (fl_Pusher (V.ref a52) (V.ref a55) (V.ref a59) (V.bl st1.empty))), (a52, HO.lst v53), (a55, HO.dK v56), (a59, HO.lst v60)] ++ (in58 ++ R)) _ ∧ F' a5 = some (HO.lst ((mset x_clause0.2).map V.int)) := ⟨_, S50.frzS, S50.frz, upd_same⟩
      revert hm; refine grdI fun g104 hm => ?_
      refine ⟨_, rfl, _, _, _, _, _, rfl, (S50.get 1 rfl), T.cl_Pusher, T.n_Pusher_clauses, fl_Pusher_clauses, .inl ⟨rfl, _, (SqL.of (S50.get 2 rfl))⟩, _, rfl, _, _, _, rfl, rfl, (S102.get 1 rfl), (by rw [LR.length (hl54.mono s101)]; exact of_decide_eq_true g104), ?_⟩
      have hl105 : LR ((rLst K rInt) F100) (v53 ++ [V.ref a5]) (st1.clauses ++ [(mset x_clause0.2)]) := LR.snoc (hl54.mono s101) ⟨_, _, rfl, SqL.mono (SqL.of h103) (Same.refl _), (hl9.mono (s49.trans s101))⟩
      have S106 : Sta F100 ([(a_self0, HO.ins T.a_Pusher dx_self0 (fl_Pusher (V.ref a52) (V.ref a55) (V.ref a59) (V.bl st1.empty))), (a52, HO.lst (v53 ++ [V.ref a5])), (a55, HO.dK v56), (a59, HO.lst v60)] ++ (in58 ++ R)) _ := S102.set 1 rfl _
      refine hN99 _ _ ?_
      refine ⟨_, rfl, ((!(mset x_clause0.2).isEmpty)), (.inl ⟨_, (SqL.mono (SqL.of h103) ((Same.refl _).trans S106.sub)), by rw [LR.isEmpty (hl9.mono (s49.trans s101))]⟩), ?_⟩
      clear S102
      by_cases c107 : (!(!(mset x_clause0.2).isEmpty)) = true
      · revert hm; refine ifTI c107 fun hm => ?_
        refine goT c107 ?_
        refine ⟨_, rfl, _, _, _, _, rfl, (S106.get 0 rfl), T.cl_Pusher, T.n_Pusher_empty, fl_Pusher_few, ?_⟩
        rw [fl_Pusher_put_empty]
        have S108 : Sta F100 ([(a_self0, HO.ins T.a_Pusher dx_self0 (fl_Pusher (V.ref a52) (V.ref a55) (V.ref a59) (V.bl true))), (a52, HO.lst (v53 ++ [V.ref a5])), (a55, HO.dK v56), (a59, HO.lst v60)] ++ (in58 ++ R)) _ := S106.set 0 rfl _
        obtain rfl := Option.some.inj hm
        exact kk _ _ a52 (v53 ++ [V.ref a5]) a55 v56 in58 a59 v60 (s49.trans s101) S108 hl105 (KRO.mono hl57 s101) (hl61.mono s101)
      · revert hm; refine ifFI c107 fun hm => ?_
        refine goF c107 ?_
        refine ⟨_, rfl, _, _, rfl, .inl (SqL.mono (SqL.of h103) ((Same.refl _).trans S106.sub)), ?_⟩
        rw [LR.length (hl9.mono (s49.trans s101))]
        refine ⟨_, _, rfl, rfl, _, rfl, ?_⟩
        by_cases c109 : (decide (((mset x_clause0.2).length : Int) = (1 : Int))) = true
        · revert hm; refine ifTI c109 fun hm => ?_
          refine goT c109 ?_
          revert hm; refine bndI fun y110 e111 hm => ?_
          obtain ⟨v112, ev113, rv114⟩ := LR.atI hl9 e111
          obtain rfl := rInt_e rv114
          revert hm; refine grdI fun g115 hm => ?_
          refine ⟨_, rfl, _, _, _, _, _, rfl, (S106.get 0 rfl), T.cl_Pusher, T.n_Pusher_starts, fl_Pusher_starts, .inl ⟨rfl, _, (SqL.of (S106.get 3 rfl))⟩, _, rfl, _, _, _, _, rfl, rfl, (SqL.mono (SqL.of h103) ((Same.refl _).trans S106.sub)), ev113, _, _, _, rfl, rfl, (S106.get 3 rfl), (by rw [LR.length (hl61.mono s101)]; exact of_decide_eq_true g115), ?_⟩
          have hl116 : LR (rInt F100) (v60 ++ [V.int y110]) (st1.starts ++ [y110]) := LR.snoc (hl61.mono s101) rfl
          have S117 : Sta F100 ([(a_self0, HO.ins T.a_Pusher dx_self0 (fl_Pusher (V.ref a52) (V.ref a55) (V.ref a59) (V.bl st1.empty))), (a52, HO.lst (v53 ++ [V.ref a5])), (a55, HO.dK v56), (a59, HO.lst (v60 ++ [V.int y110]))] ++ (in58 ++ R)) _ := S106.set 3 rfl _
          obtain rfl := Option.some.inj hm
          exact kk _ _ a52 (v53 ++ [V.ref a5]) a55 v56 in58 a59 (v60 ++ [V.int y110]) (s49.trans s101) S117 hl105 (KRO.mono hl57 s101) hl116
        · revert hm; refine ifFI c109 fun hm => ?_
          refine goF c109 ?_
          obtain rfl := Option.some.inj hm
          exact kk _ _ a52 (v53 ++ [V.ref a5]) a55 v56 in58 a59 v60 (s49.trans s101) S106 hl105 (KRO.mono hl57 s101) (hl61.mono s101)

def sp_Pusher_init (T : Txt K mg) : Sp := fun vs H Q _ => ∃ (F0 : Hp) (R : Own) (a_self0 : Addr) (dx_self0 : Addr) (a_clauses0 : Addr) (v_clauses0 : List V) (x_clauses0 : (List (Bool × List Int))) (r : M_Pusher),
  vs = [V.ref a_self0, V.ref a_clauses0] ∧ SqL K (ov F0 R) a_clauses0 v_clauses0 ∧ LR (vw (roSeq K rInt) (ov F0 R) F0) v_clauses0 x_clauses0 ∧ Sta F0 ([(a_self0, HO.ins T.a_Pusher dx_self0 ([]))] ++ R) H ∧ m_Pusher_init x_clauses0 = some r ∧ ∀ (F1 : Hp) (H1 : Hp) (a_self0p_clauses0 : Addr) (v_self0p_clauses0 : List V) (a_self0p_places0 : Addr) (v_self0p_places0 : List (Key × V)) (in_self0p_places0 : Own) (a_self0p_starts0 : Addr) (v_self0p_starts0 : List V), Same F0 F1 → Sta F1 ([(a_self0, HO.ins T.a_Pusher dx_self0 (fl_Pusher (V.ref a_self0p_clauses0) (V.ref a_self0p_places0) (V.ref a_self0p_starts0) (V.bl r.empty))), (a_self0p_clauses0, HO.lst v_self0p_clauses0), (a_self0p_places0, HO.dK v_self0p_places0), (a_self0p_starts0, HO.lst v_self0p_starts0)] ++ (in_self0p_places0 ++ R)) H1 → LR ((rLst K rInt) F1) v_self0p_clauses0 r.clauses → KRO Sum.inl ((roM rInt) F1) v_self0p_places0 r.places in_self0p_places0 → LR (rInt F1) v_self0p_starts0 r.starts → Q (V.non) H1

theorem ok_Pusher_init (T : Txt K mg) : FnOk P w K mg base CX0 2 T.a_Pusher_init T.d_Pusher_init ["self", "clauses"] (sp_Pusher_init T) := by
  refine T.F_Pusher_init.ok sc_Pusher_init (fun vs H Q E h => ?_) (fun cdv A outer s H vs Q E hr h => ?_)
  · obtain ⟨_, _, _, _, _, _, _, _, rfl, _⟩ := h
    rfl
  · obtain ⟨F0, R, a_self0, dx_self0, a_clauses0, v_clauses0, x_clauses0, r, rfl, hs_clauses0, hl_clauses0, S0, hm, kk⟩ := h
    have hu := hu_of hr
    unfold m_Pusher_init at hm
    refine ⟨_, (pss_cons (ps_fld (pv 0) (pe_lst pa_nil) rfl) (pss_cons (ps_fld (pv 0) pe_dnewK rfl) (pss_cons (ps_fld (pv 0) (pe_lst pa_nil) rfl) (pss_cons (ps_fld (pv 0) pe_bl rfl) (pss_one (ps_for PassesOwn.never rfl (pi_list (pv 1)) (pg_name (i := 2) sc_Pusher_init.nd rfl (Or.inl rfl)) (pss_one (ps_expr (pe_meth (pv 0) T.cl_Pusher T.h_Pusher_include (ok_Pusher_include T) (hr.mono (by decide)) T.b_Pusher_include .nil pass0 (pa_cons (pv 2) pa_nil)))))))))), ?_⟩
    refine seqI fun N1 hN2 => ?_
    refine ⟨(by show 0 ≤ sizeLine; decide), ?_⟩
    intro a3 np4
    have hl5 : LR ((rLst K rInt) F0) [] ([] : (List (List Int))) := trivial
    have S6 : Sta F0 ([(a3, HO.lst []), (a_self0, HO.ins T.a_Pusher dx_self0 ([]))] ++ R) _ := S0.new np4 _
    refine ⟨_, rfl, _, _, _, _, rfl, (S6.get 1 rfl), T.cl_Pusher, T.n_Pusher_clauses, (Nat.lt_of_le_of_lt (Nat.le_refl 0) (by decide)), ?_⟩
    clear S0
    have S7 : Sta F0 ([(a3, HO.lst []), (a_self0, HO.ins T.a_Pusher dx_self0 (putF "_clauses" (V.ref a3) ([])))] ++ R) _ := S6.set 1 rfl _
    refine hN2 _ _ ?_
    refine seqI fun N8 hN9 => ?_
    clear S6
    intro a10 np11
    have hl12 : KR Sum.inl ((rLst K rInt) F0) ([] : List (Key × V)) ([] : (List (Int × (List Int)))) := trivial
    obtain ⟨in13, S14, hl15⟩ : ∃ i : Own, Sta F0 ([(a10, HO.dK []), (a3, HO.lst []), (a_self0, HO.ins T.a_Pusher dx_self0 (putF "_clauses" (V.ref a3) ([])))] ++ (i ++ R)) _ ∧ KRO Sum.inl ((roM rInt) F0) ([] : List (Key × V)) ([] : (List (Int × (List Int)))) i := ⟨[], S7.new np11 _, rfl⟩
    refine ⟨_, rfl, _, _, _, _, rfl, (S14.get 2 rfl), T.cl_Pusher, T.n_Pusher_places, (Nat.lt_of_le_of_lt (fewl (Nat.le_refl 0)) (by decide)), ?_⟩
    clear S7
    have S16 : Sta F0 ([(a10, HO.dK []), (a3, HO.lst []), (a_self0, HO.ins T.a_Pusher dx_self0 (putF "_places" (V.ref a10) (putF "_clauses" (V.ref a3) ([]))))] ++ (in13 ++ R)) _ := S14.set 2 rfl _
    refine hN9 _ _ ?_
    refine seqI fun N17 hN18 => ?_
    refine ⟨(by show 0 ≤ sizeLine; decide), ?_⟩
    clear S14
    intro a19 np20
    have hl21 : LR (rInt F0) [] ([] : (List Int)) := trivial
    have S22 : Sta F0 ([(a19, HO.lst []), (a10, HO.dK []), (a3, HO.lst []), (a_self0, HO.ins T.a_Pusher dx_self0 (putF "_places" (V.ref a10) (putF "_clauses" (V.ref a3) ([]))))] ++ (in13 ++ R)) _ := S16.new np20 _
    refine ⟨_, rfl, _, _, _, _, rfl, (S22.get 3 rfl), T.cl_Pusher, T.n_Pusher_starts, (Nat.lt_of_le_of_lt (fewl (fewl (Nat.le_refl 0))) (by decide)), ?_⟩
    clear S16
    have S23 : Sta F0 ([(a19, HO.lst []), (a10, HO.dK []), (a3, HO.lst []), (a_self0, HO.ins T.a_Pusher dx_self0 (putF "_starts" (V.ref a19) (putF "_places" (V.ref a10) (putF "_clauses" (V.ref a3) ([])))))] ++ (in13 ++ R)) _ := S22.set 3 rfl _
    refine hN18 _ _ ?_
    refine seqI fun N24 hN25 => ?_
    refine ⟨_, rfl, _, _, _, _, rfl, (S23.get 3 rfl), T.cl_Pusher, T.n_Pusher_empty, (Nat.lt_of_le_of_lt (fewl (fewl (fewl (Nat.le_refl 0)))) (by decide)), ?_⟩
    clear S22
    have S26 : Sta F0 ([(a19, HO.lst []), (a10, HO.dK []), (a3, HO.lst []), (a_self0, HO.ins T.a_Pusher dx_self0 (fl_Pusher (V.ref a3) (V.ref a10) (V.ref a19) (V.bl false)))] ++ (in13 ++ R)) _ := S23.set 3 rfl _
    refine hN25 _ _ ?_
    refine ⟨_, rfl, _, rfl, ⟨_, (SqL.mono hs_clauses0 (S26.bor (Same.refl _) (fun _ q => (List.mem_append_right _ (List.mem_append_right _ q)))))⟩, ?_⟩
    clear S23
    revert hm; refine bndI fun y27 e28 hm29 => ?_
    refine for_list (K := K) (a := a_clauses0) (xs := v_clauses0) (fun i σ H2 => ∃ (st1 : M_Pusher) (F62 : Hp) (a66 : Addr) (v67 : List V) (a69 : Addr) (v70 : List (Key × V)) (in72 : Own) (a73 : Addr) (v74 : List V) (o65 : Option V), σ = [some (V.ref a_self0), some (V.ref a_clauses0), o65] ∧ Same F0 F62 ∧ Sta F62 ([(a73, HO.lst v74), (a69, HO.dK v70), (a66, HO.lst v67), (a_self0, HO.ins T.a_Pusher dx_self0 (fl_Pusher (V.ref a66) (V.ref a69) (V.ref a73) (V.bl st1.empty)))] ++ (in72 ++ R)) H2 ∧ LR ((rLst K rInt) F62) v67 st1.clauses ∧ KRO Sum.inl ((roM rInt) F62) v70 st1.places in72 ∧ LR (rInt F62) v74 st1.starts ∧ m_Pusher_init_l1 (List.drop i x_clauses0) st1 = some y27) ⟨(M_Pusher.mk ([] : (List (List Int))) ([] : (List (Int × (List Int)))) ([] : (List Int)) false), F0, a3, [], a10, [], in13, a19, [], _, rfl, (Same.refl _), S26, hl5, hl15, hl21, e28⟩ (by rintro i σ H2 _ ⟨st1, F62, a66, v67, a69, v70, in72, a73, v74, o65, rfl, s63, S64, hl68, hl71, hl75, _⟩; exact (SqL.mono hs_clauses0 (S64.bor s63 (fun _ q => (List.mem_append_right _ (List.mem_append_right _ q)))))) ?_ ?_
    · rintro i v77 σ H2 hi ⟨st1, F62, a66, v67, a69, v70, in72, a73, v74, o65, rfl, s63, S64, hl68, hl71, hl75, hm⟩
      obtain ⟨x76, hx78, rx79⟩ := LR.getV hl_clauses0 hi
      rw [drop_cons hx78, m_Pusher_init_l1] at hm
      obtain ⟨a80, v81, rfl, hs82, hl83⟩ := vw_S (S64.ovS0 s63 (fun _ q => (List.mem_append_right _ (List.mem_append_right _ q)))) rx79
      have S84 : Sta F62 ([(a_self0, HO.ins T.a_Pusher dx_self0 (fl_Pusher (V.ref a66) (V.ref a69) (V.ref a73) (V.bl st1.empty))), (a66, HO.lst v67), (a69, HO.dK v70), (a73, HO.lst v74)] ++ (in72 ++ ([] ++ R))) _ := Sta.pickS (segs := [[(a73, HO.lst v74)], [(a69, HO.dK v70)], [(a66, HO.lst v67)], [(a_self0, HO.ins T.a_Pusher dx_self0 (fl_Pusher (V.ref a66) (V.ref a69) (V.ref a73) (V.bl st1.empty)))], in72]) (segs' := [[(a_self0, HO.ins T.a_Pusher dx_self0 (fl_Pusher (V.ref a66) (V.ref a69) (V.ref a73) (V.bl st1.empty)))], [(a66, HO.lst v67)], [(a69, HO.dK v70)], [(a73, HO.lst v74)], in72]) (R := R) [3, 2, 1, 0, 4] (by decide) rfl S64
      revert hm; refine bndI fun y85 e86 hm => ?_
      refine ⟨_, rfl, _, _, _, rfl, (S64.get 3 rfl), fl_Pusher_no_include, _, rfl, F62, ([] ++ R), a_self0, dx_self0, (M_Pusher.mk st1.clauses st1.places st1.starts st1.empty), a66, v67, a69, v70, in72, a73, v74, a80, v81, x76, _, rfl, hl68, hl71, hl75, (SqB.mono hs82 ((Sta.dropL (cs := in72) (ds := ([] ++ R)) (Sta.dropL (cs := [(a_self0, HO.ins T.a_Pusher dx_self0 (fl_Pusher (V.ref a66) (V.ref a69) (V.ref a73) (V.bl st1.empty))), (a66, HO.lst v67), (a69, HO.dK v70), (a73, HO.lst v74)]) (ds := (in72 ++ ([] ++ R))) S84)).ovR s63 (fun _ q => (List.mem_append_right _ q)))), (hl83.mono s63), S84, e86, fun F87 H88 a91 v92 a94 v95 in97 a98 v99 s89 S90 hl93 hl96 hl100 => ?_⟩
      clear S64
      have S101 : Sta F87 ([(a_self0, HO.ins T.a_Pusher dx_self0 (fl_Pusher (V.ref a91) (V.ref a94) (V.ref a98) (V.bl y85.empty))), (a91, HO.lst v92), (a94, HO.dK v95), (a98, HO.lst v99)] ++ (in97 ++ R)) _ := Sta.pickS (segs := [[(a_self0, HO.ins T.a_Pusher dx_self0 (fl_Pusher (V.ref a91) (V.ref a94) (V.ref a98) (V.bl y85.empty))), (a91, HO.lst v92), (a94, HO.dK v95), (a98, HO.lst v99)], in97, []]) (segs' := [[(a_self0, HO.ins T.a_Pusher dx_self0 (fl_Pusher (V.ref a91) (V.ref a94) (V.ref a98) (V.bl y85.empty))), (a91, HO.lst v92), (a94, HO.dK v95), (a98, HO.lst v99)], [], in97]) (R := R) [0, 2, 1] (by decide) rfl S90
      have S102 : Sta F87 ([(a98, HO.lst v99), (a94, HO.dK v95), (a91, HO.lst v92), (a_self0, HO.ins T.a_Pusher dx_self0 (fl_Pusher (V.ref a91) (V.ref a94) (V.ref a98) (V.bl y85.empty)))] ++ (in97 ++ R)) _ := S101.pick [3, 2, 1, 0] (by decide) rfl
      exact ⟨(M_Pusher.mk y85.clauses y85.places y85.starts y85.empty), F87, a91, v92, a94, v95, in97, a98, v99, _, rfl, (s63.trans s89), S102, hl93, hl96, hl100, hm⟩
    · rintro σ H2 ⟨st1, F62, a66, v67, a69, v70, in72, a73, v74, o65, rfl, s63, S64, hl68, hl71, hl75, hm⟩
      rw [LR.dropEnd hl_clauses0, m_Pusher_init_l1] at hm
      obtain rfl := Option.some.inj hm
      have hm := hm29
      obtain rfl := Option.some.inj hm
      have S103 : Sta F62 ([(a_self0, HO.ins T.a_Pusher dx_self0 (fl_Pusher (V.ref a66) (V.ref a69) (V.ref a73) (V.bl st1.empty))), (a66, HO.lst v67), (a69, HO.dK v70), (a73, HO.lst v74)] ++ (in72 ++ R)) _ := S64.pick [3, 2, 1, 0] (by decide) rfl
      exact kk _ _ a66 v67 a69 v70 in72 a73 v74 s63 S103 hl68 hl71 hl75

def sp_law_spoil (T : Txt K mg) : Sp := fun vs H Q _ => ∃ (F0 : Hp) (R : Own) (a_handed0 : Addr) (v_handed0 : List V) (x_handed0 : (List (Bool × List Int))) (in_handed0 : Own) (r : (List (Bool × List Int))),
  vs = [V.ref a_handed0] ∧ LRO ((roSeq K rInt) F0) v_handed0 x_handed0 in_handed0 ∧ Sta F0 ([(a_handed0, HO.lst v_handed0)] ++ (in_handed0 ++ R)) H ∧ m_law_spoil x_handed0 = some r ∧ ∀ (F1 : Hp) (H1 : Hp) (v_handed0p : List V) (in_handed0p : Own), Same F0 F1 → Sta F1 ([(a_handed0, HO.lst v_handed0p)] ++ (in_handed0p ++ R)) H1 → LRO ((roSeq K rInt) F1) v_handed0p r in_handed0p → Q (V.non) H1

theorem ok_law_spoil (T : Txt K mg) : FnOk P w K mg base CX0 1 T.a_law_spoil T.d_law_spoil ["handed"] (sp_law_spoil T) := by
  refine T.F_law_spoil.ok sc_law_spoil (fun vs H Q E h => ?_) (fun cdv A outer s H vs Q E hr h => ?_)
  · obtain ⟨_, _, _, _, _, _, _, rfl, _⟩ := h
    rfl
  · obtain ⟨F0, R, a_handed0, v_handed0, x_handed0, in_handed0, r, rfl, hl_handed0, S0, hm, kk⟩ := h
    have hu := hu_of hr
    unfold m_law_spoil at hm
    refine ⟨_, (pss_cons (ps_for PassesOwn.never rfl (pi_range1 rfl T.z_range (pa_cons (pe_callB call_len_seq (by rfl) T.z_len PySem.boot_len (pa_cons (pv 0) pa_nil)) pa_nil)) (pg_name (i := 1) sc_law_spoil.nd rfl (Or.inl rfl)) (pss_cons (ps_set (i := 2) sc_law_spoil.nd rfl (Or.inl rfl) (pe_ix ix_list (pv 0) (pv 1) (fun _ _ => rfl))) (pss_one (ps_if (pt_val (pe_callB call_isi (by rfl) T.z_isinstance (by decide +kernel) (pa_cons (pv 2) (pa_cons (pe_bltn (v := .ty "list") (by rfl) T.z_list (by decide +kernel) rfl) pa_nil)))) (pss_one (ps_expr (pe_bm PySem.F.plainAttrs_list PySem.F.slot_list_append PySem.F.type_list_append mt_append (pv 2) (pa_cons pe_int pa_nil)))) pss_nil)))) (pss_one (ps_expr (pe_bm PySem.F.plainAttrs_list PySem.F.slot_list_append PySem.F.type_list_append mt_append (pv 0) (pa_cons (pe_lst pa_nil) pa_nil))))), ?_⟩
    refine seqI fun N1 hN2 => ?_
    refine ⟨_, rfl, _, _, rfl, .inl (SqL.of (S0.get 0 rfl)), ?_⟩
    rw [LRO.length hl_handed0]
    revert hm; refine grdI fun g6 hm => ?_
    revert hm; refine bndI fun y3 e4 hm5 => ?_
    refine ⟨_, rfl, (rngOk_lo g6), (rngOk_hi g6), for_rng (lo := 0) (n := (x_handed0.length : Int).toNat) (fun i σ H2 => ∃ (st1 : (List (Bool × List Int))) (F28 : Hp) (v33 : List V) (in35 : Own) (o31 : Option V) (o32 : Option V), σ = [some (V.ref a_handed0), o31, o32] ∧ Same F0 F28 ∧ Sta F28 ([(a_handed0, HO.lst v33)] ++ (in35 ++ R)) H2 ∧ LRO ((roSeq K rInt) F28) v33 st1 in35 ∧ m_law_spoil_l1 (List.drop i (pyRange 0 (x_handed0.length : Int).toNat)) st1 = some y3) ⟨x_handed0, F0, v_handed0, in_handed0, _, _, rfl, (Same.refl _), S0, hl_handed0, e4⟩ ?_ ?_⟩
    · rintro i x36 σ H2 hi ⟨st1, F28, v33, in35, o31, o32, rfl, s29, S30, hl34, hm⟩
      rw [drop_cons hi, m_law_spoil_l1] at hm
      refine seqI fun N38 hN39 => ?_
      revert hm; refine bndI fun y40 e41 hm => ?_
      have hv45 := LRO.view (G := ov F28 in35) hl34 (Sta.takeL (cs := in35) (ds := R) (Sta.dropL (cs := [(a_handed0, HO.lst v33)]) (ds := (in35 ++ R)) S30)).selfO
      obtain ⟨v42, ev43, rv44⟩ := LR.atI hv45 e41
      obtain ⟨a46, v47, rfl, hs48, hl49⟩ := vw_S (S30.ovS0 (Same.refl _) (fun _ q => (List.mem_append_right _ (List.mem_append_left _ q)))) rv44
      refine ⟨_, rfl, _, rfl, _, _, _, _, rfl, rfl, (SqL.of (S30.get 0 rfl)), ev43, ?_⟩
      refine hN39 _ _ ?_
      refine ⟨_, rfl, _, _, _, _, _, rfl, .ty _, (tyx_seq (SqB.mono hs48 (S30.bor (Same.refl _) (fun _ q => (List.mem_append_right _ (List.mem_append_left _ q)))))), (kit_seqL _), _, rfl, ?_⟩
      by_cases c50 : (y40.1) = true
      · revert hm; refine ifTI c50 fun hm => ?_
        refine goT c50 ?_
        refine ⟨_, rfl, ?_⟩
        obtain ⟨v51, c52, c53, c54, q55, q56, q57, q58⟩ := LRO.openI hl34 e41
        obtain rfl := Option.some.inj (q55.symm.trans ev43)
        revert hm; refine grdI fun g64 hm => ?_
        obtain ⟨a59, v60, e62, hc63, hl61⟩ := q56
        rw [if_pos g64] at hc63
        subst hc63
        have e62 := V.ref.inj e62; subst e62
        subst q57
        have S65 : Sta F28 ([(a46, HO.lst v60)] ++ ([(a_handed0, HO.lst v33)] ++ ((c52 ++ c54) ++ R))) _ := Sta.op3 (cs := [(a_handed0, HO.lst v33)]) (a := c52) (b := [(a46, HO.lst v60)]) (c := c54) (ys := R) S30
        revert hm; refine grdI fun g66 hm => ?_
        refine ⟨.inl ⟨rfl, _, (SqL.of (S65.get 0 rfl))⟩, _, _, _, rfl, rfl, (S65.get 0 rfl), (by rw [LR.length hl61]; exact of_decide_eq_true g66), ?_⟩
        clear S30
        have hl67 : LR (rInt F28) (v60 ++ [V.int 555]) (y40.2 ++ [(555 : Int)]) := LR.snoc hl61 rfl
        have S68 : Sta F28 ([(a46, HO.lst (v60 ++ [V.int 555])), (a_handed0, HO.lst v33)] ++ ((c52 ++ c54) ++ R)) _ := S65.set 0 rfl _
        obtain ⟨in69, S70, hl71⟩ : ∃ i : Own, Sta F28 ([(a_handed0, HO.lst v33)] ++ (i ++ R)) _ ∧ LRO ((roSeq K rInt) F28) v33 (msetI st1 x36 (y40.1, (y40.2 ++ [(555 : Int)]))) i := ⟨_, Sta.cl3 (cs := [(a_handed0, HO.lst v33)]) (a := c52) (b := [(a46, HO.lst (v60 ++ [V.int 555]))]) (c := c54) (ys := R) S68, q58 (y40.1, (y40.2 ++ [(555 : Int)])) _ ⟨_, _, rfl, by rw [if_pos g64], hl67⟩⟩
        exact ⟨(msetI st1 x36 (y40.1, (y40.2 ++ [(555 : Int)]))), F28, v33, in69, _, _, rfl, s29, S70, hl71, hm⟩
      · revert hm; refine ifFI c50 fun hm => ?_
        refine goF c50 ?_
        exact ⟨st1, F28, v33, in35, _, _, rfl, s29, S30, hl34, hm⟩
    · rintro σ H2 ⟨st1, F28, v33, in35, o31, o32, rfl, s29, S30, hl34, hm⟩
      rw [drop_rng, m_law_spoil_l1] at hm
      obtain rfl := Option.some.inj hm
      have hm := hm5
      refine hN2 _ _ ?_
      refine ⟨_, rfl, .inl ⟨rfl, _, (SqL.of (S30.get 0 rfl))⟩, (by show 0 ≤ sizeLine; decide), ?_⟩
      intro a72 np73
      have hl74 : LR (rInt F28) [] ([] : (List Int)) := trivial
      have S75 : Sta F28 ([(a72, HO.lst []), (a_handed0, HO.lst v33)] ++ (in35 ++ R)) _ := S30.new np73 _
      revert hm; refine grdI fun g76 hm => ?_
      refine ⟨_, _, _, rfl, rfl, (S75.get 1 rfl), (by rw [LRO.length hl34]; exact of_decide_eq_true g76), ?_⟩
      clear S30
      have S77 : Sta F28 ([(a72, HO.lst []), (a_handed0, HO.lst (v33 ++ [V.ref a72]))] ++ (in35 ++ R)) _ := S75.set 1 rfl _
      have S78 : Sta F28 ([(a_handed0, HO.lst (v33 ++ [V.ref a72]))] ++ (in35 ++ ([(a72, HO.lst [])] ++ R))) _ := Sta.pickS (segs := [[(a72, HO.lst [])], [(a_handed0, HO.lst (v33 ++ [V.ref a72]))], in35]) (segs' := [[(a_handed0, HO.lst (v33 ++ [V.ref a72]))], in35, [(a72, HO.lst [])]]) (R := R) [1, 2, 0] (by decide) rfl S77
      obtain ⟨in79, S80, hl81⟩ : ∃ i : Own, Sta F28 ([(a_handed0, HO.lst (v33 ++ [V.ref a72]))] ++ (i ++ R)) _ ∧ LRO ((roSeq K rInt) F28) (v33 ++ [V.ref a72]) (st1 ++ [(true, ([] : (List Int)))]) i := ⟨_, Sta.jn (cs := [(a_handed0, HO.lst (v33 ++ [V.ref a72]))]) (a := in35) (b := [(a72, HO.lst [])]) (ys := R) S78, LRO.snoc (roSeq_l hl74) hl34⟩
      obtain rfl := Option.some.inj hm
      exact kk _ _ (v33 ++ [V.ref a72]) in79 s29 S80 hl81

def sp_law_forced (T : Txt K mg) : Sp := fun vs H Q _ => ∃ (F0 : Hp) (R : Own) (a_clauses0 : Addr) (v_clauses0 : List V) (x_clauses0 : (List (List Int))) (a_given0 : Addr) (v_given0 : List V) (x_given0 : (List Int)) (r : (Option (List Int))),
  vs = [V.ref a_clauses0, V.ref a_given0] ∧ SqL K (ov F0 R) a_clauses0 v_clauses0 ∧ LR ((rLst K rInt) F0) v_clauses0 x_clauses0 ∧ SqL K (ov F0 R) a_given0 v_given0 ∧ LR (rInt F0) v_given0 x_given0 ∧ Sta F0 ([] ++ R) H ∧ m_law_forced x_clauses0 x_given0 = some r ∧ ∀ (F1 : Hp) (H1 : Hp) (v_ret0p : V) (in_ret0p : Own), Same F0 F1 → Sta F1 ([] ++ (in_ret0p ++ R)) H1 → (roO (roM rInt)) F1 v_ret0p r in_ret0p → Q (v_ret0p) H1

theorem ok_law_forced (T : Txt K mg) : FnOk P w K mg base CX0 1 T.a_law_forced T.d_law_forced ["clauses", "given"] (sp_law_forced T) := by
  refine T.F_law_forced.ok sc_law_forced (fun vs H Q E h => ?_) (fun cdv A outer s H vs Q E hr h => ?_)
  · obtain ⟨_, _, _, _, _, _, _, _, _, rfl, _⟩ := h
    rfl
  · obtain ⟨F0, R, a_clauses0, v_clauses0, x_clauses0, a_given0, v_given0, x_given0, r, rfl, hs_clauses0, hl_clauses0, hs_given0, hl_given0, S0, hm, kk⟩ := h
    have hu := hu_of hr
    unfold m_law_forced at hm
    refine ⟨_, (pss_cons (ps_set (i := 2) sc_law_forced.nd rfl (Or.inr rfl) pe_dnewK) (pss_cons (ps_for PassesOwn.never rfl (pi_list (pv 1)) (pg_name (i := 3) sc_law_forced.nd rfl (Or.inl rfl)) (pss_one (ps_dput hu (pv 2) (pv 3) pe_bl rfl))) (C8.pss_cut (ps_for PassesOwn.never rfl (pi_range1 rfl T.z_range (pa_cons pe_int pa_nil)) (pg_name (i := 4) sc_law_forced.nd rfl (Or.inl rfl)) (pss_cons (ps_set (i := 5) sc_law_forced.nd rfl (Or.inl rfl) (pe_callB call_lenD (by rfl) T.z_len PySem.boot_len (pa_cons (pv 2) pa_nil))) (pss_cons (ps_for PassesOwn.never rfl (pi_list (pv 0)) (pg_name (i := 6) sc_law_forced.nd rfl (Or.inl rfl)) (pss_cons (ps_set (i := 7) sc_law_forced.nd rfl (Or.inr rfl) (pe_lc (own := [("literal", 3)]) rfl sc_law_forced.nd (pi_list (pv 6)) (blkOk_by (own := [("literal", 3)]) (N := ["clauses", "given", "known", "literal", "k", "count", "clause", "left"]) (sc := defScope s_law_forced) (by decide +kernel)) (fun _ _ _ _ _ => (pg_name (i := 3) sc_law_forced.nd rfl (Or.inl rfl))) (fun _ _ _ _ _ => (pts_one (pt_cmp (pc_dnotin hu (pe_op op_sub pe_int (pv 3)) (pv 2))))) (fun _ _ _ _ _ => (pv 3)))) (pss_cons (ps_if (pt_cmpR (op_eqD hr.units) (pv 7) (pe_lst pa_nil) (nomark _)) (pss_one (ps_ret pe_non)) pss_nil) (pss_one (ps_if (pt_cmpR (op_eqD hr.units) (pe_lc (own := [("literal", 3)]) rfl sc_law_forced.nd (pi_list (pv 7)) (blkOk_by (own := [("literal", 3)]) (N := ["clauses", "given", "known", "literal", "k", "count", "clause", "left"]) (sc := defScope s_law_forced) (by decide +kernel)) (fun _ _ _ _ _ => (pg_name (i := 3) sc_law_forced.nd rfl (Or.inl rfl))) (fun _ _ _ _ _ => (pts_one (pt_cmpR oI_ne (pv 3) (pe_ix (ix_listK K) (pv 7) pe_int (fun _ _ => rfl)) (nomark _)))) (fun _ _ _ _ _ => (pv 3))) (pe_lst pa_nil) (nomark _)) (pss_one (ps_dput hu (pv 2) (pe_ix ix_list (pv 7) pe_int (fun _ _ => rfl)) pe_bl rfl)) pss_nil))))) (pss_one (ps_if (pt_cmpR oI_eq (pe_callB call_lenD (by rfl) T.z_len PySem.boot_len (pa_cons (pv 2) pa_nil)) (pv 5) (nomark _)) (pss_one ps_break) pss_nil))))) (pss_cons (ps_lock (ps_for PassesOwn.never rfl (pi_keys (pv 2)) (pg_name (i := 3) sc_law_forced.nd rfl (Or.inl rfl)) (pss_one (ps_if (pt_cmp (pc_din hu (pe_op op_sub pe_int (pv 3)) (pv 2))) (pss_one (ps_ret pe_non)) pss_nil)))) (pss_one (ps_ret (pe_callB cr_sortedI (by rfl) T.z_sorted (by decide +kernel) (pa_cons (pe_lock (pe_lc (own := [("literal", 3)]) rfl sc_law_forced.nd (pi_keys (pv 2)) (blkOk_by (own := [("literal", 3)]) (N := ["clauses", "given", "known", "literal", "k", "count", "clause", "left"]) (sc := defScope s_law_forced) (by decide +kernel)) (fun _ _ _ _ _ => (pg_name (i := 3) sc_law_forced.nd rfl (Or.inl rfl))) (fun _ _ _ _ _ => pts_nil) (fun _ _ _ _ _ => (pv 3)))) pa_nil)))))))), ?_⟩
    refine seqI fun N1 hN2 => ?_
    intro a3 np4
    have hl5 : KR Sum.inl (rBool F0) ([] : List (Key × V)) ([] : (List (Int × Bool))) := trivial
    have S6 : Sta F0 ([(a3, HO.dK [])] ++ R) _ := S0.new np4 _
    refine hN2 _ _ ?_
    refine seqI fun N7 hN8 => ?_
    revert hm; refine bndI fun y9 e10 hm11 => ?_
    refine ⟨_, rfl, _, rfl, ⟨_, (SqL.mono hs_given0 (S6.bor (Same.refl _) (fun _ q => (List.mem_append_right _ q))))⟩, for_list (K := K) (a := a_given0) (xs := v_given0) (fun i σ H2 => ∃ (st1 : (List (Int × Bool))) (F28 : Hp) (v32 : List (Key × V)) (o31 : Option V), σ = [some (V.ref a_clauses0), some (V.ref a_given0), some (V.ref a3), o31, none, none, none, none] ∧ Same F0 F28 ∧ Sta F28 ([(a3, HO.dK v32)] ++ R) H2 ∧ KR Sum.inl (rBool F28) v32 st1 ∧ m_law_forced_l1 (List.drop i x_given0) st1 = some y9) ⟨([] : (List (Int × Bool))), F0, [], _, rfl, (Same.refl _), S6, hl5, e10⟩ (by rintro i σ H2 _ ⟨st1, F28, v32, o31, rfl, s29, S30, hl33, _⟩; exact (SqL.mono hs_given0 (S30.bor s29 (fun _ q => (List.mem_append_right _ q))))) ?_ ?_⟩
    clear S0
    · rintro i v35 σ H2 hi ⟨st1, F28, v32, o31, rfl, s29, S30, hl33, hm⟩
      obtain ⟨x34, hx36, rx37⟩ := LR.getV hl_given0 hi
      rw [drop_cons hx36, m_law_forced_l1] at hm
      obtain rfl := rInt_e rx37
      revert hm; refine grdI fun g38 hm => ?_
      refine ⟨_, rfl, _, rfl, _, _, rfl, (DPut.k (k := Sum.inl x34) (S30.get 0 rfl) (by rw [KR.length hl33]; exact of_decide_eq_true g38)), ?_⟩
      have hl39 : KR Sum.inl (rBool F28) (putK v32 (Sum.inl x34) (V.bl true)) (mput st1 x34 true) := KR.put hl33 kinj_int rfl
      have S40 : Sta F28 ([(a3, HO.dK (putK v32 (Sum.inl x34) (V.bl true)))] ++ R) _ := S30.set 0 rfl _
      exact ⟨(mput st1 x34 true), F28, (putK v32 (Sum.inl x34) (V.bl true)), _, rfl, s29, S40, hl39, hm⟩
    · rintro σ H2 ⟨st1, F28, v32, o31, rfl, s29, S30, hl33, hm⟩
      rw [LR.dropEnd hl_given0, m_law_forced_l1] at hm
      obtain rfl := Option.some.inj hm
      have hm := hm11
      refine hN8 _ _ ?_
      revert hm; refine bndI fun y41 e42 hm43 => ?_
      refine ⟨fun σ H2 => ∃ (st2 : (List (Int × Bool))) (F44 : Hp) (v52 : List (Key × V)) (o47 : Option V) (o48 : Option V) (o49 : Option V) (o50 : Option V) (o51 : Option V), σ = [some (V.ref a_clauses0), some (V.ref a_given0), some (V.ref a3), o47, o48, o49, o50, o51] ∧ Same F28 F44 ∧ Sta F44 ([(a3, HO.dK v52)] ++ R) H2 ∧ KR Sum.inl (rBool F44) v52 st2 ∧ Flw.done st2 = y41, ?_, ?_⟩
      · have hm := e42; clear e42
        refine ⟨_, rfl, (by decide), (by decide), for_rng (lo := 0) (n := (100 : Int).toNat) (fun i σ H2 => ∃ (st2 : (List (Int × Bool))) (F44 : Hp) (v52 : List (Key × V)) (o47 : Option V) (o48 : Option V) (o49 : Option V) (o50 : Option V) (o51 : Option V), σ = [some (V.ref a_clauses0), some (V.ref a_given0), some (V.ref a3), o47, o48, o49, o50, o51] ∧ Same F28 F44 ∧ Sta F44 ([(a3, HO.dK v52)] ++ R) H2 ∧ KR Sum.inl (rBool F44) v52 st2 ∧ m_law_forced_l2 x_clauses0 (List.drop i (pyRange 0 (100 : Int).toNat)) st2 = some y41) ⟨st1, F28, v32, _, _, _, _, _, rfl, (Same.refl _), S30, hl33, hm⟩ ?_ ?_⟩
        · rintro i x54 σ H2 hi ⟨st2, F44, v52, o47, o48, o49, o50, o51, rfl, s45, S46, hl53, hm⟩
          rw [drop_cons hi, m_law_forced_l2] at hm
          refine seqI fun N56 hN57 => ?_
          refine ⟨_, rfl, _, _, rfl, (S46.get 0 rfl), ?_⟩
          rw [KR.length hl53]
          refine hN57 _ _ ?_
          refine seqI fun N58 hN59 => ?_
          revert hm; refine bndI fun y60 e61 hm62 => ?_
          refine ⟨_, rfl, _, rfl, ⟨_, (SqL.mono hs_clauses0 (S46.bor (s29.trans s45) (fun _ q => (List.mem_append_right _ q))))⟩, for_list (K := K) (a := a_clauses0) (xs := v_clauses0) (fun i σ H2 => ∃ (st3 : (List (Int × Bool))) (F85 : Hp) (v91 : List (Key × V)) (o88 : Option V) (o89 : Option V) (o90 : Option V), σ = [some (V.ref a_clauses0), some (V.ref a_given0), some (V.ref a3), o88, some (V.int x54), some (V.int (st2.length : Int)), o89, o90] ∧ Same F44 F85 ∧ Sta F85 ([(a3, HO.dK v91)] ++ R) H2 ∧ KR Sum.inl (rBool F85) v91 st3 ∧ m_law_forced_l3 (List.drop i x_clauses0) st3 = some y60) ⟨st2, F44, v52, _, _, _, rfl, (Same.refl _), S46, hl53, e61⟩ (by rintro i σ H2 _ ⟨st3, F85, v91, o88, o89, o90, rfl, s86, S87, hl92, _⟩; exact (SqL.mono hs_clauses0 (S87.bor (s29.trans (s45.trans s86)) (fun _ q => (List.mem_append_right _ q))))) ?_ ?_⟩
          · rintro i v94 σ H2 hi ⟨st3, F85, v91, o88, o89, o90, rfl, s86, S87, hl92, hm⟩
            obtain ⟨x93, hx95, rx96⟩ := LR.getV hl_clauses0 hi
            rw [drop_cons hx95, m_law_forced_l3] at hm
            obtain ⟨a97, v98, rfl, hs99, hl100⟩ := rx96
            refine seqI fun N101 hN102 => ?_
            revert hm; refine grdI fun g117 hm => ?_
            have e103 : lcO (fun x107 => if (!(mget st3 ((0 : Int) - x107)).isSome) = true then (some (some x107)) else some none) x93 = some ((x93.filter fun x107 => (!(mget st3 ((0 : Int) - x107)).isSome)).map fun x107 => x107) := lc_filter (fun x107 => (!(mget st3 ((0 : Int) - x107)).isSome)) (fun x107 => x107) x93
            refine ⟨_, rfl, _, rfl, ⟨_, (SqL.mono hs99 ((s29.trans (s45.trans s86)).trans S87.sub))⟩, fun a115 np116 => lc_list (K := K) (a := a97) (xs := v98) (fun i H2 => ∃ (F108 : Hp) (v109 : List V) (acc110 : List Int) (r104 : List Int), Same F85 F108 ∧ Sta F108 ([(a115, HO.lst v109), (a3, HO.dK v91)] ++ R) H2 ∧ LR (rInt F108) v109 acc110 ∧ acc110.length ≤ i ∧ lcO (fun x107 => if (!(mget st3 ((0 : Int) - x107)).isSome) = true then (some (some x107)) else some none) (List.drop i x93) = some r104 ∧ ((x93.filter fun x107 => (!(mget st3 ((0 : Int) - x107)).isSome)).map fun x107 => x107) = acc110 ++ r104) ⟨F85, [], [], _, Same.refl _, S87.new np116 _, trivial, Nat.le_refl _, e103, rfl⟩ (by rintro i H2 _ ⟨F108, v109, acc110, r104, s111, S112, hl113, hn114, hr105, hy106⟩; exact (SqL.mono hs99 ((s29.trans (s45.trans (s86.trans s111))).trans S112.sub))) ?_ ?_⟩
            · rintro i v118 H2 hi ⟨F108, v109, acc110, r104, s111, S112, hl113, hn114, hr105, hy106⟩
              obtain ⟨x107, hx119, rx120⟩ := LR.getV hl100 hi
              rw [drop_cons hx119] at hr105
              revert hr105; refine lcI fun y121 r122 hm hr124 hc125 => ?_
              obtain rfl := rInt_e rx120
              refine ⟨rfl, ?_⟩
              refine ⟨_, rfl, _, _, rfl, rfl, _, rfl, _, _, rfl, (DGet.k (k := Sum.inl ((0 : Int) - x107)) (S112.get 1 rfl)), ?_⟩
              rw [show _ = (!(mget st3 ((0 : Int) - x107)).isSome) from (congrArg (!·) (KR.some_eq (KR.mono hl92 s111) (kinj_int) ((0 : Int) - x107)))]
              refine ⟨_, rfl, ?_⟩
              by_cases c126 : (!(mget st3 ((0 : Int) - x107)).isSome) = true
              · revert hm; refine ifTI c126 fun hm => ?_
                refine goT c126 ?_
                refine ⟨_, rfl, ?_⟩
                obtain rfl := Option.some.inj hm
                have hlt : v109.length < 16777216 := by rw [LR.length hl113]; have := (List.getElem?_eq_some_iff.mp hx119).1; have := of_decide_eq_true g117; omega
                have S127 : Sta F108 ([(a115, HO.lst (v109 ++ [V.int x107])), (a3, HO.dK v91)] ++ R) _ := S112.set 0 rfl _
                exact ⟨_, (S112.get 0 rfl), hlt, F108, _, (acc110 ++ [x107]), r122, s111, S127, LR.snoc hl113 rfl, by rw [List.length_append]; exact Nat.succ_le_succ hn114, hr124, by rw [List.append_assoc]; exact hy106.trans (congrArg (acc110 ++ ·) hc125)⟩
              · revert hm; refine ifFI c126 fun hm => ?_
                refine goF c126 ?_
                obtain rfl := Option.some.inj hm
                exact ⟨F108, _, acc110, r122, s111, S112, hl113, Nat.le_succ_of_le hn114, hr124, hy106.trans (congrArg (acc110 ++ ·) hc125)⟩
            rintro H2 ⟨F108, v109, acc110, r104, s111, S112, hl113, hn114, hr105, hy106⟩
            rw [LR.dropEnd hl100] at hr105
            obtain rfl := Option.some.inj hr105
            rw [List.append_nil] at hy106
            subst hy106
            have S128 : Sta F108 ([(a115, HO.lst v109), (a3, HO.dK v91)] ++ R) _ := S112
            refine hN102 _ _ ?_
            refine seqI fun N129 hN130 => ?_
            refine ⟨_, rfl, (by show 0 ≤ sizeLine; decide), ?_⟩
            clear S112
            intro a131 np132
            have hl133 : LR (rInt F108) [] ([] : (List Int)) := trivial
            have S134 : Sta F108 ([(a131, HO.lst []), (a115, HO.lst v109), (a3, HO.dK v91)] ++ R) _ := S128.new np132 _
            refine ⟨_, _, (dat_dp (K := K) (r := (rLst K rInt)) ⟨_, _, rfl, (SqL.of (S134.get 1 rfl)), LR.mono hl113 S134.sub⟩), (dat_dp (K := K) (r := (rLst K rInt)) ⟨_, _, rfl, (SqL.of (S134.get 0 rfl)), LR.mono hl133 S134.sub⟩), (dat_shaped (K := K) (r := (rLst K rInt)) (Nat.le_of_ble_eq_true rfl) _ (DPl.pl _)), (dat_shaped (K := K) (r := (rLst K rInt)) (Nat.le_of_ble_eq_true rfl) _ (DPl.pl _)), ?_⟩
            clear S128
            rw [dat_eqv (K := K) (r := (rLst K rInt)) ((x93.filter fun x107 => (!(mget st3 ((0 : Int) - x107)).isSome)).map fun x107 => x107) ([] : (List Int))]
            refine ⟨_, rfl, ?_⟩
            by_cases c135 : (decide (((x93.filter fun x107 => (!(mget st3 ((0 : Int) - x107)).isSome)).map fun x107 => x107) = ([] : (List Int)))) = true
            · revert hm; refine ifTI c135 fun hm => ?_
              refine goT c135 ?_
              obtain rfl := Option.some.inj hm
              have hm := hm62
              obtain rfl := Option.some.inj hm
              have hm := hm43
              obtain rfl := Option.some.inj hm
              have S136 : Sta F108 ([] ++ R) _ := S134.pick [] (by decide) rfl
              exact kk _ _ V.non [] (s29.trans (s45.trans (s86.trans s111))) S136 ⟨rfl, rfl⟩
            · revert hm; refine ifFI c135 fun hm => ?_
              refine goF c135 ?_
              refine hN130 _ _ ?_
              revert hm; refine grdI fun g151 hm => ?_
              revert hm; refine bndI fun y167 e137 hm => ?_
              refine ⟨_, rfl, _, rfl, ⟨_, (SqL.of (S134.get 1 rfl))⟩, fun a149 np150 => lc_list (K := K) (a := a115) (xs := v109) (fun i H2 => ∃ (F142 : Hp) (v143 : List V) (acc144 : List Int) (r138 : List Int), Same F108 F142 ∧ Sta F142 ([(a149, HO.lst v143), (a131, HO.lst []), (a115, HO.lst v109), (a3, HO.dK v91)] ++ R) H2 ∧ LR (rInt F142) v143 acc144 ∧ acc144.length ≤ i ∧ lcO (fun x141 => (atI ((x93.filter fun x107 => (!(mget st3 ((0 : Int) - x107)).isSome)).map fun x107 => x107) (0 : Int)).bind fun y160 =>
      if (!decide (x141 = y160)) = true then (some (some x141)) else some none) (List.drop i ((x93.filter fun x107 => (!(mget st3 ((0 : Int) - x107)).isSome)).map fun x107 => x107)) = some r138 ∧ y167 = acc144 ++ r138) ⟨F108, [], [], _, Same.refl _, S134.new np150 _, trivial, Nat.le_refl _, e137, rfl⟩ (by rintro i H2 _ ⟨F142, v143, acc144, r138, s145, S146, hl147, hn148, hr139, hy140⟩; exact (SqL.of (S146.get 2 rfl))) ?_ ?_⟩
              · rintro i v152 H2 hi ⟨F142, v143, acc144, r138, s145, S146, hl147, hn148, hr139, hy140⟩
                obtain ⟨x141, hx153, rx154⟩ := LR.getV hl113 hi
                rw [drop_cons hx153] at hr139
                revert hr139; refine lcI fun y155 r156 hm hr158 hc159 => ?_
                obtain rfl := rInt_e rx154
                refine ⟨rfl, ?_⟩
                revert hm; refine bndI fun y160 e161 hm => ?_
                obtain ⟨v162, ev163, rv164⟩ := LR.atI hl113 e161
                obtain rfl := rInt_e rv164
                refine ⟨_, rfl, _, rfl, _, _, _, _, rfl, rfl, (SqL.of (S146.get 2 rfl)), ev163, _, _, rfl, rfl, _, rfl, ?_⟩
                by_cases c165 : (!decide (x141 = y160)) = true
                · revert hm; refine ifTI c165 fun hm => ?_
                  refine goT c165 ?_
                  refine ⟨_, rfl, ?_⟩
                  obtain rfl := Option.some.inj hm
                  have hlt : v143.length < 16777216 := by rw [LR.length hl147]; have := (List.getElem?_eq_some_iff.mp hx153).1; have := of_decide_eq_true g151; omega
                  have S166 : Sta F142 ([(a149, HO.lst (v143 ++ [V.int x141])), (a131, HO.lst []), (a115, HO.lst v109), (a3, HO.dK v91)] ++ R) _ := S146.set 0 rfl _
                  exact ⟨_, (S146.get 0 rfl), hlt, F142, _, (acc144 ++ [x141]), r156, s145, S166, LR.snoc hl147 rfl, by rw [List.length_append]; exact Nat.succ_le_succ hn148, hr158, by rw [List.append_assoc]; exact hy140.trans (congrArg (acc144 ++ ·) hc159)⟩
                · revert hm; refine ifFI c165 fun hm => ?_
                  refine goF c165 ?_
                  obtain rfl := Option.some.inj hm
                  exact ⟨F142, _, acc144, r156, s145, S146, hl147, Nat.le_succ_of_le hn148, hr158, hy140.trans (congrArg (acc144 ++ ·) hc159)⟩
              rintro H2 ⟨F142, v143, acc144, r138, s145, S146, hl147, hn148, hr139, hy140⟩
              rw [LR.dropEnd hl113] at hr139
              obtain rfl := Option.some.inj hr139
              rw [List.append_nil] at hy140
              subst hy140
              have S168 : Sta F142 ([(a149, HO.lst v143), (a131, HO.lst []), (a115, HO.lst v109), (a3, HO.dK v91)] ++ R) _ := S146
              refine ⟨(by show 0 ≤ sizeLine; decide), ?_⟩
              clear S146
              intro a169 np170
              have hl171 : LR (rInt F142) [] ([] : (List Int)) := trivial
              have S172 : Sta F142 ([(a169, HO.lst []), (a149, HO.lst v143), (a131, HO.lst []), (a115, HO.lst v109), (a3, HO.dK v91)] ++ R) _ := S168.new np170 _
              refine ⟨_, _, (dat_dp (K := K) (r := (rLst K rInt)) ⟨_, _, rfl, (SqL.of (S172.get 1 rfl)), LR.mono hl147 S172.sub⟩), (dat_dp (K := K) (r := (rLst K rInt)) ⟨_, _, rfl, (SqL.of (S172.get 0 rfl)), LR.mono hl171 S172.sub⟩), (dat_shaped (K := K) (r := (rLst K rInt)) (Nat.le_of_ble_eq_true rfl) _ (DPl.pl _)), (dat_shaped (K := K) (r := (rLst K rInt)) (Nat.le_of_ble_eq_true rfl) _ (DPl.pl _)), ?_⟩
              clear S168
              rw [dat_eqv (K := K) (r := (rLst K rInt)) y167 ([] : (List Int))]
              refine ⟨_, rfl, ?_⟩
              by_cases c173 : (decide (y167 = ([] : (List Int)))) = true
              · revert hm; refine ifTI c173 fun hm => ?_
                refine goT c173 ?_
                revert hm; refine bndI fun y174 e175 hm => ?_
                obtain ⟨v176, ev177, rv178⟩ := LR.atI hl113 e175
                obtain rfl := rInt_e rv178
                revert hm; refine grdI fun g179 hm => ?_
                refine ⟨_, rfl, _, rfl, _, _, _, _, rfl, rfl, (SqL.of (S172.get 3 rfl)), ev177, _, _, rfl, (DPut.k (k := Sum.inl y174) (S172.get 4 rfl) (by rw [KR.length (KR.mono hl92 (s111.trans s145))]; exact of_decide_eq_true g179)), ?_⟩
                have hl180 : KR Sum.inl (rBool F142) (putK v91 (Sum.inl y174) (V.bl true)) (mput st3 y174 true) := KR.put (KR.mono hl92 (s111.trans s145)) kinj_int rfl
                have S181 : Sta F142 ([(a169, HO.lst []), (a149, HO.lst v143), (a131, HO.lst []), (a115, HO.lst v109), (a3, HO.dK (putK v91 (Sum.inl y174) (V.bl true)))] ++ R) _ := S172.set 4 rfl _
                have S182 : Sta F142 ([(a3, HO.dK (putK v91 (Sum.inl y174) (V.bl true)))] ++ R) _ := S181.pick [4] (by decide) rfl
                exact ⟨(mput st3 y174 true), F142, (putK v91 (Sum.inl y174) (V.bl true)), _, _, _, rfl, (s86.trans (s111.trans s145)), S182, hl180, hm⟩
              · revert hm; refine ifFI c173 fun hm => ?_
                refine goF c173 ?_
                have S183 : Sta F142 ([(a3, HO.dK v91)] ++ R) _ := S172.pick [4] (by decide) rfl
                exact ⟨st3, F142, v91, _, _, _, rfl, (s86.trans (s111.trans s145)), S183, (KR.mono hl92 (s111.trans s145)), hm⟩
          · rintro σ H2 ⟨st3, F85, v91, o88, o89, o90, rfl, s86, S87, hl92, hm⟩
            rw [LR.dropEnd hl_clauses0, m_law_forced_l3] at hm
            obtain rfl := Option.some.inj hm
            have hm := hm62
            refine hN59 _ _ ?_
            refine ⟨_, rfl, _, _, rfl, (S87.get 0 rfl), ?_⟩
            rw [KR.length hl92]
            refine ⟨_, rfl, _, _, rfl, rfl, _, rfl, ?_⟩
            by_cases c184 : (decide ((st3.length : Int) = (st2.length : Int))) = true
            · revert hm; refine ifTI c184 fun hm => ?_
              refine goT c184 ?_
              exact ⟨st3, F85, v91, _, _, _, _, _, rfl, (s45.trans s86), S87, hl92, Option.some.inj hm⟩
            · revert hm; refine ifFI c184 fun hm => ?_
              refine goF c184 ?_
              exact ⟨st3, F85, v91, _, _, _, _, _, rfl, (s45.trans s86), S87, hl92, hm⟩
        · rintro σ H2 ⟨st2, F44, v52, o47, o48, o49, o50, o51, rfl, s45, S46, hl53, hm⟩
          rw [drop_rng, m_law_forced_l2] at hm
          exact ⟨st2, F44, v52, _, _, _, _, _, rfl, s45, S46, hl53, Option.some.inj hm⟩
      · rintro σ H2 ⟨st2, F44, v52, o47, o48, o49, o50, o51, rfl, s45, S46, hl53, rfl⟩
        have hm := hm43
        refine seqI fun N185 hN186 => ?_
        refine ⟨_, _, (S46.get 0 rfl), trivial, fun od190 => ?_⟩
        have S191 : Sta F44 ([(a3, HO.frz od190 (HO.dK v52))] ++ R) _ := S46.set 0 rfl _
        revert hm; refine bndI fun y187 e188 hm189 => ?_
        refine ⟨_, rfl, _, _, rfl, .inl ⟨_, (S191.get 0 rfl), for_keys (kvs := v52) (fun i σ H2 => ∃ (st4 : Unit) (F204 : Hp) (o207 : Option V), σ = [some (V.ref a_clauses0), some (V.ref a_given0), some (V.ref a3), o207, o48, o49, o50, o51] ∧ Same F44 F204 ∧ Sta F204 ([(a3, HO.frz od190 (HO.dK v52))] ++ R) H2 ∧ m_law_forced_l4 st2 (List.drop i (st2.map fun (q : Int × Bool) => q.1)) st4 = some y187) ⟨(), F44, _, rfl, (Same.refl _), S191, e188⟩ (by rintro i σ H2 ⟨st4, F204, o207, rfl, s205, S206, _⟩; exact S206.get 0 rfl) ?_ ?_⟩⟩
        clear S46
        · rintro i v209 σ H2 hi ⟨st4, F204, o207, rfl, s205, S206, hm⟩
          obtain ⟨x208, hx210, rx211⟩ := LR.getV (KR.keysLI (F := F44) hl53) hi
          rw [drop_cons hx210, m_law_forced_l4] at hm
          obtain rfl := rInt_e rx211
          refine ⟨_, rfl, _, _, rfl, rfl, _, rfl, _, _, rfl, (DGet.kf (k := Sum.inl ((0 : Int) - x208)) (S206.get 0 rfl)), ?_⟩
          rw [show _ = (mget st2 ((0 : Int) - x208)).isSome from (KR.some_eq (KR.mono hl53 s205) (kinj_int) ((0 : Int) - x208))]
          refine ⟨_, rfl, ?_⟩
          by_cases c212 : (mget st2 ((0 : Int) - x208)).isSome = true
          · revert hm; refine ifTI c212 fun hm => ?_
            refine goT c212 ?_
            obtain rfl := Option.some.inj hm
            have hm := hm189
            refine ⟨(S206.get 0 rfl), ?_⟩
            have S213 : Sta F204 ([(a3, HO.dK v52)] ++ R) _ := S206.set 0 rfl _
            obtain rfl := Option.some.inj hm
            have S214 : Sta F204 ([] ++ R) _ := S213.pick [] (by decide) rfl
            exact kk _ _ V.non [] (s29.trans (s45.trans s205)) S214 ⟨rfl, rfl⟩
          · revert hm; refine ifFI c212 fun hm => ?_
            refine goF c212 ?_
            exact ⟨(), F204, _, rfl, s205, S206, hm⟩
        · rintro σ H2 ⟨st4, F204, o207, rfl, s205, S206, hm⟩
          rw [LR.dropEnd (KR.keysLI (F := F44) hl53), m_law_forced_l4] at hm
          obtain rfl := Option.some.inj hm
          have hm := hm189
          refine ⟨(S206.get 0 rfl), ?_⟩
          have S215 : Sta F204 ([(a3, HO.dK v52)] ++ R) _ := S206.set 0 rfl _
          refine hN186 _ _ ?_
          refine ⟨_, _, (S215.get 0 rfl), trivial, fun od216 => ?_⟩
          have S217 : Sta F204 ([(a3, HO.frz od216 (HO.dK v52))] ++ R) _ := S215.set 0 rfl _
          revert hm; refine grdI fun g232 hm => ?_
          have e218 : lcO (fun x222 => some (some x222)) (st2.map fun (q : Int × Bool) => q.1) = some ((st2.map fun (q : Int × Bool) => q.1).map fun x222 => x222) := lc_map (fun x222 => x222) (st2.map fun (q : Int × Bool) => q.1)
          refine ⟨_, rfl, _, _, rfl, .inl ⟨_, (S217.get 0 rfl), fun a230 np231 => lc_keys (kvs := v52) (fun i H2 => ∃ (F223 : Hp) (v224 : List V) (acc225 : List Int) (r219 : List Int), Same F204 F223 ∧ Sta F223 ([(a230, HO.lst v224), (a3, HO.frz od216 (HO.dK v52))] ++ R) H2 ∧ LR (rInt F223) v224 acc225 ∧ acc225.length ≤ i ∧ lcO (fun x222 => some (some x222)) (List.drop i (st2.map fun (q : Int × Bool) => q.1)) = some r219 ∧ ((st2.map fun (q : Int × Bool) => q.1).map fun x222 => x222) = acc225 ++ r219) ⟨F204, [], [], _, Same.refl _, S217.new np231 _, trivial, Nat.le_refl _, e218, rfl⟩ (by rintro i H2 _ ⟨F223, v224, acc225, r219, s226, S227, hl228, hn229, hr220, hy221⟩; exact S227.get 1 rfl) ?_ ?_⟩⟩
          clear S206 S215
          · rintro i v233 H2 hi ⟨F223, v224, acc225, r219, s226, S227, hl228, hn229, hr220, hy221⟩
            obtain ⟨x222, hx234, rx235⟩ := LR.getV (KR.keysLI (F := F204) (KR.mono hl53 s205)) hi
            rw [drop_cons hx234] at hr220
            revert hr220; refine lcI fun y236 r237 hm hr239 hc240 => ?_
            obtain rfl := rInt_e rx235
            refine ⟨rfl, ?_⟩
            refine tYesI ?_
            rw [if_pos rfl]
            refine ⟨_, rfl, ?_⟩
            obtain rfl := Option.some.inj hm
            have hlt : v224.length < 16777216 := by rw [LR.length hl228]; have := (List.getElem?_eq_some_iff.mp hx234).1; have := of_decide_eq_true g232; omega
            have S241 : Sta F223 ([(a230, HO.lst (v224 ++ [V.int x222])), (a3, HO.frz od216 (HO.dK v52))] ++ R) _ := S227.set 0 rfl _
            exact ⟨_, (S227.get 0 rfl), hlt, F223, _, (acc225 ++ [x222]), r237, s226, S241, LR.snoc hl228 rfl, by rw [List.length_append]; exact Nat.succ_le_succ hn229, hr239, by rw [List.append_assoc]; exact hy221.trans (congrArg (acc225 ++ ·) hc240)⟩
          rintro H2 ⟨F223, v224, acc225, r219, s226, S227, hl228, hn229, hr220, hy221⟩
          rw [LR.dropEnd (KR.keysLI (F := F204) (KR.mono hl53 s205))] at hr220
          obtain rfl := Option.some.inj hr220
          rw [List.append_nil] at hy221
          subst hy221
          have S242 : Sta F223 ([(a230, HO.lst v224), (a3, HO.frz od216 (HO.dK v52))] ++ R) _ := S227
          refine ⟨(S242.get 1 rfl), ?_⟩
          have S243 : Sta F223 ([(a230, HO.lst v224), (a3, HO.dK v52)] ++ R) _ := S242.set 1 rfl _
          refine ⟨_, ((st2.map fun (q : Int × Bool) => q.1).map fun x222 => x222), rfl, (by rw [← lr_map hl228]; exact (SqL.of (S243.get 0 rfl))), ?_⟩
          clear S227 S242
          intro ys244 a245 pm246 pw247 np248
          obtain rfl := sortI_eq pm246 pw247
          have hl249 : LR (rInt F223) ((sortI ((st2.map fun (q : Int × Bool) => q.1).map fun x222 => x222)).map V.int) (sortI ((st2.map fun (q : Int × Bool) => q.1).map fun x222 => x222)) := lr_ints _
          have S250 : Sta F223 ([(a245, HO.lst ((sortI ((st2.map fun (q : Int × Bool) => q.1).map fun x222 => x222)).map V.int)), (a230, HO.lst v224), (a3, HO.dK v52)] ++ R) _ := S243.new np248 _
          obtain rfl := Option.some.inj hm
          have S251 : Sta F223 ([(a245, HO.lst ((sortI ((st2.map fun (q : Int × Bool) => q.1).map fun x222 => x222)).map V.int))] ++ R) _ := S250.pick [0] (by decide) rfl
          exact kk _ _ (V.ref a245) [(a245, HO.lst ((sortI ((st2.map fun (q : Int × Bool) => q.1).map fun x222 => x222)).map V.int))] (s29.trans (s45.trans (s205.trans s226))) S251 ⟨_, _, rfl, rfl, hl249⟩

def sp_Pusher_push (T : Txt K mg) : Sp := fun vs H Q _ => ∃ (F0 : Hp) (R : Own) (a_self0 : Addr) (dx_self0 : Addr) (x_self0 : M_Pusher) (a_self0_clauses0 : Addr) (v_self0_clauses0 : List V) (a_self0_places0 : Addr) (v_self0_places0 : List (Key × V)) (a_self0_starts0 : Addr) (v_self0_starts0 : List V) (x_literal0 : Int) (a_known0 : Addr) (v_known0 : List (Key × V)) (x_known0 : (List (Int × Bool))) (a_open_counts0 : Addr) (v_open_counts0 : List (Key × V)) (x_open_counts0 : (List (Int × Int))) (r : ((List Int) × (List (Int × Bool)) × (List (Int × Int)))),
  vs = [V.ref a_self0, V.int x_literal0, V.ref a_known0, V.ref a_open_counts0] ∧ (ov F0 R) a_self0 = some (HO.ins T.a_Pusher dx_self0 (fl_Pusher (V.ref a_self0_clauses0) (V.ref a_self0_places0) (V.ref a_self0_starts0) (V.bl x_self0.empty))) ∧ (ov F0 R) a_self0_clauses0 = some (HO.lst v_self0_clauses0) ∧ LR ((rLst K rInt) F0) v_self0_clauses0 x_self0.clauses ∧ (ov F0 R) a_self0_places0 = some (HO.dK v_self0_places0) ∧ KR Sum.inl (vw (roM rInt) (ov F0 R) F0) v_self0_places0 x_self0.places ∧ (ov F0 R) a_self0_starts0 = some (HO.lst v_self0_starts0) ∧ LR (rInt F0) v_self0_starts0 x_self0.starts ∧ KR Sum.inl (rBool F0) v_known0 x_known0 ∧ KR Sum.inl (rInt F0) v_open_counts0 x_open_counts0 ∧ Sta F0 ([(a_known0, HO.dK v_known0), (a_open_counts0, HO.dK v_open_counts0)] ++ R) H ∧ m_Pusher_push x_self0 x_literal0 x_known0 x_open_counts0 = some r ∧ ∀ (F1 : Hp) (H1 : Hp) (v_known0p : List (Key × V)) (v_open_counts0p : List (Key × V)) (a_ret0p : Addr) (v_ret0p : List V), Same F0 F1 → Sta F1 ([(a_ret0p, HO.lst v_ret0p), (a_known0, HO.dK v_known0p), (a_open_counts0, HO.dK v_open_counts0p)] ++ R) H1 → KR Sum.inl (rBool F1) v_known0p r.2.1 → KR Sum.inl (rInt F1) v_open_counts0p r.2.2 → LR (rInt F1) v_ret0p r.1 → Q (V.ref a_ret0p) H1

theorem ok_Pusher_push (T : Txt K mg) : FnOk P w K mg base CX0 1 T.a_Pusher_push T.d_Pusher_push ["self", "literal", "known", "open_counts"] (sp_Pusher_push T) := by
  refine T.F_Pusher_push.ok sc_Pusher_push (fun vs H Q E h => ?_) (fun cdv A outer s H vs Q E hr h => ?_)
  · obtain ⟨_, _, _, _, _, _, _, _, _, _, _, _, _, _, _, _, _, _, _, rfl, _⟩ := h
    rfl
  · obtain ⟨F0, R, a_self0, dx_self0, x_self0, a_self0_clauses0, v_self0_clauses0, a_self0_places0, v_self0_places0, a_self0_starts0, v_self0_starts0, x_literal0, a_known0, v_known0, x_known0, a_open_counts0, v_open_counts0, x_open_counts0, r, rfl, hs_self0, hs_self0_clauses0, hl_self0_clauses0, hs_self0_places0, hl_self0_places0, hs_self0_starts0, hl_self0_starts0, hl_known0, hl_open_counts0, S0, hm, kk⟩ := h
    have hu := hu_of hr
    unfold m_Pusher_push at hm
    refine ⟨_, (pss_cons (ps_dput hu (pv 2) (pv 1) pe_bl rfl) (pss_cons (ps_set (i := 4) sc_Pusher_push.nd rfl (Or.inl rfl) (pe_lst pa_nil)) (pss_cons (ps_for PassesOwn.never rfl (pi_list (pe_dget2 hu (pe_fld (pv 0) rfl) (pe_un un_neg (pv 1)) (pe_lst pa_nil) ⟨rfl, rfl, rfl, rfl⟩)) (pg_name (i := 5) sc_Pusher_push.nd rfl (Or.inl rfl)) (pss_cons (ps_dput hu (pv 3) (pv 5) (pe_op op_sub (pe_dget2 hu (pv 3) (pv 5) (pe_callB call_len_seq (by rfl) T.z_len PySem.boot_len (pa_cons (pe_ix ix_list (pe_fld (pv 0) rfl) (pv 5) (fun _ _ => rfl)) pa_nil)) ⟨rfl, rfl, rfl, rfl⟩) pe_int) rfl) (pss_one (ps_if (pt_cmpR oI_eq (pe_dget hu (pv 3) (pv 5) (fun _ _ => rfl)) pe_int (nomark _)) (pss_one (ps_expr (pe_bm PySem.F.plainAttrs_list PySem.F.slot_list_extend PySem.F.type_list_extend mt_extend (pv 4) (pa_cons (pe_lc (own := [("one", 6)]) rfl sc_Pusher_push.nd (pi_list (pe_ix ix_list (pe_fld (pv 0) rfl) (pv 5) (fun _ _ => rfl))) (blkOk_by (own := [("one", 6)]) (N := ["self", "literal", "known", "open_counts", "found", "k", "one"]) (sc := defScope s_Pusher_push) (by decide +kernel)) (fun _ _ _ _ _ => (pg_name (i := 6) sc_Pusher_push.nd rfl (Or.inl rfl))) (fun _ _ _ _ _ => (pts_one (pt_cmp (pc_dnotin hu (pe_un un_neg (pv 6)) (pv 2))))) (fun _ _ _ _ _ => (pv 6))) pa_nil)))) pss_nil)))) (pss_one (ps_ret (pv 4)))))), ?_⟩
    refine seqI fun N1 hN2 => ?_
    revert hm; refine grdI fun g3 hm => ?_
    refine ⟨_, rfl, _, rfl, _, _, rfl, (DPut.k (k := Sum.inl x_literal0) (S0.get 0 rfl) (by rw [KR.length hl_known0]; exact of_decide_eq_true g3)), ?_⟩
    have hl4 : KR Sum.inl (rBool F0) (putK v_known0 (Sum.inl x_literal0) (V.bl true)) (mput x_known0 x_literal0 true) := KR.put hl_known0 kinj_int rfl
    have S5 : Sta F0 ([(a_known0, HO.dK (putK v_known0 (Sum.inl x_literal0) (V.bl true))), (a_open_counts0, HO.dK v_open_counts0)] ++ R) _ := S0.set 0 rfl _
    refine hN2 _ _ ?_
    refine seqI fun N6 hN7 => ?_
    refine ⟨(by show 0 ≤ sizeLine; decide), ?_⟩
    clear S0
    intro a8 np9
    have hl10 : LR (rInt F0) [] ([] : (List Int)) := trivial
    have S11 : Sta F0 ([(a8, HO.lst []), (a_known0, HO.dK (putK v_known0 (Sum.inl x_literal0) (V.bl true))), (a_open_counts0, HO.dK v_open_counts0)] ++ R) _ := S5.new np9 _
    refine hN7 _ _ ?_
    refine seqI fun N12 hN13 => ?_
    refine ⟨_, rfl, _, _, _, _, _, rfl, (S11.bor (Same.refl _) (fun _ q => (List.mem_append_right _ q)) _ _ hs_self0), T.cl_Pusher, T.n_Pusher_places, fl_Pusher_places, _, rfl, (.inl ⟨_, .inl (S11.bor (Same.refl _) (fun _ q => (List.mem_append_right _ q)) _ _ hs_self0_places0)⟩), _, rfl, _, rfl, (by show 0 ≤ sizeLine; decide), ?_⟩
    clear S5
    intro a17 np18
    obtain ⟨F19, s20, S21, h22⟩ : ∃ F', Same F0 F' ∧ Sta F' ([(a8, HO.lst []), (a_known0, HO.dK (putK v_known0 (Sum.inl x_literal0) (V.bl true))), (a_open_counts0, HO.dK v_open_counts0)] ++ R) _ ∧ F' a17 = some (HO.lst []) := ⟨_, S11.sameF np18 _, S11.newF np18 _, upd_same⟩
    refine ⟨_, (DGet.k (k := Sum.inl (-x_literal0)) (S21.bor s20 (fun _ q => (List.mem_append_right _ q)) _ _ hs_self0_places0)), ?_⟩
    clear S11
    obtain ⟨a23, v24, e25, hs26, hl27⟩ := getL (K := K) (KR.vmono hl_self0_places0 ((Sta.dropL (cs := [(a8, HO.lst []), (a_known0, HO.dK (putK v_known0 (Sum.inl x_literal0) (V.bl true))), (a_open_counts0, HO.dK v_open_counts0)]) (ds := R) S21).ovR s20 fun _ q => q) s20) kinj_int (-x_literal0) (SqL.mono (SqL.of h22) (Sta.dropL (cs := [(a8, HO.lst []), (a_known0, HO.dK (putK v_known0 (Sum.inl x_literal0) (V.bl true))), (a_open_counts0, HO.dK v_open_counts0)]) (ds := R) S21).ovS)
    rw [e25]
    revert hm; refine bndI fun y14 e15 hm16 => ?_
    refine ⟨_, rfl, ⟨_, (SqL.mono hs26 (S21.bor (Same.refl _) (fun _ q => (List.mem_append_right _ q))))⟩, for_list (K := K) (a := a23) (xs := v24) (fun i σ H2 => ∃ (st1 : ((List Int) × (List (Int × Int)))) (F51 : Hp) (v56 : List V) (v58 : List (Key × V)) (o54 : Option V) (o55 : Option V), σ = [some (V.ref a_self0), some (V.int x_literal0), some (V.ref a_known0), some (V.ref a_open_counts0), some (V.ref a8), o54, o55] ∧ Same F19 F51 ∧ Sta F51 ([(a8, HO.lst v56), (a_known0, HO.dK (putK v_known0 (Sum.inl x_literal0) (V.bl true))), (a_open_counts0, HO.dK v58)] ++ R) H2 ∧ LR (rInt F51) v56 st1.1 ∧ KR Sum.inl (rInt F51) v58 st1.2 ∧ m_Pusher_push_l1 x_self0 x_literal0 x_known0 (List.drop i ((mget x_self0.places (-x_literal0)).getD [])) st1 = some y14) ⟨(([] : (List Int)), x_open_counts0), F19, [], v_open_counts0, _, _, rfl, (Same.refl _), S21, (hl10.mono s20), (KR.mono hl_open_counts0 s20), e15⟩ (by rintro i σ H2 _ ⟨st1, F51, v56, v58, o54, o55, rfl, s52, S53, hl57, hl59, _⟩; exact (SqL.mono hs26 (S53.bor s52 (fun _ q => (List.mem_append_right _ q))))) ?_ ?_⟩
    · rintro i v61 σ H2 hi ⟨st1, F51, v56, v58, o54, o55, rfl, s52, S53, hl57, hl59, hm⟩
      obtain ⟨x60, hx62, rx63⟩ := LR.getV hl27 hi
      rw [drop_cons hx62, m_Pusher_push_l1] at hm
      obtain rfl := rInt_e rx63
      refine seqI fun N64 hN65 => ?_
      revert hm; refine bndI fun y66 e67 hm => ?_
      obtain ⟨v68, ev69, rv70⟩ := LR.atI hl_self0_clauses0 e67
      obtain ⟨a71, v72, rfl, hs73, hl74⟩ := rv70
      refine ⟨_, rfl, _, rfl, (.inl ⟨_, .inl (S53.get 2 rfl)⟩), _, rfl, _, rfl, _, _, _, _, _, rfl, (S53.bor (s20.trans s52) (fun _ q => (List.mem_append_right _ q)) _ _ hs_self0), T.cl_Pusher, T.n_Pusher_clauses, fl_Pusher_clauses, _, rfl, _, _, _, _, rfl, rfl, (SqL.mono (SqL.of hs_self0_clauses0) (S53.bor (s20.trans s52) (fun _ q => (List.mem_append_right _ q)))), ev69, _, _, rfl, .inl (SqL.mono hs73 ((s20.trans s52).trans S53.sub)), ?_⟩
      rw [LR.length (hl74.mono (s20.trans s52))]
      refine ⟨_, (DGet.k (k := Sum.inl x60) (S53.get 2 rfl)), ?_⟩
      rw [show _ = V.int ((mget st1.2 x60).getD (y66.length : Int)) from KR.getD_int hl59 kinj_int x60 (y66.length : Int)]
      revert hm; refine grdI fun g75 hm => ?_
      refine ⟨_, _, rfl, rfl, _, rfl, _, rfl, _, _, rfl, (DPut.k (k := Sum.inl x60) (S53.get 2 rfl) (by rw [KR.length hl59]; exact of_decide_eq_true g75)), ?_⟩
      have hl76 : KR Sum.inl (rInt F51) (putK v58 (Sum.inl x60) (V.int (((mget st1.2 x60).getD (y66.length : Int)) - (1 : Int)))) (mput st1.2 x60 (((mget st1.2 x60).getD (y66.length : Int)) - (1 : Int))) := KR.put hl59 kinj_int rfl
      have S77 : Sta F51 ([(a8, HO.lst v56), (a_known0, HO.dK (putK v_known0 (Sum.inl x_literal0) (V.bl true))), (a_open_counts0, HO.dK (putK v58 (Sum.inl x60) (V.int (((mget st1.2 x60).getD (y66.length : Int)) - (1 : Int)))))] ++ R) _ := S53.set 2 rfl _
      refine hN65 _ _ ?_
      revert hm; refine bndI fun y78 e79 hm => ?_
      obtain ⟨v80, ev81, rv82⟩ := KR.get hl76 kinj_int e79
      obtain rfl := rInt_e rv82
      refine ⟨_, rfl, _, rfl, _, _, rfl, (dget_of (DGet.k (k := Sum.inl x60) (S77.get 2 rfl)) ev81), _, _, rfl, rfl, _, rfl, ?_⟩
      clear S53
      by_cases c83 : (decide (y78 = (1 : Int))) = true
      · revert hm; refine ifTI c83 fun hm => ?_
        refine goT c83 ?_
        revert hm; refine bndI fun y84 e85 hm => ?_
        obtain ⟨v86, ev87, rv88⟩ := LR.atI hl_self0_clauses0 e85
        obtain ⟨a89, v90, rfl, hs91, hl92⟩ := rv88
        revert hm; refine grdI fun g107 hm => ?_
        have e93 : lcO (fun x97 => if (!(mget (mput x_known0 x_literal0 true) (-x97)).isSome) = true then (some (some x97)) else some none) y84 = some ((y84.filter fun x97 => (!(mget (mput x_known0 x_literal0 true) (-x97)).isSome)).map fun x97 => x97) := lc_filter (fun x97 => (!(mget (mput x_known0 x_literal0 true) (-x97)).isSome)) (fun x97 => x97) y84
        refine ⟨_, rfl, .inl ⟨rfl, _, (SqL.of (S77.get 0 rfl))⟩, _, rfl, _, _, _, _, _, rfl, (S77.bor (s20.trans s52) (fun _ q => (List.mem_append_right _ q)) _ _ hs_self0), T.cl_Pusher, T.n_Pusher_clauses, fl_Pusher_clauses, _, rfl, _, _, _, _, rfl, rfl, (SqL.mono (SqL.of hs_self0_clauses0) (S77.bor (s20.trans s52) (fun _ q => (List.mem_append_right _ q)))), ev87, _, rfl, ⟨_, (SqL.mono hs91 ((s20.trans s52).trans S77.sub))⟩, fun a105 np106 => lc_list (K := K) (a := a89) (xs := v90) (fun i H2 => ∃ (F98 : Hp) (v99 : List V) (acc100 : List Int) (r94 : List Int), Same F51 F98 ∧ Sta F98 ([(a105, HO.lst v99), (a8, HO.lst v56), (a_known0, HO.dK (putK v_known0 (Sum.inl x_literal0) (V.bl true))), (a_open_counts0, HO.dK (putK v58 (Sum.inl x60) (V.int (((mget st1.2 x60).getD (y66.length : Int)) - (1 : Int)))))] ++ R) H2 ∧ LR (rInt F98) v99 acc100 ∧ acc100.length ≤ i ∧ lcO (fun x97 => if (!(mget (mput x_known0 x_literal0 true) (-x97)).isSome) = true then (some (some x97)) else some none) (List.drop i y84) = some r94 ∧ ((y84.filter fun x97 => (!(mget (mput x_known0 x_literal0 true) (-x97)).isSome)).map fun x97 => x97) = acc100 ++ r94) ⟨F51, [], [], _, Same.refl _, S77.new np106 _, trivial, Nat.le_refl _, e93, rfl⟩ (by rintro i H2 _ ⟨F98, v99, acc100, r94, s101, S102, hl103, hn104, hr95, hy96⟩; exact (SqL.mono hs91 ((s20.trans (s52.trans s101)).trans S102.sub))) ?_ ?_⟩
        · rintro i v108 H2 hi ⟨F98, v99, acc100, r94, s101, S102, hl103, hn104, hr95, hy96⟩
          obtain ⟨x97, hx109, rx110⟩ := LR.getV hl92 hi
          rw [drop_cons hx109] at hr95
          revert hr95; refine lcI fun y111 r112 hm hr114 hc115 => ?_
          obtain rfl := rInt_e rx110
          refine ⟨rfl, ?_⟩
          refine ⟨_, rfl, _, rfl, _, rfl, _, _, rfl, (DGet.k (k := Sum.inl (-x97)) (S102.get 2 rfl)), ?_⟩
          rw [show _ = (!(mget (mput x_known0 x_literal0 true) (-x97)).isSome) from (congrArg (!·) (KR.some_eq (KR.mono hl4 (s20.trans (s52.trans s101))) (kinj_int) (-x97)))]
          refine ⟨_, rfl, ?_⟩
          by_cases c116 : (!(mget (mput x_known0 x_literal0 true) (-x97)).isSome) = true
          · revert hm; refine ifTI c116 fun hm => ?_
            refine goT c116 ?_
            refine ⟨_, rfl, ?_⟩
            obtain rfl := Option.some.inj hm
            have hlt : v99.length < 16777216 := by rw [LR.length hl103]; have := (List.getElem?_eq_some_iff.mp hx109).1; have := of_decide_eq_true g107; omega
            have S117 : Sta F98 ([(a105, HO.lst (v99 ++ [V.int x97])), (a8, HO.lst v56), (a_known0, HO.dK (putK v_known0 (Sum.inl x_literal0) (V.bl true))), (a_open_counts0, HO.dK (putK v58 (Sum.inl x60) (V.int (((mget st1.2 x60).getD (y66.length : Int)) - (1 : Int)))))] ++ R) _ := S102.set 0 rfl _
            exact ⟨_, (S102.get 0 rfl), hlt, F98, _, (acc100 ++ [x97]), r112, s101, S117, LR.snoc hl103 rfl, by rw [List.length_append]; exact Nat.succ_le_succ hn104, hr114, by rw [List.append_assoc]; exact hy96.trans (congrArg (acc100 ++ ·) hc115)⟩
          · revert hm; refine ifFI c116 fun hm => ?_
            refine goF c116 ?_
            obtain rfl := Option.some.inj hm
            exact ⟨F98, _, acc100, r112, s101, S102, hl103, Nat.le_succ_of_le hn104, hr114, hy96.trans (congrArg (acc100 ++ ·) hc115)⟩
        rintro H2 ⟨F98, v99, acc100, r94, s101, S102, hl103, hn104, hr95, hy96⟩
        rw [LR.dropEnd hl92] at hr95
        obtain rfl := Option.some.inj hr95
        rw [List.append_nil] at hy96
        subst hy96
        have S118 : Sta F98 ([(a105, HO.lst v99), (a8, HO.lst v56), (a_known0, HO.dK (putK v_known0 (Sum.inl x_literal0) (V.bl true))), (a_open_counts0, HO.dK (putK v58 (Sum.inl x60) (V.int (((mget st1.2 x60).getD (y66.length : Int)) - (1 : Int)))))] ++ R) _ := S102
        revert hm; refine grdI fun g119 hm => ?_
        refine ⟨_, _, _, _, rfl, rfl, (S118.get 1 rfl), (S118.get 0 rfl), (by rw [LR.length (hl57.mono s101), LR.length hl103]; exact of_decide_eq_true g119), ?_⟩
        clear S102
        have hl120 : LR (rInt F98) (v56 ++ v99) (st1.1 ++ ((y84.filter fun x97 => (!(mget (mput x_known0 x_literal0 true) (-x97)).isSome)).map fun x97 => x97)) := LR.append (hl57.mono s101) hl103
        have S121 : Sta F98 ([(a105, HO.lst v99), (a8, HO.lst (v56 ++ v99)), (a_known0, HO.dK (putK v_known0 (Sum.inl x_literal0) (V.bl true))), (a_open_counts0, HO.dK (putK v58 (Sum.inl x60) (V.int (((mget st1.2 x60).getD (y66.length : Int)) - (1 : Int)))))] ++ R) _ := S118.set 1 rfl _
        have S122 : Sta F98 ([(a8, HO.lst (v56 ++ v99)), (a_known0, HO.dK (putK v_known0 (Sum.inl x_literal0) (V.bl true))), (a_open_counts0, HO.dK (putK v58 (Sum.inl x60) (V.int (((mget st1.2 x60).getD (y66.length : Int)) - (1 : Int)))))] ++ R) _ := S121.pick [1, 2, 3] (by decide) rfl
        exact ⟨((st1.1 ++ ((y84.filter fun x97 => (!(mget (mput x_known0 x_literal0 true) (-x97)).isSome)).map fun x97 => x97)), (mput st1.2 x60 (((mget st1.2 x60).getD (y66.length : Int)) - (1 : Int)))), F98, (v56 ++ v99), (putK v58 (Sum.inl x60) (V.int (((mget st1.2 x60).getD (y66.length : Int)) - (1 : Int)))), _, _, rfl, (s52.trans s101), S122, hl120, (KR.mono hl76 s101), hm⟩
      · revert hm; refine ifFI c83 fun hm => ?_
        refine goF c83 ?_
        exact ⟨(st1.1, (mput st1.2 x60 (((mget st1.2 x60).getD (y66.length : Int)) - (1 : Int)))), F51, v56, (putK v58 (Sum.inl x60) (V.int (((mget st1.2 x60).getD (y66.length : Int)) - (1 : Int)))), _, _, rfl, s52, S77, hl57, hl76, hm⟩
    · rintro σ H2 ⟨st1, F51, v56, v58, o54, o55, rfl, s52, S53, hl57, hl59, hm⟩
      rw [LR.dropEnd hl27, m_Pusher_push_l1] at hm
      obtain rfl := Option.some.inj hm
      have hm := hm16
      refine hN13 _ _ ?_
      refine ⟨_, rfl, ?_⟩
      obtain rfl := Option.some.inj hm
      exact kk _ _ (putK v_known0 (Sum.inl x_literal0) (V.bl true)) v58 a8 v56 (s20.trans s52) S53 (KR.mono hl4 (s20.trans s52)) hl59 hl57

def sp_Pusher_forced (T : Txt K mg) : Sp := fun vs H Q _ => ∃ (F0 : Hp) (R : Own) (a_self0 : Addr) (dx_self0 : Addr) (x_self0 : M_Pusher) (a_self0_clauses0 : Addr) (v_self0_clauses0 : List V) (a_self0_places0 : Addr) (v_self0_places0 : List (Key × V)) (a_self0_starts0 : Addr) (v_self0_starts0 : List V) (a_literals0 : Addr) (v_literals0 : List V) (x_literals0 : (List Int)) (r : (Option (List Int))),
  vs = [V.ref a_self0, V.ref a_literals0] ∧ (ov F0 R) a_self0 = some (HO.ins T.a_Pusher dx_self0 (fl_Pusher (V.ref a_self0_clauses0) (V.ref a_self0_places0) (V.ref a_self0_starts0) (V.bl x_self0.empty))) ∧ (ov F0 R) a_self0_clauses0 = some (HO.lst v_self0_clauses0) ∧ LR ((rLst K rInt) F0) v_self0_clauses0 x_self0.clauses ∧ (ov F0 R) a_self0_places0 = some (HO.dK v_self0_places0) ∧ KR Sum.inl (vw (roM rInt) (ov F0 R) F0) v_self0_places0 x_self0.places ∧ (ov F0 R) a_self0_starts0 = some (HO.lst v_self0_starts0) ∧ LR (rInt F0) v_self0_starts0 x_self0.starts ∧ SqL K (ov F0 R) a_literals0 v_literals0 ∧ LR (rInt F0) v_literals0 x_literals0 ∧ Sta F0 ([] ++ R) H ∧ m_Pusher_forced x_self0 x_literals0 = some r ∧ ∀ (F1 : Hp) (H1 : Hp) (v_ret0p : V) (in_ret0p : Own), Same F0 F1 → Sta F1 ([] ++ (in_ret0p ++ R)) H1 → (roO (roM rInt)) F1 v_ret0p r in_ret0p → Q (v_ret0p) H1

theorem ok_Pusher_forced (T : Txt K mg) : FnOk P w K mg base CX0 2 T.a_Pusher_forced T.d_Pusher_forced ["self", "literals"] (sp_Pusher_forced T) := by
  refine T.F_Pusher_forced.ok sc_Pusher_forced (fun vs H Q E h => ?_) (fun cdv A outer s H vs Q E hr h => ?_)
  · obtain ⟨_, _, _, _, _, _, _, _, _, _, _, _, _, _, _, rfl, _⟩ := h
    rfl
  · obtain ⟨F0, R, a_self0, dx_self0, x_self0, a_self0_clauses0, v_self0_clauses0, a_self0_places0, v_self0_places0, a_self0_starts0, v_self0_starts0, a_literals0, v_literals0, x_literals0, r, rfl, hs_self0, hs_self0_clauses0, hl_self0_clauses0, hs_self0_places0, hl_self0_places0, hs_self0_starts0, hl_self0_starts0, hs_literals0, hl_literals0, S0, hm, kk⟩ := h
    have hu := hu_of hr
    unfold m_Pusher_forced at hm
    refine ⟨_, (pss_cons (ps_if (pt_val (pe_fld (pv 0) rfl)) (pss_one (ps_ret pe_non)) pss_nil) (pss_cons (ps_set (i := 2) sc_Pusher_forced.nd rfl (Or.inl rfl) pe_dnewK) (pss_cons (ps_set (i := 3) sc_Pusher_forced.nd rfl (Or.inl rfl) pe_dnewK) (pss_cons (ps_set (i := 4) sc_Pusher_forced.nd rfl (Or.inl rfl) (pe_op op_cat (pe_fld (pv 0) rfl) (pe_callTy call_list_of (by rfl) T.z_list (by decide +kernel) (pa_cons (pv 1) pa_nil)))) (C8.pss_cut (ps_while PassesOwn.never (pt_truth (pv 4) (by intro _; rfl)) (pss_cons (ps_set (i := 5) sc_Pusher_forced.nd rfl (Or.inl rfl) (pe_bm0 PySem.F.plainAttrs_list PySem.F.slot_list_pop PySem.F.type_list_pop mt_pop (pv 4))) (pss_cons (ps_if (pt_cmp (pc_din hu (pe_un un_neg (pv 5)) (pv 2))) (pss_one (ps_ret pe_non)) pss_nil) (pss_one (ps_if (pt_cmp (pc_dnotin hu (pv 5) (pv 2))) (pss_one (ps_expr (pe_bm PySem.F.plainAttrs_list PySem.F.slot_list_extend PySem.F.type_list_extend mt_extend (pv 4) (pa_cons (pe_meth (pv 0) T.cl_Pusher T.h_Pusher_push (ok_Pusher_push T) (hr.mono (by decide)) T.b_Pusher_push .nil pass0 (pa_cons (pv 5) (pa_cons (pv 2) (pa_cons (pv 3) pa_nil)))) pa_nil)))) pss_nil))))) (pss_one (ps_ret (pe_callB (call_sortD rfl) (by rfl) T.z_sorted (by decide +kernel) (pa_cons (pv 2) pa_nil))))))))), ?_⟩
    refine seqI fun N1 hN2 => ?_
    refine ⟨_, rfl, _, _, _, _, _, rfl, (S0.bor (Same.refl _) (fun _ q => (List.mem_append_right _ q)) _ _ hs_self0), T.cl_Pusher, T.n_Pusher_empty, fl_Pusher_empty, _, rfl, ?_⟩
    by_cases c3 : x_self0.empty = true
    · revert hm; refine ifTI c3 fun hm => ?_
      refine goT c3 ?_
      obtain rfl := Option.some.inj hm
      exact kk _ _ V.non [] (Same.refl _) S0 ⟨rfl, rfl⟩
    · revert hm; refine ifFI c3 fun hm => ?_
      refine goF c3 ?_
      refine hN2 _ _ ?_
      refine seqI fun N4 hN5 => ?_
      intro a6 np7
      have hl8 : KR Sum.inl (rBool F0) ([] : List (Key × V)) ([] : (List (Int × Bool))) := trivial
      have S9 : Sta F0 ([(a6, HO.dK [])] ++ R) _ := S0.new np7 _
      refine hN5 _ _ ?_
      refine seqI fun N10 hN11 => ?_
      clear S0
      intro a12 np13
      have hl14 : KR Sum.inl (rInt F0) ([] : List (Key × V)) ([] : (List (Int × Int))) := trivial
      have S15 : Sta F0 ([(a12, HO.dK []), (a6, HO.dK [])] ++ R) _ := S9.new np13 _
      refine hN11 _ _ ?_
      refine seqI fun N16 hN17 => ?_
      refine ⟨_, rfl, _, _, _, _, _, rfl, (S15.bor (Same.refl _) (fun _ q => (List.mem_append_right _ q)) _ _ hs_self0), T.cl_Pusher, T.n_Pusher_starts, fl_Pusher_starts, _, rfl, _, _, rfl, .inl (SqL.mono hs_literals0 (S15.bor (Same.refl _) (fun _ q => (List.mem_append_right _ q)))), ?_⟩
      clear S9
      intro a18 np19
      have hl20 := hl_literals0
      have S21 : Sta F0 ([(a18, HO.lst v_literals0), (a12, HO.dK []), (a6, HO.dK [])] ++ R) _ := S15.new np19 _
      revert hm; refine grdI fun g22 hm => ?_
      refine ⟨_, _, _, _, rfl, rfl, (S21.bor (Same.refl _) (fun _ q => (List.mem_append_right _ q)) _ _ hs_self0_starts0), (S21.get 0 rfl), (by rw [LR.length hl_self0_starts0, LR.length hl20]; exact of_decide_eq_true g22), ?_⟩
      clear S15
      intro a23 np24
      have hl25 : LR (rInt F0) (v_self0_starts0 ++ v_literals0) (x_self0.starts ++ x_literals0) := LR.append hl_self0_starts0 hl20
      have S26 : Sta F0 ([(a23, HO.lst (v_self0_starts0 ++ v_literals0)), (a18, HO.lst v_literals0), (a12, HO.dK []), (a6, HO.dK [])] ++ R) _ := S21.new np24 _
      refine hN17 _ _ ?_
      revert hm; refine bndI fun y27 e28 hm29 => ?_
      refine ⟨fun σ H2 => ∃ (st1 : ((List Int) × (List (Int × Int)) × (List (Int × Bool)))) (F30 : Hp) (v34 : List V) (v36 : List (Key × V)) (v38 : List (Key × V)) (o33 : Option V), σ = [some (V.ref a_self0), some (V.ref a_literals0), some (V.ref a6), some (V.ref a12), some (V.ref a23), o33] ∧ Same F0 F30 ∧ Sta F30 ([(a23, HO.lst v34), (a18, HO.lst v_literals0), (a12, HO.dK v36), (a6, HO.dK v38)] ++ R) H2 ∧ LR (rInt F30) v34 st1.1 ∧ KR Sum.inl (rInt F30) v36 st1.2.1 ∧ KR Sum.inl (rBool F30) v38 st1.2.2 ∧ Flw.done st1 = y27, ?_, ?_⟩
      · have hm := e28; clear e28
        refine while_fuel (fun i σ H2 => ∃ (st1 : ((List Int) × (List (Int × Int)) × (List (Int × Bool)))) (F30 : Hp) (v34 : List V) (v36 : List (Key × V)) (v38 : List (Key × V)) (o33 : Option V), σ = [some (V.ref a_self0), some (V.ref a_literals0), some (V.ref a6), some (V.ref a12), some (V.ref a23), o33] ∧ Same F0 F30 ∧ Sta F30 ([(a23, HO.lst v34), (a18, HO.lst v_literals0), (a12, HO.dK v36), (a6, HO.dK v38)] ++ R) H2 ∧ LR (rInt F30) v34 st1.1 ∧ KR Sum.inl (rInt F30) v36 st1.2.1 ∧ KR Sum.inl (rBool F30) v38 st1.2.2 ∧ m_Pusher_forced_l1 x_self0 i st1 = some y27) fuel ⟨((x_self0.starts ++ x_literals0), ([] : (List (Int × Int))), ([] : (List (Int × Bool)))), F0, (v_self0_starts0 ++ v_literals0), [], [], _, rfl, (Same.refl _), S26, hl25, hl14, hl8, hm⟩ ?_ ?_
        · rintro i σ H2 ⟨st1, F30, v34, v36, v38, o33, rfl, s31, S32, hl35, hl37, hl39, hm⟩
          rw [m_Pusher_forced_l1] at hm
          refine ⟨_, rfl, ((!st1.1.isEmpty)), (.inl ⟨_, (SqL.of (S32.get 0 rfl)), by rw [LR.isEmpty hl35]⟩), ?_⟩
          by_cases c41 : (!st1.1.isEmpty) = true
          · revert hm; refine ifTI c41 fun hm => ?_
            refine goT c41 (wh_in ?_)
            refine seqI fun N42 hN43 => ?_
            revert hm; refine bndI fun y44 e45 hm => ?_
            refine ⟨_, rfl, .inl ⟨rfl, _, (SqL.of (S32.get 0 rfl))⟩, ?_⟩
            obtain ⟨v46, ev47, rv48⟩ := LR.last hl35 e45
            obtain rfl := rInt_e rv48
            refine ⟨_, _, _, rfl, rfl, (S32.get 0 rfl), ev47, ?_⟩
            have hl49 : LR (rInt F30) v34.dropLast st1.1.dropLast := LR.dropLast hl35
            have S50 : Sta F30 ([(a23, HO.lst v34.dropLast), (a18, HO.lst v_literals0), (a12, HO.dK v36), (a6, HO.dK v38)] ++ R) _ := S32.set 0 rfl _
            refine hN43 _ _ ?_
            refine seqI fun N51 hN52 => ?_
            refine ⟨_, rfl, _, rfl, _, rfl, _, _, rfl, (DGet.k (k := Sum.inl (-y44)) (S50.get 3 rfl)), ?_⟩
            clear S32
            rw [show _ = (mget st1.2.2 (-y44)).isSome from (KR.some_eq hl39 (kinj_int) (-y44))]
            refine ⟨_, rfl, ?_⟩
            by_cases c53 : (mget st1.2.2 (-y44)).isSome = true
            · revert hm; refine ifTI c53 fun hm => ?_
              refine goT c53 ?_
              obtain rfl := Option.some.inj hm
              have hm := hm29
              obtain rfl := Option.some.inj hm
              have S54 : Sta F30 ([] ++ R) _ := S50.pick [] (by decide) rfl
              exact kk _ _ V.non [] s31 S54 ⟨rfl, rfl⟩
            · revert hm; refine ifFI c53 fun hm => ?_
              refine goF c53 ?_
              refine hN52 _ _ ?_
              refine ⟨_, rfl, _, rfl, _, _, rfl, (DGet.k (k := Sum.inl y44) (S50.get 3 rfl)), ?_⟩
              rw [show _ = (!(mget st1.2.2 y44).isSome) from (congrArg (!·) (KR.some_eq hl39 (kinj_int) y44))]
              refine ⟨_, rfl, ?_⟩
              by_cases c55 : (!(mget st1.2.2 y44).isSome) = true
              · revert hm; refine ifTI c55 fun hm => ?_
                refine goT c55 ?_
                have S56 : Sta F30 ([(a6, HO.dK v38), (a12, HO.dK v36), (a23, HO.lst v34.dropLast), (a18, HO.lst v_literals0)] ++ R) _ := S50.pick [3, 2, 0, 1] (by decide) rfl
                revert hm; refine bndI fun y57 e58 hm => ?_
                refine ⟨_, rfl, .inl ⟨rfl, _, (SqL.of (S50.get 0 rfl))⟩, _, rfl, _, _, _, rfl, (S50.bor s31 (fun _ q => (List.mem_append_right _ q)) _ _ hs_self0), fl_Pusher_no_push, _, rfl, _, rfl, _, rfl, F30, ([(a23, HO.lst v34.dropLast), (a18, HO.lst v_literals0)] ++ R), a_self0, dx_self0, x_self0, a_self0_clauses0, v_self0_clauses0, a_self0_places0, v_self0_places0, a_self0_starts0, v_self0_starts0, y44, a6, v38, st1.2.2, a12, v36, st1.2.1, _, rfl, (S56.tl.tl.ovR s31 (fun _ q => (List.mem_append_right _ q)) _ _ hs_self0), (S56.tl.tl.ovR s31 (fun _ q => (List.mem_append_right _ q)) _ _ hs_self0_clauses0), (hl_self0_clauses0.mono s31), (S56.tl.tl.ovR s31 (fun _ q => (List.mem_append_right _ q)) _ _ hs_self0_places0), (KR.vmono hl_self0_places0 (S56.tl.tl.ovR s31 (fun _ q => (List.mem_append_right _ q))) s31), (S56.tl.tl.ovR s31 (fun _ q => (List.mem_append_right _ q)) _ _ hs_self0_starts0), (hl_self0_starts0.mono s31), hl39, hl37, S56, e58, fun F59 H60 v63 v65 a67 v68 s61 S62 hl64 hl66 hl69 => ?_⟩
                clear S50
                have S70 : Sta F59 ([(a67, HO.lst v68), (a6, HO.dK v63), (a12, HO.dK v65), (a23, HO.lst v34.dropLast), (a18, HO.lst v_literals0)] ++ R) _ := S62
                revert hm; refine grdI fun g71 hm => ?_
                refine ⟨_, _, _, _, rfl, rfl, (S70.get 3 rfl), (S70.get 0 rfl), (by rw [LR.length (hl49.mono s61), LR.length hl69]; exact of_decide_eq_true g71), ?_⟩
                clear S62
                have hl72 : LR (rInt F59) (v34.dropLast ++ v68) (st1.1.dropLast ++ y57.1) := LR.append (hl49.mono s61) hl69
                have S73 : Sta F59 ([(a67, HO.lst v68), (a6, HO.dK v63), (a12, HO.dK v65), (a23, HO.lst (v34.dropLast ++ v68)), (a18, HO.lst v_literals0)] ++ R) _ := S70.set 3 rfl _
                have S74 : Sta F59 ([(a23, HO.lst (v34.dropLast ++ v68)), (a18, HO.lst v_literals0), (a12, HO.dK v65), (a6, HO.dK v63)] ++ R) _ := S73.pick [3, 4, 2, 1] (by decide) rfl
                exact ⟨((st1.1.dropLast ++ y57.1), y57.2.2, y57.2.1), F59, (v34.dropLast ++ v68), v65, v63, _, rfl, (s31.trans s61), S74, hl72, hl66, hl64, hm⟩
              · revert hm; refine ifFI c55 fun hm => ?_
                refine goF c55 ?_
                exact ⟨(st1.1.dropLast, st1.2.1, st1.2.2), F30, v34.dropLast, v36, v38, _, rfl, s31, S50, hl49, hl37, hl39, hm⟩
          · revert hm; refine ifFI c41 fun hm => ?_
            refine goF c41 ?_
            exact ⟨(st1.1, st1.2.1, st1.2.2), F30, v34, v36, v38, _, rfl, s31, S32, hl35, hl37, hl39, Option.some.inj hm⟩
        · rintro σ H2 ⟨st1, F30, v34, v36, v38, o33, rfl, s31, S32, hl35, hl37, hl39, hm⟩
          rw [m_Pusher_forced_l1] at hm
          cases hm
      · rintro σ H2 ⟨st1, F30, v34, v36, v38, o33, rfl, s31, S32, hl35, hl37, hl39, rfl⟩
        have hm := hm29
        refine ⟨_, rfl, _, _, (st1.2.2.map fun (q : Int × Bool) => q.1), rfl, (.inl (S32.get 3 rfl)), (KR.keysI hl39), ?_⟩
        intro ys75 a76 pm77 pw78 np79
        obtain rfl := sortI_eq pm77 pw78
        have hl80 : LR (rInt F30) ((sortI (st1.2.2.map fun (q : Int × Bool) => q.1)).map V.int) (sortI (st1.2.2.map fun (q : Int × Bool) => q.1)) := lr_ints _
        have S81 : Sta F30 ([(a76, HO.lst ((sortI (st1.2.2.map fun (q : Int × Bool) => q.1)).map V.int)), (a23, HO.lst v34), (a18, HO.lst v_literals0), (a12, HO.dK v36), (a6, HO.dK v38)] ++ R) _ := S32.new np79 _
        obtain rfl := Option.some.inj hm
        have S82 : Sta F30 ([(a76, HO.lst ((sortI (st1.2.2.map fun (q : Int × Bool) => q.1)).map V.int))] ++ R) _ := S81.pick [0] (by decide) rfl
        exact kk _ _ (V.ref a76) [(a76, HO.lst ((sortI (st1.2.2.map fun (q : Int × Bool) => q.1)).map V.int))] s31 S82 ⟨_, _, rfl, rfl, hl80⟩

def sp_law_same (T : Txt K mg) : Sp := fun vs H Q _ => ∃ (F0 : Hp) (R : Own) (v_actual0 : V) (x_actual0 : (Option (List Int))) (v_due0 : V) (x_due0 : (Option (List Int))) (r : Bool),
  vs = [v_actual0, v_due0] ∧ vw (roO (roM rInt)) (ov F0 R) F0 v_actual0 x_actual0 ∧ vw (roO (roM rInt)) (ov F0 R) F0 v_due0 x_due0 ∧ Sta F0 ([] ++ R) H ∧ m_law_same x_actual0 x_due0 = some r ∧ Q (V.bl r) H

theorem ok_law_same (T : Txt K mg) : FnOk P w K mg base CX0 1 T.a_law_same T.d_law_same ["actual", "due"] (sp_law_same T) := by
  refine T.F_law_same.ok sc_law_same (fun vs H Q E h => ?_) (fun cdv A outer s H vs Q E hr h => ?_)
  · obtain ⟨_, _, _, _, _, _, _, rfl, _⟩ := h
    rfl
  · obtain ⟨F0, R, v_actual0, x_actual0, v_due0, x_due0, r, rfl, hs_actual0, hs_due0, S0, hm, kk⟩ := h
    have hu := hu_of hr
    unfold m_law_same at hm
    refine ⟨_, (pss_cons (ps_if (pt_cmpR op_isN (pv 1) pe_non (nomark _)) (pss_one (ps_ret (pe_cmpR op_isN (pv 0) pe_non (nomark _)))) pss_nil) (pss_cons (ps_if (pt_pure (PW.pt (pw_or (pt_not (pt_val (pe_callB call_isi (by rfl) T.z_isinstance (by decide +kernel) (pa_cons (pv 0) (pa_cons (pe_bltn (v := .ty "list") (by rfl) T.z_list (by decide +kernel) rfl) pa_nil))))) (pw_or1 (pt_cmpR oI_ne (pe_callB call_len_seq (by rfl) T.z_len PySem.boot_len (pa_cons (pv 0) pa_nil)) (pe_callB call_len_seq (by rfl) T.z_len PySem.boot_len (pa_cons (pv 1) pa_nil)) (nomark _)))))) (pss_one (ps_ret pe_bl)) pss_nil) (pss_cons (ps_for PassesOwn.never rfl (pi_range1 rfl T.z_range (pa_cons (pe_callB call_len_seq (by rfl) T.z_len PySem.boot_len (pa_cons (pv 1) pa_nil)) pa_nil)) (pg_name (i := 2) sc_law_same.nd rfl (Or.inl rfl)) (pss_one (ps_if (pt_pure (PW.pt (pw_or (pt_not (pt_val (pe_callB call_isi (by rfl) T.z_isinstance (by decide +kernel) (pa_cons (pe_ix ix_list (pv 0) (pv 2) (fun _ _ => rfl)) (pa_cons (pe_bltn (v := .ty "int") (by rfl) T.z_int (by decide +kernel) rfl) pa_nil))))) (pw_or (pt_val (pe_callB call_isi (by rfl) T.z_isinstance (by decide +kernel) (pa_cons (pe_ix ix_list (pv 0) (pv 2) (fun _ _ => rfl)) (pa_cons (pe_bltn (v := .ty "bool") (by rfl) T.z_bool (by decide +kernel) rfl) pa_nil)))) (pw_or1 (pt_cmpR oI_ne (pe_ix ix_list (pv 0) (pv 2) (fun _ _ => rfl)) (pe_ix ix_list (pv 1) (pv 2) (fun _ _ => rfl)) (nomark _))))))) (pss_one (ps_ret pe_bl)) pss_nil))) (pss_one (ps_ret pe_bl))))), ?_⟩
    refine seqI fun N1 hN2 => ?_
    revert hm; refine optI (fun e3 hm => ?_) (fun z5 e4 hm => ?_)
    · obtain rfl := vwO_none e3 hs_due0
      refine ⟨_, rfl, rfl, _, rfl, ?_⟩
      refine iteT ?_
      refine ⟨_, rfl, rfl, ?_⟩
      rw [show _ = (x_actual0).isNone from (optV_isN (r := (roM rInt)) (F := F0) hs_actual0)]
      obtain rfl := Option.some.inj hm
      exact kk
    · skip
      have p6 := (vwO_some e4 hs_due0)
      obtain ⟨a7, v8, rfl, hs9, hl10⟩ := vw_M (K := K) p6
      refine ⟨_, rfl, rfl, _, rfl, ?_⟩
      refine iteF ?_
      refine hN2 _ _ ?_
      refine seqI fun N11 hN12 => ?_
      revert hm; refine bndI fun b13 e14 hm => ?_
      refine ⟨b13, ?_, ?_⟩
      · clear hm
        have hm := e14
        clear e14
        refine ⟨_, rfl, _, _, _, _, _, rfl, .ty _, (tyx_optV (T := "list") hs_actual0 (fun h => by obtain ⟨_, _, rfl, h1, _⟩ := vw_M (K := K) h; exact tyx_list (SqL.mono h1 (S0.bor (Same.refl _) (fun _ q => (List.mem_append_right _ q)))))), (kit_optY (by decide +kernel) (by decide +kernel)), _, rfl, ?_⟩
        by_cases c15 : (!(x_actual0).isSome) = true
        · revert hm; refine ifTI c15 fun hm => ?_
          exact goT c15 ⟨Option.some.inj hm, rfl⟩
        · revert hm; refine ifFI c15 fun hm => ?_
          refine goF c15 ?_
          refine ⟨_, rfl, ?_⟩
          revert hm; refine bndI fun z16 e17 hm => ?_
          have p18 := (vwO_some e17 hs_actual0)
          obtain ⟨a19, v20, rfl, hs21, hl22⟩ := vw_M (K := K) p18
          refine ⟨_, _, rfl, .inl (SqL.mono hs21 (S0.bor (Same.refl _) (fun _ q => (List.mem_append_right _ q)))), ?_⟩
          rw [LR.length hl22]
          refine ⟨_, rfl, _, _, rfl, .inl (SqL.mono hs9 (S0.bor (Same.refl _) (fun _ q => (List.mem_append_right _ q)))), ?_⟩
          rw [LR.length hl10]
          refine ⟨_, _, rfl, rfl, _, rfl, ?_⟩
          exact ⟨Option.some.inj hm, rfl⟩
      by_cases c23 : b13 = true
      · revert hm; refine ifTI c23 fun hm => ?_
        refine goT c23 ?_
        obtain rfl := Option.some.inj hm
        exact kk
      · revert hm; refine ifFI c23 fun hm => ?_
        refine goF c23 ?_
        refine hN12 _ _ ?_
        refine seqI fun N24 hN25 => ?_
        refine ⟨_, rfl, _, _, rfl, .inl (SqL.mono hs9 (S0.bor (Same.refl _) (fun _ q => (List.mem_append_right _ q)))), ?_⟩
        rw [LR.length hl10]
        revert hm; refine grdI fun g29 hm => ?_
        revert hm; refine bndI fun y26 e27 hm28 => ?_
        refine ⟨_, rfl, (rngOk_lo g29), (rngOk_hi g29), for_rng (lo := 0) (n := (z5.length : Int).toNat) (fun i σ H2 => ∃ (st1 : Unit) (F42 : Hp) (o45 : Option V), σ = [some (v_actual0), some (V.ref a7), o45] ∧ H = H2 ∧ Same F0 F42 ∧ Sta F42 ([] ++ R) H2 ∧ m_law_same_l1 x_actual0 z5 (List.drop i (pyRange 0 (z5.length : Int).toNat)) st1 = some y26) ⟨(), F0, _, rfl, rfl, (Same.refl _), S0, e27⟩ ?_ ?_⟩
        · rintro i x46 σ H2 hi ⟨st1, F42, o45, rfl, rfl, s43, S44, hm⟩
          rw [drop_cons hi, m_law_same_l1] at hm
          revert hm; refine bndI fun b48 e49 hm => ?_
          refine ⟨b48, ?_, ?_⟩
          · clear hm
            have hm := e49
            clear e49
            refine ⟨_, rfl, ?_⟩
            revert hm; refine bndI fun z50 e51 hm => ?_
            have p52 := (vwO_some e51 hs_actual0)
            obtain ⟨a53, v54, rfl, hs55, hl56⟩ := vw_M (K := K) p52
            revert hm; refine bndI fun y57 e58 hm => ?_
            obtain ⟨v59, ev60, rv61⟩ := LR.atI hl56 e58
            obtain rfl := rInt_e rv61
            refine ⟨_, rfl, _, _, _, _, rfl, rfl, (SqL.mono hs55 (S44.bor s43 (fun _ q => (List.mem_append_right _ q)))), ev60, _, _, _, _, _, rfl, .ty _, (.base (.int _)), (by first | rfl | exact PySem.W.kitOne_builtin rfl | decide +kernel), _, rfl, ?_⟩
            refine iteF ?_
            revert hm; refine bndI fun y62 e63 hm => ?_
            obtain ⟨v64, ev65, rv66⟩ := LR.atI hl56 e63
            obtain rfl := rInt_e rv66
            refine ⟨_, rfl, _, rfl, _, _, _, _, rfl, rfl, (SqL.mono hs55 (S44.bor s43 (fun _ q => (List.mem_append_right _ q)))), ev65, _, _, _, _, _, rfl, .ty _, (.base (.int _)), (by first | rfl | exact PySem.W.kitOne_builtin rfl | decide +kernel), _, rfl, ?_⟩
            refine iteF ?_
            revert hm; refine bndI fun y67 e68 hm => ?_
            obtain ⟨v69, ev70, rv71⟩ := LR.atI hl56 e68
            obtain rfl := rInt_e rv71
            revert hm; refine bndI fun y72 e73 hm => ?_
            obtain ⟨v74, ev75, rv76⟩ := LR.atI hl10 e73
            obtain rfl := rInt_e rv76
            refine ⟨_, rfl, _, rfl, _, _, _, _, rfl, rfl, (SqL.mono hs55 (S44.bor s43 (fun _ q => (List.mem_append_right _ q)))), ev70, _, rfl, _, rfl, _, _, _, _, rfl, rfl, (SqL.mono hs9 (S44.bor s43 (fun _ q => (List.mem_append_right _ q)))), ev75, _, _, rfl, rfl, _, rfl, ?_⟩
            exact ⟨Option.some.inj hm, rfl⟩
          by_cases c77 : b48 = true
          · revert hm; refine ifTI c77 fun hm => ?_
            refine goT c77 ?_
            obtain rfl := Option.some.inj hm
            have hm := hm28
            obtain rfl := Option.some.inj hm
            exact kk
          · revert hm; refine ifFI c77 fun hm => ?_
            refine goF c77 ?_
            exact ⟨(), F42, _, rfl, rfl, s43, S44, hm⟩
        · rintro σ H2 ⟨st1, F42, o45, rfl, rfl, s43, S44, hm⟩
          rw [drop_rng, m_law_same_l1] at hm
          obtain rfl := Option.some.inj hm
          have hm := hm28
          refine hN25 _ _ ?_
          obtain rfl := Option.some.inj hm
          exact kk

def sp_law_asked (T : Txt K mg) : Sp := fun vs H Q _ => ∃ (F0 : Hp) (R : Own) (a_pusher0 : Addr) (dx_pusher0 : Addr) (x_pusher0 : M_Pusher) (a_pusher0_clauses0 : Addr) (v_pusher0_clauses0 : List V) (a_pusher0_places0 : Addr) (v_pusher0_places0 : List (Key × V)) (a_pusher0_starts0 : Addr) (v_pusher0_starts0 : List V) (a_clauses0 : Addr) (v_clauses0 : List V) (x_clauses0 : (List (List Int))) (a_given0 : Addr) (v_given0 : List V) (x_given0 : (List Int)) (r : Bool),
  vs = [V.ref a_pusher0, V.ref a_clauses0, V.ref a_given0] ∧ (ov F0 R) a_pusher0 = some (HO.ins T.a_Pusher dx_pusher0 (fl_Pusher (V.ref a_pusher0_clauses0) (V.ref a_pusher0_places0) (V.ref a_pusher0_starts0) (V.bl x_pusher0.empty))) ∧ (ov F0 R) a_pusher0_clauses0 = some (HO.lst v_pusher0_clauses0) ∧ LR ((rLst K rInt) F0) v_pusher0_clauses0 x_pusher0.clauses ∧ (ov F0 R) a_pusher0_places0 = some (HO.dK v_pusher0_places0) ∧ KR Sum.inl (vw (roM rInt) (ov F0 R) F0) v_pusher0_places0 x_pusher0.places ∧ (ov F0 R) a_pusher0_starts0 = some (HO.lst v_pusher0_starts0) ∧ LR (rInt F0) v_pusher0_starts0 x_pusher0.starts ∧ SqL K (ov F0 R) a_clauses0 v_clauses0 ∧ LR ((rLst K rInt) F0) v_clauses0 x_clauses0 ∧ SqL K (ov F0 R) a_given0 v_given0 ∧ LR (rInt F0) v_given0 x_given0 ∧ Sta F0 ([] ++ R) H ∧ m_law_asked x_pusher0 x_clauses0 x_given0 = some r ∧ ∀ (F1 : Hp) (H1 : Hp), Same F0 F1 → Sta F1 ([] ++ R) H1 → Q (V.bl r) H1

theorem ok_law_asked (T : Txt K mg) : FnOk P w K mg base CX0 3 T.a_law_asked T.d_law_asked ["pusher", "clauses", "given"] (sp_law_asked T) := by
  refine T.F_law_asked.ok sc_law_asked (fun vs H Q E h => ?_) (fun cdv A outer s H vs Q E hr h => ?_)
  · obtain ⟨_, _, _, _, _, _, _, _, _, _, _, _, _, _, _, _, _, _, rfl, _⟩ := h
    rfl
  · obtain ⟨F0, R, a_pusher0, dx_pusher0, x_pusher0, a_pusher0_clauses0, v_pusher0_clauses0, a_pusher0_places0, v_pusher0_places0, a_pusher0_starts0, v_pusher0_starts0, a_clauses0, v_clauses0, x_clauses0, a_given0, v_given0, x_given0, r, rfl, hs_pusher0, hs_pusher0_clauses0, hl_pusher0_clauses0, hs_pusher0_places0, hl_pusher0_places0, hs_pusher0_starts0, hl_pusher0_starts0, hs_clauses0, hl_clauses0, hs_given0, hl_given0, S0, hm, kk⟩ := h
    have hu := hu_of hr
    unfold m_law_asked at hm
    refine ⟨_, (pss_cons (ps_set (i := 3) sc_law_asked.nd rfl (Or.inl rfl) (pe_call (ok_law_forced T) (hr.mono (by decide)) rfl T.g_law_forced T.F_law_forced.kp T.b_law_forced .nil pass0 (pa_cons (pv 1) (pa_cons (pv 2) pa_nil)))) (pss_cons (ps_setLc (i := 4) (own := [("literal", 6)]) rfl sc_law_asked.nd rfl rfl (sw_true rfl rfl rfl (by decide +kernel)) (pi_list (pv 2)) (blkOk_by (own := [("literal", 6)]) (N := ["pusher", "clauses", "given", "due", "handed", "got", "literal"]) (sc := defScope s_law_asked) (by decide +kernel)) (fun _ _ _ _ _ => (pg_name (i := 6) sc_law_asked.nd rfl (Or.inl rfl))) (fun _ _ _ _ _ => pts_nil) (fun _ _ _ _ _ => (pv 6))) (pss_cons (ps_set (i := 5) sc_law_asked.nd rfl (Or.inl rfl) (pe_meth (pv 0) T.cl_Pusher T.h_Pusher_forced (ok_Pusher_forced T) (hr.mono (by decide)) T.b_Pusher_forced .nil pass0 (pa_cons (pv 4) pa_nil))) (pss_cons (ps_if (pt_pure (PW.pt (pw_or (pt_not (pt_val (pe_call (ok_law_same T) (hr.mono (by decide)) rfl T.g_law_same T.F_law_same.kp T.b_law_same .nil pass0 (pa_cons (pv 5) (pa_cons (pv 3) pa_nil))))) (pw_or1 (pt_cmpR (op_neD hr.units) (pv 4) (pv 2) (nomark _)))))) (pss_one (ps_ret pe_bl)) pss_nil) (pss_cons (ps_if (pt_cmpR op_notN (pv 5) pe_non (nomark _)) (pss_cons (ps_expr (pe_bm PySem.F.plainAttrs_list PySem.F.slot_list_append PySem.F.type_list_append mt_append (pv 5) (pa_cons pe_int pa_nil))) (pss_one (ps_expr (pe_bm0 PySem.F.plainAttrs_list PySem.F.slot_list_reverse PySem.F.type_list_reverse mt_reverse (pv 5))))) pss_nil) (pss_cons (ps_expr (pe_bm PySem.F.plainAttrs_list PySem.F.slot_list_append PySem.F.type_list_append mt_append (pv 4) (pa_cons pe_int pa_nil))) (pss_one (ps_ret (pe_call (ok_law_same T) (hr.mono (by decide)) rfl T.g_law_same T.F_law_same.kp T.b_law_same .nil pass0 (pa_cons (pe_meth (pv 0) T.cl_Pusher T.h_Pusher_forced (ok_Pusher_forced T) (hr.mono (by decide)) T.b_Pusher_forced .nil pass0 (pa_cons (pe_lc (own := [("literal", 6)]) rfl sc_law_asked.nd (pi_list (pv 2)) (blkOk_by (own := [("literal", 6)]) (N := ["pusher", "clauses", "given", "due", "handed", "got", "literal"]) (sc := defScope s_law_asked) (by decide +kernel)) (fun _ _ _ _ _ => (pg_name (i := 6) sc_law_asked.nd rfl (Or.inl rfl))) (fun _ _ _ _ _ => pts_nil) (fun _ _ _ _ _ => (pv 6))) pa_nil)) (pa_cons (pv 3) pa_nil))))))))))), ?_⟩
    refine seqI fun N1 hN2 => ?_
    revert hm; refine bndI fun y3 e4 hm => ?_
    refine ⟨_, rfl, _, rfl, F0, ([] ++ R), a_clauses0, v_clauses0, x_clauses0, a_given0, v_given0, x_given0, _, rfl, (SqL.mono hs_clauses0 (S0.ovR (Same.refl _) (fun _ q => (List.mem_append_right _ q)))), hl_clauses0, (SqL.mono hs_given0 (S0.ovR (Same.refl _) (fun _ q => (List.mem_append_right _ q)))), hl_given0, S0, e4, fun F5 H6 v9 in10 s7 S8 p11 => ?_⟩
    have S12 : Sta F5 ([] ++ (in10 ++ R)) _ := Sta.pickS (segs := [[], in10, []]) (segs' := [[], [], in10]) (R := R) [0, 2, 1] (by decide) rfl S8
    refine hN2 _ _ ?_
    refine seqI fun N13 hN14 => ?_
    revert hm; refine grdI fun g29 hm => ?_
    have e15 : lcO (fun x19 => some (some x19)) x_given0 = some (x_given0.map fun x19 => x19) := lc_map (fun x19 => x19) x_given0
    refine ⟨_, rfl, _, rfl, ⟨_, (SqL.mono hs_given0 (S12.bor s7 (fun _ q => (List.mem_append_right _ (List.mem_append_right _ q)))))⟩, fun a27 np28 => lc_list (K := K) (a := a_given0) (xs := v_given0) (fun i H2 => ∃ (F20 : Hp) (v21 : List V) (acc22 : List Int) (r16 : List Int), Same F5 F20 ∧ Sta F20 ([(a27, HO.lst v21)] ++ (in10 ++ R)) H2 ∧ LR (rInt F20) v21 acc22 ∧ acc22.length ≤ i ∧ lcO (fun x19 => some (some x19)) (List.drop i x_given0) = some r16 ∧ (x_given0.map fun x19 => x19) = acc22 ++ r16) ⟨F5, [], [], _, Same.refl _, S12.new np28 _, trivial, Nat.le_refl _, e15, rfl⟩ (by rintro i H2 _ ⟨F20, v21, acc22, r16, s23, S24, hl25, hn26, hr17, hy18⟩; exact (SqL.mono hs_given0 (S24.bor (s7.trans s23) (fun _ q => (List.mem_append_right _ (List.mem_append_right _ q)))))) ?_ ?_⟩
    clear S8
    · rintro i v30 H2 hi ⟨F20, v21, acc22, r16, s23, S24, hl25, hn26, hr17, hy18⟩
      obtain ⟨x19, hx31, rx32⟩ := LR.getV hl_given0 hi
      rw [drop_cons hx31] at hr17
      revert hr17; refine lcI fun y33 r34 hm hr36 hc37 => ?_
      obtain rfl := rInt_e rx32
      refine ⟨rfl, ?_⟩
      refine tYesI ?_
      rw [if_pos rfl]
      refine ⟨_, rfl, ?_⟩
      obtain rfl := Option.some.inj hm
      have hlt : v21.length < 16777216 := by rw [LR.length hl25]; have := (List.getElem?_eq_some_iff.mp hx31).1; have := of_decide_eq_true g29; omega
      have S38 : Sta F20 ([(a27, HO.lst (v21 ++ [V.int x19]))] ++ (in10 ++ R)) _ := S24.set 0 rfl _
      exact ⟨_, (S24.get 0 rfl), hlt, F20, _, (acc22 ++ [x19]), r34, s23, S38, LR.snoc hl25 rfl, by rw [List.length_append]; exact Nat.succ_le_succ hn26, hr36, by rw [List.append_assoc]; exact hy18.trans (congrArg (acc22 ++ ·) hc37)⟩
    rintro H2 ⟨F20, v21, acc22, r16, s23, S24, hl25, hn26, hr17, hy18⟩
    rw [LR.dropEnd hl_given0] at hr17
    obtain rfl := Option.some.inj hr17
    rw [List.append_nil] at hy18
    subst hy18
    have S39 : Sta F20 ([(a27, HO.lst v21)] ++ (in10 ++ R)) _ := S24
    refine hN14 _ _ ?_
    refine seqI fun N40 hN41 => ?_
    revert hm; refine bndI fun y42 e43 hm => ?_
    refine ⟨_, rfl, _, _, _, rfl, (S39.bor (s7.trans s23) (fun _ q => (List.mem_append_right _ (List.mem_append_right _ q))) _ _ hs_pusher0), fl_Pusher_no_forced, _, rfl, F20, ([(a27, HO.lst v21)] ++ (in10 ++ R)), a_pusher0, dx_pusher0, x_pusher0, a_pusher0_clauses0, v_pusher0_clauses0, a_pusher0_places0, v_pusher0_places0, a_pusher0_starts0, v_pusher0_starts0, a27, v21, (x_given0.map fun x19 => x19), _, rfl, (S39.ovR (s7.trans s23) (fun _ q => (List.mem_append_right _ (List.mem_append_right _ q))) _ _ hs_pusher0), (S39.ovR (s7.trans s23) (fun _ q => (List.mem_append_right _ (List.mem_append_right _ q))) _ _ hs_pusher0_clauses0), (hl_pusher0_clauses0.mono (s7.trans s23)), (S39.ovR (s7.trans s23) (fun _ q => (List.mem_append_right _ (List.mem_append_right _ q))) _ _ hs_pusher0_places0), (KR.vmono hl_pusher0_places0 (S39.ovR (s7.trans s23) (fun _ q => (List.mem_append_right _ (List.mem_append_right _ q)))) (s7.trans s23)), (S39.ovR (s7.trans s23) (fun _ q => (List.mem_append_right _ (List.mem_append_right _ q))) _ _ hs_pusher0_starts0), (hl_pusher0_starts0.mono (s7.trans s23)), (SqL.of (S39.getO 0 rfl)), hl25, S39, e43, fun F44 H45 v48 in49 s46 S47 p50 => ?_⟩
    clear S24
    have S51 : Sta F44 ([(a27, HO.lst v21)] ++ (in49 ++ (in10 ++ R))) _ := Sta.pickS (segs := [[], in49, [(a27, HO.lst v21)], in10]) (segs' := [[], [(a27, HO.lst v21)], in49, in10]) (R := R) [0, 2, 1, 3] (by decide) rfl S47
    refine hN41 _ _ ?_
    refine seqI fun N52 hN53 => ?_
    revert hm; refine bndI fun b54 e55 hm => ?_
    refine ⟨b54, ?_, ?_⟩
    · clear hm
      have hm := e55
      clear e55
      revert hm; refine bndI fun y56 e57 hm => ?_
      refine ⟨_, rfl, _, rfl, F44, ([(a27, HO.lst v21)] ++ (in49 ++ (in10 ++ R))), v48, y42, v9, y3, _, rfl, (vwO_of (MonoO.mono (r := (roO (roM rInt))) (Same.refl _) p50) (S51.memO (fun _ q => (List.mem_append_right _ (List.mem_append_left _ q))))), (vwO_of (MonoO.mono (r := (roO (roM rInt))) (s23.trans s46) p11) (S51.memO (fun _ q => (List.mem_append_right _ (List.mem_append_right _ (List.mem_append_left _ q)))))), S51, e57, _, rfl, ?_⟩
      by_cases c58 : (!y56) = true
      · revert hm; refine ifTI c58 fun hm => ?_
        exact goT c58 ⟨Option.some.inj hm, rfl⟩
      · revert hm; refine ifFI c58 fun hm => ?_
        refine goF c58 ?_
        refine ⟨_, rfl, _, rfl, _, _, (dat_dp (K := K) (r := (rLst K rInt)) ⟨_, _, rfl, (SqL.of (S51.get 0 rfl)), LR.mono (hl25.mono s46) S51.sub⟩), (dat_dp (K := K) (r := (rLst K rInt)) ⟨_, _, rfl, (SqL.mono hs_given0 (S51.bor (s7.trans (s23.trans s46)) (fun _ q => (List.mem_append_right _ (List.mem_append_right _ (List.mem_append_right _ q)))))), LR.mono (hl_given0.mono (s7.trans (s23.trans s46))) S51.sub⟩), (dat_shaped (K := K) (r := (rLst K rInt)) (Nat.le_of_ble_eq_true rfl) _ (DPl.pl _)), (dat_shaped (K := K) (r := (rLst K rInt)) (Nat.le_of_ble_eq_true rfl) _ (DPl.pl _)), ?_⟩
        rw [dat_eqv (K := K) (r := (rLst K rInt)) (x_given0.map fun x19 => x19) x_given0]
        refine ⟨_, rfl, ?_⟩
        exact ⟨Option.some.inj hm, rfl⟩
    by_cases c59 : b54 = true
    · revert hm; refine ifTI c59 fun hm => ?_
      refine goT c59 ?_
      obtain rfl := Option.some.inj hm
      have S60 : Sta F44 ([] ++ R) _ := Sta.pickS (segs := [[(a27, HO.lst v21)], in49, in10]) (segs' := []) (R := R) [] (by decide) rfl S51
      exact kk _ _ (s7.trans (s23.trans s46)) S60
    · revert hm; refine ifFI c59 fun hm => ?_
      refine goF c59 ?_
      refine hN53 _ _ ?_
      refine seqI fun N61 hN62 => ?_
      revert hm; refine optI (fun e63 hm => ?_) (fun z65 e64 hm => ?_)
      · obtain ⟨rfl, rfl⟩ := roO_none e63 p50
        refine ⟨_, rfl, rfl, _, rfl, ?_⟩
        refine iteF ?_
        refine hN62 _ _ ?_
        refine seqI fun N66 hN67 => ?_
        revert hm; refine grdI fun g68 hm => ?_
        refine ⟨_, rfl, .inl ⟨rfl, _, (SqL.of (S51.get 0 rfl))⟩, _, _, _, rfl, rfl, (S51.get 0 rfl), (by rw [LR.length (hl25.mono s46)]; exact of_decide_eq_true g68), ?_⟩
        have hl69 : LR (rInt F44) (v21 ++ [V.int 777]) ((x_given0.map fun x19 => x19) ++ [(777 : Int)]) := LR.snoc (hl25.mono s46) rfl
        have S70 : Sta F44 ([(a27, HO.lst (v21 ++ [V.int 777]))] ++ (in10 ++ R)) _ := S51.set 0 rfl _
        refine hN67 _ _ ?_
        revert hm; refine grdI fun g85 hm => ?_
        have e71 : lcO (fun x75 => some (some x75)) x_given0 = some (x_given0.map fun x75 => x75) := lc_map (fun x75 => x75) x_given0
        refine ⟨_, rfl, _, _, _, rfl, (S70.bor (s7.trans (s23.trans s46)) (fun _ q => (List.mem_append_right _ (List.mem_append_right _ q))) _ _ hs_pusher0), fl_Pusher_no_forced, _, rfl, _, rfl, ⟨_, (SqL.mono hs_given0 (S70.bor (s7.trans (s23.trans s46)) (fun _ q => (List.mem_append_right _ (List.mem_append_right _ q)))))⟩, fun a83 np84 => lc_list (K := K) (a := a_given0) (xs := v_given0) (fun i H2 => ∃ (F76 : Hp) (v77 : List V) (acc78 : List Int) (r72 : List Int), Same F44 F76 ∧ Sta F76 ([(a83, HO.lst v77), (a27, HO.lst (v21 ++ [V.int 777]))] ++ (in10 ++ R)) H2 ∧ LR (rInt F76) v77 acc78 ∧ acc78.length ≤ i ∧ lcO (fun x75 => some (some x75)) (List.drop i x_given0) = some r72 ∧ (x_given0.map fun x75 => x75) = acc78 ++ r72) ⟨F44, [], [], _, Same.refl _, S70.new np84 _, trivial, Nat.le_refl _, e71, rfl⟩ (by rintro i H2 _ ⟨F76, v77, acc78, r72, s79, S80, hl81, hn82, hr73, hy74⟩; exact (SqL.mono hs_given0 (S80.bor (s7.trans (s23.trans (s46.trans s79))) (fun _ q => (List.mem_append_right _ (List.mem_append_right _ q)))))) ?_ ?_⟩
        clear S51
        · rintro i v86 H2 hi ⟨F76, v77, acc78, r72, s79, S80, hl81, hn82, hr73, hy74⟩
          obtain ⟨x75, hx87, rx88⟩ := LR.getV hl_given0 hi
          rw [drop_cons hx87] at hr73
          revert hr73; refine lcI fun y89 r90 hm hr92 hc93 => ?_
          obtain rfl := rInt_e rx88
          refine ⟨rfl, ?_⟩
          refine tYesI ?_
          rw [if_pos rfl]
          refine ⟨_, rfl, ?_⟩
          obtain rfl := Option.some.inj hm
          have hlt : v77.length < 16777216 := by rw [LR.length hl81]; have := (List.getElem?_eq_some_iff.mp hx87).1; have := of_decide_eq_true g85; omega
          have S94 : Sta F76 ([(a83, HO.lst (v77 ++ [V.int x75])), (a27, HO.lst (v21 ++ [V.int 777]))] ++ (in10 ++ R)) _ := S80.set 0 rfl _
          exact ⟨_, (S80.get 0 rfl), hlt, F76, _, (acc78 ++ [x75]), r90, s79, S94, LR.snoc hl81 rfl, by rw [List.length_append]; exact Nat.succ_le_succ hn82, hr92, by rw [List.append_assoc]; exact hy74.trans (congrArg (acc78 ++ ·) hc93)⟩
        rintro H2 ⟨F76, v77, acc78, r72, s79, S80, hl81, hn82, hr73, hy74⟩
        rw [LR.dropEnd hl_given0] at hr73
        obtain rfl := Option.some.inj hr73
        rw [List.append_nil] at hy74
        subst hy74
        have S95 : Sta F76 ([(a83, HO.lst v77), (a27, HO.lst (v21 ++ [V.int 777]))] ++ (in10 ++ R)) _ := S80
        revert hm; refine bndI fun y96 e97 hm => ?_
        refine ⟨F76, ([(a83, HO.lst v77), (a27, HO.lst (v21 ++ [V.int 777]))] ++ (in10 ++ R)), a_pusher0, dx_pusher0, x_pusher0, a_pusher0_clauses0, v_pusher0_clauses0, a_pusher0_places0, v_pusher0_places0, a_pusher0_starts0, v_pusher0_starts0, a83, v77, (x_given0.map fun x75 => x75), _, rfl, (S95.ovR (s7.trans (s23.trans (s46.trans s79))) (fun _ q => (List.mem_append_right _ (List.mem_append_right _ q))) _ _ hs_pusher0), (S95.ovR (s7.trans (s23.trans (s46.trans s79))) (fun _ q => (List.mem_append_right _ (List.mem_append_right _ q))) _ _ hs_pusher0_clauses0), (hl_pusher0_clauses0.mono (s7.trans (s23.trans (s46.trans s79)))), (S95.ovR (s7.trans (s23.trans (s46.trans s79))) (fun _ q => (List.mem_append_right _ (List.mem_append_right _ q))) _ _ hs_pusher0_places0), (KR.vmono hl_pusher0_places0 (S95.ovR (s7.trans (s23.trans (s46.trans s79))) (fun _ q => (List.mem_append_right _ (List.mem_append_right _ q)))) (s7.trans (s23.trans (s46.trans s79)))), (S95.ovR (s7.trans (s23.trans (s46.trans s79))) (fun _ q => (List.mem_append_right _ (List.mem_append_right _ q))) _ _ hs_pusher0_starts0), (hl_pusher0_starts0.mono (s7.trans (s23.trans (s46.trans s79)))), (SqL.of (S95.getO 0 rfl)), hl81, S95, e97, fun F98 H99 v102 in103 s100 S101 p104 => ?_⟩
        clear S80
        have S105 : Sta F98 ([(a83, HO.lst v77), (a27, HO.lst (v21 ++ [V.int 777]))] ++ (in103 ++ (in10 ++ R))) _ := Sta.pickS (segs := [[], in103, [(a83, HO.lst v77), (a27, HO.lst (v21 ++ [V.int 777]))], in10]) (segs' := [[], [(a83, HO.lst v77), (a27, HO.lst (v21 ++ [V.int 777]))], in103, in10]) (R := R) [0, 2, 1, 3] (by decide) rfl S101
        revert hm; refine bndI fun y106 e107 hm => ?_
        refine ⟨_, rfl, F98, ([(a83, HO.lst v77), (a27, HO.lst (v21 ++ [V.int 777]))] ++ (in103 ++ (in10 ++ R))), v102, y96, v9, y3, _, rfl, (vwO_of (MonoO.mono (r := (roO (roM rInt))) (Same.refl _) p104) (S105.memO (fun _ q => (List.mem_append_right _ (List.mem_append_left _ q))))), (vwO_of (MonoO.mono (r := (roO (roM rInt))) (s23.trans (s46.trans (s79.trans s100))) p11) (S105.memO (fun _ q => (List.mem_append_right _ (List.mem_append_right _ (List.mem_append_left _ q)))))), S105, e107, ?_⟩
        clear S101
        obtain rfl := Option.some.inj hm
        have S108 : Sta F98 ([] ++ R) _ := Sta.pickS (segs := [[(a83, HO.lst v77)], [(a27, HO.lst (v21 ++ [V.int 777]))], in103, in10]) (segs' := []) (R := R) [] (by decide) rfl S105
        exact kk _ _ (s7.trans (s23.trans (s46.trans (s79.trans s100)))) S108
      · skip
        obtain ⟨a109, v110, rfl, rfl, hl111⟩ := roO_some e64 p50
        have S112 : Sta F44 ([(a109, HO.lst v110), (a27, HO.lst v21)] ++ (in10 ++ R)) _ := Sta.pickS (segs := [[(a27, HO.lst v21)], [(a109, HO.lst v110)], in10]) (segs' := [[(a109, HO.lst v110)], [(a27, HO.lst v21)], in10]) (R := R) [1, 0, 2] (by decide) rfl S51
        refine ⟨_, rfl, rfl, _, rfl, ?_⟩
        clear S51
        refine iteT ?_
        refine seqI fun N113 hN114 => ?_
        revert hm; refine grdI fun g115 hm => ?_
        refine ⟨_, rfl, .inl ⟨rfl, _, (SqL.of (S112.get 0 rfl))⟩, _, _, _, rfl, rfl, (S112.get 0 rfl), (by rw [LR.length hl111]; exact of_decide_eq_true g115), ?_⟩
        have hl116 : LR (rInt F44) (v110 ++ [V.int 777]) (z65 ++ [(777 : Int)]) := LR.snoc hl111 rfl
        have S117 : Sta F44 ([(a109, HO.lst (v110 ++ [V.int 777])), (a27, HO.lst v21)] ++ (in10 ++ R)) _ := S112.set 0 rfl _
        refine hN114 _ _ ?_
        refine ⟨_, rfl, .inl ⟨rfl, _, (SqL.of (S117.get 0 rfl))⟩, _, _, rfl, rfl, (S117.get 0 rfl), ?_⟩
        clear S112
        have hl118 : LR (rInt F44) ((v110 ++ [V.int 777]).reverse) ((z65 ++ [(777 : Int)]).reverse) := LR.reverse hl116
        have S119 : Sta F44 ([(a109, HO.lst ((v110 ++ [V.int 777]).reverse)), (a27, HO.lst v21)] ++ (in10 ++ R)) _ := S117.set 0 rfl _
        refine hN62 _ _ ?_
        refine seqI fun N120 hN121 => ?_
        revert hm; refine grdI fun g122 hm => ?_
        refine ⟨_, rfl, .inl ⟨rfl, _, (SqL.of (S119.get 1 rfl))⟩, _, _, _, rfl, rfl, (S119.get 1 rfl), (by rw [LR.length (hl25.mono s46)]; exact of_decide_eq_true g122), ?_⟩
        clear S117
        have hl123 : LR (rInt F44) (v21 ++ [V.int 777]) ((x_given0.map fun x19 => x19) ++ [(777 : Int)]) := LR.snoc (hl25.mono s46) rfl
        have S124 : Sta F44 ([(a109, HO.lst ((v110 ++ [V.int 777]).reverse)), (a27, HO.lst (v21 ++ [V.int 777]))] ++ (in10 ++ R)) _ := S119.set 1 rfl _
        refine hN121 _ _ ?_
        revert hm; refine grdI fun g139 hm => ?_
        have e125 : lcO (fun x129 => some (some x129)) x_given0 = some (x_given0.map fun x129 => x129) := lc_map (fun x129 => x129) x_given0
        refine ⟨_, rfl, _, _, _, rfl, (S124.bor (s7.trans (s23.trans s46)) (fun _ q => (List.mem_append_right _ (List.mem_append_right _ q))) _ _ hs_pusher0), fl_Pusher_no_forced, _, rfl, _, rfl, ⟨_, (SqL.mono hs_given0 (S124.bor (s7.trans (s23.trans s46)) (fun _ q => (List.mem_append_right _ (List.mem_append_right _ q)))))⟩, fun a137 np138 => lc_list (K := K) (a := a_given0) (xs := v_given0) (fun i H2 => ∃ (F130 : Hp) (v131 : List V) (acc132 : List Int) (r126 : List Int), Same F44 F130 ∧ Sta F130 ([(a137, HO.lst v131), (a109, HO.lst ((v110 ++ [V.int 777]).reverse)), (a27, HO.lst (v21 ++ [V.int 777]))] ++ (in10 ++ R)) H2 ∧ LR (rInt F130) v131 acc132 ∧ acc132.length ≤ i ∧ lcO (fun x129 => some (some x129)) (List.drop i x_given0) = some r126 ∧ (x_given0.map fun x129 => x129) = acc132 ++ r126) ⟨F44, [], [], _, Same.refl _, S124.new np138 _, trivial, Nat.le_refl _, e125, rfl⟩ (by rintro i H2 _ ⟨F130, v131, acc132, r126, s133, S134, hl135, hn136, hr127, hy128⟩; exact (SqL.mono hs_given0 (S134.bor (s7.trans (s23.trans (s46.trans s133))) (fun _ q => (List.mem_append_right _ (List.mem_append_right _ q)))))) ?_ ?_⟩
        clear S119
        · rintro i v140 H2 hi ⟨F130, v131, acc132, r126, s133, S134, hl135, hn136, hr127, hy128⟩
          obtain ⟨x129, hx141, rx142⟩ := LR.getV hl_given0 hi
          rw [drop_cons hx141] at hr127
          revert hr127; refine lcI fun y143 r144 hm hr146 hc147 => ?_
          obtain rfl := rInt_e rx142
          refine ⟨rfl, ?_⟩
          refine tYesI ?_
          rw [if_pos rfl]
          refine ⟨_, rfl, ?_⟩
          obtain rfl := Option.some.inj hm
          have hlt : v131.length < 16777216 := by rw [LR.length hl135]; have := (List.getElem?_eq_some_iff.mp hx141).1; have := of_decide_eq_true g139; omega
          have S148 : Sta F130 ([(a137, HO.lst (v131 ++ [V.int x129])), (a109, HO.lst ((v110 ++ [V.int 777]).reverse)), (a27, HO.lst (v21 ++ [V.int 777]))] ++ (in10 ++ R)) _ := S134.set 0 rfl _
          exact ⟨_, (S134.get 0 rfl), hlt, F130, _, (acc132 ++ [x129]), r144, s133, S148, LR.snoc hl135 rfl, by rw [List.length_append]; exact Nat.succ_le_succ hn136, hr146, by rw [List.append_assoc]; exact hy128.trans (congrArg (acc132 ++ ·) hc147)⟩
        rintro H2 ⟨F130, v131, acc132, r126, s133, S134, hl135, hn136, hr127, hy128⟩
        rw [LR.dropEnd hl_given0] at hr127
        obtain rfl := Option.some.inj hr127
        rw [List.append_nil] at hy128
        subst hy128
        have S149 : Sta F130 ([(a137, HO.lst v131), (a109, HO.lst ((v110 ++ [V.int 777]).reverse)), (a27, HO.lst (v21 ++ [V.int 777]))] ++ (in10 ++ R)) _ := S134
        revert hm; refine bndI fun y150 e151 hm => ?_
        refine ⟨F130, ([(a137, HO.lst v131), (a109, HO.lst ((v110 ++ [V.int 777]).reverse)), (a27, HO.lst (v21 ++ [V.int 777]))] ++ (in10 ++ R)), a_pusher0, dx_pusher0, x_pusher0, a_pusher0_clauses0, v_pusher0_clauses0, a_pusher0_places0, v_pusher0_places0, a_pusher0_starts0, v_pusher0_starts0, a137, v131, (x_given0.map fun x129 => x129), _, rfl, (S149.ovR (s7.trans (s23.trans (s46.trans s133))) (fun _ q => (List.mem_append_right _ (List.mem_append_right _ q))) _ _ hs_pusher0), (S149.ovR (s7.trans (s23.trans (s46.trans s133))) (fun _ q => (List.mem_append_right _ (List.mem_append_right _ q))) _ _ hs_pusher0_clauses0), (hl_pusher0_clauses0.mono (s7.trans (s23.trans (s46.trans s133)))), (S149.ovR (s7.trans (s23.trans (s46.trans s133))) (fun _ q => (List.mem_append_right _ (List.mem_append_right _ q))) _ _ hs_pusher0_places0), (KR.vmono hl_pusher0_places0 (S149.ovR (s7.trans (s23.trans (s46.trans s133))) (fun _ q => (List.mem_append_right _ (List.mem_append_right _ q)))) (s7.trans (s23.trans (s46.trans s133)))), (S149.ovR (s7.trans (s23.trans (s46.trans s133))) (fun _ q => (List.mem_append_right _ (List.mem_append_right _ q))) _ _ hs_pusher0_starts0), (hl_pusher0_starts0.mono (s7.trans (s23.trans (s46.trans s133)))), (SqL.of (S149.getO 0 rfl)), hl135, S149, e151, fun F152 H153 v156 in157 s154 S155 p158 => ?_⟩
        clear S134
        have S159 : Sta F152 ([(a137, HO.lst v131), (a109, HO.lst ((v110 ++ [V.int 777]).reverse)), (a27, HO.lst (v21 ++ [V.int 777]))] ++ (in157 ++ (in10 ++ R))) _ := Sta.pickS (segs := [[], in157, [(a137, HO.lst v131), (a109, HO.lst ((v110 ++ [V.int 777]).reverse)), (a27, HO.lst (v21 ++ [V.int 777]))], in10]) (segs' := [[], [(a137, HO.lst v131), (a109, HO.lst ((v110 ++ [V.int 777]).reverse)), (a27, HO.lst (v21 ++ [V.int 777]))], in157, in10]) (R := R) [0, 2, 1, 3] (by decide) rfl S155
        revert hm; refine bndI fun y160 e161 hm => ?_
        refine ⟨_, rfl, F152, ([(a137, HO.lst v131), (a109, HO.lst ((v110 ++ [V.int 777]).reverse)), (a27, HO.lst (v21 ++ [V.int 777]))] ++ (in157 ++ (in10 ++ R))), v156, y150, v9, y3, _, rfl, (vwO_of (MonoO.mono (r := (roO (roM rInt))) (Same.refl _) p158) (S159.memO (fun _ q => (List.mem_append_right _ (List.mem_append_left _ q))))), (vwO_of (MonoO.mono (r := (roO (roM rInt))) (s23.trans (s46.trans (s133.trans s154))) p11) (S159.memO (fun _ q => (List.mem_append_right _ (List.mem_append_right _ (List.mem_append_left _ q)))))), S159, e161, ?_⟩
        clear S155
        obtain rfl := Option.some.inj hm
        have S162 : Sta F152 ([] ++ R) _ := Sta.pickS (segs := [[(a137, HO.lst v131)], [(a109, HO.lst ((v110 ++ [V.int 777]).reverse))], [(a27, HO.lst (v21 ++ [V.int 777]))], in157, in10]) (segs' := []) (R := R) [] (by decide) rfl S159
        exact kk _ _ (s7.trans (s23.trans (s46.trans (s133.trans s154)))) S162

def sp_law_more (T : Txt K mg) : Sp := fun vs H Q _ => ∃ (F0 : Hp) (R : Own) (a_script0 : Addr) (v_script0 : List V) (x_script0 : (List Int)) (a_source0 : Addr) (v_source0 : List V) (x_source0 : (List Int)) (a_letters0 : Addr) (v_letters0 : List V) (x_letters0 : (List Int)) (r : ((List Int) × (List Int))),
  vs = [V.ref a_script0, V.ref a_source0, V.ref a_letters0] ∧ SqL K F0 a_script0 v_script0 ∧ LR (rInt F0) v_script0 x_script0 ∧ LR (rInt F0) v_source0 x_source0 ∧ SqL K (ov F0 R) a_letters0 v_letters0 ∧ LR (rInt F0) v_letters0 x_letters0 ∧ Sta F0 ([(a_source0, HO.lst v_source0)] ++ R) H ∧ m_law_more x_script0 x_source0 x_letters0 = some r ∧ ∀ (F1 : Hp) (H1 : Hp) (v_source0p : List V) (a_ret0p : Addr) (v_ret0p : List V), Same F0 F1 → Sta F1 ([(a_ret0p, HO.lst v_ret0p), (a_source0, HO.lst v_source0p)] ++ R) H1 → LR (rInt F1) v_source0p r.2 → LR (rInt F1) v_ret0p r.1 → Q (V.ref a_ret0p) H1

theorem ok_law_more (T : Txt K mg) : FnOk P w K mg base CX0 4 T.a_law_more T.d_law_more ["script", "source", "letters"] (sp_law_more T) := by
  refine T.F_law_more.ok sc_law_more (fun vs H Q E h => ?_) (fun cdv A outer s H vs Q E hr h => ?_)
  · obtain ⟨_, _, _, _, _, _, _, _, _, _, _, _, rfl, _⟩ := h
    rfl
  · obtain ⟨F0, R, a_script0, v_script0, x_script0, a_source0, v_source0, x_source0, a_letters0, v_letters0, x_letters0, r, rfl, hs_script0, hl_script0, hl_source0, hs_letters0, hl_letters0, S0, hm, kk⟩ := h
    have hu := hu_of hr
    unfold m_law_more at hm
    refine ⟨_, (pss_cons (ps_if (pt_cmpR oI_eq (pe_call (ok_law_take T) (hr.mono (by decide)) rfl T.g_law_take T.F_law_take.kp T.b_law_take .nil pass0 (pa_cons (pv 0) (pa_cons (pv 1) (pa_cons pe_int pa_nil)))) pe_int (nomark _)) (pss_one (ps_ret (pe_lst pa_nil))) pss_nil) (pss_one (ps_ret (pe_call (ok_law_clause T) (hr.mono (by decide)) rfl T.g_law_clause T.F_law_clause.kp T.b_law_clause .nil pass0 (pa_cons (pv 0) (pa_cons (pv 1) (pa_cons (pv 2) pa_nil))))))), ?_⟩
    refine seqI fun N1 hN2 => ?_
    revert hm; refine bndI fun y3 e4 hm => ?_
    refine ⟨_, rfl, _, rfl, F0, ([] ++ R), a_script0, v_script0, x_script0, a_source0, v_source0, x_source0, (16 : Int), _, rfl, (SqL.mono hs_script0 (Same.refl _)), (hl_script0), hl_source0, S0, e4, fun F5 H6 v9 s7 S8 hl10 => ?_⟩
    have S11 : Sta F5 ([(a_source0, HO.lst v9)] ++ R) _ := S8
    refine ⟨_, _, rfl, rfl, _, rfl, ?_⟩
    clear S8
    by_cases c12 : (decide (y3.1 = (9 : Int))) = true
    · revert hm; refine ifTI c12 fun hm => ?_
      refine goT c12 ?_
      refine ⟨(by show 0 ≤ sizeLine; decide), ?_⟩
      intro a13 np14
      have hl15 : LR (rInt F5) [] ([] : (List Int)) := trivial
      have S16 : Sta F5 ([(a13, HO.lst []), (a_source0, HO.lst v9)] ++ R) _ := S11.new np14 _
      obtain rfl := Option.some.inj hm
      exact kk _ _ v9 a13 [] s7 S16 hl10 hl15
    · revert hm; refine ifFI c12 fun hm => ?_
      refine goF c12 ?_
      refine hN2 _ _ ?_
      revert hm; refine bndI fun y17 e18 hm => ?_
      refine ⟨_, rfl, _, rfl, _, rfl, F5, ([] ++ R), a_script0, v_script0, x_script0, a_source0, v9, y3.2, a_letters0, v_letters0, x_letters0, _, rfl, (SqL.mono hs_script0 s7), ((hl_script0.mono s7)), hl10, (SqL.mono hs_letters0 (S11.tl.ovR s7 (fun _ q => (List.mem_append_right _ q)))), (hl_letters0.mono s7), S11, e18, fun F19 H20 v23 a25 v26 s21 S22 hl24 hl27 => ?_⟩
      have S28 : Sta F19 ([(a25, HO.lst v26), (a_source0, HO.lst v23)] ++ R) _ := S22
      obtain rfl := Option.some.inj hm
      exact kk _ _ v23 a25 v26 (s7.trans s21) S28 hl24 hl27

def sp_push (T : Txt K mg) : Sp := fun vs H Q _ => ∃ (F0 : Hp) (R : Own) (a_clauses0 : Addr) (v_clauses0 : List V) (x_clauses0 : (List (Bool × List Int))) (a_literals0 : Addr) (v_literals0 : List V) (x_literals0 : (List Int)) (r : (Option (List Int))),
  vs = [V.ref a_clauses0, V.ref a_literals0] ∧ SqL K (ov F0 R) a_clauses0 v_clauses0 ∧ LR (vw (roSeq K rInt) (ov F0 R) F0) v_clauses0 x_clauses0 ∧ SqL K (ov F0 R) a_literals0 v_literals0 ∧ LR (rInt F0) v_literals0 x_literals0 ∧ Sta F0 ([] ++ R) H ∧ m_push x_clauses0 x_literals0 = some r ∧ ∀ (F1 : Hp) (H1 : Hp) (v_ret0p : V) (in_ret0p : Own), Same F0 F1 → Sta F1 ([] ++ (in_ret0p ++ R)) H1 → (roO (roM rInt)) F1 v_ret0p r in_ret0p → Q (v_ret0p) H1

theorem ok_push (T : Txt K mg) : FnOk P w K mg base CX0 4 T.a_push T.d_push ["clauses", "literals"] (sp_push T) := by
  refine T.F_push.ok sc_push (fun vs H Q E h => ?_) (fun cdv A outer s H vs Q E hr h => ?_)
  · obtain ⟨_, _, _, _, _, _, _, _, _, rfl, _⟩ := h
    rfl
  · obtain ⟨F0, R, a_clauses0, v_clauses0, x_clauses0, a_literals0, v_literals0, x_literals0, r, rfl, hs_clauses0, hl_clauses0, hs_literals0, hl_literals0, S0, hm, kk⟩ := h
    have hu := hu_of hr
    unfold m_push at hm
    refine ⟨_, (pss_one (ps_ret (pe_meth (pe_make T.mk_Pusher (ok_Pusher_init T) (hr.mono (by decide)) rfl T.g_Pusher T.b_Pusher_init .nil pass0 (pa_cons (pv 0) pa_nil)) T.cl_Pusher T.h_Pusher_forced (ok_Pusher_forced T) (hr.mono (by decide)) T.b_Pusher_forced .nil pass0 (pa_cons (pv 1) pa_nil)))), ?_⟩
    refine ⟨_, rfl, ?_⟩
    intro a1 dx2 nx3 ndx4 nex5
    obtain ⟨F6, s7, S8⟩ : ∃ F', Same F0 F' ∧ Sta F' ([(a1, HO.ins T.a_Pusher dx2 [])] ++ R) _ := ⟨_, S0.sameF ndx4 (HO.own a1), (S0.newF ndx4 (HO.own a1)).new (by rw [upd_ne nex5.symm]; exact nx3) (HO.ins T.a_Pusher dx2 [])⟩
    revert hm; refine bndI fun y9 e10 hm => ?_
    refine ⟨F6, ([] ++ R), a1, dx2, a_clauses0, v_clauses0, x_clauses0, _, rfl, (SqL.mono hs_clauses0 (S8.tl.ovR s7 (fun _ q => (List.mem_append_right _ q)))), (LR.vmono hl_clauses0 (S8.tl.ovR s7 (fun _ q => (List.mem_append_right _ q))) s7), S8, e10, fun F11 H12 a15 v16 a18 v19 in21 a22 v23 s13 S14 hl17 hl20 hl24 => ⟨rfl, ?_⟩⟩
    have S25 : Sta F11 ([(a1, HO.ins T.a_Pusher dx2 (fl_Pusher (V.ref a15) (V.ref a18) (V.ref a22) (V.bl y9.empty))), (a15, HO.lst v16), (a18, HO.dK v19), (a22, HO.lst v23)] ++ (in21 ++ R)) _ := Sta.pickS (segs := [[(a1, HO.ins T.a_Pusher dx2 (fl_Pusher (V.ref a15) (V.ref a18) (V.ref a22) (V.bl y9.empty))), (a15, HO.lst v16), (a18, HO.dK v19), (a22, HO.lst v23)], in21, []]) (segs' := [[(a1, HO.ins T.a_Pusher dx2 (fl_Pusher (V.ref a15) (V.ref a18) (V.ref a22) (V.bl y9.empty))), (a15, HO.lst v16), (a18, HO.dK v19), (a22, HO.lst v23)], [], in21]) (R := R) [0, 2, 1] (by decide) rfl S14
    revert hm; refine bndI fun y26 e27 hm => ?_
    refine ⟨_, _, _, rfl, (S25.get 0 rfl), fl_Pusher_no_forced, _, rfl, F11, ([(a1, HO.ins T.a_Pusher dx2 (fl_Pusher (V.ref a15) (V.ref a18) (V.ref a22) (V.bl y9.empty))), (a15, HO.lst v16), (a18, HO.dK v19), (a22, HO.lst v23)] ++ (in21 ++ R)), a1, dx2, (M_Pusher.mk y9.clauses y9.places y9.starts y9.empty), a15, v16, a18, v19, a22, v23, a_literals0, v_literals0, x_literals0, _, rfl, (S25.getO 0 rfl), (S25.getO 1 rfl), hl17, (S25.getO 2 rfl), (KRO.view hl20 (S25.memO (fun _ q => (List.mem_append_right _ (List.mem_append_left _ q))))), (S25.getO 3 rfl), hl24, (SqL.mono hs_literals0 (S25.ovR (s7.trans s13) (fun _ q => (List.mem_append_right _ (List.mem_append_right _ q))))), (hl_literals0.mono (s7.trans s13)), S25, e27, fun F28 H29 v32 in33 s30 S31 p34 => ?_⟩
    clear S14
    have S35 : Sta F28 ([(a1, HO.ins T.a_Pusher dx2 (fl_Pusher (V.ref a15) (V.ref a18) (V.ref a22) (V.bl y9.empty))), (a15, HO.lst v16), (a18, HO.dK v19), (a22, HO.lst v23)] ++ (in33 ++ (in21 ++ R))) _ := Sta.pickS (segs := [[], in33, [(a1, HO.ins T.a_Pusher dx2 (fl_Pusher (V.ref a15) (V.ref a18) (V.ref a22) (V.bl y9.empty))), (a15, HO.lst v16), (a18, HO.dK v19), (a22, HO.lst v23)], in21]) (segs' := [[], [(a1, HO.ins T.a_Pusher dx2 (fl_Pusher (V.ref a15) (V.ref a18) (V.ref a22) (V.bl y9.empty))), (a15, HO.lst v16), (a18, HO.dK v19), (a22, HO.lst v23)], in33, in21]) (R := R) [0, 2, 1, 3] (by decide) rfl S31
    obtain rfl := Option.some.inj hm
    have S36 : Sta F28 ([] ++ (in33 ++ R)) _ := Sta.pickS (segs := [[(a1, HO.ins T.a_Pusher dx2 (fl_Pusher (V.ref a15) (V.ref a18) (V.ref a22) (V.bl y9.empty)))], [(a15, HO.lst v16)], [(a18, HO.dK v19)], [(a22, HO.lst v23)], in33, in21]) (segs' := [in33]) (R := R) [4] (by decide) rfl S35
    exact kk _ _ v32 in33 (s7.trans (s13.trans s30)) S36 (MonoO.mono (r := (roO (roM rInt))) (Same.refl _) p34)

def sp_law (T : Txt K mg) : Sp := fun vs H Q _ => ∃ (F0 : Hp) (R : Own) (a_script0 : Addr) (v_script0 : List V) (x_script0 : (List Int)) (r : Bool),
  vs = [V.ref a_script0] ∧ SqL K F0 a_script0 v_script0 ∧ LR (rInt F0) v_script0 x_script0 ∧ Sta F0 ([] ++ R) H ∧ m_law x_script0 = some r ∧ ∀ (F1 : Hp) (H1 : Hp), Same F0 F1 → Sta F1 ([] ++ R) H1 → Q (V.bl r) H1

theorem ok_law (T : Txt K mg) : FnOk P w K mg base CX0 5 T.a_law T.d_law ["script"] (sp_law T) := by
  refine T.F_law.ok sc_law (fun vs H Q E h => ?_) (fun cdv A outer s H vs Q E hr h => ?_)
  · obtain ⟨_, _, _, _, _, _, rfl, _⟩ := h
    rfl
  · obtain ⟨F0, R, a_script0, v_script0, x_script0, r, rfl, hs_script0, hl_script0, S0, hm, kk⟩ := h
    have hu := hu_of hr
    unfold m_law at hm
    refine ⟨_, (pss_cons (ps_set (i := 1) sc_law.nd rfl (Or.inl rfl) (pe_lst (pa_cons pe_int (pa_cons pe_int (pa_cons (pe_call (ok_law_seed T) (hr.mono (by decide)) rfl T.g_law_seed T.F_law_seed.kp T.b_law_seed .nil pass0 (pa_cons (pv 0) pa_nil)) pa_nil))))) (pss_cons (ps_set (i := 2) sc_law.nd rfl (Or.inl rfl) (pe_call (ok_law_letters T) (hr.mono (by decide)) rfl T.g_law_letters T.F_law_letters.kp T.b_law_letters .nil pass0 (pa_cons (pv 0) (pa_cons (pv 1) pa_nil)))) (pss_cons (ps_set (i := 3) sc_law.nd rfl (Or.inl rfl) (pe_call (ok_law_clauses T) (hr.mono (by decide)) rfl T.g_law_clauses T.F_law_clauses.kp T.b_law_clauses .nil pass0 (pa_cons (pv 0) (pa_cons (pv 1) (pa_cons (pv 2) pa_nil))))) (pss_cons (ps_set (i := 4) sc_law.nd rfl (Or.inl rfl) (pe_call (ok_law_given T) (hr.mono (by decide)) rfl T.g_law_given T.F_law_given.kp T.b_law_given .nil pass0 (pa_cons (pv 0) (pa_cons (pv 1) (pa_cons (pv 2) pa_nil))))) (pss_cons (ps_set (i := 5) sc_law.nd rfl (Or.inl rfl) (pe_call (ok_law_given T) (hr.mono (by decide)) rfl T.g_law_given T.F_law_given.kp T.b_law_given .nil pass0 (pa_cons (pv 0) (pa_cons (pv 1) (pa_cons (pv 2) pa_nil))))) (pss_cons (ps_set (i := 6) sc_law.nd rfl (Or.inl rfl) (pe_call (ok_law_handed T) (hr.mono (by decide)) rfl T.g_law_handed T.F_law_handed.kp T.b_law_handed .nil pass0 (pa_cons (pv 3) pa_nil))) (pss_cons (ps_set (i := 7) sc_law.nd rfl (Or.inl rfl) (pe_make T.mk_Pusher (ok_Pusher_init T) (hr.mono (by decide)) rfl T.g_Pusher T.b_Pusher_init .nil pass0 (pa_cons (pv 6) pa_nil))) (pss_cons (ps_set (i := 8) sc_law.nd rfl (Or.inl rfl) (pe_make T.mk_Pusher (ok_Pusher_init T) (hr.mono (by decide)) rfl T.g_Pusher T.b_Pusher_init .nil pass0 (pa_cons (pe_call (ok_law_handed T) (hr.mono (by decide)) rfl T.g_law_handed T.F_law_handed.kp T.b_law_handed .nil pass0 (pa_cons (pv 3) pa_nil)) pa_nil))) (pss_cons (ps_if (pt_cmpR (op_neD hr.units) (pv 6) (pe_call (ok_law_handed T) (hr.mono (by decide)) rfl T.g_law_handed T.F_law_handed.kp T.b_law_handed .nil pass0 (pa_cons (pv 3) pa_nil)) (nomark _)) (pss_one ps_never) pss_nil) (pss_cons (ps_expr (pe_call (ok_law_spoil T) (hr.mono (by decide)) rfl T.g_law_spoil T.F_law_spoil.kp T.b_law_spoil .nil pass0 (pa_cons (pv 6) pa_nil))) (pss_cons (ps_if (pt_cut (PW.pt (pw_or (pt_not (pt_val (pe_call (ok_law_asked T) (hr.mono (by decide)) rfl T.g_law_asked T.F_law_asked.kp T.b_law_asked .nil pass0 (pa_cons (pv 7) (pa_cons (pv 3) (pa_cons (pv 4) pa_nil)))))) (pw_or1 (pt_not (pt_val (pe_call (ok_law_asked T) (hr.mono (by decide)) rfl T.g_law_asked T.F_law_asked.kp T.b_law_asked .nil pass0 (pa_cons (pv 7) (pa_cons (pv 3) (pa_cons (pv 5) pa_nil)))))))))) (pss_one ps_never) pss_nil) (pss_cons (ps_setLc (i := 10) (own := [("clause", 9)]) rfl sc_law.nd rfl rfl (sw_true rfl rfl rfl (by decide +kernel)) (pi_list (pv 3)) (blkOk_by (own := [("clause", 9)]) (N := ["script", "source", "letters", "clauses", "first", "second", "handed", "pusher", "twin", "clause", "grown", "k", "added", "given", "literal"]) (sc := defScope s_law) (by decide +kernel)) (fun _ _ _ _ _ => (pg_name (i := 9) sc_law.nd rfl (Or.inl rfl))) (fun _ _ _ _ _ => pts_nil) (fun _ _ _ _ _ => (pv 9))) (pss_cons (ps_for PassesOwn.never rfl (pi_range1 rfl T.z_range (pa_cons (pe_op op_add pe_int (pe_call (ok_law_take T) (hr.mono (by decide)) rfl T.g_law_take T.F_law_take.kp T.b_law_take .nil pass0 (pa_cons (pv 0) (pa_cons (pv 1) (pa_cons pe_int pa_nil))))) pa_nil)) (pg_name (i := 11) sc_law.nd rfl (Or.inl rfl)) (pss_cons (ps_set (i := 9) sc_law.nd rfl (Or.inl rfl) (pe_call (ok_law_more T) (hr.mono (by decide)) rfl T.g_law_more T.F_law_more.kp T.b_law_more .nil pass0 (pa_cons (pv 0) (pa_cons (pv 1) (pa_cons (pv 2) pa_nil))))) (pss_cons (ps_setLc (i := 12) (own := [("literal", 14)]) rfl sc_law.nd rfl rfl (sw_true rfl rfl rfl (by decide +kernel)) (pi_list (pv 9)) (blkOk_by (own := [("literal", 14)]) (N := ["script", "source", "letters", "clauses", "first", "second", "handed", "pusher", "twin", "clause", "grown", "k", "added", "given", "literal"]) (sc := defScope s_law) (by decide +kernel)) (fun _ _ _ _ _ => (pg_name (i := 14) sc_law.nd rfl (Or.inl rfl))) (fun _ _ _ _ _ => pts_nil) (fun _ _ _ _ _ => (pv 14))) (pss_cons (ps_if (pt_cut (PW.pt (pw_or (pt_cmpR op_notN (pe_meth (pv 7) T.cl_Pusher T.h_Pusher_include (ok_Pusher_include T) (hr.mono (by decide)) T.b_Pusher_include .nil pass0 (pa_cons (pv 12) pa_nil)) pe_non (nomark _)) (pw_or1 (pt_cmpR (op_neD hr.units) (pv 12) (pv 9) (nomark _)))))) (pss_one ps_never) pss_nil) (pss_cons (ps_expr (pe_bm PySem.F.plainAttrs_list PySem.F.slot_list_append PySem.F.type_list_append mt_append (pv 12) (pa_cons pe_int pa_nil))) (pss_cons (ps_expr (pe_bm PySem.F.plainAttrs_list PySem.F.slot_list_append PySem.F.type_list_append mt_append (pv 10) (pa_cons (pv 9) pa_nil))) (pss_one (ps_if (pt_cut (PW.pt (pw_or (pt_not (pt_val (pe_call (ok_law_asked T) (hr.mono (by decide)) rfl T.g_law_asked T.F_law_asked.kp T.b_law_asked .nil pass0 (pa_cons (pv 7) (pa_cons (pv 10) (pa_cons (pv 4) pa_nil)))))) (pw_or1 (pt_not (pt_val (pe_call (ok_law_asked T) (hr.mono (by decide)) rfl T.g_law_asked T.F_law_asked.kp T.b_law_asked .nil pass0 (pa_cons (pv 7) (pa_cons (pv 10) (pa_cons (pv 5) pa_nil)))))))))) (pss_one ps_never) pss_nil)))))))) (pss_cons (ps_if (pt_cut (PW.pt (pw_or (pt_not (pt_val (pe_call (ok_law_asked T) (hr.mono (by decide)) rfl T.g_law_asked T.F_law_asked.kp T.b_law_asked .nil pass0 (pa_cons (pv 8) (pa_cons (pv 3) (pa_cons (pv 5) pa_nil)))))) (pw_or1 (pt_not (pt_val (pe_call (ok_law_asked T) (hr.mono (by decide)) rfl T.g_law_asked T.F_law_asked.kp T.b_law_asked .nil pass0 (pa_cons (pv 8) (pa_cons (pv 3) (pa_cons (pv 4) pa_nil)))))))))) (pss_one ps_never) pss_nil) (pss_cons (ps_set (i := 6) sc_law.nd rfl (Or.inl rfl) (pe_call (ok_law_handed T) (hr.mono (by decide)) rfl T.g_law_handed T.F_law_handed.kp T.b_law_handed .nil pass0 (pa_cons (pv 10) pa_nil))) (pss_cons (ps_setLc (i := 13) (own := [("literal", 14)]) rfl sc_law.nd rfl rfl (sw_true rfl rfl rfl (by decide +kernel)) (pi_list (pv 5)) (blkOk_by (own := [("literal", 14)]) (N := ["script", "source", "letters", "clauses", "first", "second", "handed", "pusher", "twin", "clause", "grown", "k", "added", "given", "literal"]) (sc := defScope s_law) (by decide +kernel)) (fun _ _ _ _ _ => (pg_name (i := 14) sc_law.nd rfl (Or.inl rfl))) (fun _ _ _ _ _ => pts_nil) (fun _ _ _ _ _ => (pv 14))) (pss_cons (ps_if (pt_not (pt_val (pe_call (ok_law_same T) (hr.mono (by decide)) rfl T.g_law_same T.F_law_same.kp T.b_law_same .nil pass0 (pa_cons (pe_call (ok_push T) (hr.mono (by decide)) rfl T.g_push T.F_push.kp T.b_push .nil pass0 (pa_cons (pv 6) (pa_cons (pv 13) pa_nil))) (pa_cons (pe_call (ok_law_forced T) (hr.mono (by decide)) rfl T.g_law_forced T.F_law_forced.kp T.b_law_forced .nil pass0 (pa_cons (pv 10) (pa_cons (pv 5) pa_nil))) pa_nil))))) (pss_one ps_never) pss_nil) (pss_one (ps_ret (pe_cut (pe_and (pe_cmpR (op_eqD hr.units) (pv 6) (pe_call (ok_law_handed T) (hr.mono (by decide)) rfl T.g_law_handed T.F_law_handed.kp T.b_law_handed .nil pass0 (pa_cons (pv 10) pa_nil)) (nomark _)) (pe_one (pe_cmpR (op_eqD hr.units) (pv 13) (pv 5) (nomark _)))))))))))))))))))))))), ?_⟩
    refine seqI fun N1 hN2 => ?_
    revert hm; refine bndI fun y3 e4 hm => ?_
    refine ⟨_, rfl, F0, ([] ++ R), a_script0, v_script0, x_script0, _, rfl, (SqL.mono hs_script0 (Same.refl _)), (hl_script0), S0, e4, (by show 3 ≤ sizeLine; decide), ?_⟩
    intro a5 np6
    have hl7 : LR (rInt F0) [V.int 0, V.int 0, V.int y3] ([(0 : Int), (0 : Int), y3] : (List Int)) := ⟨rfl, rfl, rfl, trivial⟩
    have S8 : Sta F0 ([(a5, HO.lst [V.int 0, V.int 0, V.int y3])] ++ R) _ := S0.new np6 _
    refine hN2 _ _ ?_
    refine seqI fun N9 hN10 => ?_
    revert hm; refine bndI fun y11 e12 hm => ?_
    refine ⟨_, rfl, _, rfl, F0, ([] ++ R), a_script0, v_script0, x_script0, a5, [V.int 0, V.int 0, V.int y3], ([(0 : Int), (0 : Int), y3] : (List Int)), _, rfl, (SqL.mono hs_script0 (Same.refl _)), (hl_script0), hl7, S8, e12, fun F13 H14 v17 a19 v20 s15 S16 hl18 hl21 => ?_⟩
    clear S0
    have S22 : Sta F13 ([(a19, HO.lst v20), (a5, HO.lst v17)] ++ R) _ := S16
    refine hN10 _ _ ?_
    refine seqI fun N23 hN24 => ?_
    have S25 : Sta F13 ([(a5, HO.lst v17), (a19, HO.lst v20)] ++ R) _ := S22.pick [1, 0] (by decide) rfl
    revert hm; refine bndI fun y26 e27 hm => ?_
    refine ⟨_, rfl, _, rfl, _, rfl, F13, ([(a19, HO.lst v20)] ++ R), a_script0, v_script0, x_script0, a5, v17, y11.2, a19, v20, y11.1, _, rfl, (SqL.mono hs_script0 s15), ((hl_script0.mono s15)), hl18, (SqL.of (S25.tl.getO 0 rfl)), hl21, S25, e27, fun F28 H29 v32 a34 v35 s30 S31 hl33 hl36 => ?_⟩
    clear S16 S22
    have S37 : Sta F28 ([(a34, HO.lst v35), (a5, HO.lst v32), (a19, HO.lst v20)] ++ R) _ := S31
    refine hN24 _ _ ?_
    refine seqI fun N38 hN39 => ?_
    have S40 : Sta F28 ([(a5, HO.lst v32), (a34, HO.lst v35), (a19, HO.lst v20)] ++ R) _ := S37.pick [1, 0, 2] (by decide) rfl
    revert hm; refine bndI fun y41 e42 hm => ?_
    refine ⟨_, rfl, _, rfl, _, rfl, F28, ([(a34, HO.lst v35), (a19, HO.lst v20)] ++ R), a_script0, v_script0, x_script0, a5, v32, y26.2, a19, v20, y11.1, _, rfl, (SqL.mono hs_script0 (s15.trans s30)), ((hl_script0.mono (s15.trans s30))), hl33, (SqL.of (S40.tl.getO 1 rfl)), (hl21.mono s30), S40, e42, fun F43 H44 v47 a49 v50 s45 S46 hl48 hl51 => ?_⟩
    clear S31 S37
    have S52 : Sta F43 ([(a49, HO.lst v50), (a5, HO.lst v47), (a34, HO.lst v35), (a19, HO.lst v20)] ++ R) _ := S46
    refine hN39 _ _ ?_
    refine seqI fun N53 hN54 => ?_
    have S55 : Sta F43 ([(a5, HO.lst v47), (a49, HO.lst v50), (a34, HO.lst v35), (a19, HO.lst v20)] ++ R) _ := S52.pick [1, 0, 2, 3] (by decide) rfl
    revert hm; refine bndI fun y56 e57 hm => ?_
    refine ⟨_, rfl, _, rfl, _, rfl, F43, ([(a49, HO.lst v50), (a34, HO.lst v35), (a19, HO.lst v20)] ++ R), a_script0, v_script0, x_script0, a5, v47, y41.2, a19, v20, y11.1, _, rfl, (SqL.mono hs_script0 (s15.trans (s30.trans s45))), ((hl_script0.mono (s15.trans (s30.trans s45)))), hl48, (SqL.of (S55.tl.getO 2 rfl)), (hl21.mono (s30.trans s45)), S55, e57, fun F58 H59 v62 a64 v65 s60 S61 hl63 hl66 => ?_⟩
    clear S46 S52
    have S67 : Sta F58 ([(a64, HO.lst v65), (a5, HO.lst v62), (a49, HO.lst v50), (a34, HO.lst v35), (a19, HO.lst v20)] ++ R) _ := S61
    refine hN54 _ _ ?_
    refine seqI fun N68 hN69 => ?_
    revert hm; refine bndI fun y70 e71 hm => ?_
    refine ⟨_, rfl, F58, ([(a64, HO.lst v65), (a5, HO.lst v62), (a49, HO.lst v50), (a34, HO.lst v35), (a19, HO.lst v20)] ++ R), a34, v35, y26.1, _, rfl, (SqL.of (S67.getO 3 rfl)), (hl36.mono (s45.trans s60)), S67, e71, fun F72 H73 a76 v77 in79 s74 S75 hl78 => ?_⟩
    clear S61
    have S80 : Sta F72 ([(a76, HO.lst v77), (a64, HO.lst v65), (a5, HO.lst v62), (a49, HO.lst v50), (a34, HO.lst v35), (a19, HO.lst v20)] ++ (in79 ++ R)) _ := Sta.pickS (segs := [[(a76, HO.lst v77)], in79, [(a64, HO.lst v65), (a5, HO.lst v62), (a49, HO.lst v50), (a34, HO.lst v35), (a19, HO.lst v20)]]) (segs' := [[(a76, HO.lst v77)], [(a64, HO.lst v65), (a5, HO.lst v62), (a49, HO.lst v50), (a34, HO.lst v35), (a19, HO.lst v20)], in79]) (R := R) [0, 2, 1] (by decide) rfl S75
    refine hN69 _ _ ?_
    refine seqI fun N81 hN82 => ?_
    refine ⟨_, rfl, ?_⟩
    clear S75
    intro a83 dx84 nx85 ndx86 nex87
    obtain ⟨F88, s89, S90⟩ : ∃ F', Same F72 F' ∧ Sta F' ([(a83, HO.ins T.a_Pusher dx84 []), (a76, HO.lst v77), (a64, HO.lst v65), (a5, HO.lst v62), (a49, HO.lst v50), (a34, HO.lst v35), (a19, HO.lst v20)] ++ (in79 ++ R)) _ := ⟨_, S80.sameF ndx86 (HO.own a83), (S80.newF ndx86 (HO.own a83)).new (by rw [upd_ne nex87.symm]; exact nx85) (HO.ins T.a_Pusher dx84 [])⟩
    revert hm; refine bndI fun y91 e92 hm => ?_
    refine ⟨F88, ([(a76, HO.lst v77), (a64, HO.lst v65), (a5, HO.lst v62), (a49, HO.lst v50), (a34, HO.lst v35), (a19, HO.lst v20)] ++ (in79 ++ R)), a83, dx84, a76, v77, y70, _, rfl, (SqL.of (S90.tl.getO 0 rfl)), (LRO.view (LRO.mono hl78 s89) (S90.tl.memO (fun _ q => (List.mem_append_right _ (List.mem_append_left _ q))))), S90, e92, fun F93 H94 a97 v98 a100 v101 in103 a104 v105 s95 S96 hl99 hl102 hl106 => ⟨rfl, ?_⟩⟩
    have S107 : Sta F93 ([(a83, HO.ins T.a_Pusher dx84 (fl_Pusher (V.ref a97) (V.ref a100) (V.ref a104) (V.bl y91.empty))), (a97, HO.lst v98), (a100, HO.dK v101), (a104, HO.lst v105), (a76, HO.lst v77), (a64, HO.lst v65), (a5, HO.lst v62), (a49, HO.lst v50), (a34, HO.lst v35), (a19, HO.lst v20)] ++ (in103 ++ (in79 ++ R))) _ := Sta.pickS (segs := [[(a83, HO.ins T.a_Pusher dx84 (fl_Pusher (V.ref a97) (V.ref a100) (V.ref a104) (V.bl y91.empty))), (a97, HO.lst v98), (a100, HO.dK v101), (a104, HO.lst v105)], in103, [(a76, HO.lst v77), (a64, HO.lst v65), (a5, HO.lst v62), (a49, HO.lst v50), (a34, HO.lst v35), (a19, HO.lst v20)], in79]) (segs' := [[(a83, HO.ins T.a_Pusher dx84 (fl_Pusher (V.ref a97) (V.ref a100) (V.ref a104) (V.bl y91.empty))), (a97, HO.lst v98), (a100, HO.dK v101), (a104, HO.lst v105)], [(a76, HO.lst v77), (a64, HO.lst v65), (a5, HO.lst v62), (a49, HO.lst v50), (a34, HO.lst v35), (a19, HO.lst v20)], in103, in79]) (R := R) [0, 2, 1, 3] (by decide) rfl S96
    refine hN82 _ _ ?_
    refine seqI fun N108 hN109 => ?_
    revert hm; refine bndI fun y110 e111 hm => ?_
    refine ⟨_, rfl, F93, ([(a83, HO.ins T.a_Pusher dx84 (fl_Pusher (V.ref a97) (V.ref a100) (V.ref a104) (V.bl y91.empty))), (a97, HO.lst v98), (a100, HO.dK v101), (a104, HO.lst v105), (a76, HO.lst v77), (a64, HO.lst v65), (a5, HO.lst v62), (a49, HO.lst v50), (a34, HO.lst v35), (a19, HO.lst v20)] ++ (in103 ++ (in79 ++ R))), a34, v35, y26.1, _, rfl, (SqL.of (S107.getO 8 rfl)), (hl36.mono (s45.trans (s60.trans (s74.trans (s89.trans s95))))), S107, e111, fun F112 H113 a116 v117 in119 s114 S115 hl118 => ?_⟩
    clear S96
    have S120 : Sta F112 ([(a116, HO.lst v117), (a83, HO.ins T.a_Pusher dx84 (fl_Pusher (V.ref a97) (V.ref a100) (V.ref a104) (V.bl y91.empty))), (a97, HO.lst v98), (a100, HO.dK v101), (a104, HO.lst v105), (a76, HO.lst v77), (a64, HO.lst v65), (a5, HO.lst v62), (a49, HO.lst v50), (a34, HO.lst v35), (a19, HO.lst v20)] ++ (in119 ++ (in103 ++ (in79 ++ R)))) _ := Sta.pickS (segs := [[(a116, HO.lst v117)], in119, [(a83, HO.ins T.a_Pusher dx84 (fl_Pusher (V.ref a97) (V.ref a100) (V.ref a104) (V.bl y91.empty))), (a97, HO.lst v98), (a100, HO.dK v101), (a104, HO.lst v105), (a76, HO.lst v77), (a64, HO.lst v65), (a5, HO.lst v62), (a49, HO.lst v50), (a34, HO.lst v35), (a19, HO.lst v20)], in103, in79]) (segs' := [[(a116, HO.lst v117)], [(a83, HO.ins T.a_Pusher dx84 (fl_Pusher (V.ref a97) (V.ref a100) (V.ref a104) (V.bl y91.empty))), (a97, HO.lst v98), (a100, HO.dK v101), (a104, HO.lst v105), (a76, HO.lst v77), (a64, HO.lst v65), (a5, HO.lst v62), (a49, HO.lst v50), (a34, HO.lst v35), (a19, HO.lst v20)], in119, in103, in79]) (R := R) [0, 2, 1, 3, 4] (by decide) rfl S115
    clear S115
    intro a121 dx122 nx123 ndx124 nex125
    obtain ⟨F126, s127, S128⟩ : ∃ F', Same F112 F' ∧ Sta F' ([(a121, HO.ins T.a_Pusher dx122 []), (a116, HO.lst v117), (a83, HO.ins T.a_Pusher dx84 (fl_Pusher (V.ref a97) (V.ref a100) (V.ref a104) (V.bl y91.empty))), (a97, HO.lst v98), (a100, HO.dK v101), (a104, HO.lst v105), (a76, HO.lst v77), (a64, HO.lst v65), (a5, HO.lst v62), (a49, HO.lst v50), (a34, HO.lst v35), (a19, HO.lst v20)] ++ (in119 ++ (in103 ++ (in79 ++ R)))) _ := ⟨_, S120.sameF ndx124 (HO.own a121), (S120.newF ndx124 (HO.own a121)).new (by rw [upd_ne nex125.symm]; exact nx123) (HO.ins T.a_Pusher dx122 [])⟩
    revert hm; refine bndI fun y129 e130 hm => ?_
    refine ⟨F126, ([(a116, HO.lst v117), (a83, HO.ins T.a_Pusher dx84 (fl_Pusher (V.ref a97) (V.ref a100) (V.ref a104) (V.bl y91.empty))), (a97, HO.lst v98), (a100, HO.dK v101), (a104, HO.lst v105), (a76, HO.lst v77), (a64, HO.lst v65), (a5, HO.lst v62), (a49, HO.lst v50), (a34, HO.lst v35), (a19, HO.lst v20)] ++ (in119 ++ (in103 ++ (in79 ++ R)))), a121, dx122, a116, v117, y110, _, rfl, (SqL.of (S128.tl.getO 0 rfl)), (LRO.view (LRO.mono hl118 s127) (S128.tl.memO (fun _ q => (List.mem_append_right _ (List.mem_append_left _ q))))), S128, e130, fun F131 H132 a135 v136 a138 v139 in141 a142 v143 s133 S134 hl137 hl140 hl144 => ⟨rfl, ?_⟩⟩
    have S145 : Sta F131 ([(a121, HO.ins T.a_Pusher dx122 (fl_Pusher (V.ref a135) (V.ref a138) (V.ref a142) (V.bl y129.empty))), (a135, HO.lst v136), (a138, HO.dK v139), (a142, HO.lst v143), (a116, HO.lst v117), (a83, HO.ins T.a_Pusher dx84 (fl_Pusher (V.ref a97) (V.ref a100) (V.ref a104) (V.bl y91.empty))), (a97, HO.lst v98), (a100, HO.dK v101), (a104, HO.lst v105), (a76, HO.lst v77), (a64, HO.lst v65), (a5, HO.lst v62), (a49, HO.lst v50), (a34, HO.lst v35), (a19, HO.lst v20)] ++ (in141 ++ (in119 ++ (in103 ++ (in79 ++ R))))) _ := Sta.pickS (segs := [[(a121, HO.ins T.a_Pusher dx122 (fl_Pusher (V.ref a135) (V.ref a138) (V.ref a142) (V.bl y129.empty))), (a135, HO.lst v136), (a138, HO.dK v139), (a142, HO.lst v143)], in141, [(a116, HO.lst v117), (a83, HO.ins T.a_Pusher dx84 (fl_Pusher (V.ref a97) (V.ref a100) (V.ref a104) (V.bl y91.empty))), (a97, HO.lst v98), (a100, HO.dK v101), (a104, HO.lst v105), (a76, HO.lst v77), (a64, HO.lst v65), (a5, HO.lst v62), (a49, HO.lst v50), (a34, HO.lst v35), (a19, HO.lst v20)], in119, in103, in79]) (segs' := [[(a121, HO.ins T.a_Pusher dx122 (fl_Pusher (V.ref a135) (V.ref a138) (V.ref a142) (V.bl y129.empty))), (a135, HO.lst v136), (a138, HO.dK v139), (a142, HO.lst v143)], [(a116, HO.lst v117), (a83, HO.ins T.a_Pusher dx84 (fl_Pusher (V.ref a97) (V.ref a100) (V.ref a104) (V.bl y91.empty))), (a97, HO.lst v98), (a100, HO.dK v101), (a104, HO.lst v105), (a76, HO.lst v77), (a64, HO.lst v65), (a5, HO.lst v62), (a49, HO.lst v50), (a34, HO.lst v35), (a19, HO.lst v20)], in141, in119, in103, in79]) (R := R) [0, 2, 1, 3, 4, 5] (by decide) rfl S134
    refine hN109 _ _ ?_
    refine seqI fun N146 hN147 => ?_
    revert hm; refine bndI fun y148 e149 hm => ?_
    refine ⟨_, rfl, _, rfl, F131, ([(a121, HO.ins T.a_Pusher dx122 (fl_Pusher (V.ref a135) (V.ref a138) (V.ref a142) (V.bl y129.empty))), (a135, HO.lst v136), (a138, HO.dK v139), (a142, HO.lst v143), (a116, HO.lst v117), (a83, HO.ins T.a_Pusher dx84 (fl_Pusher (V.ref a97) (V.ref a100) (V.ref a104) (V.bl y91.empty))), (a97, HO.lst v98), (a100, HO.dK v101), (a104, HO.lst v105), (a76, HO.lst v77), (a64, HO.lst v65), (a5, HO.lst v62), (a49, HO.lst v50), (a34, HO.lst v35), (a19, HO.lst v20)] ++ (in141 ++ (in119 ++ (in103 ++ (in79 ++ R))))), a34, v35, y26.1, _, rfl, (SqL.of (S145.getO 13 rfl)), (hl36.mono (s45.trans (s60.trans (s74.trans (s89.trans (s95.trans (s114.trans (s127.trans s133)))))))), S145, e149, fun F150 H151 a154 v155 in157 s152 S153 hl156 => ?_⟩
    clear S134
    have S158 : Sta F150 ([(a154, HO.lst v155), (a121, HO.ins T.a_Pusher dx122 (fl_Pusher (V.ref a135) (V.ref a138) (V.ref a142) (V.bl y129.empty))), (a135, HO.lst v136), (a138, HO.dK v139), (a142, HO.lst v143), (a116, HO.lst v117), (a83, HO.ins T.a_Pusher dx84 (fl_Pusher (V.ref a97) (V.ref a100) (V.ref a104) (V.bl y91.empty))), (a97, HO.lst v98), (a100, HO.dK v101), (a104, HO.lst v105), (a76, HO.lst v77), (a64, HO.lst v65), (a5, HO.lst v62), (a49, HO.lst v50), (a34, HO.lst v35), (a19, HO.lst v20)] ++ (in157 ++ (in141 ++ (in119 ++ (in103 ++ (in79 ++ R)))))) _ := Sta.pickS (segs := [[(a154, HO.lst v155)], in157, [(a121, HO.ins T.a_Pusher dx122 (fl_Pusher (V.ref a135) (V.ref a138) (V.ref a142) (V.bl y129.empty))), (a135, HO.lst v136), (a138, HO.dK v139), (a142, HO.lst v143), (a116, HO.lst v117), (a83, HO.ins T.a_Pusher dx84 (fl_Pusher (V.ref a97) (V.ref a100) (V.ref a104) (V.bl y91.empty))), (a97, HO.lst v98), (a100, HO.dK v101), (a104, HO.lst v105), (a76, HO.lst v77), (a64, HO.lst v65), (a5, HO.lst v62), (a49, HO.lst v50), (a34, HO.lst v35), (a19, HO.lst v20)], in141, in119, in103, in79]) (segs' := [[(a154, HO.lst v155)], [(a121, HO.ins T.a_Pusher dx122 (fl_Pusher (V.ref a135) (V.ref a138) (V.ref a142) (V.bl y129.empty))), (a135, HO.lst v136), (a138, HO.dK v139), (a142, HO.lst v143), (a116, HO.lst v117), (a83, HO.ins T.a_Pusher dx84 (fl_Pusher (V.ref a97) (V.ref a100) (V.ref a104) (V.bl y91.empty))), (a97, HO.lst v98), (a100, HO.dK v101), (a104, HO.lst v105), (a76, HO.lst v77), (a64, HO.lst v65), (a5, HO.lst v62), (a49, HO.lst v50), (a34, HO.lst v35), (a19, HO.lst v20)], in157, in141, in119, in103, in79]) (R := R) [0, 2, 1, 3, 4, 5, 6] (by decide) rfl S153
    refine ⟨_, _, (dat_dp (K := K) (r := (rLst K (rSeq K rInt))) ⟨_, _, rfl, (SqL.of (S158.get 10 rfl)), LRO.frz (r := (rSeq K rInt)) (LRO.mono hl78 (s89.trans (s95.trans (s114.trans (s127.trans (s133.trans s152)))))) S158.sub (fun c q => (S158.own _ _ ((fun _ q => (List.mem_append_right _ (List.mem_append_right _ (List.mem_append_right _ (List.mem_append_right _ (List.mem_append_right _ (List.mem_append_left _ q))))))) c q)).1)⟩), (dat_dp (K := K) (r := (rLst K (rSeq K rInt))) ⟨_, _, rfl, (SqL.of (S158.get 0 rfl)), LRO.frz (r := (rSeq K rInt)) hl156 S158.sub (fun c q => (S158.own _ _ ((fun _ q => (List.mem_append_right _ (List.mem_append_left _ q))) c q)).1)⟩), (dat_shaped (K := K) (r := (rLst K (rSeq K rInt))) (Nat.le_of_ble_eq_true rfl) _ (DPl.pl _)), (dat_shaped (K := K) (r := (rLst K (rSeq K rInt))) (Nat.le_of_ble_eq_true rfl) _ (DPl.pl _)), ?_⟩
    clear S153
    rw [dat_eqv (K := K) (r := (rLst K (rSeq K rInt))) y70 y148]
    refine ⟨_, rfl, ?_⟩
    by_cases c159 : (!decide (y70 = y148)) = true
    · revert hm; refine ifTI c159 fun hm => ?_
      cases hm
    · revert hm; refine ifFI c159 fun hm => ?_
      refine goF c159 ?_
      refine hN147 _ _ ?_
      refine seqI fun N160 hN161 => ?_
      have S162 : Sta F150 ([(a76, HO.lst v77)] ++ (in79 ++ ([(a154, HO.lst v155), (a121, HO.ins T.a_Pusher dx122 (fl_Pusher (V.ref a135) (V.ref a138) (V.ref a142) (V.bl y129.empty))), (a135, HO.lst v136), (a138, HO.dK v139), (a142, HO.lst v143), (a116, HO.lst v117), (a83, HO.ins T.a_Pusher dx84 (fl_Pusher (V.ref a97) (V.ref a100) (V.ref a104) (V.bl y91.empty))), (a97, HO.lst v98), (a100, HO.dK v101), (a104, HO.lst v105), (a64, HO.lst v65), (a5, HO.lst v62), (a49, HO.lst v50), (a34, HO.lst v35), (a19, HO.lst v20)] ++ (in157 ++ (in141 ++ (in119 ++ (in103 ++ R))))))) _ := Sta.pickS (segs := [[(a154, HO.lst v155)], [(a121, HO.ins T.a_Pusher dx122 (fl_Pusher (V.ref a135) (V.ref a138) (V.ref a142) (V.bl y129.empty)))], [(a135, HO.lst v136)], [(a138, HO.dK v139)], [(a142, HO.lst v143)], [(a116, HO.lst v117)], [(a83, HO.ins T.a_Pusher dx84 (fl_Pusher (V.ref a97) (V.ref a100) (V.ref a104) (V.bl y91.empty)))], [(a97, HO.lst v98)], [(a100, HO.dK v101)], [(a104, HO.lst v105)], [(a76, HO.lst v77)], [(a64, HO.lst v65)], [(a5, HO.lst v62)], [(a49, HO.lst v50)], [(a34, HO.lst v35)], [(a19, HO.lst v20)], in157, in141, in119, in103, in79]) (segs' := [[(a76, HO.lst v77)], in79, [(a154, HO.lst v155)], [(a121, HO.ins T.a_Pusher dx122 (fl_Pusher (V.ref a135) (V.ref a138) (V.ref a142) (V.bl y129.empty)))], [(a135, HO.lst v136)], [(a138, HO.dK v139)], [(a142, HO.lst v143)], [(a116, HO.lst v117)], [(a83, HO.ins T.a_Pusher dx84 (fl_Pusher (V.ref a97) (V.ref a100) (V.ref a104) (V.bl y91.empty)))], [(a97, HO.lst v98)], [(a100, HO.dK v101)], [(a104, HO.lst v105)], [(a64, HO.lst v65)], [(a5, HO.lst v62)], [(a49, HO.lst v50)], [(a34, HO.lst v35)], [(a19, HO.lst v20)], in157, in141, in119, in103]) (R := R) [10, 20, 0, 1, 2, 3, 4, 5, 6, 7, 8, 9, 11, 12, 13, 14, 15, 16, 17, 18, 19] (by decide) rfl S158
      revert hm; refine bndI fun y163 e164 hm => ?_
      refine ⟨_, rfl, F150, ([(a154, HO.lst v155), (a121, HO.ins T.a_Pusher dx122 (fl_Pusher (V.ref a135) (V.ref a138) (V.ref a142) (V.bl y129.empty))), (a135, HO.lst v136), (a138, HO.dK v139), (a142, HO.lst v143), (a116, HO.lst v117), (a83, HO.ins T.a_Pusher dx84 (fl_Pusher (V.ref a97) (V.ref a100) (V.ref a104) (V.bl y91.empty))), (a97, HO.lst v98), (a100, HO.dK v101), (a104, HO.lst v105), (a64, HO.lst v65), (a5, HO.lst v62), (a49, HO.lst v50), (a34, HO.lst v35), (a19, HO.lst v20)] ++ (in157 ++ (in141 ++ (in119 ++ (in103 ++ R))))), a76, v77, y70, in79, _, rfl, (LRO.mono hl78 (s89.trans (s95.trans (s114.trans (s127.trans (s133.trans s152)))))), S162, e164, fun F165 H166 v169 in171 s167 S168 hl170 => ?_⟩
      clear S158
      have S172 : Sta F165 ([(a76, HO.lst v169), (a154, HO.lst v155), (a121, HO.ins T.a_Pusher dx122 (fl_Pusher (V.ref a135) (V.ref a138) (V.ref a142) (V.bl y129.empty))), (a135, HO.lst v136), (a138, HO.dK v139), (a142, HO.lst v143), (a116, HO.lst v117), (a83, HO.ins T.a_Pusher dx84 (fl_Pusher (V.ref a97) (V.ref a100) (V.ref a104) (V.bl y91.empty))), (a97, HO.lst v98), (a100, HO.dK v101), (a104, HO.lst v105), (a64, HO.lst v65), (a5, HO.lst v62), (a49, HO.lst v50), (a34, HO.lst v35), (a19, HO.lst v20)] ++ (in171 ++ (in157 ++ (in141 ++ (in119 ++ (in103 ++ R)))))) _ := Sta.pickS (segs := [[(a76, HO.lst v169)], in171, [(a154, HO.lst v155), (a121, HO.ins T.a_Pusher dx122 (fl_Pusher (V.ref a135) (V.ref a138) (V.ref a142) (V.bl y129.empty))), (a135, HO.lst v136), (a138, HO.dK v139), (a142, HO.lst v143), (a116, HO.lst v117), (a83, HO.ins T.a_Pusher dx84 (fl_Pusher (V.ref a97) (V.ref a100) (V.ref a104) (V.bl y91.empty))), (a97, HO.lst v98), (a100, HO.dK v101), (a104, HO.lst v105), (a64, HO.lst v65), (a5, HO.lst v62), (a49, HO.lst v50), (a34, HO.lst v35), (a19, HO.lst v20)], in157, in141, in119, in103]) (segs' := [[(a76, HO.lst v169)], [(a154, HO.lst v155), (a121, HO.ins T.a_Pusher dx122 (fl_Pusher (V.ref a135) (V.ref a138) (V.ref a142) (V.bl y129.empty))), (a135, HO.lst v136), (a138, HO.dK v139), (a142, HO.lst v143), (a116, HO.lst v117), (a83, HO.ins T.a_Pusher dx84 (fl_Pusher (V.ref a97) (V.ref a100) (V.ref a104) (V.bl y91.empty))), (a97, HO.lst v98), (a100, HO.dK v101), (a104, HO.lst v105), (a64, HO.lst v65), (a5, HO.lst v62), (a49, HO.lst v50), (a34, HO.lst v35), (a19, HO.lst v20)], in171, in157, in141, in119, in103]) (R := R) [0, 2, 1, 3, 4, 5, 6] (by decide) rfl S168
      refine hN161 _ _ ?_
      refine seqI fun N173 hN174 => ?_
      revert hm; refine bndI fun b175 e176 hm => ?_
      refine ⟨fun b H' => ∃ (F177 : Hp), Same F165 F177 ∧ Sta F177 ([(a76, HO.lst v169), (a154, HO.lst v155), (a121, HO.ins T.a_Pusher dx122 (fl_Pusher (V.ref a135) (V.ref a138) (V.ref a142) (V.bl y129.empty))), (a135, HO.lst v136), (a138, HO.dK v139), (a142, HO.lst v143), (a116, HO.lst v117), (a83, HO.ins T.a_Pusher dx84 (fl_Pusher (V.ref a97) (V.ref a100) (V.ref a104) (V.bl y91.empty))), (a97, HO.lst v98), (a100, HO.dK v101), (a104, HO.lst v105), (a64, HO.lst v65), (a5, HO.lst v62), (a49, HO.lst v50), (a34, HO.lst v35), (a19, HO.lst v20)] ++ (in171 ++ (in157 ++ (in141 ++ (in119 ++ (in103 ++ R)))))) H' ∧ b175 = b, ?_, ?_⟩
      · clear hm
        have hm := e176
        clear e176
        revert hm; refine bndI fun y180 e181 hm => ?_
        refine ⟨_, rfl, _, rfl, _, rfl, F165, ([(a76, HO.lst v169), (a154, HO.lst v155), (a121, HO.ins T.a_Pusher dx122 (fl_Pusher (V.ref a135) (V.ref a138) (V.ref a142) (V.bl y129.empty))), (a135, HO.lst v136), (a138, HO.dK v139), (a142, HO.lst v143), (a116, HO.lst v117), (a83, HO.ins T.a_Pusher dx84 (fl_Pusher (V.ref a97) (V.ref a100) (V.ref a104) (V.bl y91.empty))), (a97, HO.lst v98), (a100, HO.dK v101), (a104, HO.lst v105), (a64, HO.lst v65), (a5, HO.lst v62), (a49, HO.lst v50), (a34, HO.lst v35), (a19, HO.lst v20)] ++ (in171 ++ (in157 ++ (in141 ++ (in119 ++ (in103 ++ R)))))), a83, dx84, (M_Pusher.mk y91.clauses y91.places y91.starts y91.empty), a97, v98, a100, v101, a104, v105, a34, v35, y26.1, a49, v50, y41.1, _, rfl, (S172.getO 7 rfl), (S172.getO 8 rfl), (hl99.mono (s114.trans (s127.trans (s133.trans (s152.trans s167))))), (S172.getO 9 rfl), (KRO.view (KRO.mono hl102 (s114.trans (s127.trans (s133.trans (s152.trans s167))))) (S172.memO (fun _ q => (List.mem_append_right _ (List.mem_append_right _ (List.mem_append_right _ (List.mem_append_right _ (List.mem_append_right _ (List.mem_append_left _ q))))))))), (S172.getO 10 rfl), (hl106.mono (s114.trans (s127.trans (s133.trans (s152.trans s167))))), (SqL.of (S172.getO 14 rfl)), (hl36.mono (s45.trans (s60.trans (s74.trans (s89.trans (s95.trans (s114.trans (s127.trans (s133.trans (s152.trans s167)))))))))), (SqL.of (S172.getO 13 rfl)), (hl51.mono (s60.trans (s74.trans (s89.trans (s95.trans (s114.trans (s127.trans (s133.trans (s152.trans s167))))))))), S172, e181, fun F182 H183 s184 S185 => ?_⟩
        have S186 : Sta F182 ([(a76, HO.lst v169), (a154, HO.lst v155), (a121, HO.ins T.a_Pusher dx122 (fl_Pusher (V.ref a135) (V.ref a138) (V.ref a142) (V.bl y129.empty))), (a135, HO.lst v136), (a138, HO.dK v139), (a142, HO.lst v143), (a116, HO.lst v117), (a83, HO.ins T.a_Pusher dx84 (fl_Pusher (V.ref a97) (V.ref a100) (V.ref a104) (V.bl y91.empty))), (a97, HO.lst v98), (a100, HO.dK v101), (a104, HO.lst v105), (a64, HO.lst v65), (a5, HO.lst v62), (a49, HO.lst v50), (a34, HO.lst v35), (a19, HO.lst v20)] ++ (in171 ++ (in157 ++ (in141 ++ (in119 ++ (in103 ++ R)))))) _ := S185
        refine ⟨_, rfl, ?_⟩
        clear S185
        by_cases c187 : (!y180) = true
        · revert hm; refine ifTI c187 fun hm => ?_
          obtain rfl := Option.some.inj hm
          exact goT c187 ⟨F182, s184, S186, rfl⟩
        · revert hm; refine ifFI c187 fun hm => ?_
          refine goF c187 ?_
          revert hm; refine bndI fun y188 e189 hm => ?_
          refine ⟨_, rfl, _, rfl, _, rfl, F182, ([(a76, HO.lst v169), (a154, HO.lst v155), (a121, HO.ins T.a_Pusher dx122 (fl_Pusher (V.ref a135) (V.ref a138) (V.ref a142) (V.bl y129.empty))), (a135, HO.lst v136), (a138, HO.dK v139), (a142, HO.lst v143), (a116, HO.lst v117), (a83, HO.ins T.a_Pusher dx84 (fl_Pusher (V.ref a97) (V.ref a100) (V.ref a104) (V.bl y91.empty))), (a97, HO.lst v98), (a100, HO.dK v101), (a104, HO.lst v105), (a64, HO.lst v65), (a5, HO.lst v62), (a49, HO.lst v50), (a34, HO.lst v35), (a19, HO.lst v20)] ++ (in171 ++ (in157 ++ (in141 ++ (in119 ++ (in103 ++ R)))))), a83, dx84, (M_Pusher.mk y91.clauses y91.places y91.starts y91.empty), a97, v98, a100, v101, a104, v105, a34, v35, y26.1, a64, v65, y56.1, _, rfl, (S186.getO 7 rfl), (S186.getO 8 rfl), (hl99.mono (s114.trans (s127.trans (s133.trans (s152.trans (s167.trans s184)))))), (S186.getO 9 rfl), (KRO.view (KRO.mono hl102 (s114.trans (s127.trans (s133.trans (s152.trans (s167.trans s184)))))) (S186.memO (fun _ q => (List.mem_append_right _ (List.mem_append_right _ (List.mem_append_right _ (List.mem_append_right _ (List.mem_append_right _ (List.mem_append_left _ q))))))))), (S186.getO 10 rfl), (hl106.mono (s114.trans (s127.trans (s133.trans (s152.trans (s167.trans s184)))))), (SqL.of (S186.getO 14 rfl)), (hl36.mono (s45.trans (s60.trans (s74.trans (s89.trans (s95.trans (s114.trans (s127.trans (s133.trans (s152.trans (s167.trans s184))))))))))), (SqL.of (S186.getO 11 rfl)), (hl66.mono (s74.trans (s89.trans (s95.trans (s114.trans (s127.trans (s133.trans (s152.trans (s167.trans s184))))))))), S186, e189, fun F190 H191 s192 S193 => ?_⟩
          have S194 : Sta F190 ([(a76, HO.lst v169), (a154, HO.lst v155), (a121, HO.ins T.a_Pusher dx122 (fl_Pusher (V.ref a135) (V.ref a138) (V.ref a142) (V.bl y129.empty))), (a135, HO.lst v136), (a138, HO.dK v139), (a142, HO.lst v143), (a116, HO.lst v117), (a83, HO.ins T.a_Pusher dx84 (fl_Pusher (V.ref a97) (V.ref a100) (V.ref a104) (V.bl y91.empty))), (a97, HO.lst v98), (a100, HO.dK v101), (a104, HO.lst v105), (a64, HO.lst v65), (a5, HO.lst v62), (a49, HO.lst v50), (a34, HO.lst v35), (a19, HO.lst v20)] ++ (in171 ++ (in157 ++ (in141 ++ (in119 ++ (in103 ++ R)))))) _ := S193
          refine ⟨_, rfl, ?_⟩
          clear S193
          obtain rfl := Option.some.inj hm
          exact ⟨F190, (s184.trans s192), S194, rfl⟩
      rintro b195 H196 ⟨F177, s178, S179, rfl⟩
      by_cases c197 : b175 = true
      · revert hm; refine ifTI c197 fun hm => ?_
        cases hm
      · revert hm; refine ifFI c197 fun hm => ?_
        refine goF c197 ?_
        refine hN174 _ _ ?_
        refine seqI fun N198 hN199 => ?_
        revert hm; refine grdI fun g214 hm => ?_
        have e200 : lcO (fun x204 => some (some x204)) y26.1 = some (y26.1.map fun x204 => x204) := lc_map (fun x204 => x204) y26.1
        refine ⟨_, rfl, _, rfl, ⟨_, (SqL.of (S179.get 14 rfl))⟩, fun a212 np213 => lc_list (K := K) (a := a34) (xs := v35) (fun i H2 => ∃ (F205 : Hp) (v206 : List V) (acc207 : List (List Int)) (r201 : List (List Int)), Same F177 F205 ∧ Sta F205 ([(a212, HO.lst v206), (a76, HO.lst v169), (a154, HO.lst v155), (a121, HO.ins T.a_Pusher dx122 (fl_Pusher (V.ref a135) (V.ref a138) (V.ref a142) (V.bl y129.empty))), (a135, HO.lst v136), (a138, HO.dK v139), (a142, HO.lst v143), (a116, HO.lst v117), (a83, HO.ins T.a_Pusher dx84 (fl_Pusher (V.ref a97) (V.ref a100) (V.ref a104) (V.bl y91.empty))), (a97, HO.lst v98), (a100, HO.dK v101), (a104, HO.lst v105), (a64, HO.lst v65), (a5, HO.lst v62), (a49, HO.lst v50), (a34, HO.lst v35), (a19, HO.lst v20)] ++ (in171 ++ (in157 ++ (in141 ++ (in119 ++ (in103 ++ R)))))) H2 ∧ LR ((rLst K rInt) F205) v206 acc207 ∧ acc207.length ≤ i ∧ lcO (fun x204 => some (some x204)) (List.drop i y26.1) = some r201 ∧ (y26.1.map fun x204 => x204) = acc207 ++ r201) ⟨F177, [], [], _, Same.refl _, S179.new np213 _, trivial, Nat.le_refl _, e200, rfl⟩ (by rintro i H2 _ ⟨F205, v206, acc207, r201, s208, S209, hl210, hn211, hr202, hy203⟩; exact (SqL.of (S209.get 15 rfl))) ?_ ?_⟩
        · rintro i v215 H2 hi ⟨F205, v206, acc207, r201, s208, S209, hl210, hn211, hr202, hy203⟩
          obtain ⟨x204, hx216, rx217⟩ := LR.getV hl36 hi
          rw [drop_cons hx216] at hr202
          revert hr202; refine lcI fun y218 r219 hm hr221 hc222 => ?_
          obtain ⟨a223, v224, rfl, hs225, hl226⟩ := rx217
          refine ⟨rfl, ?_⟩
          refine tYesI ?_
          rw [if_pos rfl]
          refine ⟨_, rfl, ?_⟩
          obtain rfl := Option.some.inj hm
          have hlt : v206.length < 16777216 := by rw [LR.length hl210]; have := (List.getElem?_eq_some_iff.mp hx216).1; have := of_decide_eq_true g214; omega
          have S227 : Sta F205 ([(a212, HO.lst (v206 ++ [V.ref a223])), (a76, HO.lst v169), (a154, HO.lst v155), (a121, HO.ins T.a_Pusher dx122 (fl_Pusher (V.ref a135) (V.ref a138) (V.ref a142) (V.bl y129.empty))), (a135, HO.lst v136), (a138, HO.dK v139), (a142, HO.lst v143), (a116, HO.lst v117), (a83, HO.ins T.a_Pusher dx84 (fl_Pusher (V.ref a97) (V.ref a100) (V.ref a104) (V.bl y91.empty))), (a97, HO.lst v98), (a100, HO.dK v101), (a104, HO.lst v105), (a64, HO.lst v65), (a5, HO.lst v62), (a49, HO.lst v50), (a34, HO.lst v35), (a19, HO.lst v20)] ++ (in171 ++ (in157 ++ (in141 ++ (in119 ++ (in103 ++ R)))))) _ := S209.set 0 rfl _
          exact ⟨_, (S209.get 0 rfl), hlt, F205, _, (acc207 ++ [x204]), r219, s208, S227, LR.snoc hl210 ⟨_, _, rfl, SqL.mono hs225 (s45.trans (s60.trans (s74.trans (s89.trans (s95.trans (s114.trans (s127.trans (s133.trans (s152.trans (s167.trans (s178.trans s208))))))))))), (hl226.mono (s45.trans (s60.trans (s74.trans (s89.trans (s95.trans (s114.trans (s127.trans (s133.trans (s152.trans (s167.trans (s178.trans s208))))))))))))⟩, by rw [List.length_append]; exact Nat.succ_le_succ hn211, hr221, by rw [List.append_assoc]; exact hy203.trans (congrArg (acc207 ++ ·) hc222)⟩
        rintro H2 ⟨F205, v206, acc207, r201, s208, S209, hl210, hn211, hr202, hy203⟩
        rw [LR.dropEnd hl36] at hr202
        obtain rfl := Option.some.inj hr202
        rw [List.append_nil] at hy203
        subst hy203
        have S228 : Sta F205 ([(a212, HO.lst v206), (a76, HO.lst v169), (a154, HO.lst v155), (a121, HO.ins T.a_Pusher dx122 (fl_Pusher (V.ref a135) (V.ref a138) (V.ref a142) (V.bl y129.empty))), (a135, HO.lst v136), (a138, HO.dK v139), (a142, HO.lst v143), (a116, HO.lst v117), (a83, HO.ins T.a_Pusher dx84 (fl_Pusher (V.ref a97) (V.ref a100) (V.ref a104) (V.bl y91.empty))), (a97, HO.lst v98), (a100, HO.dK v101), (a104, HO.lst v105), (a64, HO.lst v65), (a5, HO.lst v62), (a49, HO.lst v50), (a34, HO.lst v35), (a19, HO.lst v20)] ++ (in171 ++ (in157 ++ (in141 ++ (in119 ++ (in103 ++ R)))))) _ := S209
        refine hN199 _ _ ?_
        refine seqI fun N229 hN230 => ?_
        have S234 : Sta F205 ([(a5, HO.lst v62), (a212, HO.lst v206), (a76, HO.lst v169), (a154, HO.lst v155), (a121, HO.ins T.a_Pusher dx122 (fl_Pusher (V.ref a135) (V.ref a138) (V.ref a142) (V.bl y129.empty))), (a135, HO.lst v136), (a138, HO.dK v139), (a142, HO.lst v143), (a116, HO.lst v117), (a83, HO.ins T.a_Pusher dx84 (fl_Pusher (V.ref a97) (V.ref a100) (V.ref a104) (V.bl y91.empty))), (a97, HO.lst v98), (a100, HO.dK v101), (a104, HO.lst v105), (a64, HO.lst v65), (a49, HO.lst v50), (a34, HO.lst v35), (a19, HO.lst v20)] ++ (in171 ++ (in157 ++ (in141 ++ (in119 ++ (in103 ++ R)))))) _ := S228.pick [13, 0, 1, 2, 3, 4, 5, 6, 7, 8, 9, 10, 11, 12, 14, 15, 16] (by decide) rfl
        revert hm; refine bndI fun y235 e236 hm => ?_
        refine ⟨_, rfl, _, rfl, F205, ([(a212, HO.lst v206), (a76, HO.lst v169), (a154, HO.lst v155), (a121, HO.ins T.a_Pusher dx122 (fl_Pusher (V.ref a135) (V.ref a138) (V.ref a142) (V.bl y129.empty))), (a135, HO.lst v136), (a138, HO.dK v139), (a142, HO.lst v143), (a116, HO.lst v117), (a83, HO.ins T.a_Pusher dx84 (fl_Pusher (V.ref a97) (V.ref a100) (V.ref a104) (V.bl y91.empty))), (a97, HO.lst v98), (a100, HO.dK v101), (a104, HO.lst v105), (a64, HO.lst v65), (a49, HO.lst v50), (a34, HO.lst v35), (a19, HO.lst v20)] ++ (in171 ++ (in157 ++ (in141 ++ (in119 ++ (in103 ++ R)))))), a_script0, v_script0, x_script0, a5, v62, y56.2, (2 : Int), _, rfl, (SqL.mono hs_script0 (s15.trans (s30.trans (s45.trans (s60.trans (s74.trans (s89.trans (s95.trans (s114.trans (s127.trans (s133.trans (s152.trans (s167.trans (s178.trans s208)))))))))))))), ((hl_script0.mono (s15.trans (s30.trans (s45.trans (s60.trans (s74.trans (s89.trans (s95.trans (s114.trans (s127.trans (s133.trans (s152.trans (s167.trans (s178.trans s208))))))))))))))), (hl63.mono (s74.trans (s89.trans (s95.trans (s114.trans (s127.trans (s133.trans (s152.trans (s167.trans (s178.trans s208)))))))))), S234, e236, fun F237 H238 v241 s239 S240 hl242 => ?_⟩
        clear S209 S228
        have S243 : Sta F237 ([(a5, HO.lst v241), (a212, HO.lst v206), (a76, HO.lst v169), (a154, HO.lst v155), (a121, HO.ins T.a_Pusher dx122 (fl_Pusher (V.ref a135) (V.ref a138) (V.ref a142) (V.bl y129.empty))), (a135, HO.lst v136), (a138, HO.dK v139), (a142, HO.lst v143), (a116, HO.lst v117), (a83, HO.ins T.a_Pusher dx84 (fl_Pusher (V.ref a97) (V.ref a100) (V.ref a104) (V.bl y91.empty))), (a97, HO.lst v98), (a100, HO.dK v101), (a104, HO.lst v105), (a64, HO.lst v65), (a49, HO.lst v50), (a34, HO.lst v35), (a19, HO.lst v20)] ++ (in171 ++ (in157 ++ (in141 ++ (in119 ++ (in103 ++ R)))))) _ := S240
        revert hm; refine grdI fun g244 hm => ?_
        revert hm; refine bndI fun y231 e232 hm233 => ?_
        refine ⟨_, _, rfl, rfl, _, rfl, (rngOk_lo g244), (rngOk_hi g244), for_rng (lo := 0) (n := ((1 : Int) + y235.1).toNat) (fun i σ H2 => ∃ (st1 : ((List Int) × (List (List Int)) × M_Pusher)) (F294 : Hp) (v301 : List V) (v303 : List V) (a305 : Addr) (v306 : List V) (a308 : Addr) (v309 : List (Key × V)) (in311 : Own) (a312 : Addr) (v313 : List V) (o297 : Option V) (o298 : Option V) (o299 : Option V) (o300 : Option V), σ = [some (V.ref a_script0), some (V.ref a5), some (V.ref a19), some (V.ref a34), some (V.ref a49), some (V.ref a64), some (V.ref a76), some (V.ref a83), some (V.ref a121), o297, some (V.ref a212), o298, o299, none, o300] ∧ Same F237 F294 ∧ Sta F294 ([(a5, HO.lst v301), (a212, HO.lst v303), (a76, HO.lst v169), (a154, HO.lst v155), (a121, HO.ins T.a_Pusher dx122 (fl_Pusher (V.ref a135) (V.ref a138) (V.ref a142) (V.bl y129.empty))), (a135, HO.lst v136), (a138, HO.dK v139), (a142, HO.lst v143), (a116, HO.lst v117), (a83, HO.ins T.a_Pusher dx84 (fl_Pusher (V.ref a305) (V.ref a308) (V.ref a312) (V.bl st1.2.2.empty))), (a305, HO.lst v306), (a308, HO.dK v309), (a312, HO.lst v313), (a64, HO.lst v65), (a49, HO.lst v50), (a34, HO.lst v35), (a19, HO.lst v20)] ++ (in171 ++ (in157 ++ (in141 ++ (in119 ++ (in311 ++ R)))))) H2 ∧ LR (rInt F294) v301 st1.1 ∧ LR ((rLst K rInt) F294) v303 st1.2.1 ∧ LR ((rLst K rInt) F294) v306 st1.2.2.clauses ∧ KRO Sum.inl ((roM rInt) F294) v309 st1.2.2.places in311 ∧ LR (rInt F294) v313 st1.2.2.starts ∧ m_law_l1 x_script0 y11 y41 y56 (List.drop i (pyRange 0 ((1 : Int) + y235.1).toNat)) st1 = some y231) ⟨(y235.2, (y26.1.map fun x204 => x204), (M_Pusher.mk y91.clauses y91.places y91.starts y91.empty)), F237, v241, v206, a97, v98, a100, v101, in103, a104, v105, _, _, _, _, rfl, (Same.refl _), S243, hl242, (hl210.mono s239), (hl99.mono (s114.trans (s127.trans (s133.trans (s152.trans (s167.trans (s178.trans (s208.trans s239)))))))), (KRO.mono hl102 (s114.trans (s127.trans (s133.trans (s152.trans (s167.trans (s178.trans (s208.trans s239)))))))), (hl106.mono (s114.trans (s127.trans (s133.trans (s152.trans (s167.trans (s178.trans (s208.trans s239)))))))), e232⟩ ?_ ?_⟩
        clear S240
        · rintro i x315 σ H2 hi ⟨st1, F294, v301, v303, a305, v306, a308, v309, in311, a312, v313, o297, o298, o299, o300, rfl, s295, S296, hl302, hl304, hl307, hl310, hl314, hm⟩
          rw [drop_cons hi, m_law_l1] at hm
          refine seqI fun N317 hN318 => ?_
          revert hm; refine bndI fun y319 e320 hm => ?_
          refine ⟨_, rfl, _, rfl, _, rfl, F294, ([(a212, HO.lst v303), (a76, HO.lst v169), (a154, HO.lst v155), (a121, HO.ins T.a_Pusher dx122 (fl_Pusher (V.ref a135) (V.ref a138) (V.ref a142) (V.bl y129.empty))), (a135, HO.lst v136), (a138, HO.dK v139), (a142, HO.lst v143), (a116, HO.lst v117), (a83, HO.ins T.a_Pusher dx84 (fl_Pusher (V.ref a305) (V.ref a308) (V.ref a312) (V.bl st1.2.2.empty))), (a305, HO.lst v306), (a308, HO.dK v309), (a312, HO.lst v313), (a64, HO.lst v65), (a49, HO.lst v50), (a34, HO.lst v35), (a19, HO.lst v20)] ++ (in171 ++ (in157 ++ (in141 ++ (in119 ++ (in311 ++ R)))))), a_script0, v_script0, x_script0, a5, v301, st1.1, a19, v20, y11.1, _, rfl, (SqL.mono hs_script0 (s15.trans (s30.trans (s45.trans (s60.trans (s74.trans (s89.trans (s95.trans (s114.trans (s127.trans (s133.trans (s152.trans (s167.trans (s178.trans (s208.trans (s239.trans s295)))))))))))))))), ((hl_script0.mono (s15.trans (s30.trans (s45.trans (s60.trans (s74.trans (s89.trans (s95.trans (s114.trans (s127.trans (s133.trans (s152.trans (s167.trans (s178.trans (s208.trans (s239.trans s295))))))))))))))))), hl302, (SqL.of (S296.tl.getO 15 rfl)), (hl21.mono (s30.trans (s45.trans (s60.trans (s74.trans (s89.trans (s95.trans (s114.trans (s127.trans (s133.trans (s152.trans (s167.trans (s178.trans (s208.trans (s239.trans s295))))))))))))))), S296, e320, fun F321 H322 v325 a327 v328 s323 S324 hl326 hl329 => ?_⟩
          have S330 : Sta F321 ([(a327, HO.lst v328), (a5, HO.lst v325), (a212, HO.lst v303), (a76, HO.lst v169), (a154, HO.lst v155), (a121, HO.ins T.a_Pusher dx122 (fl_Pusher (V.ref a135) (V.ref a138) (V.ref a142) (V.bl y129.empty))), (a135, HO.lst v136), (a138, HO.dK v139), (a142, HO.lst v143), (a116, HO.lst v117), (a83, HO.ins T.a_Pusher dx84 (fl_Pusher (V.ref a305) (V.ref a308) (V.ref a312) (V.bl st1.2.2.empty))), (a305, HO.lst v306), (a308, HO.dK v309), (a312, HO.lst v313), (a64, HO.lst v65), (a49, HO.lst v50), (a34, HO.lst v35), (a19, HO.lst v20)] ++ (in171 ++ (in157 ++ (in141 ++ (in119 ++ (in311 ++ R)))))) _ := S324
          refine hN318 _ _ ?_
          refine seqI fun N331 hN332 => ?_
          revert hm; refine grdI fun g347 hm => ?_
          have e333 : lcO (fun x337 => some (some x337)) y319.1 = some (y319.1.map fun x337 => x337) := lc_map (fun x337 => x337) y319.1
          refine ⟨_, rfl, _, rfl, ⟨_, (SqL.of (S330.get 0 rfl))⟩, fun a345 np346 => lc_list (K := K) (a := a327) (xs := v328) (fun i H2 => ∃ (F338 : Hp) (v339 : List V) (acc340 : List Int) (r334 : List Int), Same F321 F338 ∧ Sta F338 ([(a345, HO.lst v339), (a327, HO.lst v328), (a5, HO.lst v325), (a212, HO.lst v303), (a76, HO.lst v169), (a154, HO.lst v155), (a121, HO.ins T.a_Pusher dx122 (fl_Pusher (V.ref a135) (V.ref a138) (V.ref a142) (V.bl y129.empty))), (a135, HO.lst v136), (a138, HO.dK v139), (a142, HO.lst v143), (a116, HO.lst v117), (a83, HO.ins T.a_Pusher dx84 (fl_Pusher (V.ref a305) (V.ref a308) (V.ref a312) (V.bl st1.2.2.empty))), (a305, HO.lst v306), (a308, HO.dK v309), (a312, HO.lst v313), (a64, HO.lst v65), (a49, HO.lst v50), (a34, HO.lst v35), (a19, HO.lst v20)] ++ (in171 ++ (in157 ++ (in141 ++ (in119 ++ (in311 ++ R)))))) H2 ∧ LR (rInt F338) v339 acc340 ∧ acc340.length ≤ i ∧ lcO (fun x337 => some (some x337)) (List.drop i y319.1) = some r334 ∧ (y319.1.map fun x337 => x337) = acc340 ++ r334) ⟨F321, [], [], _, Same.refl _, S330.new np346 _, trivial, Nat.le_refl _, e333, rfl⟩ (by rintro i H2 _ ⟨F338, v339, acc340, r334, s341, S342, hl343, hn344, hr335, hy336⟩; exact (SqL.of (S342.get 1 rfl))) ?_ ?_⟩
          clear S324
          · rintro i v348 H2 hi ⟨F338, v339, acc340, r334, s341, S342, hl343, hn344, hr335, hy336⟩
            obtain ⟨x337, hx349, rx350⟩ := LR.getV hl329 hi
            rw [drop_cons hx349] at hr335
            revert hr335; refine lcI fun y351 r352 hm hr354 hc355 => ?_
            obtain rfl := rInt_e rx350
            refine ⟨rfl, ?_⟩
            refine tYesI ?_
            rw [if_pos rfl]
            refine ⟨_, rfl, ?_⟩
            obtain rfl := Option.some.inj hm
            have hlt : v339.length < 16777216 := by rw [LR.length hl343]; have := (List.getElem?_eq_some_iff.mp hx349).1; have := of_decide_eq_true g347; omega
            have S356 : Sta F338 ([(a345, HO.lst (v339 ++ [V.int x337])), (a327, HO.lst v328), (a5, HO.lst v325), (a212, HO.lst v303), (a76, HO.lst v169), (a154, HO.lst v155), (a121, HO.ins T.a_Pusher dx122 (fl_Pusher (V.ref a135) (V.ref a138) (V.ref a142) (V.bl y129.empty))), (a135, HO.lst v136), (a138, HO.dK v139), (a142, HO.lst v143), (a116, HO.lst v117), (a83, HO.ins T.a_Pusher dx84 (fl_Pusher (V.ref a305) (V.ref a308) (V.ref a312) (V.bl st1.2.2.empty))), (a305, HO.lst v306), (a308, HO.dK v309), (a312, HO.lst v313), (a64, HO.lst v65), (a49, HO.lst v50), (a34, HO.lst v35), (a19, HO.lst v20)] ++ (in171 ++ (in157 ++ (in141 ++ (in119 ++ (in311 ++ R)))))) _ := S342.set 0 rfl _
            exact ⟨_, (S342.get 0 rfl), hlt, F338, _, (acc340 ++ [x337]), r352, s341, S356, LR.snoc hl343 rfl, by rw [List.length_append]; exact Nat.succ_le_succ hn344, hr354, by rw [List.append_assoc]; exact hy336.trans (congrArg (acc340 ++ ·) hc355)⟩
          rintro H2 ⟨F338, v339, acc340, r334, s341, S342, hl343, hn344, hr335, hy336⟩
          rw [LR.dropEnd hl329] at hr335
          obtain rfl := Option.some.inj hr335
          rw [List.append_nil] at hy336
          subst hy336
          have S357 : Sta F338 ([(a345, HO.lst v339), (a327, HO.lst v328), (a5, HO.lst v325), (a212, HO.lst v303), (a76, HO.lst v169), (a154, HO.lst v155), (a121, HO.ins T.a_Pusher dx122 (fl_Pusher (V.ref a135) (V.ref a138) (V.ref a142) (V.bl y129.empty))), (a135, HO.lst v136), (a138, HO.dK v139), (a142, HO.lst v143), (a116, HO.lst v117), (a83, HO.ins T.a_Pusher dx84 (fl_Pusher (V.ref a305) (V.ref a308) (V.ref a312) (V.bl st1.2.2.empty))), (a305, HO.lst v306), (a308, HO.dK v309), (a312, HO.lst v313), (a64, HO.lst v65), (a49, HO.lst v50), (a34, HO.lst v35), (a19, HO.lst v20)] ++ (in171 ++ (in157 ++ (in141 ++ (in119 ++ (in311 ++ R)))))) _ := S342
          refine hN332 _ _ ?_
          refine seqI fun N358 hN359 => ?_
          revert hm; refine bndI fun b360 e361 hm => ?_
          refine ⟨fun b H' => ∃ (F362 : Hp) (a365 : Addr) (v366 : List V) (a368 : Addr) (v369 : List (Key × V)) (in371 : Own) (a372 : Addr) (v373 : List V), Same F338 F362 ∧ Sta F362 ([(a345, HO.lst v339), (a327, HO.lst v328), (a5, HO.lst v325), (a212, HO.lst v303), (a76, HO.lst v169), (a154, HO.lst v155), (a121, HO.ins T.a_Pusher dx122 (fl_Pusher (V.ref a135) (V.ref a138) (V.ref a142) (V.bl y129.empty))), (a135, HO.lst v136), (a138, HO.dK v139), (a142, HO.lst v143), (a116, HO.lst v117), (a83, HO.ins T.a_Pusher dx84 (fl_Pusher (V.ref a365) (V.ref a368) (V.ref a372) (V.bl b360.2.empty))), (a365, HO.lst v366), (a368, HO.dK v369), (a372, HO.lst v373), (a64, HO.lst v65), (a49, HO.lst v50), (a34, HO.lst v35), (a19, HO.lst v20)] ++ (in171 ++ (in157 ++ (in141 ++ (in119 ++ (in371 ++ R)))))) H' ∧ LR ((rLst K rInt) F362) v366 b360.2.clauses ∧ KRO Sum.inl ((roM rInt) F362) v369 b360.2.places in371 ∧ LR (rInt F362) v373 b360.2.starts ∧ b360.1 = b, ?_, ?_⟩
          · clear hm
            have hm := e361
            clear e361
            have S375 : Sta F338 ([(a83, HO.ins T.a_Pusher dx84 (fl_Pusher (V.ref a305) (V.ref a308) (V.ref a312) (V.bl st1.2.2.empty))), (a305, HO.lst v306), (a308, HO.dK v309), (a312, HO.lst v313)] ++ (in311 ++ ([(a345, HO.lst v339), (a327, HO.lst v328), (a5, HO.lst v325), (a212, HO.lst v303), (a76, HO.lst v169), (a154, HO.lst v155), (a121, HO.ins T.a_Pusher dx122 (fl_Pusher (V.ref a135) (V.ref a138) (V.ref a142) (V.bl y129.empty))), (a135, HO.lst v136), (a138, HO.dK v139), (a142, HO.lst v143), (a116, HO.lst v117), (a64, HO.lst v65), (a49, HO.lst v50), (a34, HO.lst v35), (a19, HO.lst v20)] ++ (in171 ++ (in157 ++ (in141 ++ (in119 ++ R))))))) _ := Sta.pickS (segs := [[(a345, HO.lst v339)], [(a327, HO.lst v328)], [(a5, HO.lst v325)], [(a212, HO.lst v303)], [(a76, HO.lst v169)], [(a154, HO.lst v155)], [(a121, HO.ins T.a_Pusher dx122 (fl_Pusher (V.ref a135) (V.ref a138) (V.ref a142) (V.bl y129.empty)))], [(a135, HO.lst v136)], [(a138, HO.dK v139)], [(a142, HO.lst v143)], [(a116, HO.lst v117)], [(a83, HO.ins T.a_Pusher dx84 (fl_Pusher (V.ref a305) (V.ref a308) (V.ref a312) (V.bl st1.2.2.empty)))], [(a305, HO.lst v306)], [(a308, HO.dK v309)], [(a312, HO.lst v313)], [(a64, HO.lst v65)], [(a49, HO.lst v50)], [(a34, HO.lst v35)], [(a19, HO.lst v20)], in171, in157, in141, in119, in311]) (segs' := [[(a83, HO.ins T.a_Pusher dx84 (fl_Pusher (V.ref a305) (V.ref a308) (V.ref a312) (V.bl st1.2.2.empty)))], [(a305, HO.lst v306)], [(a308, HO.dK v309)], [(a312, HO.lst v313)], in311, [(a345, HO.lst v339)], [(a327, HO.lst v328)], [(a5, HO.lst v325)], [(a212, HO.lst v303)], [(a76, HO.lst v169)], [(a154, HO.lst v155)], [(a121, HO.ins T.a_Pusher dx122 (fl_Pusher (V.ref a135) (V.ref a138) (V.ref a142) (V.bl y129.empty)))], [(a135, HO.lst v136)], [(a138, HO.dK v139)], [(a142, HO.lst v143)], [(a116, HO.lst v117)], [(a64, HO.lst v65)], [(a49, HO.lst v50)], [(a34, HO.lst v35)], [(a19, HO.lst v20)], in171, in157, in141, in119]) (R := R) [11, 12, 13, 14, 23, 0, 1, 2, 3, 4, 5, 6, 7, 8, 9, 10, 15, 16, 17, 18, 19, 20, 21, 22] (by decide) rfl S357
            revert hm; refine bndI fun y376 e377 hm => ?_
            refine ⟨_, rfl, _, _, _, rfl, (S357.get 11 rfl), fl_Pusher_no_include, _, rfl, F338, ([(a345, HO.lst v339), (a327, HO.lst v328), (a5, HO.lst v325), (a212, HO.lst v303), (a76, HO.lst v169), (a154, HO.lst v155), (a121, HO.ins T.a_Pusher dx122 (fl_Pusher (V.ref a135) (V.ref a138) (V.ref a142) (V.bl y129.empty))), (a135, HO.lst v136), (a138, HO.dK v139), (a142, HO.lst v143), (a116, HO.lst v117), (a64, HO.lst v65), (a49, HO.lst v50), (a34, HO.lst v35), (a19, HO.lst v20)] ++ (in171 ++ (in157 ++ (in141 ++ (in119 ++ R))))), a83, dx84, (M_Pusher.mk st1.2.2.clauses st1.2.2.places st1.2.2.starts st1.2.2.empty), a305, v306, a308, v309, in311, a312, v313, a345, v339, (true, (y319.1.map fun x337 => x337)), _, rfl, (hl307.mono (s323.trans s341)), (KRO.mono hl310 (s323.trans s341)), (hl314.mono (s323.trans s341)), (sqB_l (SqL.of ((Sta.dropL (cs := in311) (ds := ([(a345, HO.lst v339), (a327, HO.lst v328), (a5, HO.lst v325), (a212, HO.lst v303), (a76, HO.lst v169), (a154, HO.lst v155), (a121, HO.ins T.a_Pusher dx122 (fl_Pusher (V.ref a135) (V.ref a138) (V.ref a142) (V.bl y129.empty))), (a135, HO.lst v136), (a138, HO.dK v139), (a142, HO.lst v143), (a116, HO.lst v117), (a64, HO.lst v65), (a49, HO.lst v50), (a34, HO.lst v35), (a19, HO.lst v20)] ++ (in171 ++ (in157 ++ (in141 ++ (in119 ++ R)))))) (Sta.dropL (cs := [(a83, HO.ins T.a_Pusher dx84 (fl_Pusher (V.ref a305) (V.ref a308) (V.ref a312) (V.bl st1.2.2.empty))), (a305, HO.lst v306), (a308, HO.dK v309), (a312, HO.lst v313)]) (ds := (in311 ++ ([(a345, HO.lst v339), (a327, HO.lst v328), (a5, HO.lst v325), (a212, HO.lst v303), (a76, HO.lst v169), (a154, HO.lst v155), (a121, HO.ins T.a_Pusher dx122 (fl_Pusher (V.ref a135) (V.ref a138) (V.ref a142) (V.bl y129.empty))), (a135, HO.lst v136), (a138, HO.dK v139), (a142, HO.lst v143), (a116, HO.lst v117), (a64, HO.lst v65), (a49, HO.lst v50), (a34, HO.lst v35), (a19, HO.lst v20)] ++ (in171 ++ (in157 ++ (in141 ++ (in119 ++ R))))))) S375)).getO 0 rfl))), hl343, S375, e377, fun F378 H379 a382 v383 a385 v386 in388 a389 v390 s380 S381 hl384 hl387 hl391 => ?_⟩
            clear S357
            have S392 : Sta F378 ([(a83, HO.ins T.a_Pusher dx84 (fl_Pusher (V.ref a382) (V.ref a385) (V.ref a389) (V.bl y376.empty))), (a382, HO.lst v383), (a385, HO.dK v386), (a389, HO.lst v390), (a345, HO.lst v339), (a327, HO.lst v328), (a5, HO.lst v325), (a212, HO.lst v303), (a76, HO.lst v169), (a154, HO.lst v155), (a121, HO.ins T.a_Pusher dx122 (fl_Pusher (V.ref a135) (V.ref a138) (V.ref a142) (V.bl y129.empty))), (a135, HO.lst v136), (a138, HO.dK v139), (a142, HO.lst v143), (a116, HO.lst v117), (a64, HO.lst v65), (a49, HO.lst v50), (a34, HO.lst v35), (a19, HO.lst v20)] ++ (in388 ++ (in171 ++ (in157 ++ (in141 ++ (in119 ++ R)))))) _ := Sta.pickS (segs := [[(a83, HO.ins T.a_Pusher dx84 (fl_Pusher (V.ref a382) (V.ref a385) (V.ref a389) (V.bl y376.empty))), (a382, HO.lst v383), (a385, HO.dK v386), (a389, HO.lst v390)], in388, [(a345, HO.lst v339), (a327, HO.lst v328), (a5, HO.lst v325), (a212, HO.lst v303), (a76, HO.lst v169), (a154, HO.lst v155), (a121, HO.ins T.a_Pusher dx122 (fl_Pusher (V.ref a135) (V.ref a138) (V.ref a142) (V.bl y129.empty))), (a135, HO.lst v136), (a138, HO.dK v139), (a142, HO.lst v143), (a116, HO.lst v117), (a64, HO.lst v65), (a49, HO.lst v50), (a34, HO.lst v35), (a19, HO.lst v20)], in171, in157, in141, in119]) (segs' := [[(a83, HO.ins T.a_Pusher dx84 (fl_Pusher (V.ref a382) (V.ref a385) (V.ref a389) (V.bl y376.empty))), (a382, HO.lst v383), (a385, HO.dK v386), (a389, HO.lst v390)], [(a345, HO.lst v339), (a327, HO.lst v328), (a5, HO.lst v325), (a212, HO.lst v303), (a76, HO.lst v169), (a154, HO.lst v155), (a121, HO.ins T.a_Pusher dx122 (fl_Pusher (V.ref a135) (V.ref a138) (V.ref a142) (V.bl y129.empty))), (a135, HO.lst v136), (a138, HO.dK v139), (a142, HO.lst v143), (a116, HO.lst v117), (a64, HO.lst v65), (a49, HO.lst v50), (a34, HO.lst v35), (a19, HO.lst v20)], in388, in171, in157, in141, in119]) (R := R) [0, 2, 1, 3, 4, 5, 6] (by decide) rfl S381
            refine ⟨rfl, _, rfl, ?_⟩
            clear S381
            refine iteF ?_
            refine ⟨_, rfl, _, rfl, _, _, (dat_dp (K := K) (r := (rLst K rInt)) ⟨_, _, rfl, (SqL.of (S392.get 4 rfl)), LR.mono (hl343.mono s380) S392.sub⟩), (dat_dp (K := K) (r := (rLst K rInt)) ⟨_, _, rfl, (SqL.of (S392.get 5 rfl)), LR.mono (hl329.mono (s341.trans s380)) S392.sub⟩), (dat_shaped (K := K) (r := (rLst K rInt)) (Nat.le_of_ble_eq_true rfl) _ (DPl.pl _)), (dat_shaped (K := K) (r := (rLst K rInt)) (Nat.le_of_ble_eq_true rfl) _ (DPl.pl _)), ?_⟩
            rw [dat_eqv (K := K) (r := (rLst K rInt)) (y319.1.map fun x337 => x337) y319.1]
            refine ⟨_, rfl, ?_⟩
            obtain rfl := Option.some.inj hm
            have S393 : Sta F378 ([(a345, HO.lst v339), (a327, HO.lst v328), (a5, HO.lst v325), (a212, HO.lst v303), (a76, HO.lst v169), (a154, HO.lst v155), (a121, HO.ins T.a_Pusher dx122 (fl_Pusher (V.ref a135) (V.ref a138) (V.ref a142) (V.bl y129.empty))), (a135, HO.lst v136), (a138, HO.dK v139), (a142, HO.lst v143), (a116, HO.lst v117), (a83, HO.ins T.a_Pusher dx84 (fl_Pusher (V.ref a382) (V.ref a385) (V.ref a389) (V.bl y376.empty))), (a382, HO.lst v383), (a385, HO.dK v386), (a389, HO.lst v390), (a64, HO.lst v65), (a49, HO.lst v50), (a34, HO.lst v35), (a19, HO.lst v20)] ++ (in171 ++ (in157 ++ (in141 ++ (in119 ++ (in388 ++ R)))))) _ := Sta.pickS (segs := [[(a83, HO.ins T.a_Pusher dx84 (fl_Pusher (V.ref a382) (V.ref a385) (V.ref a389) (V.bl y376.empty)))], [(a382, HO.lst v383)], [(a385, HO.dK v386)], [(a389, HO.lst v390)], [(a345, HO.lst v339)], [(a327, HO.lst v328)], [(a5, HO.lst v325)], [(a212, HO.lst v303)], [(a76, HO.lst v169)], [(a154, HO.lst v155)], [(a121, HO.ins T.a_Pusher dx122 (fl_Pusher (V.ref a135) (V.ref a138) (V.ref a142) (V.bl y129.empty)))], [(a135, HO.lst v136)], [(a138, HO.dK v139)], [(a142, HO.lst v143)], [(a116, HO.lst v117)], [(a64, HO.lst v65)], [(a49, HO.lst v50)], [(a34, HO.lst v35)], [(a19, HO.lst v20)], in388, in171, in157, in141, in119]) (segs' := [[(a345, HO.lst v339)], [(a327, HO.lst v328)], [(a5, HO.lst v325)], [(a212, HO.lst v303)], [(a76, HO.lst v169)], [(a154, HO.lst v155)], [(a121, HO.ins T.a_Pusher dx122 (fl_Pusher (V.ref a135) (V.ref a138) (V.ref a142) (V.bl y129.empty)))], [(a135, HO.lst v136)], [(a138, HO.dK v139)], [(a142, HO.lst v143)], [(a116, HO.lst v117)], [(a83, HO.ins T.a_Pusher dx84 (fl_Pusher (V.ref a382) (V.ref a385) (V.ref a389) (V.bl y376.empty)))], [(a382, HO.lst v383)], [(a385, HO.dK v386)], [(a389, HO.lst v390)], [(a64, HO.lst v65)], [(a49, HO.lst v50)], [(a34, HO.lst v35)], [(a19, HO.lst v20)], in171, in157, in141, in119, in388]) (R := R) [4, 5, 6, 7, 8, 9, 10, 11, 12, 13, 14, 0, 1, 2, 3, 15, 16, 17, 18, 20, 21, 22, 23, 19] (by decide) rfl S392
            exact ⟨F378, a382, v383, a385, v386, in388, a389, v390, s380, S393, hl384, hl387, hl391, rfl⟩
          rintro b394 H395 ⟨F362, a365, v366, a368, v369, in371, a372, v373, s363, S364, hl367, hl370, hl374, rfl⟩
          by_cases c396 : b360.1 = true
          · revert hm; refine ifTI c396 fun hm => ?_
            cases hm
          · revert hm; refine ifFI c396 fun hm => ?_
            refine goF c396 ?_
            refine hN359 _ _ ?_
            refine seqI fun N397 hN398 => ?_
            revert hm; refine grdI fun g399 hm => ?_
            refine ⟨_, rfl, .inl ⟨rfl, _, (SqL.of (S364.get 0 rfl))⟩, _, _, _, rfl, rfl, (S364.get 0 rfl), (by rw [LR.length (hl343.mono s363)]; exact of_decide_eq_true g399), ?_⟩
            have hl400 : LR (rInt F362) (v339 ++ [V.int 555]) ((y319.1.map fun x337 => x337) ++ [(555 : Int)]) := LR.snoc (hl343.mono s363) rfl
            have S401 : Sta F362 ([(a345, HO.lst (v339 ++ [V.int 555])), (a327, HO.lst v328), (a5, HO.lst v325), (a212, HO.lst v303), (a76, HO.lst v169), (a154, HO.lst v155), (a121, HO.ins T.a_Pusher dx122 (fl_Pusher (V.ref a135) (V.ref a138) (V.ref a142) (V.bl y129.empty))), (a135, HO.lst v136), (a138, HO.dK v139), (a142, HO.lst v143), (a116, HO.lst v117), (a83, HO.ins T.a_Pusher dx84 (fl_Pusher (V.ref a365) (V.ref a368) (V.ref a372) (V.bl b360.2.empty))), (a365, HO.lst v366), (a368, HO.dK v369), (a372, HO.lst v373), (a64, HO.lst v65), (a49, HO.lst v50), (a34, HO.lst v35), (a19, HO.lst v20)] ++ (in171 ++ (in157 ++ (in141 ++ (in119 ++ (in371 ++ R)))))) _ := S364.set 0 rfl _
            refine hN398 _ _ ?_
            refine seqI fun N402 hN403 => ?_
            have S404 : Sta F362 ([(a327, HO.lst v328), (a345, HO.lst (v339 ++ [V.int 555])), (a5, HO.lst v325), (a212, HO.lst v303), (a76, HO.lst v169), (a154, HO.lst v155), (a121, HO.ins T.a_Pusher dx122 (fl_Pusher (V.ref a135) (V.ref a138) (V.ref a142) (V.bl y129.empty))), (a135, HO.lst v136), (a138, HO.dK v139), (a142, HO.lst v143), (a116, HO.lst v117), (a83, HO.ins T.a_Pusher dx84 (fl_Pusher (V.ref a365) (V.ref a368) (V.ref a372) (V.bl b360.2.empty))), (a365, HO.lst v366), (a368, HO.dK v369), (a372, HO.lst v373), (a64, HO.lst v65), (a49, HO.lst v50), (a34, HO.lst v35), (a19, HO.lst v20)] ++ (in171 ++ (in157 ++ (in141 ++ (in119 ++ (in371 ++ R)))))) _ := S401.pick [1, 0, 2, 3, 4, 5, 6, 7, 8, 9, 10, 11, 12, 13, 14, 15, 16, 17, 18] (by decide) rfl
            obtain ⟨F405, s406, S407, h408⟩ : ∃ F', Same F362 F' ∧ Sta F' ([(a345, HO.lst (v339 ++ [V.int 555])), (a5, HO.lst v325), (a212, HO.lst v303), (a76, HO.lst v169), (a154, HO.lst v155), (a121, HO.ins T.a_Pusher dx122 (fl_Pusher (V.ref a135) (V.ref a138) (V.ref a142) (V.bl y129.empty))), (a135, HO.lst v136), (a138, HO.dK v139), (a142, HO.lst v143), (a116, HO.lst v117), (a83, HO.ins T.a_Pusher dx84 (fl_Pusher (V.ref a365) (V.ref a368) (V.ref a372) (V.bl b360.2.empty))), (a365, HO.lst v366), (a368, HO.dK v369), (a372, HO.lst v373), (a64, HO.lst v65), (a49, HO.lst v50), (a34, HO.lst v35), (a19, HO.lst v20)] ++ (in171 ++ (in157 ++ (in141 ++ (in119 ++ (in371 ++ R)))))) _ ∧ F' a327 = some (HO.lst v328) := ⟨_, S404.frzS, S404.frz, upd_same⟩
            revert hm; refine grdI fun g409 hm => ?_
            refine ⟨_, rfl, .inl ⟨rfl, _, (SqL.of (S401.get 3 rfl))⟩, _, rfl, _, _, _, rfl, rfl, (S407.get 2 rfl), (by rw [LR.length (hl304.mono (s323.trans (s341.trans (s363.trans s406))))]; exact of_decide_eq_true g409), ?_⟩
            clear S364 S401
            have hl410 : LR ((rLst K rInt) F405) (v303 ++ [V.ref a327]) (st1.2.1 ++ [y319.1]) := LR.snoc (hl304.mono (s323.trans (s341.trans (s363.trans s406)))) ⟨_, _, rfl, SqL.mono (SqL.of h408) (Same.refl _), (hl329.mono (s341.trans (s363.trans s406)))⟩
            have S411 : Sta F405 ([(a345, HO.lst (v339 ++ [V.int 555])), (a5, HO.lst v325), (a212, HO.lst (v303 ++ [V.ref a327])), (a76, HO.lst v169), (a154, HO.lst v155), (a121, HO.ins T.a_Pusher dx122 (fl_Pusher (V.ref a135) (V.ref a138) (V.ref a142) (V.bl y129.empty))), (a135, HO.lst v136), (a138, HO.dK v139), (a142, HO.lst v143), (a116, HO.lst v117), (a83, HO.ins T.a_Pusher dx84 (fl_Pusher (V.ref a365) (V.ref a368) (V.ref a372) (V.bl b360.2.empty))), (a365, HO.lst v366), (a368, HO.dK v369), (a372, HO.lst v373), (a64, HO.lst v65), (a49, HO.lst v50), (a34, HO.lst v35), (a19, HO.lst v20)] ++ (in171 ++ (in157 ++ (in141 ++ (in119 ++ (in371 ++ R)))))) _ := S407.set 2 rfl _
            refine hN403 _ _ ?_
            revert hm; refine bndI fun b412 e413 hm => ?_
            refine ⟨fun b H' => ∃ (F414 : Hp), Same F405 F414 ∧ Sta F414 ([(a345, HO.lst (v339 ++ [V.int 555])), (a5, HO.lst v325), (a212, HO.lst (v303 ++ [V.ref a327])), (a76, HO.lst v169), (a154, HO.lst v155), (a121, HO.ins T.a_Pusher dx122 (fl_Pusher (V.ref a135) (V.ref a138) (V.ref a142) (V.bl y129.empty))), (a135, HO.lst v136), (a138, HO.dK v139), (a142, HO.lst v143), (a116, HO.lst v117), (a83, HO.ins T.a_Pusher dx84 (fl_Pusher (V.ref a365) (V.ref a368) (V.ref a372) (V.bl b360.2.empty))), (a365, HO.lst v366), (a368, HO.dK v369), (a372, HO.lst v373), (a64, HO.lst v65), (a49, HO.lst v50), (a34, HO.lst v35), (a19, HO.lst v20)] ++ (in171 ++ (in157 ++ (in141 ++ (in119 ++ (in371 ++ R)))))) H' ∧ b412 = b, ?_, ?_⟩
            · clear hm
              have hm := e413
              clear e413
              revert hm; refine bndI fun y417 e418 hm => ?_
              refine ⟨_, rfl, _, rfl, _, rfl, F405, ([(a345, HO.lst (v339 ++ [V.int 555])), (a5, HO.lst v325), (a212, HO.lst (v303 ++ [V.ref a327])), (a76, HO.lst v169), (a154, HO.lst v155), (a121, HO.ins T.a_Pusher dx122 (fl_Pusher (V.ref a135) (V.ref a138) (V.ref a142) (V.bl y129.empty))), (a135, HO.lst v136), (a138, HO.dK v139), (a142, HO.lst v143), (a116, HO.lst v117), (a83, HO.ins T.a_Pusher dx84 (fl_Pusher (V.ref a365) (V.ref a368) (V.ref a372) (V.bl b360.2.empty))), (a365, HO.lst v366), (a368, HO.dK v369), (a372, HO.lst v373), (a64, HO.lst v65), (a49, HO.lst v50), (a34, HO.lst v35), (a19, HO.lst v20)] ++ (in171 ++ (in157 ++ (in141 ++ (in119 ++ (in371 ++ R)))))), a83, dx84, (M_Pusher.mk b360.2.clauses b360.2.places b360.2.starts b360.2.empty), a365, v366, a368, v369, a372, v373, a212, (v303 ++ [V.ref a327]), (st1.2.1 ++ [y319.1]), a49, v50, y41.1, _, rfl, (S411.getO 10 rfl), (S411.getO 11 rfl), (hl367.mono s406), (S411.getO 12 rfl), (KRO.view (KRO.mono hl370 s406) (S411.memO (fun _ q => (List.mem_append_right _ (List.mem_append_right _ (List.mem_append_right _ (List.mem_append_right _ (List.mem_append_right _ (List.mem_append_left _ q))))))))), (S411.getO 13 rfl), (hl374.mono s406), (SqL.of (S411.getO 2 rfl)), hl410, (SqL.of (S411.getO 15 rfl)), (hl51.mono (s60.trans (s74.trans (s89.trans (s95.trans (s114.trans (s127.trans (s133.trans (s152.trans (s167.trans (s178.trans (s208.trans (s239.trans (s295.trans (s323.trans (s341.trans (s363.trans s406))))))))))))))))), S411, e418, fun F419 H420 s421 S422 => ?_⟩
              have S423 : Sta F419 ([(a345, HO.lst (v339 ++ [V.int 555])), (a5, HO.lst v325), (a212, HO.lst (v303 ++ [V.ref a327])), (a76, HO.lst v169), (a154, HO.lst v155), (a121, HO.ins T.a_Pusher dx122 (fl_Pusher (V.ref a135) (V.ref a138) (V.ref a142) (V.bl y129.empty))), (a135, HO.lst v136), (a138, HO.dK v139), (a142, HO.lst v143), (a116, HO.lst v117), (a83, HO.ins T.a_Pusher dx84 (fl_Pusher (V.ref a365) (V.ref a368) (V.ref a372) (V.bl b360.2.empty))), (a365, HO.lst v366), (a368, HO.dK v369), (a372, HO.lst v373), (a64, HO.lst v65), (a49, HO.lst v50), (a34, HO.lst v35), (a19, HO.lst v20)] ++ (in171 ++ (in157 ++ (in141 ++ (in119 ++ (in371 ++ R)))))) _ := S422
              refine ⟨_, rfl, ?_⟩
              clear S422
              by_cases c424 : (!y417) = true
              · revert hm; refine ifTI c424 fun hm => ?_
                obtain rfl := Option.some.inj hm
                exact goT c424 ⟨F419, s421, S423, rfl⟩
              · revert hm; refine ifFI c424 fun hm => ?_
                refine goF c424 ?_
                revert hm; refine bndI fun y425 e426 hm => ?_
                refine ⟨_, rfl, _, rfl, _, rfl, F419, ([(a345, HO.lst (v339 ++ [V.int 555])), (a5, HO.lst v325), (a212, HO.lst (v303 ++ [V.ref a327])), (a76, HO.lst v169), (a154, HO.lst v155), (a121, HO.ins T.a_Pusher dx122 (fl_Pusher (V.ref a135) (V.ref a138) (V.ref a142) (V.bl y129.empty))), (a135, HO.lst v136), (a138, HO.dK v139), (a142, HO.lst v143), (a116, HO.lst v117), (a83, HO.ins T.a_Pusher dx84 (fl_Pusher (V.ref a365) (V.ref a368) (V.ref a372) (V.bl b360.2.empty))), (a365, HO.lst v366), (a368, HO.dK v369), (a372, HO.lst v373), (a64, HO.lst v65), (a49, HO.lst v50), (a34, HO.lst v35), (a19, HO.lst v20)] ++ (in171 ++ (in157 ++ (in141 ++ (in119 ++ (in371 ++ R)))))), a83, dx84, (M_Pusher.mk b360.2.clauses b360.2.places b360.2.starts b360.2.empty), a365, v366, a368, v369, a372, v373, a212, (v303 ++ [V.ref a327]), (st1.2.1 ++ [y319.1]), a64, v65, y56.1, _, rfl, (S423.getO 10 rfl), (S423.getO 11 rfl), (hl367.mono (s406.trans s421)), (S423.getO 12 rfl), (KRO.view (KRO.mono hl370 (s406.trans s421)) (S423.memO (fun _ q => (List.mem_append_right _ (List.mem_append_right _ (List.mem_append_right _ (List.mem_append_right _ (List.mem_append_right _ (List.mem_append_left _ q))))))))), (S423.getO 13 rfl), (hl374.mono (s406.trans s421)), (SqL.of (S423.getO 2 rfl)), (hl410.mono s421), (SqL.of (S423.getO 14 rfl)), (hl66.mono (s74.trans (s89.trans (s95.trans (s114.trans (s127.trans (s133.trans (s152.trans (s167.trans (s178.trans (s208.trans (s239.trans (s295.trans (s323.trans (s341.trans (s363.trans (s406.trans s421))))))))))))))))), S423, e426, fun F427 H428 s429 S430 => ?_⟩
                have S431 : Sta F427 ([(a345, HO.lst (v339 ++ [V.int 555])), (a5, HO.lst v325), (a212, HO.lst (v303 ++ [V.ref a327])), (a76, HO.lst v169), (a154, HO.lst v155), (a121, HO.ins T.a_Pusher dx122 (fl_Pusher (V.ref a135) (V.ref a138) (V.ref a142) (V.bl y129.empty))), (a135, HO.lst v136), (a138, HO.dK v139), (a142, HO.lst v143), (a116, HO.lst v117), (a83, HO.ins T.a_Pusher dx84 (fl_Pusher (V.ref a365) (V.ref a368) (V.ref a372) (V.bl b360.2.empty))), (a365, HO.lst v366), (a368, HO.dK v369), (a372, HO.lst v373), (a64, HO.lst v65), (a49, HO.lst v50), (a34, HO.lst v35), (a19, HO.lst v20)] ++ (in171 ++ (in157 ++ (in141 ++ (in119 ++ (in371 ++ R)))))) _ := S430
                refine ⟨_, rfl, ?_⟩
                clear S430
                obtain rfl := Option.some.inj hm
                exact ⟨F427, (s421.trans s429), S431, rfl⟩
            rintro b432 H433 ⟨F414, s415, S416, rfl⟩
            by_cases c434 : b412 = true
            · revert hm; refine ifTI c434 fun hm => ?_
              cases hm
            · revert hm; refine ifFI c434 fun hm => ?_
              refine goF c434 ?_
              have S435 : Sta F414 ([(a5, HO.lst v325), (a212, HO.lst (v303 ++ [V.ref a327])), (a76, HO.lst v169), (a154, HO.lst v155), (a121, HO.ins T.a_Pusher dx122 (fl_Pusher (V.ref a135) (V.ref a138) (V.ref a142) (V.bl y129.empty))), (a135, HO.lst v136), (a138, HO.dK v139), (a142, HO.lst v143), (a116, HO.lst v117), (a83, HO.ins T.a_Pusher dx84 (fl_Pusher (V.ref a365) (V.ref a368) (V.ref a372) (V.bl b360.2.empty))), (a365, HO.lst v366), (a368, HO.dK v369), (a372, HO.lst v373), (a64, HO.lst v65), (a49, HO.lst v50), (a34, HO.lst v35), (a19, HO.lst v20)] ++ (in171 ++ (in157 ++ (in141 ++ (in119 ++ (in371 ++ R)))))) _ := S416.pick [1, 2, 3, 4, 5, 6, 7, 8, 9, 10, 11, 12, 13, 14, 15, 16, 17] (by decide) rfl
              exact ⟨(y319.2, (st1.2.1 ++ [y319.1]), (M_Pusher.mk b360.2.clauses b360.2.places b360.2.starts b360.2.empty)), F414, v325, (v303 ++ [V.ref a327]), a365, v366, a368, v369, in371, a372, v373, _, _, _, _, rfl, (s295.trans (s323.trans (s341.trans (s363.trans (s406.trans s415))))), S435, (hl326.mono (s341.trans (s363.trans (s406.trans s415)))), (hl410.mono s415), (hl367.mono (s406.trans s415)), (KRO.mono hl370 (s406.trans s415)), (hl374.mono (s406.trans s415)), hm⟩
        · rintro σ H2 ⟨st1, F294, v301, v303, a305, v306, a308, v309, in311, a312, v313, o297, o298, o299, o300, rfl, s295, S296, hl302, hl304, hl307, hl310, hl314, hm⟩
          rw [drop_rng, m_law_l1] at hm
          obtain rfl := Option.some.inj hm
          have hm := hm233
          refine hN230 _ _ ?_
          refine seqI fun N436 hN437 => ?_
          revert hm; refine bndI fun b438 e439 hm => ?_
          refine ⟨fun b H' => ∃ (F440 : Hp), Same F294 F440 ∧ Sta F440 ([(a5, HO.lst v301), (a212, HO.lst v303), (a76, HO.lst v169), (a154, HO.lst v155), (a121, HO.ins T.a_Pusher dx122 (fl_Pusher (V.ref a135) (V.ref a138) (V.ref a142) (V.bl y129.empty))), (a135, HO.lst v136), (a138, HO.dK v139), (a142, HO.lst v143), (a116, HO.lst v117), (a83, HO.ins T.a_Pusher dx84 (fl_Pusher (V.ref a305) (V.ref a308) (V.ref a312) (V.bl st1.2.2.empty))), (a305, HO.lst v306), (a308, HO.dK v309), (a312, HO.lst v313), (a64, HO.lst v65), (a49, HO.lst v50), (a34, HO.lst v35), (a19, HO.lst v20)] ++ (in171 ++ (in157 ++ (in141 ++ (in119 ++ (in311 ++ R)))))) H' ∧ b438 = b, ?_, ?_⟩
          · clear hm
            have hm := e439
            clear e439
            revert hm; refine bndI fun y443 e444 hm => ?_
            refine ⟨_, rfl, _, rfl, _, rfl, F294, ([(a5, HO.lst v301), (a212, HO.lst v303), (a76, HO.lst v169), (a154, HO.lst v155), (a121, HO.ins T.a_Pusher dx122 (fl_Pusher (V.ref a135) (V.ref a138) (V.ref a142) (V.bl y129.empty))), (a135, HO.lst v136), (a138, HO.dK v139), (a142, HO.lst v143), (a116, HO.lst v117), (a83, HO.ins T.a_Pusher dx84 (fl_Pusher (V.ref a305) (V.ref a308) (V.ref a312) (V.bl st1.2.2.empty))), (a305, HO.lst v306), (a308, HO.dK v309), (a312, HO.lst v313), (a64, HO.lst v65), (a49, HO.lst v50), (a34, HO.lst v35), (a19, HO.lst v20)] ++ (in171 ++ (in157 ++ (in141 ++ (in119 ++ (in311 ++ R)))))), a121, dx122, (M_Pusher.mk y129.clauses y129.places y129.starts y129.empty), a135, v136, a138, v139, a142, v143, a34, v35, y26.1, a64, v65, y56.1, _, rfl, (S296.getO 4 rfl), (S296.getO 5 rfl), (hl137.mono (s152.trans (s167.trans (s178.trans (s208.trans (s239.trans s295)))))), (S296.getO 6 rfl), (KRO.view (KRO.mono hl140 (s152.trans (s167.trans (s178.trans (s208.trans (s239.trans s295)))))) (S296.memO (fun _ q => (List.mem_append_right _ (List.mem_append_right _ (List.mem_append_right _ (List.mem_append_left _ q))))))), (S296.getO 7 rfl), (hl144.mono (s152.trans (s167.trans (s178.trans (s208.trans (s239.trans s295)))))), (SqL.of (S296.getO 15 rfl)), (hl36.mono (s45.trans (s60.trans (s74.trans (s89.trans (s95.trans (s114.trans (s127.trans (s133.trans (s152.trans (s167.trans (s178.trans (s208.trans (s239.trans s295)))))))))))))), (SqL.of (S296.getO 13 rfl)), (hl66.mono (s74.trans (s89.trans (s95.trans (s114.trans (s127.trans (s133.trans (s152.trans (s167.trans (s178.trans (s208.trans (s239.trans s295)))))))))))), S296, e444, fun F445 H446 s447 S448 => ?_⟩
            have S449 : Sta F445 ([(a5, HO.lst v301), (a212, HO.lst v303), (a76, HO.lst v169), (a154, HO.lst v155), (a121, HO.ins T.a_Pusher dx122 (fl_Pusher (V.ref a135) (V.ref a138) (V.ref a142) (V.bl y129.empty))), (a135, HO.lst v136), (a138, HO.dK v139), (a142, HO.lst v143), (a116, HO.lst v117), (a83, HO.ins T.a_Pusher dx84 (fl_Pusher (V.ref a305) (V.ref a308) (V.ref a312) (V.bl st1.2.2.empty))), (a305, HO.lst v306), (a308, HO.dK v309), (a312, HO.lst v313), (a64, HO.lst v65), (a49, HO.lst v50), (a34, HO.lst v35), (a19, HO.lst v20)] ++ (in171 ++ (in157 ++ (in141 ++ (in119 ++ (in311 ++ R)))))) _ := S448
            refine ⟨_, rfl, ?_⟩
            clear S448
            by_cases c450 : (!y443) = true
            · revert hm; refine ifTI c450 fun hm => ?_
              obtain rfl := Option.some.inj hm
              exact goT c450 ⟨F445, s447, S449, rfl⟩
            · revert hm; refine ifFI c450 fun hm => ?_
              refine goF c450 ?_
              revert hm; refine bndI fun y451 e452 hm => ?_
              refine ⟨_, rfl, _, rfl, _, rfl, F445, ([(a5, HO.lst v301), (a212, HO.lst v303), (a76, HO.lst v169), (a154, HO.lst v155), (a121, HO.ins T.a_Pusher dx122 (fl_Pusher (V.ref a135) (V.ref a138) (V.ref a142) (V.bl y129.empty))), (a135, HO.lst v136), (a138, HO.dK v139), (a142, HO.lst v143), (a116, HO.lst v117), (a83, HO.ins T.a_Pusher dx84 (fl_Pusher (V.ref a305) (V.ref a308) (V.ref a312) (V.bl st1.2.2.empty))), (a305, HO.lst v306), (a308, HO.dK v309), (a312, HO.lst v313), (a64, HO.lst v65), (a49, HO.lst v50), (a34, HO.lst v35), (a19, HO.lst v20)] ++ (in171 ++ (in157 ++ (in141 ++ (in119 ++ (in311 ++ R)))))), a121, dx122, (M_Pusher.mk y129.clauses y129.places y129.starts y129.empty), a135, v136, a138, v139, a142, v143, a34, v35, y26.1, a49, v50, y41.1, _, rfl, (S449.getO 4 rfl), (S449.getO 5 rfl), (hl137.mono (s152.trans (s167.trans (s178.trans (s208.trans (s239.trans (s295.trans s447))))))), (S449.getO 6 rfl), (KRO.view (KRO.mono hl140 (s152.trans (s167.trans (s178.trans (s208.trans (s239.trans (s295.trans s447))))))) (S449.memO (fun _ q => (List.mem_append_right _ (List.mem_append_right _ (List.mem_append_right _ (List.mem_append_left _ q))))))), (S449.getO 7 rfl), (hl144.mono (s152.trans (s167.trans (s178.trans (s208.trans (s239.trans (s295.trans s447))))))), (SqL.of (S449.getO 15 rfl)), (hl36.mono (s45.trans (s60.trans (s74.trans (s89.trans (s95.trans (s114.trans (s127.trans (s133.trans (s152.trans (s167.trans (s178.trans (s208.trans (s239.trans (s295.trans s447))))))))))))))), (SqL.of (S449.getO 14 rfl)), (hl51.mono (s60.trans (s74.trans (s89.trans (s95.trans (s114.trans (s127.trans (s133.trans (s152.trans (s167.trans (s178.trans (s208.trans (s239.trans (s295.trans s447)))))))))))))), S449, e452, fun F453 H454 s455 S456 => ?_⟩
              have S457 : Sta F453 ([(a5, HO.lst v301), (a212, HO.lst v303), (a76, HO.lst v169), (a154, HO.lst v155), (a121, HO.ins T.a_Pusher dx122 (fl_Pusher (V.ref a135) (V.ref a138) (V.ref a142) (V.bl y129.empty))), (a135, HO.lst v136), (a138, HO.dK v139), (a142, HO.lst v143), (a116, HO.lst v117), (a83, HO.ins T.a_Pusher dx84 (fl_Pusher (V.ref a305) (V.ref a308) (V.ref a312) (V.bl st1.2.2.empty))), (a305, HO.lst v306), (a308, HO.dK v309), (a312, HO.lst v313), (a64, HO.lst v65), (a49, HO.lst v50), (a34, HO.lst v35), (a19, HO.lst v20)] ++ (in171 ++ (in157 ++ (in141 ++ (in119 ++ (in311 ++ R)))))) _ := S456
              refine ⟨_, rfl, ?_⟩
              clear S456
              obtain rfl := Option.some.inj hm
              exact ⟨F453, (s447.trans s455), S457, rfl⟩
          rintro b458 H459 ⟨F440, s441, S442, rfl⟩
          by_cases c460 : b438 = true
          · revert hm; refine ifTI c460 fun hm => ?_
            cases hm
          · revert hm; refine ifFI c460 fun hm => ?_
            refine goF c460 ?_
            refine hN437 _ _ ?_
            refine seqI fun N461 hN462 => ?_
            revert hm; refine bndI fun y463 e464 hm => ?_
            refine ⟨_, rfl, F440, ([(a5, HO.lst v301), (a212, HO.lst v303), (a76, HO.lst v169), (a154, HO.lst v155), (a121, HO.ins T.a_Pusher dx122 (fl_Pusher (V.ref a135) (V.ref a138) (V.ref a142) (V.bl y129.empty))), (a135, HO.lst v136), (a138, HO.dK v139), (a142, HO.lst v143), (a116, HO.lst v117), (a83, HO.ins T.a_Pusher dx84 (fl_Pusher (V.ref a305) (V.ref a308) (V.ref a312) (V.bl st1.2.2.empty))), (a305, HO.lst v306), (a308, HO.dK v309), (a312, HO.lst v313), (a64, HO.lst v65), (a49, HO.lst v50), (a34, HO.lst v35), (a19, HO.lst v20)] ++ (in171 ++ (in157 ++ (in141 ++ (in119 ++ (in311 ++ R)))))), a212, v303, st1.2.1, _, rfl, (SqL.of (S442.getO 1 rfl)), (hl304.mono s441), S442, e464, fun F465 H466 a469 v470 in472 s467 S468 hl471 => ?_⟩
            have S473 : Sta F465 ([(a469, HO.lst v470), (a5, HO.lst v301), (a212, HO.lst v303), (a76, HO.lst v169), (a154, HO.lst v155), (a121, HO.ins T.a_Pusher dx122 (fl_Pusher (V.ref a135) (V.ref a138) (V.ref a142) (V.bl y129.empty))), (a135, HO.lst v136), (a138, HO.dK v139), (a142, HO.lst v143), (a116, HO.lst v117), (a83, HO.ins T.a_Pusher dx84 (fl_Pusher (V.ref a305) (V.ref a308) (V.ref a312) (V.bl st1.2.2.empty))), (a305, HO.lst v306), (a308, HO.dK v309), (a312, HO.lst v313), (a64, HO.lst v65), (a49, HO.lst v50), (a34, HO.lst v35), (a19, HO.lst v20)] ++ (in472 ++ (in171 ++ (in157 ++ (in141 ++ (in119 ++ (in311 ++ R))))))) _ := Sta.pickS (segs := [[(a469, HO.lst v470)], in472, [(a5, HO.lst v301), (a212, HO.lst v303), (a76, HO.lst v169), (a154, HO.lst v155), (a121, HO.ins T.a_Pusher dx122 (fl_Pusher (V.ref a135) (V.ref a138) (V.ref a142) (V.bl y129.empty))), (a135, HO.lst v136), (a138, HO.dK v139), (a142, HO.lst v143), (a116, HO.lst v117), (a83, HO.ins T.a_Pusher dx84 (fl_Pusher (V.ref a305) (V.ref a308) (V.ref a312) (V.bl st1.2.2.empty))), (a305, HO.lst v306), (a308, HO.dK v309), (a312, HO.lst v313), (a64, HO.lst v65), (a49, HO.lst v50), (a34, HO.lst v35), (a19, HO.lst v20)], in171, in157, in141, in119, in311]) (segs' := [[(a469, HO.lst v470)], [(a5, HO.lst v301), (a212, HO.lst v303), (a76, HO.lst v169), (a154, HO.lst v155), (a121, HO.ins T.a_Pusher dx122 (fl_Pusher (V.ref a135) (V.ref a138) (V.ref a142) (V.bl y129.empty))), (a135, HO.lst v136), (a138, HO.dK v139), (a142, HO.lst v143), (a116, HO.lst v117), (a83, HO.ins T.a_Pusher dx84 (fl_Pusher (V.ref a305) (V.ref a308) (V.ref a312) (V.bl st1.2.2.empty))), (a305, HO.lst v306), (a308, HO.dK v309), (a312, HO.lst v313), (a64, HO.lst v65), (a49, HO.lst v50), (a34, HO.lst v35), (a19, HO.lst v20)], in472, in171, in157, in141, in119, in311]) (R := R) [0, 2, 1, 3, 4, 5, 6, 7] (by decide) rfl S468
            refine hN462 _ _ ?_
            refine seqI fun N474 hN475 => ?_
            revert hm; refine grdI fun g490 hm => ?_
            have e476 : lcO (fun x480 => some (some x480)) y56.1 = some (y56.1.map fun x480 => x480) := lc_map (fun x480 => x480) y56.1
            refine ⟨_, rfl, _, rfl, ⟨_, (SqL.of (S473.get 14 rfl))⟩, fun a488 np489 => lc_list (K := K) (a := a64) (xs := v65) (fun i H2 => ∃ (F481 : Hp) (v482 : List V) (acc483 : List Int) (r477 : List Int), Same F465 F481 ∧ Sta F481 ([(a488, HO.lst v482), (a469, HO.lst v470), (a5, HO.lst v301), (a212, HO.lst v303), (a76, HO.lst v169), (a154, HO.lst v155), (a121, HO.ins T.a_Pusher dx122 (fl_Pusher (V.ref a135) (V.ref a138) (V.ref a142) (V.bl y129.empty))), (a135, HO.lst v136), (a138, HO.dK v139), (a142, HO.lst v143), (a116, HO.lst v117), (a83, HO.ins T.a_Pusher dx84 (fl_Pusher (V.ref a305) (V.ref a308) (V.ref a312) (V.bl st1.2.2.empty))), (a305, HO.lst v306), (a308, HO.dK v309), (a312, HO.lst v313), (a64, HO.lst v65), (a49, HO.lst v50), (a34, HO.lst v35), (a19, HO.lst v20)] ++ (in472 ++ (in171 ++ (in157 ++ (in141 ++ (in119 ++ (in311 ++ R))))))) H2 ∧ LR (rInt F481) v482 acc483 ∧ acc483.length ≤ i ∧ lcO (fun x480 => some (some x480)) (List.drop i y56.1) = some r477 ∧ (y56.1.map fun x480 => x480) = acc483 ++ r477) ⟨F465, [], [], _, Same.refl _, S473.new np489 _, trivial, Nat.le_refl _, e476, rfl⟩ (by rintro i H2 _ ⟨F481, v482, acc483, r477, s484, S485, hl486, hn487, hr478, hy479⟩; exact (SqL.of (S485.get 15 rfl))) ?_ ?_⟩
            clear S468
            · rintro i v491 H2 hi ⟨F481, v482, acc483, r477, s484, S485, hl486, hn487, hr478, hy479⟩
              obtain ⟨x480, hx492, rx493⟩ := LR.getV hl66 hi
              rw [drop_cons hx492] at hr478
              revert hr478; refine lcI fun y494 r495 hm hr497 hc498 => ?_
              obtain rfl := rInt_e rx493
              refine ⟨rfl, ?_⟩
              refine tYesI ?_
              rw [if_pos rfl]
              refine ⟨_, rfl, ?_⟩
              obtain rfl := Option.some.inj hm
              have hlt : v482.length < 16777216 := by rw [LR.length hl486]; have := (List.getElem?_eq_some_iff.mp hx492).1; have := of_decide_eq_true g490; omega
              have S499 : Sta F481 ([(a488, HO.lst (v482 ++ [V.int x480])), (a469, HO.lst v470), (a5, HO.lst v301), (a212, HO.lst v303), (a76, HO.lst v169), (a154, HO.lst v155), (a121, HO.ins T.a_Pusher dx122 (fl_Pusher (V.ref a135) (V.ref a138) (V.ref a142) (V.bl y129.empty))), (a135, HO.lst v136), (a138, HO.dK v139), (a142, HO.lst v143), (a116, HO.lst v117), (a83, HO.ins T.a_Pusher dx84 (fl_Pusher (V.ref a305) (V.ref a308) (V.ref a312) (V.bl st1.2.2.empty))), (a305, HO.lst v306), (a308, HO.dK v309), (a312, HO.lst v313), (a64, HO.lst v65), (a49, HO.lst v50), (a34, HO.lst v35), (a19, HO.lst v20)] ++ (in472 ++ (in171 ++ (in157 ++ (in141 ++ (in119 ++ (in311 ++ R))))))) _ := S485.set 0 rfl _
              exact ⟨_, (S485.get 0 rfl), hlt, F481, _, (acc483 ++ [x480]), r495, s484, S499, LR.snoc hl486 rfl, by rw [List.length_append]; exact Nat.succ_le_succ hn487, hr497, by rw [List.append_assoc]; exact hy479.trans (congrArg (acc483 ++ ·) hc498)⟩
            rintro H2 ⟨F481, v482, acc483, r477, s484, S485, hl486, hn487, hr478, hy479⟩
            rw [LR.dropEnd hl66] at hr478
            obtain rfl := Option.some.inj hr478
            rw [List.append_nil] at hy479
            subst hy479
            have S500 : Sta F481 ([(a488, HO.lst v482), (a469, HO.lst v470), (a5, HO.lst v301), (a212, HO.lst v303), (a76, HO.lst v169), (a154, HO.lst v155), (a121, HO.ins T.a_Pusher dx122 (fl_Pusher (V.ref a135) (V.ref a138) (V.ref a142) (V.bl y129.empty))), (a135, HO.lst v136), (a138, HO.dK v139), (a142, HO.lst v143), (a116, HO.lst v117), (a83, HO.ins T.a_Pusher dx84 (fl_Pusher (V.ref a305) (V.ref a308) (V.ref a312) (V.bl st1.2.2.empty))), (a305, HO.lst v306), (a308, HO.dK v309), (a312, HO.lst v313), (a64, HO.lst v65), (a49, HO.lst v50), (a34, HO.lst v35), (a19, HO.lst v20)] ++ (in472 ++ (in171 ++ (in157 ++ (in141 ++ (in119 ++ (in311 ++ R))))))) _ := S485
            refine hN475 _ _ ?_
            refine seqI fun N501 hN502 => ?_
            revert hm; refine bndI fun y503 e504 hm => ?_
            refine ⟨_, rfl, _, rfl, F481, ([(a488, HO.lst v482), (a469, HO.lst v470), (a5, HO.lst v301), (a212, HO.lst v303), (a76, HO.lst v169), (a154, HO.lst v155), (a121, HO.ins T.a_Pusher dx122 (fl_Pusher (V.ref a135) (V.ref a138) (V.ref a142) (V.bl y129.empty))), (a135, HO.lst v136), (a138, HO.dK v139), (a142, HO.lst v143), (a116, HO.lst v117), (a83, HO.ins T.a_Pusher dx84 (fl_Pusher (V.ref a305) (V.ref a308) (V.ref a312) (V.bl st1.2.2.empty))), (a305, HO.lst v306), (a308, HO.dK v309), (a312, HO.lst v313), (a64, HO.lst v65), (a49, HO.lst v50), (a34, HO.lst v35), (a19, HO.lst v20)] ++ (in472 ++ (in171 ++ (in157 ++ (in141 ++ (in119 ++ (in311 ++ R))))))), a469, v470, y463, a488, v482, (y56.1.map fun x480 => x480), _, rfl, (SqL.of (S500.getO 1 rfl)), (LRO.view (LRO.mono hl471 s484) (S500.memO (fun _ q => (List.mem_append_right _ (List.mem_append_left _ q))))), (SqL.of (S500.getO 0 rfl)), hl486, S500, e504, fun F505 H506 v509 in510 s507 S508 p511 => ?_⟩
            clear S485
            have S512 : Sta F505 ([(a488, HO.lst v482), (a469, HO.lst v470), (a5, HO.lst v301), (a212, HO.lst v303), (a76, HO.lst v169), (a154, HO.lst v155), (a121, HO.ins T.a_Pusher dx122 (fl_Pusher (V.ref a135) (V.ref a138) (V.ref a142) (V.bl y129.empty))), (a135, HO.lst v136), (a138, HO.dK v139), (a142, HO.lst v143), (a116, HO.lst v117), (a83, HO.ins T.a_Pusher dx84 (fl_Pusher (V.ref a305) (V.ref a308) (V.ref a312) (V.bl st1.2.2.empty))), (a305, HO.lst v306), (a308, HO.dK v309), (a312, HO.lst v313), (a64, HO.lst v65), (a49, HO.lst v50), (a34, HO.lst v35), (a19, HO.lst v20)] ++ (in510 ++ (in472 ++ (in171 ++ (in157 ++ (in141 ++ (in119 ++ (in311 ++ R)))))))) _ := Sta.pickS (segs := [[], in510, [(a488, HO.lst v482), (a469, HO.lst v470), (a5, HO.lst v301), (a212, HO.lst v303), (a76, HO.lst v169), (a154, HO.lst v155), (a121, HO.ins T.a_Pusher dx122 (fl_Pusher (V.ref a135) (V.ref a138) (V.ref a142) (V.bl y129.empty))), (a135, HO.lst v136), (a138, HO.dK v139), (a142, HO.lst v143), (a116, HO.lst v117), (a83, HO.ins T.a_Pusher dx84 (fl_Pusher (V.ref a305) (V.ref a308) (V.ref a312) (V.bl st1.2.2.empty))), (a305, HO.lst v306), (a308, HO.dK v309), (a312, HO.lst v313), (a64, HO.lst v65), (a49, HO.lst v50), (a34, HO.lst v35), (a19, HO.lst v20)], in472, in171, in157, in141, in119, in311]) (segs' := [[], [(a488, HO.lst v482), (a469, HO.lst v470), (a5, HO.lst v301), (a212, HO.lst v303), (a76, HO.lst v169), (a154, HO.lst v155), (a121, HO.ins T.a_Pusher dx122 (fl_Pusher (V.ref a135) (V.ref a138) (V.ref a142) (V.bl y129.empty))), (a135, HO.lst v136), (a138, HO.dK v139), (a142, HO.lst v143), (a116, HO.lst v117), (a83, HO.ins T.a_Pusher dx84 (fl_Pusher (V.ref a305) (V.ref a308) (V.ref a312) (V.bl st1.2.2.empty))), (a305, HO.lst v306), (a308, HO.dK v309), (a312, HO.lst v313), (a64, HO.lst v65), (a49, HO.lst v50), (a34, HO.lst v35), (a19, HO.lst v20)], in510, in472, in171, in157, in141, in119, in311]) (R := R) [0, 2, 1, 3, 4, 5, 6, 7, 8] (by decide) rfl S508
            revert hm; refine bndI fun y513 e514 hm => ?_
            refine ⟨_, rfl, _, rfl, F505, ([(a488, HO.lst v482), (a469, HO.lst v470), (a5, HO.lst v301), (a212, HO.lst v303), (a76, HO.lst v169), (a154, HO.lst v155), (a121, HO.ins T.a_Pusher dx122 (fl_Pusher (V.ref a135) (V.ref a138) (V.ref a142) (V.bl y129.empty))), (a135, HO.lst v136), (a138, HO.dK v139), (a142, HO.lst v143), (a116, HO.lst v117), (a83, HO.ins T.a_Pusher dx84 (fl_Pusher (V.ref a305) (V.ref a308) (V.ref a312) (V.bl st1.2.2.empty))), (a305, HO.lst v306), (a308, HO.dK v309), (a312, HO.lst v313), (a64, HO.lst v65), (a49, HO.lst v50), (a34, HO.lst v35), (a19, HO.lst v20)] ++ (in510 ++ (in472 ++ (in171 ++ (in157 ++ (in141 ++ (in119 ++ (in311 ++ R)))))))), a212, v303, st1.2.1, a64, v65, y56.1, _, rfl, (SqL.of (S512.getO 3 rfl)), (hl304.mono (s441.trans (s467.trans (s484.trans s507)))), (SqL.of (S512.getO 15 rfl)), (hl66.mono (s74.trans (s89.trans (s95.trans (s114.trans (s127.trans (s133.trans (s152.trans (s167.trans (s178.trans (s208.trans (s239.trans (s295.trans (s441.trans (s467.trans (s484.trans s507)))))))))))))))), S512, e514, fun F515 H516 v519 in520 s517 S518 p521 => ?_⟩
            clear S508
            have S522 : Sta F515 ([(a488, HO.lst v482), (a469, HO.lst v470), (a5, HO.lst v301), (a212, HO.lst v303), (a76, HO.lst v169), (a154, HO.lst v155), (a121, HO.ins T.a_Pusher dx122 (fl_Pusher (V.ref a135) (V.ref a138) (V.ref a142) (V.bl y129.empty))), (a135, HO.lst v136), (a138, HO.dK v139), (a142, HO.lst v143), (a116, HO.lst v117), (a83, HO.ins T.a_Pusher dx84 (fl_Pusher (V.ref a305) (V.ref a308) (V.ref a312) (V.bl st1.2.2.empty))), (a305, HO.lst v306), (a308, HO.dK v309), (a312, HO.lst v313), (a64, HO.lst v65), (a49, HO.lst v50), (a34, HO.lst v35), (a19, HO.lst v20)] ++ (in520 ++ (in510 ++ (in472 ++ (in171 ++ (in157 ++ (in141 ++ (in119 ++ (in311 ++ R))))))))) _ := Sta.pickS (segs := [[], in520, [(a488, HO.lst v482), (a469, HO.lst v470), (a5, HO.lst v301), (a212, HO.lst v303), (a76, HO.lst v169), (a154, HO.lst v155), (a121, HO.ins T.a_Pusher dx122 (fl_Pusher (V.ref a135) (V.ref a138) (V.ref a142) (V.bl y129.empty))), (a135, HO.lst v136), (a138, HO.dK v139), (a142, HO.lst v143), (a116, HO.lst v117), (a83, HO.ins T.a_Pusher dx84 (fl_Pusher (V.ref a305) (V.ref a308) (V.ref a312) (V.bl st1.2.2.empty))), (a305, HO.lst v306), (a308, HO.dK v309), (a312, HO.lst v313), (a64, HO.lst v65), (a49, HO.lst v50), (a34, HO.lst v35), (a19, HO.lst v20)], in510, in472, in171, in157, in141, in119, in311]) (segs' := [[], [(a488, HO.lst v482), (a469, HO.lst v470), (a5, HO.lst v301), (a212, HO.lst v303), (a76, HO.lst v169), (a154, HO.lst v155), (a121, HO.ins T.a_Pusher dx122 (fl_Pusher (V.ref a135) (V.ref a138) (V.ref a142) (V.bl y129.empty))), (a135, HO.lst v136), (a138, HO.dK v139), (a142, HO.lst v143), (a116, HO.lst v117), (a83, HO.ins T.a_Pusher dx84 (fl_Pusher (V.ref a305) (V.ref a308) (V.ref a312) (V.bl st1.2.2.empty))), (a305, HO.lst v306), (a308, HO.dK v309), (a312, HO.lst v313), (a64, HO.lst v65), (a49, HO.lst v50), (a34, HO.lst v35), (a19, HO.lst v20)], in520, in510, in472, in171, in157, in141, in119, in311]) (R := R) [0, 2, 1, 3, 4, 5, 6, 7, 8, 9] (by decide) rfl S518
            revert hm; refine bndI fun y523 e524 hm => ?_
            refine ⟨F515, ([(a488, HO.lst v482), (a469, HO.lst v470), (a5, HO.lst v301), (a212, HO.lst v303), (a76, HO.lst v169), (a154, HO.lst v155), (a121, HO.ins T.a_Pusher dx122 (fl_Pusher (V.ref a135) (V.ref a138) (V.ref a142) (V.bl y129.empty))), (a135, HO.lst v136), (a138, HO.dK v139), (a142, HO.lst v143), (a116, HO.lst v117), (a83, HO.ins T.a_Pusher dx84 (fl_Pusher (V.ref a305) (V.ref a308) (V.ref a312) (V.bl st1.2.2.empty))), (a305, HO.lst v306), (a308, HO.dK v309), (a312, HO.lst v313), (a64, HO.lst v65), (a49, HO.lst v50), (a34, HO.lst v35), (a19, HO.lst v20)] ++ (in520 ++ (in510 ++ (in472 ++ (in171 ++ (in157 ++ (in141 ++ (in119 ++ (in311 ++ R))))))))), v509, y503, v519, y513, _, rfl, (vwO_of (MonoO.mono (r := (roO (roM rInt))) s517 p511) (S522.memO (fun _ q => (List.mem_append_right _ (List.mem_append_right _ (List.mem_append_left _ q)))))), (vwO_of (MonoO.mono (r := (roO (roM rInt))) (Same.refl _) p521) (S522.memO (fun _ q => (List.mem_append_right _ (List.mem_append_left _ q))))), S522, e524, _, rfl, ?_⟩
            clear S518
            by_cases c525 : (!y523) = true
            · revert hm; refine ifTI c525 fun hm => ?_
              cases hm
            · revert hm; refine ifFI c525 fun hm => ?_
              refine goF c525 ?_
              refine hN502 _ _ ?_
              revert hm; refine bndI fun b526 e527 hm => ?_
              refine ⟨fun b H' => ∃ (F528 : Hp), Same F515 F528 ∧ Sta F528 ([(a488, HO.lst v482), (a469, HO.lst v470), (a5, HO.lst v301), (a212, HO.lst v303), (a76, HO.lst v169), (a154, HO.lst v155), (a121, HO.ins T.a_Pusher dx122 (fl_Pusher (V.ref a135) (V.ref a138) (V.ref a142) (V.bl y129.empty))), (a135, HO.lst v136), (a138, HO.dK v139), (a142, HO.lst v143), (a116, HO.lst v117), (a83, HO.ins T.a_Pusher dx84 (fl_Pusher (V.ref a305) (V.ref a308) (V.ref a312) (V.bl st1.2.2.empty))), (a305, HO.lst v306), (a308, HO.dK v309), (a312, HO.lst v313), (a64, HO.lst v65), (a49, HO.lst v50), (a34, HO.lst v35), (a19, HO.lst v20)] ++ (in520 ++ (in510 ++ (in472 ++ (in171 ++ (in157 ++ (in141 ++ (in119 ++ (in311 ++ R))))))))) H' ∧ V.bl b526 = b, ?_, ?_⟩
              · clear hm
                have hm := e527
                clear e527
                revert hm; refine bndI fun y531 e532 hm => ?_
                refine ⟨_, rfl, _, rfl, F515, ([(a488, HO.lst v482), (a469, HO.lst v470), (a5, HO.lst v301), (a212, HO.lst v303), (a76, HO.lst v169), (a154, HO.lst v155), (a121, HO.ins T.a_Pusher dx122 (fl_Pusher (V.ref a135) (V.ref a138) (V.ref a142) (V.bl y129.empty))), (a135, HO.lst v136), (a138, HO.dK v139), (a142, HO.lst v143), (a116, HO.lst v117), (a83, HO.ins T.a_Pusher dx84 (fl_Pusher (V.ref a305) (V.ref a308) (V.ref a312) (V.bl st1.2.2.empty))), (a305, HO.lst v306), (a308, HO.dK v309), (a312, HO.lst v313), (a64, HO.lst v65), (a49, HO.lst v50), (a34, HO.lst v35), (a19, HO.lst v20)] ++ (in520 ++ (in510 ++ (in472 ++ (in171 ++ (in157 ++ (in141 ++ (in119 ++ (in311 ++ R))))))))), a212, v303, st1.2.1, _, rfl, (SqL.of (S522.getO 3 rfl)), (hl304.mono (s441.trans (s467.trans (s484.trans (s507.trans s517))))), S522, e532, fun F533 H534 a537 v538 in540 s535 S536 hl539 => ?_⟩
                have S541 : Sta F533 ([(a537, HO.lst v538), (a488, HO.lst v482), (a469, HO.lst v470), (a5, HO.lst v301), (a212, HO.lst v303), (a76, HO.lst v169), (a154, HO.lst v155), (a121, HO.ins T.a_Pusher dx122 (fl_Pusher (V.ref a135) (V.ref a138) (V.ref a142) (V.bl y129.empty))), (a135, HO.lst v136), (a138, HO.dK v139), (a142, HO.lst v143), (a116, HO.lst v117), (a83, HO.ins T.a_Pusher dx84 (fl_Pusher (V.ref a305) (V.ref a308) (V.ref a312) (V.bl st1.2.2.empty))), (a305, HO.lst v306), (a308, HO.dK v309), (a312, HO.lst v313), (a64, HO.lst v65), (a49, HO.lst v50), (a34, HO.lst v35), (a19, HO.lst v20)] ++ (in540 ++ (in520 ++ (in510 ++ (in472 ++ (in171 ++ (in157 ++ (in141 ++ (in119 ++ (in311 ++ R)))))))))) _ := Sta.pickS (segs := [[(a537, HO.lst v538)], in540, [(a488, HO.lst v482), (a469, HO.lst v470), (a5, HO.lst v301), (a212, HO.lst v303), (a76, HO.lst v169), (a154, HO.lst v155), (a121, HO.ins T.a_Pusher dx122 (fl_Pusher (V.ref a135) (V.ref a138) (V.ref a142) (V.bl y129.empty))), (a135, HO.lst v136), (a138, HO.dK v139), (a142, HO.lst v143), (a116, HO.lst v117), (a83, HO.ins T.a_Pusher dx84 (fl_Pusher (V.ref a305) (V.ref a308) (V.ref a312) (V.bl st1.2.2.empty))), (a305, HO.lst v306), (a308, HO.dK v309), (a312, HO.lst v313), (a64, HO.lst v65), (a49, HO.lst v50), (a34, HO.lst v35), (a19, HO.lst v20)], in520, in510, in472, in171, in157, in141, in119, in311]) (segs' := [[(a537, HO.lst v538)], [(a488, HO.lst v482), (a469, HO.lst v470), (a5, HO.lst v301), (a212, HO.lst v303), (a76, HO.lst v169), (a154, HO.lst v155), (a121, HO.ins T.a_Pusher dx122 (fl_Pusher (V.ref a135) (V.ref a138) (V.ref a142) (V.bl y129.empty))), (a135, HO.lst v136), (a138, HO.dK v139), (a142, HO.lst v143), (a116, HO.lst v117), (a83, HO.ins T.a_Pusher dx84 (fl_Pusher (V.ref a305) (V.ref a308) (V.ref a312) (V.bl st1.2.2.empty))), (a305, HO.lst v306), (a308, HO.dK v309), (a312, HO.lst v313), (a64, HO.lst v65), (a49, HO.lst v50), (a34, HO.lst v35), (a19, HO.lst v20)], in540, in520, in510, in472, in171, in157, in141, in119, in311]) (R := R) [0, 2, 1, 3, 4, 5, 6, 7, 8, 9, 10] (by decide) rfl S536
                refine ⟨_, _, (dat_dp (K := K) (r := (rLst K (rSeq K rInt))) ⟨_, _, rfl, (SqL.of (S541.get 2 rfl)), LRO.frz (r := (rSeq K rInt)) (LRO.mono hl471 (s484.trans (s507.trans (s517.trans s535)))) S541.sub (fun c q => (S541.own _ _ ((fun _ q => (List.mem_append_right _ (List.mem_append_right _ (List.mem_append_right _ (List.mem_append_right _ (List.mem_append_left _ q)))))) c q)).1)⟩), (dat_dp (K := K) (r := (rLst K (rSeq K rInt))) ⟨_, _, rfl, (SqL.of (S541.get 0 rfl)), LRO.frz (r := (rSeq K rInt)) hl539 S541.sub (fun c q => (S541.own _ _ ((fun _ q => (List.mem_append_right _ (List.mem_append_left _ q))) c q)).1)⟩), (dat_shaped (K := K) (r := (rLst K (rSeq K rInt))) (Nat.le_of_ble_eq_true rfl) _ (DPl.pl _)), (dat_shaped (K := K) (r := (rLst K (rSeq K rInt))) (Nat.le_of_ble_eq_true rfl) _ (DPl.pl _)), ?_⟩
                clear S536
                rw [dat_eqv (K := K) (r := (rLst K (rSeq K rInt))) y463 y531]
                refine ⟨_, rfl, ?_⟩
                by_cases c542 : (decide (y463 = y531)) = true
                · revert hm; refine ifTI c542 fun hm => ?_
                  refine goT c542 ?_
                  refine ⟨_, rfl, _, rfl, _, _, (dat_dp (K := K) (r := (rLst K rInt)) ⟨_, _, rfl, (SqL.of (S541.get 1 rfl)), LR.mono (hl486.mono (s507.trans (s517.trans s535))) S541.sub⟩), (dat_dp (K := K) (r := (rLst K rInt)) ⟨_, _, rfl, (SqL.of (S541.get 16 rfl)), LR.mono (hl66.mono (s74.trans (s89.trans (s95.trans (s114.trans (s127.trans (s133.trans (s152.trans (s167.trans (s178.trans (s208.trans (s239.trans (s295.trans (s441.trans (s467.trans (s484.trans (s507.trans (s517.trans s535)))))))))))))))))) S541.sub⟩), (dat_shaped (K := K) (r := (rLst K rInt)) (Nat.le_of_ble_eq_true rfl) _ (DPl.pl _)), (dat_shaped (K := K) (r := (rLst K rInt)) (Nat.le_of_ble_eq_true rfl) _ (DPl.pl _)), ?_⟩
                  rw [dat_eqv (K := K) (r := (rLst K rInt)) (y56.1.map fun x480 => x480) y56.1]
                  obtain rfl := Option.some.inj hm
                  have S543 : Sta F533 ([(a488, HO.lst v482), (a469, HO.lst v470), (a5, HO.lst v301), (a212, HO.lst v303), (a76, HO.lst v169), (a154, HO.lst v155), (a121, HO.ins T.a_Pusher dx122 (fl_Pusher (V.ref a135) (V.ref a138) (V.ref a142) (V.bl y129.empty))), (a135, HO.lst v136), (a138, HO.dK v139), (a142, HO.lst v143), (a116, HO.lst v117), (a83, HO.ins T.a_Pusher dx84 (fl_Pusher (V.ref a305) (V.ref a308) (V.ref a312) (V.bl st1.2.2.empty))), (a305, HO.lst v306), (a308, HO.dK v309), (a312, HO.lst v313), (a64, HO.lst v65), (a49, HO.lst v50), (a34, HO.lst v35), (a19, HO.lst v20)] ++ (in520 ++ (in510 ++ (in472 ++ (in171 ++ (in157 ++ (in141 ++ (in119 ++ (in311 ++ R))))))))) _ := Sta.pickS (segs := [[(a537, HO.lst v538)], [(a488, HO.lst v482)], [(a469, HO.lst v470)], [(a5, HO.lst v301)], [(a212, HO.lst v303)], [(a76, HO.lst v169)], [(a154, HO.lst v155)], [(a121, HO.ins T.a_Pusher dx122 (fl_Pusher (V.ref a135) (V.ref a138) (V.ref a142) (V.bl y129.empty)))], [(a135, HO.lst v136)], [(a138, HO.dK v139)], [(a142, HO.lst v143)], [(a116, HO.lst v117)], [(a83, HO.ins T.a_Pusher dx84 (fl_Pusher (V.ref a305) (V.ref a308) (V.ref a312) (V.bl st1.2.2.empty)))], [(a305, HO.lst v306)], [(a308, HO.dK v309)], [(a312, HO.lst v313)], [(a64, HO.lst v65)], [(a49, HO.lst v50)], [(a34, HO.lst v35)], [(a19, HO.lst v20)], in540, in520, in510, in472, in171, in157, in141, in119, in311]) (segs' := [[(a488, HO.lst v482)], [(a469, HO.lst v470)], [(a5, HO.lst v301)], [(a212, HO.lst v303)], [(a76, HO.lst v169)], [(a154, HO.lst v155)], [(a121, HO.ins T.a_Pusher dx122 (fl_Pusher (V.ref a135) (V.ref a138) (V.ref a142) (V.bl y129.empty)))], [(a135, HO.lst v136)], [(a138, HO.dK v139)], [(a142, HO.lst v143)], [(a116, HO.lst v117)], [(a83, HO.ins T.a_Pusher dx84 (fl_Pusher (V.ref a305) (V.ref a308) (V.ref a312) (V.bl st1.2.2.empty)))], [(a305, HO.lst v306)], [(a308, HO.dK v309)], [(a312, HO.lst v313)], [(a64, HO.lst v65)], [(a49, HO.lst v50)], [(a34, HO.lst v35)], [(a19, HO.lst v20)], in520, in510, in472, in171, in157, in141, in119, in311]) (R := R) [1, 2, 3, 4, 5, 6, 7, 8, 9, 10, 11, 12, 13, 14, 15, 16, 17, 18, 19, 21, 22, 23, 24, 25, 26, 27, 28] (by decide) rfl S541
                  exact ⟨F533, s535, S543, rfl⟩
                · revert hm; refine ifFI c542 fun hm => ?_
                  obtain rfl := Option.some.inj hm
                  have S544 : Sta F533 ([(a488, HO.lst v482), (a469, HO.lst v470), (a5, HO.lst v301), (a212, HO.lst v303), (a76, HO.lst v169), (a154, HO.lst v155), (a121, HO.ins T.a_Pusher dx122 (fl_Pusher (V.ref a135) (V.ref a138) (V.ref a142) (V.bl y129.empty))), (a135, HO.lst v136), (a138, HO.dK v139), (a142, HO.lst v143), (a116, HO.lst v117), (a83, HO.ins T.a_Pusher dx84 (fl_Pusher (V.ref a305) (V.ref a308) (V.ref a312) (V.bl st1.2.2.empty))), (a305, HO.lst v306), (a308, HO.dK v309), (a312, HO.lst v313), (a64, HO.lst v65), (a49, HO.lst v50), (a34, HO.lst v35), (a19, HO.lst v20)] ++ (in520 ++ (in510 ++ (in472 ++ (in171 ++ (in157 ++ (in141 ++ (in119 ++ (in311 ++ R))))))))) _ := Sta.pickS (segs := [[(a537, HO.lst v538)], [(a488, HO.lst v482)], [(a469, HO.lst v470)], [(a5, HO.lst v301)], [(a212, HO.lst v303)], [(a76, HO.lst v169)], [(a154, HO.lst v155)], [(a121, HO.ins T.a_Pusher dx122 (fl_Pusher (V.ref a135) (V.ref a138) (V.ref a142) (V.bl y129.empty)))], [(a135, HO.lst v136)], [(a138, HO.dK v139)], [(a142, HO.lst v143)], [(a116, HO.lst v117)], [(a83, HO.ins T.a_Pusher dx84 (fl_Pusher (V.ref a305) (V.ref a308) (V.ref a312) (V.bl st1.2.2.empty)))], [(a305, HO.lst v306)], [(a308, HO.dK v309)], [(a312, HO.lst v313)], [(a64, HO.lst v65)], [(a49, HO.lst v50)], [(a34, HO.lst v35)], [(a19, HO.lst v20)], in540, in520, in510, in472, in171, in157, in141, in119, in311]) (segs' := [[(a488, HO.lst v482)], [(a469, HO.lst v470)], [(a5, HO.lst v301)], [(a212, HO.lst v303)], [(a76, HO.lst v169)], [(a154, HO.lst v155)], [(a121, HO.ins T.a_Pusher dx122 (fl_Pusher (V.ref a135) (V.ref a138) (V.ref a142) (V.bl y129.empty)))], [(a135, HO.lst v136)], [(a138, HO.dK v139)], [(a142, HO.lst v143)], [(a116, HO.lst v117)], [(a83, HO.ins T.a_Pusher dx84 (fl_Pusher (V.ref a305) (V.ref a308) (V.ref a312) (V.bl st1.2.2.empty)))], [(a305, HO.lst v306)], [(a308, HO.dK v309)], [(a312, HO.lst v313)], [(a64, HO.lst v65)], [(a49, HO.lst v50)], [(a34, HO.lst v35)], [(a19, HO.lst v20)], in520, in510, in472, in171, in157, in141, in119, in311]) (R := R) [1, 2, 3, 4, 5, 6, 7, 8, 9, 10, 11, 12, 13, 14, 15, 16, 17, 18, 19, 21, 22, 23, 24, 25, 26, 27, 28] (by decide) rfl S541
                  exact goF c542 ⟨F533, s535, S544, rfl⟩
              rintro b545 H546 ⟨F528, s529, S530, rfl⟩
              obtain rfl := Option.some.inj hm
              have S547 : Sta F528 ([] ++ R) _ := Sta.pickS (segs := [[(a488, HO.lst v482)], [(a469, HO.lst v470)], [(a5, HO.lst v301)], [(a212, HO.lst v303)], [(a76, HO.lst v169)], [(a154, HO.lst v155)], [(a121, HO.ins T.a_Pusher dx122 (fl_Pusher (V.ref a135) (V.ref a138) (V.ref a142) (V.bl y129.empty)))], [(a135, HO.lst v136)], [(a138, HO.dK v139)], [(a142, HO.lst v143)], [(a116, HO.lst v117)], [(a83, HO.ins T.a_Pusher dx84 (fl_Pusher (V.ref a305) (V.ref a308) (V.ref a312) (V.bl st1.2.2.empty)))], [(a305, HO.lst v306)], [(a308, HO.dK v309)], [(a312, HO.lst v313)], [(a64, HO.lst v65)], [(a49, HO.lst v50)], [(a34, HO.lst v35)], [(a19, HO.lst v20)], in520, in510, in472, in171, in157, in141, in119, in311]) (segs' := []) (R := R) [] (by decide) rfl S530
              exact kk _ _ (s15.trans (s30.trans (s45.trans (s60.trans (s74.trans (s89.trans (s95.trans (s114.trans (s127.trans (s133.trans (s152.trans (s167.trans (s178.trans (s208.trans (s239.trans (s295.trans (s441.trans (s467.trans (s484.trans (s507.trans (s517.trans s529))))))))))))))))))))) S547

end
end G

namespace G
open PySem PySem.Spec PyProof.Rows L2
def spTop (K : PySem.W.Frag) : Sp := fun vs H Q _ => ∃ (a : Addr) (ns : List Int), vs = [V.ref a] ∧ SqL K H a (ns.map V.int) ∧ ns.length ≤ 63 ∧ ∀ H', Q (.bl true) H'
theorem top_of {P : Program} {w : World} {K : PySem.W.Frag} {mg : Str → Option Value} {base : Heap} (T : Txt K mg) : FnOk P w K mg base CX0 5 T.a_law T.d_law ["script"] (spTop K) :=
  (ok_law T).imp fun vs H Q E ⟨a, ns, e, hs, hl, k⟩ => by
    subst e
    refine ⟨H, [], a, ns.map V.int, ns, true, rfl, hs, lr_ints ns, sta0 H, law_true ns hl, ?_⟩
    first
      | exact k _
      | (intro F1 H1 _ _; exact k _)
theorem all_mk {l : PySem.W.OpenLaw} {w : World} {K : PySem.W.Frag} {h : Heap} {mg : Str → Option Value} {fa a_law a_law_seed a_law_take a_law_letters a_law_chain a_law_literal a_law_clause a_law_clauses a_law_given a_law_handed a_Pusher_include a_Pusher_init a_law_spoil a_law_forced a_Pusher_push a_Pusher_forced a_law_same a_law_asked a_law_more a_push a_Pusher : Addr} (X : K.In h) (G : h.Ns mainGlobals mg) (hfa : mg "law" = some (.ref fa))
    {od_law_seed an_law_seed od_law_take an_law_take od_law_letters an_law_letters od_law_chain an_law_chain od_law_literal an_law_literal od_law_clause an_law_clause od_law_clauses an_law_clauses od_law_given an_law_given od_law_handed an_law_handed od_Pusher_include an_Pusher_include od_Pusher_init an_Pusher_init od_law_spoil an_law_spoil od_law_forced an_law_forced od_Pusher_push an_Pusher_push od_Pusher_forced an_Pusher_forced od_law_same an_law_same od_law_asked an_law_asked od_law_more an_law_more od_push an_push od_law an_law : Option Addr} {sl_law_seed sl_law_take sl_law_letters sl_law_chain sl_law_literal sl_law_clause sl_law_clauses sl_law_given sl_law_handed sl_Pusher_include sl_Pusher_init sl_law_spoil sl_law_forced sl_Pusher_push sl_Pusher_forced sl_law_same sl_law_asked sl_law_more sl_push sl_law : Array (Option Value)} {oc_law_seed kV_law_seed dc_law_seed pm_law_seed cd_law_seed ct_law_seed oc_law_take kV_law_take dc_law_take pm_law_take cd_law_take ct_law_take oc_law_letters kV_law_letters dc_law_letters pm_law_letters cd_law_letters ct_law_letters oc_law_chain kV_law_chain dc_law_chain pm_law_chain cd_law_chain ct_law_chain oc_law_literal kV_law_literal dc_law_literal pm_law_literal cd_law_literal ct_law_literal oc_law_clause kV_law_clause dc_law_clause pm_law_clause cd_law_clause ct_law_clause oc_law_clauses kV_law_clauses dc_law_clauses pm_law_clauses cd_law_clauses ct_law_clauses oc_law_given kV_law_given dc_law_given pm_law_given cd_law_given ct_law_given oc_law_handed kV_law_handed dc_law_handed pm_law_handed cd_law_handed ct_law_handed oc_Pusher_include kV_Pusher_include dc_Pusher_include pm_Pusher_include cd_Pusher_include ct_Pusher_include oc_Pusher_init kV_Pusher_init dc_Pusher_init pm_Pusher_init cd_Pusher_init ct_Pusher_init oc_law_spoil kV_law_spoil dc_law_spoil pm_law_spoil cd_law_spoil ct_law_spoil oc_law_forced kV_law_forced dc_law_forced pm_law_forced cd_law_forced ct_law_forced oc_Pusher_push kV_Pusher_push dc_Pusher_push pm_Pusher_push cd_Pusher_push ct_Pusher_push oc_Pusher_forced kV_Pusher_forced dc_Pusher_forced pm_Pusher_forced cd_Pusher_forced ct_Pusher_forced oc_law_same kV_law_same dc_law_same pm_law_same cd_law_same ct_law_same oc_law_asked kV_law_asked dc_law_asked pm_law_asked cd_law_asked ct_law_asked oc_law_more kV_law_more dc_law_more pm_law_more cd_law_more ct_law_more oc_push kV_push dc_push pm_push cd_push ct_push oc_law kV_law dc_law pm_law cd_law ct_law : Value}
    (qc_Pusher : PySem.W.nsIn K mainGlobals "Pusher" = some (some (.ref a_Pusher)))
    (q_law_seed : PySem.W.nsIn K mainGlobals "_law_seed" = some (some (.ref a_law_seed)))
    (l_law_seed : K.lookup a_law_seed = some ⟨oc_law_seed, od_law_seed, .func (PySem.W.fnOf "_law_seed" "_law_seed" (defArgs s_law_seed) (defBody s_law_seed) (defScope s_law_seed) .none kV_law_seed dc_law_seed pm_law_seed an_law_seed cd_law_seed ct_law_seed), sl_law_seed⟩)
    (c_law_seed : PySem.W.codeIn K cd_law_seed "_law_seed" = true)
    (k_law_seed : PySem.W.keepIn K (.ref a_law_seed) = true)
    (q_law_take : PySem.W.nsIn K mainGlobals "_law_take" = some (some (.ref a_law_take)))
    (l_law_take : K.lookup a_law_take = some ⟨oc_law_take, od_law_take, .func (PySem.W.fnOf "_law_take" "_law_take" (defArgs s_law_take) (defBody s_law_take) (defScope s_law_take) .none kV_law_take dc_law_take pm_law_take an_law_take cd_law_take ct_law_take), sl_law_take⟩)
    (c_law_take : PySem.W.codeIn K cd_law_take "_law_take" = true)
    (k_law_take : PySem.W.keepIn K (.ref a_law_take) = true)
    (q_law_letters : PySem.W.nsIn K mainGlobals "_law_letters" = some (some (.ref a_law_letters)))
    (l_law_letters : K.lookup a_law_letters = some ⟨oc_law_letters, od_law_letters, .func (PySem.W.fnOf "_law_letters" "_law_letters" (defArgs s_law_letters) (defBody s_law_letters) (defScope s_law_letters) .none kV_law_letters dc_law_letters pm_law_letters an_law_letters cd_law_letters ct_law_letters), sl_law_letters⟩)
    (c_law_letters : PySem.W.codeIn K cd_law_letters "_law_letters" = true)
    (k_law_letters : PySem.W.keepIn K (.ref a_law_letters) = true)
    (q_law_chain : PySem.W.nsIn K mainGlobals "_law_chain" = some (some (.ref a_law_chain)))
    (l_law_chain : K.lookup a_law_chain = some ⟨oc_law_chain, od_law_chain, .func (PySem.W.fnOf "_law_chain" "_law_chain" (defArgs s_law_chain) (defBody s_law_chain) (defScope s_law_chain) .none kV_law_chain dc_law_chain pm_law_chain an_law_chain cd_law_chain ct_law_chain), sl_law_chain⟩)
    (c_law_chain : PySem.W.codeIn K cd_law_chain "_law_chain" = true)
    (k_law_chain : PySem.W.keepIn K (.ref a_law_chain) = true)
    (q_law_literal : PySem.W.nsIn K mainGlobals "_law_literal" = some (some (.ref a_law_literal)))
    (l_law_literal : K.lookup a_law_literal = some ⟨oc_law_literal, od_law_literal, .func (PySem.W.fnOf "_law_literal" "_law_literal" (defArgs s_law_literal) (defBody s_law_literal) (defScope s_law_literal) .none kV_law_literal dc_law_literal pm_law_literal an_law_literal cd_law_literal ct_law_literal), sl_law_literal⟩)
    (c_law_literal : PySem.W.codeIn K cd_law_literal "_law_literal" = true)
    (k_law_literal : PySem.W.keepIn K (.ref a_law_literal) = true)
    (q_law_clause : PySem.W.nsIn K mainGlobals "_law_clause" = some (some (.ref a_law_clause)))
    (l_law_clause : K.lookup a_law_clause = some ⟨oc_law_clause, od_law_clause, .func (PySem.W.fnOf "_law_clause" "_law_clause" (defArgs s_law_clause) (defBody s_law_clause) (defScope s_law_clause) .none kV_law_clause dc_law_clause pm_law_clause an_law_clause cd_law_clause ct_law_clause), sl_law_clause⟩)
    (c_law_clause : PySem.W.codeIn K cd_law_clause "_law_clause" = true)
    (k_law_clause : PySem.W.keepIn K (.ref a_law_clause) = true)
    (q_law_clauses : PySem.W.nsIn K mainGlobals "_law_clauses" = some (some (.ref a_law_clauses)))
    (l_law_clauses : K.lookup a_law_clauses = some ⟨oc_law_clauses, od_law_clauses, .func (PySem.W.fnOf "_law_clauses" "_law_clauses" (defArgs s_law_clauses) (defBody s_law_clauses) (defScope s_law_clauses) .none kV_law_clauses dc_law_clauses pm_law_clauses an_law_clauses cd_law_clauses ct_law_clauses), sl_law_clauses⟩)
    (c_law_clauses : PySem.W.codeIn K cd_law_clauses "_law_clauses" = true)
    (k_law_clauses : PySem.W.keepIn K (.ref a_law_clauses) = true)
    (q_law_given : PySem.W.nsIn K mainGlobals "_law_given" = some (some (.ref a_law_given)))
    (l_law_given : K.lookup a_law_given = some ⟨oc_law_given, od_law_given, .func (PySem.W.fnOf "_law_given" "_law_given" (defArgs s_law_given) (defBody s_law_given) (defScope s_law_given) .none kV_law_given dc_law_given pm_law_given an_law_given cd_law_given ct_law_given), sl_law_given⟩)
    (c_law_given : PySem.W.codeIn K cd_law_given "_law_given" = true)
    (k_law_given : PySem.W.keepIn K (.ref a_law_given) = true)
    (q_law_handed : PySem.W.nsIn K mainGlobals "_law_handed" = some (some (.ref a_law_handed)))
    (l_law_handed : K.lookup a_law_handed = some ⟨oc_law_handed, od_law_handed, .func (PySem.W.fnOf "_law_handed" "_law_handed" (defArgs s_law_handed) (defBody s_law_handed) (defScope s_law_handed) .none kV_law_handed dc_law_handed pm_law_handed an_law_handed cd_law_handed ct_law_handed), sl_law_handed⟩)
    (c_law_handed : PySem.W.codeIn K cd_law_handed "_law_handed" = true)
    (k_law_handed : PySem.W.keepIn K (.ref a_law_handed) = true)
    (q_Pusher_include : PySem.W.findIn K (.ref a_Pusher) "include" = some (some (.ref a_Pusher_include)))
    (i_Pusher_include : PySem.W.isFn K (.ref a_Pusher_include) = true)
    (l_Pusher_include : K.lookup a_Pusher_include = some ⟨oc_Pusher_include, od_Pusher_include, .func (PySem.W.fnOf "include" "Pusher.include" (defArgs s_Pusher_include) (defBody s_Pusher_include) (defScope s_Pusher_include) .none kV_Pusher_include dc_Pusher_include pm_Pusher_include an_Pusher_include cd_Pusher_include ct_Pusher_include), sl_Pusher_include⟩)
    (c_Pusher_include : PySem.W.codeIn K cd_Pusher_include "Pusher.include" = true)
    (k_Pusher_include : PySem.W.keepIn K (.ref a_Pusher_include) = true)
    (q_Pusher_init : PySem.W.findIn K (.ref a_Pusher) "__init__" = some (some (.ref a_Pusher_init)))
    (i_Pusher_init : PySem.W.isFn K (.ref a_Pusher_init) = true)
    (l_Pusher_init : K.lookup a_Pusher_init = some ⟨oc_Pusher_init, od_Pusher_init, .func (PySem.W.fnOf "__init__" "Pusher.__init__" (defArgs s_Pusher_init) (defBody s_Pusher_init) (defScope s_Pusher_init) .none kV_Pusher_init dc_Pusher_init pm_Pusher_init an_Pusher_init cd_Pusher_init ct_Pusher_init), sl_Pusher_init⟩)
    (c_Pusher_init : PySem.W.codeIn K cd_Pusher_init "Pusher.__init__" = true)
    (k_Pusher_init : PySem.W.keepIn K (.ref a_Pusher_init) = true)
    (q_law_spoil : PySem.W.nsIn K mainGlobals "_law_spoil" = some (some (.ref a_law_spoil)))
    (l_law_spoil : K.lookup a_law_spoil = some ⟨oc_law_spoil, od_law_spoil, .func (PySem.W.fnOf "_law_spoil" "_law_spoil" (defArgs s_law_spoil) (defBody s_law_spoil) (defScope s_law_spoil) .none kV_law_spoil dc_law_spoil pm_law_spoil an_law_spoil cd_law_spoil ct_law_spoil), sl_law_spoil⟩)
    (c_law_spoil : PySem.W.codeIn K cd_law_spoil "_law_spoil" = true)
    (k_law_spoil : PySem.W.keepIn K (.ref a_law_spoil) = true)
    (q_law_forced : PySem.W.nsIn K mainGlobals "_law_forced" = some (some (.ref a_law_forced)))
    (l_law_forced : K.lookup a_law_forced = some ⟨oc_law_forced, od_law_forced, .func (PySem.W.fnOf "_law_forced" "_law_forced" (defArgs s_law_forced) (defBody s_law_forced) (defScope s_law_forced) .none kV_law_forced dc_law_forced pm_law_forced an_law_forced cd_law_forced ct_law_forced), sl_law_forced⟩)
    (c_law_forced : PySem.W.codeIn K cd_law_forced "_law_forced" = true)
    (k_law_forced : PySem.W.keepIn K (.ref a_law_forced) = true)
    (q_Pusher_push : PySem.W.findIn K (.ref a_Pusher) "_push" = some (some (.ref a_Pusher_push)))
    (i_Pusher_push : PySem.W.isFn K (.ref a_Pusher_push) = true)
    (l_Pusher_push : K.lookup a_Pusher_push = some ⟨oc_Pusher_push, od_Pusher_push, .func (PySem.W.fnOf "_push" "Pusher._push" (defArgs s_Pusher_push) (defBody s_Pusher_push) (defScope s_Pusher_push) .none kV_Pusher_push dc_Pusher_push pm_Pusher_push an_Pusher_push cd_Pusher_push ct_Pusher_push), sl_Pusher_push⟩)
    (c_Pusher_push : PySem.W.codeIn K cd_Pusher_push "Pusher._push" = true)
    (k_Pusher_push : PySem.W.keepIn K (.ref a_Pusher_push) = true)
    (q_Pusher_forced : PySem.W.findIn K (.ref a_Pusher) "forced" = some (some (.ref a_Pusher_forced)))
    (i_Pusher_forced : PySem.W.isFn K (.ref a_Pusher_forced) = true)
    (l_Pusher_forced : K.lookup a_Pusher_forced = some ⟨oc_Pusher_forced, od_Pusher_forced, .func (PySem.W.fnOf "forced" "Pusher.forced" (defArgs s_Pusher_forced) (defBody s_Pusher_forced) (defScope s_Pusher_forced) .none kV_Pusher_forced dc_Pusher_forced pm_Pusher_forced an_Pusher_forced cd_Pusher_forced ct_Pusher_forced), sl_Pusher_forced⟩)
    (c_Pusher_forced : PySem.W.codeIn K cd_Pusher_forced "Pusher.forced" = true)
    (k_Pusher_forced : PySem.W.keepIn K (.ref a_Pusher_forced) = true)
    (q_law_same : PySem.W.nsIn K mainGlobals "_law_same" = some (some (.ref a_law_same)))
    (l_law_same : K.lookup a_law_same = some ⟨oc_law_same, od_law_same, .func (PySem.W.fnOf "_law_same" "_law_same" (defArgs s_law_same) (defBody s_law_same) (defScope s_law_same) .none kV_law_same dc_law_same pm_law_same an_law_same cd_law_same ct_law_same), sl_law_same⟩)
    (c_law_same : PySem.W.codeIn K cd_law_same "_law_same" = true)
    (k_law_same : PySem.W.keepIn K (.ref a_law_same) = true)
    (q_law_asked : PySem.W.nsIn K mainGlobals "_law_asked" = some (some (.ref a_law_asked)))
    (l_law_asked : K.lookup a_law_asked = some ⟨oc_law_asked, od_law_asked, .func (PySem.W.fnOf "_law_asked" "_law_asked" (defArgs s_law_asked) (defBody s_law_asked) (defScope s_law_asked) .none kV_law_asked dc_law_asked pm_law_asked an_law_asked cd_law_asked ct_law_asked), sl_law_asked⟩)
    (c_law_asked : PySem.W.codeIn K cd_law_asked "_law_asked" = true)
    (k_law_asked : PySem.W.keepIn K (.ref a_law_asked) = true)
    (q_law_more : PySem.W.nsIn K mainGlobals "_law_more" = some (some (.ref a_law_more)))
    (l_law_more : K.lookup a_law_more = some ⟨oc_law_more, od_law_more, .func (PySem.W.fnOf "_law_more" "_law_more" (defArgs s_law_more) (defBody s_law_more) (defScope s_law_more) .none kV_law_more dc_law_more pm_law_more an_law_more cd_law_more ct_law_more), sl_law_more⟩)
    (c_law_more : PySem.W.codeIn K cd_law_more "_law_more" = true)
    (k_law_more : PySem.W.keepIn K (.ref a_law_more) = true)
    (q_push : PySem.W.nsIn K mainGlobals "push" = some (some (.ref a_push)))
    (l_push : K.lookup a_push = some ⟨oc_push, od_push, .func (PySem.W.fnOf "push" "push" (defArgs s_push) (defBody s_push) (defScope s_push) .none kV_push dc_push pm_push an_push cd_push ct_push), sl_push⟩)
    (c_push : PySem.W.codeIn K cd_push "push" = true)
    (k_push : PySem.W.keepIn K (.ref a_push) = true)
    (q_law : PySem.W.nsIn K mainGlobals "law" = some (some (.ref a_law)))
    (l_law : K.lookup a_law = some ⟨oc_law, od_law, .func (PySem.W.fnOf "law" "law" (defArgs s_law) (defBody s_law) (defScope s_law) .none kV_law dc_law pm_law an_law cd_law ct_law), sl_law⟩)
    (c_law : PySem.W.codeIn K cd_law "law" = true)
    (k_law : PySem.W.keepIn K (.ref a_law) = true)
    (pg_Pusher : PySem.W.plainGet K a_Pusher Str.empty = true)
    (hd_Pusher : PySem.W.hasDictIn K a_Pusher = true)
    (po_Pusher : PySem.W.plainOver K a_Pusher = true)
    (sa_Pusher : PySem.W.findIn K (.ref a_Pusher) "__setattr__" = some (some (.builtin "object.__setattr__")))
    (mk_Pusher : PySem.W.makesIn K a_Pusher = true)
    (kc_Pusher : PySem.W.keepIn K (.ref a_Pusher) = true)
    (nf_Pusher_clauses : PySem.W.findIn K (.ref a_Pusher) "_clauses" = some none)
    (nf_Pusher_places : PySem.W.findIn K (.ref a_Pusher) "_places" = some none)
    (nf_Pusher_starts : PySem.W.findIn K (.ref a_Pusher) "_starts" = some none)
    (nf_Pusher_empty : PySem.W.findIn K (.ref a_Pusher) "_empty" = some none)
    (zz_abs : PySem.W.nsIn K mainGlobals "abs" = some none)
    (zz_bool : PySem.W.nsIn K mainGlobals "bool" = some none)
    (zz_int : PySem.W.nsIn K mainGlobals "int" = some none)
    (zz_isinstance : PySem.W.nsIn K mainGlobals "isinstance" = some none)
    (zz_len : PySem.W.nsIn K mainGlobals "len" = some none)
    (zz_list : PySem.W.nsIn K mainGlobals "list" = some none)
    (zz_range : PySem.W.nsIn K mainGlobals "range" = some none)
    (zz_set : PySem.W.nsIn K mainGlobals "set" = some none)
    (zz_sorted : PySem.W.nsIn K mainGlobals "sorted" = some none)
    (zz_tuple : PySem.W.nsIn K mainGlobals "tuple" = some none) :
    ∃ fd : FuncData, (∀ (s : Shared) (v : Value), BindsTo s fd ⟨[v], []⟩ [("script", v)]) ∧ ∀ base : Heap, K.In base → base.Ns mainGlobals mg → FnOk l.prog w K mg base CX0 5 fa fd ["script"] (spTop K) := by
  have e := hfa.symm.trans (PySem.W.mg_of X G q_law)
  cases e
  let T : Txt K mg := {
    z_abs := PySem.W.mg_none_of X G zz_abs,
    z_bool := PySem.W.mg_none_of X G zz_bool,
    z_int := PySem.W.mg_none_of X G zz_int,
    z_isinstance := PySem.W.mg_none_of X G zz_isinstance,
    z_len := PySem.W.mg_none_of X G zz_len,
    z_list := PySem.W.mg_none_of X G zz_list,
    z_range := PySem.W.mg_none_of X G zz_range,
    z_set := PySem.W.mg_none_of X G zz_set,
    z_sorted := PySem.W.mg_none_of X G zz_sorted,
    z_tuple := PySem.W.mg_none_of X G zz_tuple,
    a_law_seed := a_law_seed,
    d_law_seed := _,
    F_law_seed := fun_mk (st := s_law_seed) l_law_seed c_law_seed k_law_seed,
    b_law_seed := (fun_mk (st := s_law_seed) l_law_seed c_law_seed k_law_seed).binds (ps := ["script"]) (fun _ _ _ _ _ _ us hl => match us, hl with | [_], _ => rfl),
    g_law_seed := PySem.W.mg_of X G q_law_seed,
    a_law_take := a_law_take,
    d_law_take := _,
    F_law_take := fun_mk (st := s_law_take) l_law_take c_law_take k_law_take,
    b_law_take := (fun_mk (st := s_law_take) l_law_take c_law_take k_law_take).binds (ps := ["script", "source", "size"]) (fun _ _ _ _ _ _ us hl => match us, hl with | [_, _, _], _ => rfl),
    g_law_take := PySem.W.mg_of X G q_law_take,
    a_law_letters := a_law_letters,
    d_law_letters := _,
    F_law_letters := fun_mk (st := s_law_letters) l_law_letters c_law_letters k_law_letters,
    b_law_letters := (fun_mk (st := s_law_letters) l_law_letters c_law_letters k_law_letters).binds (ps := ["script", "source"]) (fun _ _ _ _ _ _ us hl => match us, hl with | [_, _], _ => rfl),
    g_law_letters := PySem.W.mg_of X G q_law_letters,
    a_law_chain := a_law_chain,
    d_law_chain := _,
    F_law_chain := fun_mk (st := s_law_chain) l_law_chain c_law_chain k_law_chain,
    b_law_chain := (fun_mk (st := s_law_chain) l_law_chain c_law_chain k_law_chain).binds (ps := ["script", "source", "letters"]) (fun _ _ _ _ _ _ us hl => match us, hl with | [_, _, _], _ => rfl),
    g_law_chain := PySem.W.mg_of X G q_law_chain,
    a_law_literal := a_law_literal,
    d_law_literal := _,
    F_law_literal := fun_mk (st := s_law_literal) l_law_literal c_law_literal k_law_literal,
    b_law_literal := (fun_mk (st := s_law_literal) l_law_literal c_law_literal k_law_literal).binds (ps := ["script", "source", "letters"]) (fun _ _ _ _ _ _ us hl => match us, hl with | [_, _, _], _ => rfl),
    g_law_literal := PySem.W.mg_of X G q_law_literal,
    a_law_clause := a_law_clause,
    d_law_clause := _,
    F_law_clause := fun_mk (st := s_law_clause) l_law_clause c_law_clause k_law_clause,
    b_law_clause := (fun_mk (st := s_law_clause) l_law_clause c_law_clause k_law_clause).binds (ps := ["script", "source", "letters"]) (fun _ _ _ _ _ _ us hl => match us, hl with | [_, _, _], _ => rfl),
    g_law_clause := PySem.W.mg_of X G q_law_clause,
    a_law_clauses := a_law_clauses,
    d_law_clauses := _,
    F_law_clauses := fun_mk (st := s_law_clauses) l_law_clauses c_law_clauses k_law_clauses,
    b_law_clauses := (fun_mk (st := s_law_clauses) l_law_clauses c_law_clauses k_law_clauses).binds (ps := ["script", "source", "letters"]) (fun _ _ _ _ _ _ us hl => match us, hl with | [_, _, _], _ => rfl),
    g_law_clauses := PySem.W.mg_of X G q_law_clauses,
    a_law_given := a_law_given,
    d_law_given := _,
    F_law_given := fun_mk (st := s_law_given) l_law_given c_law_given k_law_given,
    b_law_given := (fun_mk (st := s_law_given) l_law_given c_law_given k_law_given).binds (ps := ["script", "source", "letters"]) (fun _ _ _ _ _ _ us hl => match us, hl with | [_, _, _], _ => rfl),
    g_law_given := PySem.W.mg_of X G q_law_given,
    a_law_handed := a_law_handed,
    d_law_handed := _,
    F_law_handed := fun_mk (st := s_law_handed) l_law_handed c_law_handed k_law_handed,
    b_law_handed := (fun_mk (st := s_law_handed) l_law_handed c_law_handed k_law_handed).binds (ps := ["clauses"]) (fun _ _ _ _ _ _ us hl => match us, hl with | [_], _ => rfl),
    g_law_handed := PySem.W.mg_of X G q_law_handed,
    a_Pusher_include := a_Pusher_include,
    d_Pusher_include := _,
    F_Pusher_include := fun_mk (st := s_Pusher_include) l_Pusher_include c_Pusher_include k_Pusher_include,
    b_Pusher_include := (fun_mk (st := s_Pusher_include) l_Pusher_include c_Pusher_include k_Pusher_include).binds (ps := ["self", "clause"]) (fun _ _ _ _ _ _ us hl => match us, hl with | [_, _], _ => rfl),
    a_Pusher_init := a_Pusher_init,
    d_Pusher_init := _,
    F_Pusher_init := fun_mk (st := s_Pusher_init) l_Pusher_init c_Pusher_init k_Pusher_init,
    b_Pusher_init := (fun_mk (st := s_Pusher_init) l_Pusher_init c_Pusher_init k_Pusher_init).binds (ps := ["self", "clauses"]) (fun _ _ _ _ _ _ us hl => match us, hl with | [_, _], _ => rfl),
    a_law_spoil := a_law_spoil,
    d_law_spoil := _,
    F_law_spoil := fun_mk (st := s_law_spoil) l_law_spoil c_law_spoil k_law_spoil,
    b_law_spoil := (fun_mk (st := s_law_spoil) l_law_spoil c_law_spoil k_law_spoil).binds (ps := ["handed"]) (fun _ _ _ _ _ _ us hl => match us, hl with | [_], _ => rfl),
    g_law_spoil := PySem.W.mg_of X G q_law_spoil,
    a_law_forced := a_law_forced,
    d_law_forced := _,
    F_law_forced := fun_mk (st := s_law_forced) l_law_forced c_law_forced k_law_forced,
    b_law_forced := (fun_mk (st := s_law_forced) l_law_forced c_law_forced k_law_forced).binds (ps := ["clauses", "given"]) (fun _ _ _ _ _ _ us hl => match us, hl with | [_, _], _ => rfl),
    g_law_forced := PySem.W.mg_of X G q_law_forced,
    a_Pusher_push := a_Pusher_push,
    d_Pusher_push := _,
    F_Pusher_push := fun_mk (st := s_Pusher_push) l_Pusher_push c_Pusher_push k_Pusher_push,
    b_Pusher_push := (fun_mk (st := s_Pusher_push) l_Pusher_push c_Pusher_push k_Pusher_push).binds (ps := ["self", "literal", "known", "open_counts"]) (fun _ _ _ _ _ _ us hl => match us, hl with | [_, _, _, _], _ => rfl),
    a_Pusher_forced := a_Pusher_forced,
    d_Pusher_forced := _,
    F_Pusher_forced := fun_mk (st := s_Pusher_forced) l_Pusher_forced c_Pusher_forced k_Pusher_forced,
    b_Pusher_forced := (fun_mk (st := s_Pusher_forced) l_Pusher_forced c_Pusher_forced k_Pusher_forced).binds (ps := ["self", "literals"]) (fun _ _ _ _ _ _ us hl => match us, hl with | [_, _], _ => rfl),
    a_law_same := a_law_same,
    d_law_same := _,
    F_law_same := fun_mk (st := s_law_same) l_law_same c_law_same k_law_same,
    b_law_same := (fun_mk (st := s_law_same) l_law_same c_law_same k_law_same).binds (ps := ["actual", "due"]) (fun _ _ _ _ _ _ us hl => match us, hl with | [_, _], _ => rfl),
    g_law_same := PySem.W.mg_of X G q_law_same,
    a_law_asked := a_law_asked,
    d_law_asked := _,
    F_law_asked := fun_mk (st := s_law_asked) l_law_asked c_law_asked k_law_asked,
    b_law_asked := (fun_mk (st := s_law_asked) l_law_asked c_law_asked k_law_asked).binds (ps := ["pusher", "clauses", "given"]) (fun _ _ _ _ _ _ us hl => match us, hl with | [_, _, _], _ => rfl),
    g_law_asked := PySem.W.mg_of X G q_law_asked,
    a_law_more := a_law_more,
    d_law_more := _,
    F_law_more := fun_mk (st := s_law_more) l_law_more c_law_more k_law_more,
    b_law_more := (fun_mk (st := s_law_more) l_law_more c_law_more k_law_more).binds (ps := ["script", "source", "letters"]) (fun _ _ _ _ _ _ us hl => match us, hl with | [_, _, _], _ => rfl),
    g_law_more := PySem.W.mg_of X G q_law_more,
    a_push := a_push,
    d_push := _,
    F_push := fun_mk (st := s_push) l_push c_push k_push,
    b_push := (fun_mk (st := s_push) l_push c_push k_push).binds (ps := ["clauses", "literals"]) (fun _ _ _ _ _ _ us hl => match us, hl with | [_, _], _ => rfl),
    g_push := PySem.W.mg_of X G q_push,
    a_law := fa,
    d_law := _,
    F_law := fun_mk (st := s_law) l_law c_law k_law,
    b_law := (fun_mk (st := s_law) l_law c_law k_law).binds (ps := ["script"]) (fun _ _ _ _ _ _ us hl => match us, hl with | [_], _ => rfl),
    g_law := PySem.W.mg_of X G q_law,
    a_Pusher := a_Pusher,
    cl_Pusher := ⟨pg_Pusher, hd_Pusher, po_Pusher, sa_Pusher⟩,
    g_Pusher := PySem.W.mg_of X G qc_Pusher,
    n_Pusher_clauses := nf_Pusher_clauses,
    n_Pusher_places := nf_Pusher_places,
    n_Pusher_starts := nf_Pusher_starts,
    n_Pusher_empty := nf_Pusher_empty,
    h_Pusher_include := ⟨q_Pusher_include, i_Pusher_include, k_Pusher_include⟩,
    mk_Pusher := ⟨mk_Pusher, q_Pusher_init, i_Pusher_init, kc_Pusher⟩,
    h_Pusher_push := ⟨q_Pusher_push, i_Pusher_push, k_Pusher_push⟩,
    h_Pusher_forced := ⟨q_Pusher_forced, i_Pusher_forced, k_Pusher_forced⟩ }
  exact ⟨T.d_law, fun s v => .of_eq rfl, fun base _ _ => top_of T⟩
theorem walk {l : PySem.W.OpenLaw} {q : Program} {loose : List Str} {XP : (Str → Option Value) → Heap → Prop} {YP : World → Heap → Prop} {d : DefRec} {K : Params → PySem.W.Frag} (hn : l.most = some 63) (hdf : d.params.defaults = [])
    (hY : ∀ (w : World) (h : Heap), YP w h → (K w.params).In h)
    (F : ∀ (w : World) (mg : Str → Option Value) (fa : Addr) (h : Heap), (K w.params).In h → h.Ns mainGlobals mg → mg d.name = some (.ref fa) →
      ∃ fd : FuncData, (∀ (s : Shared) (u : Value), BindsTo s fd ⟨[u], []⟩ [("script", u)]) ∧ ∀ base : Heap, (K w.params).In base → base.Ns mainGlobals mg → FnOk l.prog w (K w.params) mg base CX0 5 fa fd ["script"] (spTop (K w.params))) :
    PySem.W.WalkO q loose XP YP l.row.toRowW d [] (fun f vs => PySem.call f vs) :=
  L2.walk_of (n := 63) (k := 5) (x := "script") (CX := fun _ => CX0) (sp := fun w => spTop (K w.params)) hn (by decide) hdf ⟨rfl, by decide, by decide⟩ hY F (fun _ _ a ns hl _ hS => ⟨a, ns, rfl, hS, hl, fun _ => rfl⟩) fun _ _ _ _ _ z => z
end G
open PySem PySem.W PyProof.Rows
set_option maxRecDepth 100000 in
set_option maxHeartbeats 0 in
theorem PySem.Challenge.cw_someandall_k35_pushes_are_the_closure_holds : PySem.Challenge.rw_someandall_k35_pushes_are_the_closure.Holds := by
  w_on; o_law; k_head; (case hw => w_witness2)
  k_fill
  refine G.walk (l := PySem.Challenge.rw_someandall_k35_pushes_are_the_closure) rfl rfl (fun w h Y => PySem.W.kIn_of Y) ?F
  case F =>
    intro w mg fa h KX G0 hmg
    refine' G.all_mk KX G0 hmg ?qc_Pusher ?q_law_seed ?l_law_seed ?c_law_seed ?k_law_seed ?q_law_take ?l_law_take ?c_law_take ?k_law_take ?q_law_letters ?l_law_letters ?c_law_letters ?k_law_letters ?q_law_chain ?l_law_chain ?c_law_chain ?k_law_chain ?q_law_literal ?l_law_literal ?c_law_literal ?k_law_literal ?q_law_clause ?l_law_clause ?c_law_clause ?k_law_clause ?q_law_clauses ?l_law_clauses ?c_law_clauses ?k_law_clauses ?q_law_given ?l_law_given ?c_law_given ?k_law_given ?q_law_handed ?l_law_handed ?c_law_handed ?k_law_handed ?q_Pusher_include ?i_Pusher_include ?l_Pusher_include ?c_Pusher_include ?k_Pusher_include ?q_Pusher_init ?i_Pusher_init ?l_Pusher_init ?c_Pusher_init ?k_Pusher_init ?q_law_spoil ?l_law_spoil ?c_law_spoil ?k_law_spoil ?q_law_forced ?l_law_forced ?c_law_forced ?k_law_forced ?q_Pusher_push ?i_Pusher_push ?l_Pusher_push ?c_Pusher_push ?k_Pusher_push ?q_Pusher_forced ?i_Pusher_forced ?l_Pusher_forced ?c_Pusher_forced ?k_Pusher_forced ?q_law_same ?l_law_same ?c_law_same ?k_law_same ?q_law_asked ?l_law_asked ?c_law_asked ?k_law_asked ?q_law_more ?l_law_more ?c_law_more ?k_law_more ?q_push ?l_push ?c_push ?k_push ?q_law ?l_law ?c_law ?k_law ?pg_Pusher ?hd_Pusher ?po_Pusher ?sa_Pusher ?mk_Pusher ?kc_Pusher ?nf_Pusher_clauses ?nf_Pusher_places ?nf_Pusher_starts ?nf_Pusher_empty ?zz_abs ?zz_bool ?zz_int ?zz_isinstance ?zz_len ?zz_list ?zz_range ?zz_set ?zz_sorted ?zz_tuple
    (case qc_Pusher => k_is)
    (case q_law_seed => k_is)
    (case l_law_seed => k_is)
    (case c_law_seed => k_is)
    (case k_law_seed => k_is)
    (case q_law_take => k_is)
    (case l_law_take => k_is)
    (case c_law_take => k_is)
    (case k_law_take => k_is)
    (case q_law_letters => k_is)
    (case l_law_letters => k_is)
    (case c_law_letters => k_is)
    (case k_law_letters => k_is)
    (case q_law_chain => k_is)
    (case l_law_chain => k_is)
    (case c_law_chain => k_is)
    (case k_law_chain => k_is)
    (case q_law_literal => k_is)
    (case l_law_literal => k_is)
    (case c_law_literal => k_is)
    (case k_law_literal => k_is)
    (case q_law_clause => k_is)
    (case l_law_clause => k_is)
    (case c_law_clause => k_is)
    (case k_law_clause => k_is)
    (case q_law_clauses => k_is)
    (case l_law_clauses => k_is)
    (case c_law_clauses => k_is)
    (case k_law_clauses => k_is)
    (case q_law_given => k_is)
    (case l_law_given => k_is)
    (case c_law_given => k_is)
    (case k_law_given => k_is)
    (case q_law_handed => k_is)
    (case l_law_handed => k_is)
    (case c_law_handed => k_is)
    (case k_law_handed => k_is)
    (case q_Pusher_include => k_is)
    (case i_Pusher_include => k_is)
    (case l_Pusher_include => k_is)
    (case c_Pusher_include => k_is)
    (case k_Pusher_include => k_is)
    (case q_Pusher_init => k_is)
    (case i_Pusher_init => k_is)
    (case l_Pusher_init => k_is)
    (case c_Pusher_init => k_is)
    (case k_Pusher_init => k_is)
    (case q_law_spoil => k_is)
    (case l_law_spoil => k_is)
    (case c_law_spoil => k_is)
    (case k_law_spoil => k_is)
    (case q_law_forced => k_is)
    (case l_law_forced => k_is)
    (case c_law_forced => k_is)
    (case k_law_forced => k_is)
    (case q_Pusher_push => k_is)
    (case i_Pusher_push => k_is)
    (case l_Pusher_push => k_is)
    (case c_Pusher_push => k_is)
    (case k_Pusher_push => k_is)
    (case q_Pusher_forced => k_is)
    (case i_Pusher_forced => k_is)
    (case l_Pusher_forced => k_is)
    (case c_Pusher_forced => k_is)
    (case k_Pusher_forced => k_is)
    (case q_law_same => k_is)
    (case l_law_same => k_is)
    (case c_law_same => k_is)
    (case k_law_same => k_is)
    (case q_law_asked => k_is)
    (case l_law_asked => k_is)
    (case c_law_asked => k_is)
    (case k_law_asked => k_is)
    (case q_law_more => k_is)
    (case l_law_more => k_is)
    (case c_law_more => k_is)
    (case k_law_more => k_is)
    (case q_push => k_is)
    (case l_push => k_is)
    (case c_push => k_is)
    (case k_push => k_is)
    (case q_law => k_is)
    (case l_law => k_is)
    (case c_law => k_is)
    (case k_law => k_is)
    (case pg_Pusher => k_is)
    (case hd_Pusher => k_is)
    (case po_Pusher => k_is)
    (case sa_Pusher => k_is)
    (case mk_Pusher => k_is)
    (case kc_Pusher => k_is)
    (case nf_Pusher_clauses => k_is)
    (case nf_Pusher_places => k_is)
    (case nf_Pusher_starts => k_is)
    (case nf_Pusher_empty => k_is)
    (case zz_abs => k_is)
    (case zz_bool => k_is)
    (case zz_int => k_is)
    (case zz_isinstance => k_is)
    (case zz_len => k_is)
    (case zz_list => k_is)
    (case zz_range => k_is)
    (case zz_set => k_is)
    (case zz_sorted => k_is)
    (case zz_tuple => k_is)
