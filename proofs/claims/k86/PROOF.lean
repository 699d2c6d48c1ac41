import PyProof.Rows.All
import Wide.All
import OpenK.AllK
import Wide.FinOn
import HandS.ForMost
import HandS.IsInst
import HandS.Codes
import PySem.Challenge.RW_someandall_k86_gates_fold_and_share
set_option Elab.async false
set_option linter.all false
set_option maxRecDepth 100000
set_option maxHeartbeats 8000000

/-! The own layer over the rules: a frozen heap F, owned cells, their frame; representations of data. -/
namespace G
open PySem PySem.Spec PyProof.Rows L2

abbrev Own := List (Addr × HO)
/-- the frozen heap with the cells over it -/
def ov (F : Hp) : Own → Hp
  | [] => F
  | (a, o) :: cs => upd (ov F cs) a o
/-- the state: frozen part F, owned cells cs, all within H -/
structure Sta (F : Hp) (cs : Own) (H : Hp) : Prop where
  sub : Same F H
  own : ∀ a o, (a, o) ∈ cs → H a = some o ∧ F a = none
  nd : (cs.map (·.1)).Nodup

theorem mem_fst {cs : Own} {a : Addr} {o : HO} (h : (a, o) ∈ cs) : a ∈ cs.map (·.1) := List.mem_map.mpr ⟨_, h, rfl⟩
theorem ov_or {F : Hp} : ∀ {cs : Own} {b : Addr} {o : HO}, ov F cs b = some o → (b, o) ∈ cs ∨ (F b = some o ∧ ∀ u, (b, u) ∉ cs)
  | [], _, _, h => .inr ⟨h, fun _ q => nomatch q⟩
  | (a, u) :: cs, b, o, h => by
    by_cases e : b = a
    · subst e
      have h' : upd (ov F cs) b u b = some o := h
      rw [upd_same] at h'
      cases h'
      exact .inl (.head _)
    · have h' : upd (ov F cs) a u b = some o := h
      rw [upd_ne e] at h'
      rcases ov_or h' with q | ⟨q, n⟩
      · exact .inl (.tail _ q)
      · refine .inr ⟨q, fun v m => ?_⟩
        cases m with
        | head => exact e rfl
        | tail _ m => exact n v m
theorem ov_mem {F : Hp} : ∀ {cs : Own} {b : Addr} {o : HO}, (cs.map (·.1)).Nodup → (b, o) ∈ cs → ov F cs b = some o
  | (a, u) :: cs, b, o, nd, m => by
    have nd' : a ∉ cs.map (·.1) ∧ (cs.map (·.1)).Nodup := List.nodup_cons.mp nd
    cases m with
    | head => exact upd_same
    | tail _ m =>
      have ne : b ≠ a := fun e => nd'.1 (e ▸ mem_fst m)
      show upd (ov F cs) a u b = some o
      rw [upd_ne ne]
      exact ov_mem nd'.2 m
theorem ov_F {F : Hp} : ∀ {cs : Own} {b : Addr} {o : HO}, F b = some o → (∀ a u, (a, u) ∈ cs → F a = none) → ov F cs b = some o
  | [], _, _, h, _ => h
  | (a, u) :: cs, b, o, h, n => by
    have ne : b ≠ a := fun e => by
      have q := n a u (.head _)
      rw [← e, h] at q
      cases q
    show upd (ov F cs) a u b = some o
    rw [upd_ne ne]
    exact ov_F h fun a u m => n a u (.tail _ m)

section
variable {F F0 F' : Hp} {cs R : Own} {H : Hp} {a p : Addr} {o : HO}
theorem Sta.mono0 (S : Sta F cs H) : Sta F cs H := S
/-- what a frame shows stands in the heap -/
theorem Sta.bor (S : Sta F cs H) (f : Same F0 F) (m : ∀ c ∈ R, c ∈ cs) : Same (ov F0 R) H := fun b o h => by
  rcases ov_or h with q | ⟨q, _⟩
  · exact (S.own _ _ (m _ q)).1
  · exact S.sub _ _ (f _ _ q)
/-- .. and in a greater frame -/
theorem Sta.ovR (S : Sta F cs H) (f : Same F0 F) (m : ∀ c ∈ R, c ∈ cs) : Same (ov F0 R) (ov F cs) := fun b o h => by
  rcases ov_or h with q | ⟨q, _⟩
  · exact ov_mem S.nd (m _ q)
  · exact ov_F (f _ _ q) fun a u m => (S.own a u m).2
theorem Sta.ovS (S : Sta F cs H) : Same F (ov F cs) := fun _ _ h => ov_F h fun a u m => (S.own a u m).2
theorem Sta.get (S : Sta F cs H) (i : Nat) (e : cs[i]? = some (a, o)) : H a = some o := (S.own a o (List.mem_of_getElem? e)).1
theorem Sta.getO (S : Sta F cs H) (i : Nat) (e : cs[i]? = some (a, o)) : ov F cs a = some o := ov_mem S.nd (List.mem_of_getElem? e)
theorem nd_set : ∀ {cs : Own} {i : Nat} {a : Addr} {o o' : HO}, cs[i]? = some (a, o) → (cs.set i (a, o')).map (·.1) = cs.map (·.1)
  | [], _, _, _, _, h => by simp at h
  | c :: cs, 0, a, o, o', h => by
    simp at h
    subst h
    rfl
  | c :: cs, i + 1, a, o, o', h => by
    have h' : cs[i]? = some (a, o) := by simpa using h
    show c.1 :: (cs.set i (a, o')).map (·.1) = c.1 :: cs.map (·.1)
    rw [nd_set h']
theorem mem_set : ∀ {cs : Own} {i : Nat} {a : Addr} {o o' : HO} {c : Addr × HO}, (cs.map (·.1)).Nodup → cs[i]? = some (a, o) → c ∈ cs.set i (a, o') → c = (a, o') ∨ (c ∈ cs ∧ c.1 ≠ a)
  | [], _, _, _, _, _, _, h, _ => by simp at h
  | d :: cs, 0, a, o, o', c, nd, h, m => by
    have nd' : d.1 ∉ cs.map (·.1) ∧ (cs.map (·.1)).Nodup := List.nodup_cons.mp nd
    simp at h
    subst h
    have m' : c ∈ (a, o') :: cs := m
    cases m' with
    | head => exact .inl rfl
    | tail _ q => exact .inr ⟨.tail _ q, fun e => nd'.1 (e ▸ mem_fst (o := c.2) q)⟩
  | d :: cs, i + 1, a, o, o', c, nd, h, m => by
    have nd' : d.1 ∉ cs.map (·.1) ∧ (cs.map (·.1)).Nodup := List.nodup_cons.mp nd
    have h' : cs[i]? = some (a, o) := by simpa using h
    have m' : c ∈ d :: cs.set i (a, o') := m
    cases m' with
    | head => exact .inr ⟨.head _, fun e => nd'.1 (e ▸ mem_fst (List.mem_of_getElem? h'))⟩
    | tail _ q =>
      rcases mem_set nd'.2 h' q with z | ⟨z, n⟩
      · exact .inl z
      · exact .inr ⟨.tail _ z, n⟩
theorem Sta.set (S : Sta F cs H) (i : Nat) (e : cs[i]? = some (a, o)) (o' : HO) : Sta F (cs.set i (a, o')) (upd H a o') where
  sub := fun b u h => by
    have ne : b ≠ a := fun q => by
      have z := (S.own a o (List.mem_of_getElem? e)).2
      rw [← q, h] at z
      cases z
    rw [upd_ne ne]
    exact S.sub b u h
  own := fun b u m => by
    rcases mem_set S.nd e m with z | ⟨z, n⟩
    · cases z
      exact ⟨upd_same, (S.own a o (List.mem_of_getElem? e)).2⟩
    · rw [upd_ne n]
      exact S.own b u z
  nd := by
    rw [nd_set e]
    exact S.nd
theorem Sta.noF (S : Sta F cs H) (h : H p = none) : F p = none := S.sub.free h
theorem Sta.noC (S : Sta F cs H) (h : H p = none) {u : HO} : (p, u) ∉ cs := fun m => by
  have z := (S.own p u m).1
  rw [h] at z
  cases z
/-- a new cell -/
theorem Sta.new (S : Sta F cs H) (h : H p = none) (o : HO) : Sta F ((p, o) :: cs) (upd H p o) where
  sub := fun b u q => by
    rw [upd_ne (ne_of_none (S.sub b u q) h)]
    exact S.sub b u q
  own := fun b u m => by
    cases m with
    | head => exact ⟨upd_same, S.noF h⟩
    | tail _ m =>
      rw [upd_ne (ne_of_none (S.own b u m).1 h)]
      exact S.own b u m
  nd := List.nodup_cons.mpr ⟨fun m => by
    obtain ⟨⟨b, u⟩, q, e⟩ := List.mem_map.mp m
    have e' : b = p := e
    subst e'
    exact S.noC h q, S.nd⟩
/-- a new object of the frozen part -/
theorem Sta.newF (S : Sta F cs H) (h : H p = none) (o : HO) : Sta (upd F p o) cs (upd H p o) where
  sub := fun b u q => by
    by_cases e : b = p
    · subst e
      rw [upd_same] at q ⊢
      exact q
    · rw [upd_ne e] at q ⊢
      exact S.sub b u q
  own := fun b u m => by
    have ne : b ≠ p := ne_of_none (S.own b u m).1 h
    rw [upd_ne ne, upd_ne ne]
    exact S.own b u m
  nd := S.nd
theorem Sta.sameF (S : Sta F cs H) (h : H p = none) (o : HO) : Same F (upd F p o) := fun b u q => by
  have ne : b ≠ p := fun e => by
    have z := S.noF h
    rw [← e, q] at z
    cases z
  rw [upd_ne ne]
  exact q
/-- a cell is frozen -/
theorem Sta.frz (S : Sta F ((p, o) :: cs) H) : Sta (upd F p o) cs H where
  sub := fun b u q => by
    by_cases e : b = p
    · subst e
      rw [upd_same] at q
      cases q
      exact (S.own _ _ (.head _)).1
    · rw [upd_ne e] at q
      exact S.sub b u q
  own := fun b u m => by
    have nd' : p ∉ cs.map (·.1) ∧ (cs.map (·.1)).Nodup := List.nodup_cons.mp S.nd
    have ne : b ≠ p := fun e => nd'.1 (e ▸ mem_fst m)
    rw [upd_ne ne]
    exact S.own b u (.tail _ m)
  nd := (List.nodup_cons.mp S.nd).2
theorem Sta.frzS (S : Sta F ((p, o) :: cs) H) : Same F (upd F p o) := fun b u q => by
  have ne : b ≠ p := fun e => by
    have z := (S.own p o (.head _)).2
    rw [← e, q] at z
    cases z
  rw [upd_ne ne]
  exact q
theorem Sta.tl {c : Addr × HO} (S : Sta F (c :: cs) H) : Sta F cs H := ⟨S.sub, fun a o m => S.own a o (.tail _ m), (List.nodup_cons.mp S.nd).2⟩
/-- other cells of the same frame, in another sequence -/
theorem Sta.sel (S : Sta F cs H) {cs' : Own} (nd : (cs'.map (·.1)).Nodup) (m : ∀ c ∈ cs', c ∈ cs) : Sta F cs' H :=
  ⟨S.sub, fun a o q => S.own a o (m _ q), nd⟩
theorem nodup_pick {α : Type} : ∀ {is : List Nat} {xs ys : List α}, xs.Nodup → is.Nodup → is.map (xs[·]?) = ys.map some → ys.Nodup
  | [], _, [], _, _, _ => List.nodup_nil
  | [], _, _ :: _, _, _, e => by simp at e
  | _ :: _, _, [], _, _, e => by simp at e
  | i :: is, xs, y :: ys, hx, hi, e => by
    have hi' := List.nodup_cons.mp hi
    simp at e
    obtain ⟨e1, e2⟩ := e
    refine List.nodup_cons.mpr ⟨fun m => ?_, nodup_pick hx hi'.2 (by simpa using e2)⟩
    have m2 : some y ∈ is.map (xs[·]?) := by
      rw [show is.map (xs[·]?) = ys.map some by simpa using e2]
      exact List.mem_map.mpr ⟨y, m, rfl⟩
    obtain ⟨j, hj, ej⟩ := List.mem_map.mp m2
    obtain ⟨l1, q1⟩ := List.getElem?_eq_some_iff.mp e1
    obtain ⟨l2, q2⟩ := List.getElem?_eq_some_iff.mp (show xs[j]? = some y from ej)
    have : i = j := (List.getElem_inj hx).mp (q1.trans q2.symm)
    exact hi'.1 (this ▸ hj)
/-- the cells at the places is, then the frame -/
theorem Sta.pick (S : Sta F (cs ++ R) H) {cs' : Own} (is : List Nat) (hi : is.Nodup) (e : is.map (cs[·]?) = cs'.map some) : Sta F (cs' ++ R) H := by
  have nd : (cs.map (·.1) ++ R.map (·.1)).Nodup := by
    rw [← List.map_append]
    exact S.nd
  obtain ⟨n1, n2, n3⟩ := List.nodup_append.mp nd
  have sub : ∀ c ∈ cs', c ∈ cs := fun c m => by
    have m2 : some c ∈ is.map (cs[·]?) := by
      rw [e]
      exact List.mem_map.mpr ⟨c, m, rfl⟩
    obtain ⟨j, _, ej⟩ := List.mem_map.mp m2
    exact List.mem_of_getElem? ej
  refine S.sel ?_ fun c m => ?_
  · rw [List.map_append]
    refine List.nodup_append.mpr ⟨nodup_pick (is := is) n1 hi ?_, n2, fun x hx y hy => n3 x ?_ y hy⟩
    · have e2 : (is.map (cs[·]?)).map (Option.map (·.1)) = (cs'.map some).map (Option.map (·.1)) := congrArg _ e
      simpa [List.map_map, Function.comp_def] using e2
    · obtain ⟨c, hc, ec⟩ := List.mem_map.mp hx
      exact List.mem_map.mpr ⟨c, sub c hc, ec⟩
  · rcases List.mem_append.mp m with q | q
    · exact List.mem_append_left _ (sub c q)
    · exact List.mem_append_right _ q
end

/-! ### representations -/
abbrev Rp (α : Type) := Hp → V → α → Prop
class MonoR {α : Type} (r : Rp α) : Prop where
  mono : ∀ {F F' : Hp} {v : V} {x : α}, Same F F' → r F v x → r F' v x
theorem SqL.mono {K : PySem.W.Frag} {H H' : Hp} {a : Addr} {xs : List V} (h : SqL K H a xs) (e : Same H H') : SqL K H' a xs := e.seq h
theorem SqT.mono {K : PySem.W.Frag} {H H' : Hp} {a : Addr} {xs : List V} (h : SqT K H a xs) (e : Same H H') : SqT K H' a xs := by
  rcases h with (h | ⟨o, h⟩) | h
  · exact .inl (.inl (e _ _ h))
  · exact .inl (.inr ⟨o, e _ _ h⟩)
  · exact .inr h
def LR {α : Type} (r : V → α → Prop) : List V → List α → Prop
  | [], [] => True
  | v :: vs, x :: xs => r v x ∧ LR r vs xs
  | _, _ => False
section
variable {α β : Type} {r : V → α → Prop}
theorem LR.length : ∀ {vs : List V} {xs : List α}, LR r vs xs → vs.length = xs.length
  | [], [], _ => rfl
  | _ :: _, _ :: _, h => congrArg (· + 1) (LR.length h.2)
  | [], _ :: _, h => h.elim
  | _ :: _, [], h => h.elim
theorem LR.get : ∀ {vs : List V} {xs : List α} {i : Nat} {x : α}, LR r vs xs → xs[i]? = some x → ∃ v, vs[i]? = some v ∧ r v x
  | [], [], _, _, _, e => by simp at e
  | v :: _, _ :: _, 0, _, h, e => by
    simp at e
    subst e
    exact ⟨v, rfl, h.1⟩
  | _ :: vs, _ :: xs, i + 1, x, h, e => by
    obtain ⟨v, q1, q2⟩ := LR.get (i := i) (x := x) h.2 (by simpa using e)
    exact ⟨v, by simpa using q1, q2⟩
  | [], _ :: _, _, _, h, _ => h.elim
  | _ :: _, [], _, _, h, _ => h.elim
theorem LR.getV : ∀ {vs : List V} {xs : List α} {i : Nat} {v : V}, LR r vs xs → vs[i]? = some v → ∃ x, xs[i]? = some x ∧ r v x
  | [], [], _, _, _, e => by simp at e
  | v :: _, x :: _, 0, _, h, e => by
    simp at e
    subst e
    exact ⟨x, rfl, h.1⟩
  | _ :: vs, _ :: xs, i + 1, v, h, e => by
    obtain ⟨x, q1, q2⟩ := LR.getV (i := i) (v := v) h.2 (by simpa using e)
    exact ⟨x, by simpa using q1, q2⟩
  | [], _ :: _, _, _, h, _ => h.elim
  | _ :: _, [], _, _, h, _ => h.elim
theorem LR.append : ∀ {vs ws : List V} {xs ys : List α}, LR r vs xs → LR r ws ys → LR r (vs ++ ws) (xs ++ ys)
  | [], _, [], _, _, h => h
  | _ :: _, _, _ :: _, _, g, h => ⟨g.1, LR.append g.2 h⟩
  | [], _, _ :: _, _, g, _ => g.elim
  | _ :: _, _, [], _, g, _ => g.elim
theorem LR.snoc {vs : List V} {v : V} {xs : List α} {x : α} (h : LR r vs xs) (g : r v x) : LR r (vs ++ [v]) (xs ++ [x]) := h.append ⟨g, trivial⟩
theorem LR.set : ∀ {vs : List V} {v : V} {xs : List α} {x : α} {i : Nat}, LR r vs xs → r v x → LR r (vs.set i v) (xs.set i x)
  | [], _, [], _, _, _, _ => trivial
  | _ :: _, _, _ :: _, _, 0, h, g => ⟨g, h.2⟩
  | _ :: _, _, _ :: _, _, i + 1, h, g => ⟨h.1, LR.set (i := i) h.2 g⟩
  | [], _, _ :: _, _, _, h, _ => h.elim
  | _ :: _, _, [], _, _, h, _ => h.elim
theorem LR.imp {s : V → α → Prop} (f : ∀ v x, r v x → s v x) : ∀ {vs : List V} {xs : List α}, LR r vs xs → LR s vs xs
  | [], [], _ => trivial
  | _ :: _, _ :: _, h => ⟨f _ _ h.1, LR.imp f h.2⟩
  | [], _ :: _, h => h.elim
  | _ :: _, [], h => h.elim
end
theorem LR.mono {α : Type} {r : Rp α} [m : MonoR r] {F F' : Hp} {vs : List V} {xs : List α} (h : LR (r F) vs xs) (e : Same F F') : LR (r F') vs xs := h.imp fun _ _ q => m.mono e q

def rInt : Rp Int := fun _ v x => v = .int x
def rBool : Rp Bool := fun _ v x => v = .bl x
def rStr : Rp Str := fun _ v x => v = .str x
def rNon : Rp Unit := fun _ v _ => v = .non
instance : MonoR rInt := ⟨fun _ h => h⟩
instance : MonoR rBool := ⟨fun _ h => h⟩
instance : MonoR rStr := ⟨fun _ h => h⟩
instance : MonoR rNon := ⟨fun _ h => h⟩
def rLst {α : Type} (K : PySem.W.Frag) (r : Rp α) : Rp (List α) := fun F v xs => ∃ a vs, v = .ref a ∧ SqL K F a vs ∧ LR (r F) vs xs
def rVT {α : Type} (K : PySem.W.Frag) (r : Rp α) : Rp (List α) := fun F v xs => ∃ a vs, v = .ref a ∧ SqT K F a vs ∧ LR (r F) vs xs
instance {α : Type} {K : PySem.W.Frag} {r : Rp α} [MonoR r] : MonoR (rLst K r) := ⟨fun e ⟨a, vs, h1, h2, h3⟩ => ⟨a, vs, h1, SqL.mono h2 e, h3.mono e⟩⟩
instance {α : Type} {K : PySem.W.Frag} {r : Rp α} [MonoR r] : MonoR (rVT K r) := ⟨fun e ⟨a, vs, h1, h2, h3⟩ => ⟨a, vs, h1, SqT.mono h2 e, h3.mono e⟩⟩
/-- tuples of two, of three -/
def rT2 {α β : Type} (K : PySem.W.Frag) (r : Rp α) (s : Rp β) : Rp (α × β) := fun F v x => ∃ a u w, v = .ref a ∧ SqT K F a [u, w] ∧ r F u x.1 ∧ s F w x.2
def rT3 {α β γ : Type} (K : PySem.W.Frag) (r : Rp α) (s : Rp β) (t : Rp γ) : Rp (α × β × γ) := fun F v x => ∃ a u w z, v = .ref a ∧ SqT K F a [u, w, z] ∧ r F u x.1 ∧ s F w x.2.1 ∧ t F z x.2.2
instance {α β : Type} {K : PySem.W.Frag} {r : Rp α} {s : Rp β} [m : MonoR r] [n : MonoR s] : MonoR (rT2 K r s) :=
  ⟨fun e ⟨a, u, w, h1, h2, h3, h4⟩ => ⟨a, u, w, h1, SqT.mono h2 e, m.mono e h3, n.mono e h4⟩⟩
instance {α β γ : Type} {K : PySem.W.Frag} {r : Rp α} {s : Rp β} {t : Rp γ} [m : MonoR r] [n : MonoR s] [l : MonoR t] : MonoR (rT3 K r s t) :=
  ⟨fun e ⟨a, u, w, z, h1, h2, h3, h4, h5⟩ => ⟨a, u, w, z, h1, SqT.mono h2 e, m.mono e h3, n.mono e h4, l.mono e h5⟩⟩
/-- a tracked tuple of ints and texts (may be a key) -/
def rKT : Rp (List Key) := fun F v ks => ∃ a, v = .ref a ∧ F a = some (.tup (ks.map kV))
instance : MonoR rKT := ⟨fun e ⟨a, h1, h2⟩ => ⟨a, h1, e _ _ h2⟩⟩

/-! ### the mirror's monad: Option; none: nothing is said -/
theorem bnd {α β : Type} {m : Option α} {f : α → Option β} {r : β} (h : m.bind f = some r) : ∃ x, m = some x ∧ f x = some r := by
  cases m with
  | none => cases h
  | some x => exact ⟨x, rfl, h⟩
def grd (b : Bool) : Option Unit := if b then some () else none
theorem grd_ok {b : Bool} {β : Type} {f : Unit → Option β} {r : β} (h : (grd b).bind f = some r) : b = true ∧ f () = some r := by
  cases b with
  | false => cases h
  | true => exact ⟨rfl, h⟩
theorem ifT {α : Type} {c : Bool} {x y : α} {r : α} (h : (if c = true then x else y) = r) (e : c = true) : x = r := by
  rw [if_pos e] at h
  exact h
theorem ifF {α : Type} {c : Bool} {x y : α} {r : α} (h : (if c = true then x else y) = r) (e : ¬ c = true) : y = r := by
  rw [if_neg e] at h
  exact h
/-- the goals' if -/
theorem goT {c : Bool} {A B : Prop} (e : c = true) (h : A) : if c = true then A else B := by
  rw [if_pos e]
  exact h
theorem goF {c : Bool} {A B : Prop} (e : ¬ c = true) (h : B) : if c = true then A else B := by
  rw [if_neg e]
  exact h
/-- how a loop's turns end -/
inductive Flw (S ρ : Type) where
  | done (s : S)
  | ret (r : ρ)
/-- the state that a caller reads off -/
def small24 : sizeLine = 16777216 := rfl

/-! ### operators by their kinds -/
section
variable {X : Cx}
theorem oI_eq : OpR X (compareOp .Eq) (rI0 fun i j => .bl (decide (i = j))) := by
  intro pins s σ H x y v u Q I rx ry h
  obtain ⟨i, j, rfl, rfl, q⟩ := h
  refine op_eq pins s σ H _ _ v u Q I rx ry ⟨rfl, ?_⟩
  rw [show decide ((V.int i) = V.int j) = decide (i = j) from by by_cases e : i = j <;> simp [e]]
  exact q
theorem oI_ne : OpR X (compareOp .NotEq) (rI0 fun i j => .bl (!decide (i = j))) := by
  intro pins s σ H x y v u Q I rx ry h
  obtain ⟨i, j, rfl, rfl, q⟩ := h
  refine op_ne pins s σ H _ _ v u Q I rx ry ⟨rfl, ?_⟩
  rw [show decide ((V.int i) = V.int j) = decide (i = j) from by by_cases e : i = j <;> simp [e]]
  exact q
def rS0 (g : Str → Str → V) : R2 := fun x y H Q => ∃ i j, x = .str i ∧ y = .str j ∧ Q (g i j) H
theorem oS_eq : OpR X (compareOp .Eq) (rS0 fun i j => .bl (decide (i = j))) := by
  intro pins s σ H x y v u Q I rx ry h
  obtain ⟨i, j, rfl, rfl, q⟩ := h
  refine op_eq pins s σ H _ _ v u Q I rx ry ⟨rfl, ?_⟩
  rw [show decide ((V.str i) = V.str j) = decide (i = j) from by by_cases e : i = j <;> simp [e]]
  exact q
theorem oS_ne : OpR X (compareOp .NotEq) (rS0 fun i j => .bl (!decide (i = j))) := by
  intro pins s σ H x y v u Q I rx ry h
  obtain ⟨i, j, rfl, rfl, q⟩ := h
  refine op_ne pins s σ H _ _ v u Q I rx ry ⟨rfl, ?_⟩
  rw [show decide ((V.str i) = V.str j) = decide (i = j) from by by_cases e : i = j <;> simp [e]]
  exact q
def rB0 (g : Bool → Bool → V) : R2 := fun x y H Q => ∃ i j, x = .bl i ∧ y = .bl j ∧ Q (g i j) H
theorem oB_eq : OpR X (compareOp .Eq) (rB0 fun i j => .bl (decide (i = j))) := by
  intro pins s σ H x y v u Q I rx ry h
  obtain ⟨i, j, rfl, rfl, q⟩ := h
  refine op_eq pins s σ H _ _ v u Q I rx ry ⟨rfl, ?_⟩
  rw [show decide ((V.bl i) = V.bl j) = decide (i = j) from by by_cases e : i = j <;> simp [e]]
  exact q
theorem oB_ne : OpR X (compareOp .NotEq) (rB0 fun i j => .bl (!decide (i = j))) := by
  intro pins s σ H x y v u Q I rx ry h
  obtain ⟨i, j, rfl, rfl, q⟩ := h
  refine op_ne pins s σ H _ _ v u Q I rx ry ⟨rfl, ?_⟩
  rw [show decide ((V.bl i) = V.bl j) = decide (i = j) from by by_cases e : i = j <;> simp [e]]
  exact q
/-- a word between a test (a value) and what follows it -/
theorem pt_cut {e : Expr} {t : TT} (h : PT X e t) : PT X e (fun σ H Q => ∃ P : Bool → Hp → Prop, t σ H P ∧ ∀ b H', P b H' → Q b H') := by
  refine ⟨fun pins s σ H Q I q => ?_⟩
  obtain ⟨P, h1, h2⟩ := q
  refine wpAny_mono (h.run pins s σ H P I h1) (fun b s' z => ?_) fun _ _ z => z
  obtain ⟨H', I', p⟩ := z
  exact ⟨H', I', h2 _ _ p⟩
theorem pe_cut {e : Expr} {t : TE} (h : PE X e t) : PE X e (fun σ H Q => ∃ P : VK, t σ H P ∧ ∀ v H', P v H' → Q v H') := by
  refine ⟨fun pins s σ H Q I q => ?_⟩
  obtain ⟨P, h1, h2⟩ := q
  refine wpAny_mono (h.run pins s σ H P I h1) (fun b s' z => ?_) fun _ _ z => z
  obtain ⟨v, H', I', r, p⟩ := z
  exact ⟨v, H', I', r, h2 _ _ p⟩
theorem pt_pure {e : Expr} {t : TT} (h : PT X e t) : PT X e (fun σ H Q => ∃ B : Bool, t σ H (fun b H' => b = B ∧ H' = H) ∧ Q B H) := by
  refine ⟨fun pins s σ H Q I q => ?_⟩
  obtain ⟨B, h1, h2⟩ := q
  exact (pt_cut h).run pins s σ H Q I ⟨_, h1, fun b H' z => by rw [z.1, z.2]; exact h2⟩
theorem pe_pure {e : Expr} {t : TE} (h : PE X e t) : PE X e (fun σ H Q => ∃ B : V, t σ H (fun b H' => b = B ∧ H' = H) ∧ Q B H) := by
  refine ⟨fun pins s σ H Q I q => ?_⟩
  obtain ⟨B, h1, h2⟩ := q
  exact (pe_cut h).run pins s σ H Q I ⟨_, h1, fun b H' z => by rw [z.1, z.2]; exact h2⟩
end
theorem rInt_e {F : Hp} {v : V} {x : Int} (h : rInt F v x) : v = .int x := h
theorem rBool_e {F : Hp} {v : V} {x : Bool} (h : rBool F v x) : v = .bl x := h
theorem rStr_e {F : Hp} {v : V} {x : Str} (h : rStr F v x) : v = .str x := h
theorem rNon_e {F : Hp} {v : V} {x : Unit} (h : rNon F v x) : v = .non := h
/-- None or not -/
def rOpt {α : Type} (r : Rp α) : Rp (Option α) := fun F v x => match x with
  | none => v = .non
  | some y => r F v y
instance {α : Type} {r : Rp α} [m : MonoR r] : MonoR (rOpt r) := ⟨fun {F F' v x} e h => by
  cases x with
  | none => exact h
  | some y => exact m.mono (x := y) e h⟩
theorem rOpt_some {α : Type} {r : Rp α} {F : Hp} {v : V} {x : α} (h : r F v x) : rOpt r F v (some x) := h

/-! ### checks of the mirror -/
def mulOk (i j : Int) : Bool := decide (-(2 ^ 64) < i ∧ i < 2 ^ 64) || decide (-(2 ^ 64) < j ∧ j < 2 ^ 64)
theorem mulOk_ok {i j : Int} (h : mulOk i j = true) : CMul i j := by
  unfold mulOk at h
  rw [Bool.or_eq_true] at h
  rcases h with h | h
  · exact .inl (of_decide_eq_true h)
  · exact .inr (of_decide_eq_true h)
def divOk (j : Int) : Bool := decide (0 < j ∧ j < 1073741824)
theorem divOk_fdiv {i j : Int} (h : divOk j = true) : CDiv i j := (of_decide_eq_true h : 0 < j ∧ j < 1073741824)
theorem divOk_mod {j : Int} (h : divOk j = true) : 0 < j := (of_decide_eq_true h).1
def rngOk (j : Int) : Bool := decide (-(2 ^ 62) ≤ j ∧ j < 2 ^ 62)
theorem rngOk_lo {j : Int} (h : rngOk j = true) : -(2 ^ 62) ≤ j := (of_decide_eq_true h).1
theorem rngOk_hi {j : Int} (h : rngOk j = true) : j < 2 ^ 62 := (of_decide_eq_true h).2
def rng2Ok (i j : Int) : Bool := decide (-(2 ^ 62) ≤ i ∧ i < 2 ^ 62 ∧ -(2 ^ 62) ≤ j ∧ j < 2 ^ 62)
theorem rng2Ok_ok {i j : Int} (h : rng2Ok i j = true) : -(2 ^ 62) ≤ i ∧ i < 2 ^ 62 ∧ -(2 ^ 62) ≤ j ∧ j < 2 ^ 62 := of_decide_eq_true h

/-! ### lists -/
section
variable {α : Type} {r : V → α → Prop}
theorem LR.isEmpty {vs : List V} {xs : List α} (h : LR r vs xs) : vs.isEmpty = xs.isEmpty := by
  have e := h.length
  cases vs <;> cases xs <;> simp_all
theorem LR.atI {vs : List V} {xs : List α} {i : Int} {x : α} (h : LR r vs xs) (e : atI xs i = some x) : ∃ v, L2.atI vs i = some v ∧ r v x := by
  unfold L2.atI at e ⊢
  rw [h.length]
  cases q : ixN xs.length i with
  | none => rw [q] at e; cases e
  | some j =>
    rw [q] at e
    exact h.get e
theorem LR.dropEnd {vs : List V} {xs : List α} (h : LR r vs xs) : xs.drop vs.length = [] := by rw [h.length, List.drop_length]
end
theorem drop_cons {α : Type} {xs : List α} {i : Nat} {x : α} (h : xs[i]? = some x) : xs.drop i = x :: xs.drop (i + 1) := by
  obtain ⟨l, e⟩ := List.getElem?_eq_some_iff.mp h
  rw [← e]
  exact List.drop_eq_getElem_cons l
def pyRange (lo : Int) (n : Nat) : List Int := (List.range n).map fun (i : Nat) => lo + (i : Int)
theorem pyRange_get {lo : Int} {n i : Nat} (h : i < n) : (pyRange lo n)[i]? = some (lo + (i : Int)) := by
  unfold pyRange
  rw [List.getElem?_map, List.getElem?_range h]
  rfl
theorem pyRange_len {lo : Int} {n : Nat} : (pyRange lo n).length = n := by simp [pyRange]
theorem drop_rng {lo : Int} {n : Nat} : (pyRange lo n).drop n = [] := List.drop_eq_nil_of_le (Nat.le_of_eq pyRange_len)
theorem for_rng {lo : Int} {n : Nat} {g : TG} {tb : TS} {D : Ends} {σ : L2.St} {H : Hp} (Pv : Nat → L2.St → Hp → Prop) (h0 : Pv 0 σ H)
    (hs : ∀ i x σ H, (pyRange lo n)[i]? = some x → Pv i σ H → g (.int x) σ H fun σ2 H2 => tb { D with nx := Pv (i + 1), ct := Pv (i + 1), bk := D.nx } σ2 H2) (hd : ∀ σ H, Pv n σ H → D.nx σ H) :
    ∃ W : Nat → Nat → L2.St → Hp → Prop, (∃ m, W 0 m σ H) ∧ ∀ i m σ H, W i m σ H →
      ((Itr lo n).stop i H ∧ D.nx σ H) ∨ ((Itr lo n).go i H ∧ ∃ N : L2.St → Hp → Prop, (∀ σ' H', N σ' H' → ∃ m', m' < m ∧ W (i + 1) m' σ' H') ∧ ∀ x H', (Itr lo n).yld i H x H' → g x σ H' fun σ2 H2 => tb { D with nx := N, ct := N, bk := D.nx } σ2 H2) :=
  for_range Pv h0 (fun i σ H hi p => hs i _ σ H (pyRange_get hi) p) hd
/-- while, the mirror's fuel its measure -/
theorem while_fuel {c : TT} {tb : TS} {D : Ends} {σ : L2.St} {H : Hp} (Pv : Nat → L2.St → Hp → Prop) (n : Nat) (h0 : Pv n σ H)
    (hs : ∀ m σ H, Pv (m + 1) σ H → c σ H fun b H1 => if b = true then ∃ N : L2.St → Hp → Prop, (∀ σ' H', N σ' H' → ∃ m', m' < m + 1 ∧ Pv m' σ' H') ∧ tb { D with nx := N, ct := N, bk := D.nx } σ H1 else D.nx σ H1)
    (hz : ∀ σ H, Pv 0 σ H → False) : tWhile c tb D σ H := by
  refine ⟨Pv, ⟨n, h0⟩, fun m => ?_⟩
  cases m with
  | zero => exact fun σ H p => (hz σ H p).elim
  | succ m => exact hs m
theorem wh_in {Pv : Nat → L2.St → Hp → Prop} {m : Nat} {tb : TS} {D : Ends} {σ : L2.St} {H : Hp} (h : tb { D with nx := Pv m, ct := Pv m, bk := D.nx } σ H) :
    ∃ N : L2.St → Hp → Prop, (∀ σ' H', N σ' H' → ∃ m', m' < m + 1 ∧ Pv m' σ' H') ∧ tb { D with nx := N, ct := N, bk := D.nx } σ H :=
  ⟨Pv m, fun _ _ p => ⟨m, Nat.lt_succ_self m, p⟩, h⟩

/-! ### dicts: by pairs in order -/
section
variable {κ ν α : Type}
def KR (f : κ → ν) (r : V → α → Prop) : List (ν × V) → List (κ × α) → Prop
  | [], [] => True
  | p :: ps, q :: qs => (p.1 = f q.1 ∧ r p.2 q.2) ∧ KR f r ps qs
  | _, _ => False
def mget [DecidableEq κ] (xs : List (κ × α)) (k : κ) : Option α := (xs.find? fun p => decide (p.1 = k)).map (·.2)
def mput [DecidableEq κ] (xs : List (κ × α)) (k : κ) (x : α) : List (κ × α) :=
  if (xs.any fun p => decide (p.1 = k)) = true then xs.map (fun p => if p.1 = k then (p.1, x) else p) else xs ++ [(k, x)]
theorem kinj_K : ∀ a b : List Key, id a = id b → a = b := fun _ _ h => h
theorem kinj_int : ∀ a b : Int, (Sum.inl a : Key) = Sum.inl b → a = b := fun _ _ h => Sum.inl.inj h
theorem kinj_str : ∀ a b : Str, (Sum.inr a : Key) = Sum.inr b → a = b := fun _ _ h => Sum.inr.inj h
variable {f : κ → ν} {r : V → α → Prop}
theorem KR.length : ∀ {ps : List (ν × V)} {qs : List (κ × α)}, KR f r ps qs → ps.length = qs.length
  | [], [], _ => rfl
  | _ :: _, _ :: _, h => congrArg (· + 1) (KR.length h.2)
  | [], _ :: _, h => h.elim
  | _ :: _, [], h => h.elim
theorem KR.imp {s : V → α → Prop} (g : ∀ v x, r v x → s v x) : ∀ {ps : List (ν × V)} {qs : List (κ × α)}, KR f r ps qs → KR f s ps qs
  | [], [], _ => trivial
  | _ :: _, _ :: _, h => ⟨⟨h.1.1, g _ _ h.1.2⟩, KR.imp g h.2⟩
  | [], _ :: _, h => h.elim
  | _ :: _, [], h => h.elim
theorem KR.append : ∀ {ps ps' : List (ν × V)} {qs qs' : List (κ × α)}, KR f r ps qs → KR f r ps' qs' → KR f r (ps ++ ps') (qs ++ qs')
  | [], _, [], _, _, h => h
  | _ :: _, _, _ :: _, _, g, h => ⟨g.1, KR.append g.2 h⟩
  | [], _, _ :: _, _, g, _ => g.elim
  | _ :: _, _, [], _, g, _ => g.elim
variable [DecidableEq κ] [DecidableEq ν]
theorem KR.find (inj : ∀ a b, f a = f b → a = b) (k : κ) : ∀ {ps : List (ν × V)} {qs : List (κ × α)}, KR f r ps qs →
    (mget qs k = none ∧ valV ps (f k) = none) ∨ ∃ x v, mget qs k = some x ∧ valV ps (f k) = some v ∧ r v x
  | [], [], _ => .inl ⟨rfl, rfl⟩
  | p :: ps, q :: qs, h => by
    by_cases e : q.1 = k
    · refine .inr ⟨q.2, p.2, ?_, ?_, h.1.2⟩
      · simp [mget, List.find?_cons, e]
      · exact valV_pos (by rw [h.1.1, e])
    · have e2 : ¬ p.1 = f k := fun z => e (inj _ _ (h.1.1.symm.trans z))
      have e3 : mget (q :: qs) k = mget qs k := by simp [mget, List.find?_cons, e]
      rw [e3, valV_neg e2]
      exact KR.find inj k h.2
  | [], _ :: _, h => h.elim
  | _ :: _, [], h => h.elim
theorem KR.get {ps : List (ν × V)} {qs : List (κ × α)} {k : κ} {x : α} (h : KR f r ps qs) (inj : ∀ a b, f a = f b → a = b) (e : mget qs k = some x) : ∃ v, valV ps (f k) = some v ∧ r v x := by
  rcases h.find inj k with ⟨q, _⟩ | ⟨y, v, q, q2, q3⟩
  · rw [q] at e; cases e
  · rw [q] at e; cases e; exact ⟨v, q2, q3⟩
theorem KR.some_eq {ps : List (ν × V)} {qs : List (κ × α)} (h : KR f r ps qs) (inj : ∀ a b, f a = f b → a = b) (k : κ) : (valV ps (f k)).isSome = (mget qs k).isSome := by
  rcases h.find inj k with ⟨q, q2⟩ | ⟨y, v, q, q2, q3⟩
  · rw [q, q2]; rfl
  · rw [q, q2]; rfl
theorem KR.any (inj : ∀ a b, f a = f b → a = b) (k : κ) : ∀ {ps : List (ν × V)} {qs : List (κ × α)}, KR f r ps qs → (ps.any fun p => decide (p.1 = f k)) = (qs.any fun p => decide (p.1 = k))
  | [], [], _ => rfl
  | p :: ps, q :: qs, h => by
    have e : decide (p.1 = f k) = decide (q.1 = k) := by
      by_cases e : q.1 = k
      · rw [decide_eq_true e, decide_eq_true (by rw [h.1.1, e])]
      · rw [decide_eq_false e, decide_eq_false fun z => e (inj _ _ (h.1.1.symm.trans z))]
    simp only [List.any_cons, e, KR.any inj k h.2]
  | [], _ :: _, h => h.elim
  | _ :: _, [], h => h.elim
theorem KR.map (inj : ∀ a b, f a = f b → a = b) (k : κ) {v : V} {x : α} (g : r v x) : ∀ {ps : List (ν × V)} {qs : List (κ × α)}, KR f r ps qs →
    KR f r (ps.map fun kv => if kv.1 = f k then (kv.1, v) else kv) (qs.map fun p => if p.1 = k then (p.1, x) else p)
  | [], [], _ => trivial
  | p :: ps, q :: qs, h => by
    refine ⟨?_, KR.map inj k g h.2⟩
    dsimp only
    by_cases e : q.1 = k
    · rw [if_pos e, if_pos (show p.1 = f k by rw [h.1.1, e])]
      exact ⟨h.1.1, g⟩
    · rw [if_neg e, if_neg (show ¬ p.1 = f k from fun z => e (inj _ _ (h.1.1.symm.trans z)))]
      exact h.1
  | [], _ :: _, h => h.elim
  | _ :: _, [], h => h.elim
theorem KR.put {ps : List (ν × V)} {qs : List (κ × α)} {k : κ} {v : V} {x : α} (h : KR f r ps qs) (inj : ∀ a b, f a = f b → a = b) (g : r v x) : KR f r (putK ps (f k) v) (mput qs k x) := by
  unfold putK mput
  rw [h.any inj k]
  by_cases c : (qs.any fun p => decide (p.1 = k)) = true
  · rw [if_pos c, if_pos c]
    exact h.map inj k g
  · rw [if_neg c, if_neg c]
    exact h.append ⟨⟨rfl, g⟩, trivial⟩
end
theorem KR.mono {κ ν α : Type} {f : κ → ν} {r : Rp α} [m : MonoR r] {F F' : Hp} {ps : List (ν × V)} {qs : List (κ × α)} (h : KR f (r F) ps qs) (e : Same F F') : KR f (r F') ps qs := h.imp fun _ _ q => m.mono e q
theorem dget_of {H : Hp} {a : Addr} {y : V} {o o' : Option V} (h : DGet H a y o) (e : o = o') : DGet H a y o' := e ▸ h

/-! ### data of any depth, for == -/
class DOk (α : Type) where
  ok : α → Bool
instance : DOk Int := ⟨fun _ => true⟩
instance : DOk Bool := ⟨fun _ => true⟩
instance : DOk Unit := ⟨fun _ => true⟩
instance : DOk Str := ⟨fun x => PyData.strOk x⟩
instance : DOk Key := ⟨fun x => match x with | .inl _ => true | .inr y => PyData.strOk y⟩
instance {α : Type} [DOk α] : DOk (List α) := ⟨fun xs => xs.all DOk.ok⟩
instance {α β : Type} [DOk α] [DOk β] : DOk (α × β) := ⟨fun p => DOk.ok p.1 && DOk.ok p.2⟩
class DPl (α : Type) [DOk α] : Prop where
  pl : ∀ x : α, DOk.ok x = true
instance : DPl Int := ⟨fun _ => rfl⟩
instance : DPl Bool := ⟨fun _ => rfl⟩
instance {α : Type} [DOk α] [DPl α] : DPl (List α) := ⟨fun xs => List.all_eq_true.mpr fun x _ => DPl.pl x⟩
instance {α β : Type} [DOk α] [DOk β] [DPl α] [DPl β] : DPl (α × β) := ⟨fun p => Bool.and_eq_true_iff.mpr ⟨DPl.pl p.1, DPl.pl p.2⟩⟩
class DatR {α : Type} [DecidableEq α] [DOk α] (K : PySem.W.Frag) (r : Rp α) where
  d : α → PyData
  dp : ∀ {H : Hp} {v : V} {x : α}, r H v x → Dp K H v (d x)
  eqv : ∀ x y : α, PyData.eqv (d x) (d y) = decide (x = y)
  shp : ∀ x : α, DOk.ok x = true → (d x).canLay0 = true
  n : Nat
  dep : ∀ x : α, (d x).depth ≤ n
instance {K : PySem.W.Frag} : DatR K rInt := ⟨fun i => .int i, fun {H v x} h => by rw [rInt_e h]; exact .int x, fun x y => by simp [PyData.eqv, BEq.beq], fun _ _ => rfl, 1, fun _ => by simp [PyData.depth]⟩
instance {K : PySem.W.Frag} : DatR K rBool := ⟨fun i => .bool i, fun {H v x} h => by rw [rBool_e h]; exact .bl x, fun x y => by cases x <;> cases y <;> rfl, fun _ _ => rfl, 1, fun _ => by simp [PyData.depth]⟩
instance {K : PySem.W.Frag} : DatR K rStr := ⟨fun i => .str i, fun {H v x} h => by rw [rStr_e h]; exact .str x, fun x y => by
  by_cases e : x = y
  · subst e; simp [PyData.eqv]
  · simp [PyData.eqv, e], fun x h => by simp only [PyData.canLay0]; exact h, 1, fun _ => by simp [PyData.depth]⟩
section
variable {α : Type} [DecidableEq α] [DOk α] {K : PySem.W.Frag} {r : Rp α}
theorem dpAll [D : DatR K r] {H : Hp} : ∀ {vs : List V} {xs : List α}, LR (r H) vs xs → DpAll K H vs (xs.map D.d)
  | [], [], _ => .nil
  | _ :: _, _ :: _, h => .cons (D.dp h.1) (dpAll h.2)
  | [], _ :: _, h => h.elim
  | _ :: _, [], h => h.elim
theorem eqvAll [D : DatR K r] : ∀ xs ys : List α, PyData.eqvAll (xs.map D.d) (ys.map D.d) = decide (xs = ys)
  | [], [] => rfl
  | [], _ :: _ => rfl
  | _ :: _, [] => rfl
  | x :: xs, y :: ys => by
    show (PyData.eqv (D.d x) (D.d y) && PyData.eqvAll (xs.map D.d) (ys.map D.d)) = _
    rw [D.eqv, eqvAll xs ys]
    by_cases e : x = y <;> by_cases e2 : xs = ys <;> simp [e, e2]
theorem shpAll [D : DatR K r] : ∀ xs : List α, DOk.ok xs = true → PyData.canLayAll0 (xs.map D.d) = true
  | [], _ => rfl
  | x :: xs, h => by
    have h' := Bool.and_eq_true_iff.mp (show (DOk.ok x && xs.all DOk.ok) = true from h)
    show (PyData.canLay0 (D.d x) && PyData.canLayAll0 (xs.map D.d)) = true
    rw [D.shp x h'.1, shpAll xs h'.2]
    rfl
theorem depAll [D : DatR K r] : ∀ xs : List α, PyData.depthAll (xs.map D.d) ≤ D.n
  | [] => by simp [PyData.depthAll]
  | x :: xs => by
    have h1 := D.dep x
    have h2 := depAll xs
    simp only [List.map_cons, PyData.depthAll]
    omega
instance [D : DatR K r] : DatR K (rLst K r) := ⟨fun xs => .list (xs.map D.d), fun {H v x} ⟨a, vs, h1, h2, h3⟩ => by rw [h1]; exact .lst h2 (dpAll h3), fun x y => eqvAll x y, fun x h => shpAll x h, D.n + 1, fun x => by
  have := depAll (D := D) x
  simp only [PyData.depth]
  omega⟩
instance [D : DatR K r] : DatR K (rVT K r) := ⟨fun xs => .tuple (xs.map D.d), fun {H v x} ⟨a, vs, h1, h2, h3⟩ => by rw [h1]; exact .tup h2 (dpAll h3), fun x y => eqvAll x y, fun x h => shpAll x h, D.n + 1, fun x => by
  have := depAll (D := D) x
  simp only [PyData.depth]
  omega⟩
theorem dat_shaped [D : DatR K r] (hn : D.n ≤ 64) (x : α) (h : DOk.ok x = true) : SeqAt.shaped (D.d x) = true :=
  Bool.and_eq_true_iff.mpr ⟨D.shp x h, decide_eq_true (Nat.le_trans (D.dep x) hn)⟩
theorem dat_dp [D : DatR K r] {H : Hp} {v : V} {x : α} (h : r H v x) : Dp K H v (D.d x) := D.dp h
theorem dat_eqv [D : DatR K r] (x y : α) : PyData.eqv (D.d x) (D.d y) = decide (x = y) := D.eqv x y
end
instance {K : PySem.W.Frag} : DatR K rKT := ⟨fun ks => .tuple (ks.map fun k => match k with | .inl i => .int i | .inr x => .str x),
  fun {H v x} ⟨a, h1, h2⟩ => by
    rw [h1]
    refine .tup (xs := x.map kV) (.inl (.inl h2)) ?_
    have q : ∀ ks : List Key, DpAll K H (ks.map kV) (ks.map fun k => match k with | .inl i => .int i | .inr x => .str x) := by
      intro ks
      induction ks with
      | nil => exact .nil
      | cons k t ih => cases k with
        | inl i => exact .cons (.int i) ih
        | inr y => exact .cons (.str y) ih
    exact q x,
  fun x y => by
    show PyData.eqvAll _ _ = _
    induction x generalizing y with
    | nil => cases y <;> rfl
    | cons k t ih =>
      cases y with
      | nil => rfl
      | cons l u =>
        show (PyData.eqv _ _ && PyData.eqvAll _ _) = _
        rw [ih u]
        cases k <;> cases l
        · rename_i a b; by_cases e : a = b <;> by_cases e2 : t = u <;> simp [PyData.eqv, e, e2]
        · simp [PyData.eqv]
        · simp [PyData.eqv]
        · rename_i a b; by_cases e : a = b <;> by_cases e2 : t = u <;> simp [PyData.eqv, e, e2],
  fun x h => by
    show PyData.canLayAll0 _ = true
    induction x with
    | nil => rfl
    | cons k t ih =>
      have h' := Bool.and_eq_true_iff.mp (show (DOk.ok k && t.all DOk.ok) = true from h)
      show (PyData.canLay0 _ && PyData.canLayAll0 _) = true
      rw [ih h'.2]
      cases k with
      | inl i => rfl
      | inr y =>
        simp only [PyData.canLay0, Bool.and_true]
        exact h'.1,
  2, fun x => by
    have : ∀ ks : List Key, PyData.depthAll (ks.map fun k => match k with | .inl i => .int i | .inr x => .str x) ≤ 1 := by
      intro ks
      induction ks with
      | nil => simp [PyData.depthAll]
      | cons k t ih => cases k <;> simp [PyData.depthAll, PyData.depth] <;> exact ih
    have := this x
    simp only [PyData.depth]
    omega⟩
theorem tyx_list {K : PySem.W.Frag} {H : Hp} {a : Addr} {xs : List V} (h : SqL K H a xs) : TyX K H (.ref a) (.type "list") := by
  rcases h with (h | ⟨o, h⟩) | ⟨o, _, _, h1, h2, _⟩
  · exact .base (.lst h)
  · exact .base (.frz h)
  · exact .kList h1 h2
theorem tyx_tup {K : PySem.W.Frag} {H : Hp} {a : Addr} {xs : List V} (h : SqT K H a xs) : TyX K H (.ref a) (.type "tuple") := by
  rcases h with (h | ⟨o, h⟩) | ⟨o, _, _, h1, h2, _⟩
  · exact .base (.tup h)
  · exact .fTuple h
  · exact .kTuple h1 h2
/-! ### fields -/
theorem fewl {fs : List (Str × V)} {f : Str} {v : V} {n : Nat} (h : fs.length ≤ n) : (putF f v fs).length ≤ n + 1 := by
  have q : ∀ fs : List (Str × V), (putF f v fs).length ≤ fs.length + 1 := by
    intro fs
    induction fs with
    | nil => exact Nat.le_refl _
    | cons p t ih =>
      show (if p.1 = f then (p.1, v) :: t else p :: putF f v t).length ≤ _
      by_cases e : p.1 = f
      · rw [if_pos e]; exact Nat.le_succ _
      · rw [if_neg e]; exact Nat.succ_le_succ ih
  exact Nat.le_trans (q fs) (Nat.succ_le_succ h)
/-! ### the law's start -/
theorem lr_ints {F : Hp} : ∀ ns : List Int, LR (rInt F) (ns.map V.int) ns
  | [] => trivial
  | _ :: ns => ⟨rfl, lr_ints ns⟩
theorem sta0 (H : Hp) : Sta H ([] ++ ([] : Own)) H := ⟨Same.refl H, (fun _ _ m => nomatch m), List.nodup_nil⟩
end G

namespace G
open PySem PySem.Spec PyProof.Rows L2

structure M_Gates where
  rows : (List (List Key))
  known : (List ((List Key) × Int))

def m_law_seed_l1 : List Int → Int → Option Int
  | [], st1 => some st1
  | x20 :: t, st1 =>
    m_law_seed_l1 t ((((st1 * (69621 : Int)) + (x20 % (2147483647 : Int))) + (7 : Int)) % (2147483647 : Int))
def m_law_seed (x_script0 : (List Int)) : Option Int :=
  (m_law_seed_l1 x_script0 (1 : Int)).bind fun st1 =>
  some st1

def m_Gates_init  : M_Gates :=
  (M_Gates.mk ([([Sum.inr ("no" : Str)] : List Key)] : (List (List Key))) ([] : (List ((List Key) × Int))))

def m_law_same_rows_l1 (x_actual0 : (List (List Key))) (x_rows0 : (List (List Key))) : List Int → Unit → Option (Flw Unit Bool)
  | [], st1 => some (.done st1)
  | x22 :: t, st1 =>
    ((atI x_actual0 x22).bind fun y26 =>
      (atI x_actual0 x22).bind fun y33 =>
      (atI x_rows0 x22).bind fun y40 =>
      (grd (DOk.ok y33)).bind fun _ =>
      (grd (DOk.ok y40)).bind fun _ =>
      some (!decide (y33 = y40))).bind fun b24 =>
    if b24 = true then
      (some (.ret false))
    else
      (m_law_same_rows_l1 x_actual0 x_rows0 t ())
def m_law_same_rows (x_actual0 : (List (List Key))) (x_rows0 : (List (List Key))) : Option Bool :=
  if (!decide ((x_actual0.length : Int) = (x_rows0.length : Int))) = true then
    (some false)
  else
    ((grd (rngOk (x_rows0.length : Int))).bind fun _ =>
    (m_law_same_rows_l1 x_actual0 x_rows0 (pyRange 0 (x_rows0.length : Int).toNat) ()).bind fun y2 =>
    match y2 with
    | .ret r => some r
    | .done st1 =>
    some true)

def m_law_row_l1 (x_rows0 : (List (List Key))) (x_row0 : (List Key)) : List Int → Unit → Option (Flw Unit (Int × (List (List Key))))
  | [], st1 => some (.done st1)
  | x21 :: t, st1 =>
    (atI x_rows0 x21).bind fun y23 =>
    (grd (DOk.ok y23)).bind fun _ =>
    (grd (DOk.ok x_row0)).bind fun _ =>
    if (decide (y23 = x_row0)) = true then
      (some (.ret (((2 : Int) * x21), x_rows0)))
    else
      (m_law_row_l1 x_rows0 x_row0 t ())
def m_law_row (x_rows0 : (List (List Key))) (x_row0 : (List Key)) : Option (Int × (List (List Key))) :=
  (grd (rngOk (x_rows0.length : Int))).bind fun _ =>
  (m_law_row_l1 x_rows0 x_row0 (pyRange 0 (x_rows0.length : Int).toNat) ()).bind fun y1 =>
  match y1 with
  | .ret r => some r
  | .done st1 =>
  (grd (decide (x_rows0.length < 16777216))).bind fun _ =>
  some ((((2 : Int) * ((x_rows0 ++ [x_row0]).length : Int)) - (2 : Int)), (x_rows0 ++ [x_row0]))

def m_law_is_edge (x_actual0 : Int) (x_due0 : Int) : Bool :=
  (decide (x_actual0 = x_due0))

def m_Gates_edge_of (x_self0 : M_Gates) (x_row0 : (List Key)) : Option (Int × M_Gates) :=
  (if (!(mget x_self0.known x_row0).isSome) = true then
      ((grd (decide (x_self0.known.length < 16777216))).bind fun _ =>
      (grd (decide (x_self0.rows.length < 16777216))).bind fun _ =>
      some (M_Gates.mk (x_self0.rows ++ [x_row0]) (mput x_self0.known x_row0 ((2 : Int) * (x_self0.rows.length : Int)))))
    else
      (some (M_Gates.mk x_self0.rows x_self0.known))).bind fun y10 =>
  (mget y10.known x_row0).bind fun y19 =>
  some (y19, (M_Gates.mk y10.rows y10.known))

def m_Gates_leaf (x_self0 : M_Gates) (x_letter0 : Int) : Option (Int × M_Gates) :=
  (m_Gates_edge_of (M_Gates.mk x_self0.rows x_self0.known) ([Sum.inr ("letter" : Str), Sum.inl x_letter0] : List Key)).bind fun y7 =>
  some (y7.1, (M_Gates.mk y7.2.rows y7.2.known))

def m_law_take (x_script0 : (List Int)) (x_source0 : (List Int)) (x_size0 : Int) : Option (Int × (List Int)) :=
  (((atI x_source0 (0 : Int)).bind fun y10 =>
      if (decide (y10 = (0 : Int))) = true then ((atI x_source0 (1 : Int)).bind fun y16 =>
      some (decide (y16 < (x_script0.length : Int)))) else (some false)).bind fun b8 =>
    if b8 = true then
      ((atI x_source0 (1 : Int)).bind fun y22 =>
      (atI x_script0 y22).bind fun y27 =>
      (ixN x_source0.length (0 : Int)).bind fun j32 =>
      (atI (x_source0.set j32 (if y27 < 0 then -y27 else y27)) (1 : Int)).bind fun y36 =>
      (ixN (x_source0.set j32 (if y27 < 0 then -y27 else y27)).length (1 : Int)).bind fun j41 =>
      some ((x_source0.set j32 (if y27 < 0 then -y27 else y27)).set j41 (y36 + (1 : Int))))
    else
      (some x_source0)).bind fun y6 =>
  (atI y6 (0 : Int)).bind fun y45 =>
  if (decide (y45 > (0 : Int))) = true then
    ((atI y6 (0 : Int)).bind fun y51 =>
    (grd (divOk x_size0)).bind fun _ =>
    (atI y6 (0 : Int)).bind fun y57 =>
    (grd (divOk x_size0)).bind fun _ =>
    (ixN y6.length (0 : Int)).bind fun j63 =>
    some ((y51 % x_size0), (y6.set j63 (y57 / x_size0))))
  else
    ((atI y6 (2 : Int)).bind fun y67 =>
    (ixN y6.length (2 : Int)).bind fun j72 =>
    (atI (y6.set j72 (((y67 * (48271 : Int)) + (12345 : Int)) % (2147483647 : Int))) (2 : Int)).bind fun y76 =>
    (grd (divOk x_size0)).bind fun _ =>
    some (((y76 / (1009 : Int)) % x_size0), (y6.set j72 (((y67 * (48271 : Int)) + (12345 : Int)) % (2147483647 : Int)))))

def m_law_letter (x_script0 : (List Int)) (x_source0 : (List Int)) : Option (Int × (List Int)) :=
  (m_law_take x_script0 x_source0 (8 : Int)).bind fun y1 =>
  if (decide (y1.1 = (7 : Int))) = true then
    ((m_law_take x_script0 y1.2 (3 : Int)).bind fun y11 =>
    some (((999999 : Int) - y11.1), y11.2))
  else
    ((m_law_take x_script0 y1.2 (6 : Int)).bind fun y20 =>
    some (((1 : Int) + y20.1), y20.2))

def m_law_edge (x_script0 : (List Int)) (x_source0 : (List Int)) (x_edges0 : (List Int)) : Option (Int × (List Int)) :=
  (m_law_take x_script0 x_source0 (x_edges0.length : Int)).bind fun y1 =>
  (atI x_edges0 y1.1).bind fun y10 =>
  some (y10, y1.2)

def m_opposite (x_edge0 : Int) : Int :=
  (Builtin.bitXor x_edge0 (1 : Int))

def m_Gates_both (x_self0 : M_Gates) (x_a0 : Int) (x_b0 : Int) : Option (Int × M_Gates) :=
  if ((decide ((if x_b0 < x_a0 then x_b0 else x_a0) = (0 : Int))) || (decide ((if x_b0 < x_a0 then x_b0 else x_a0) = (m_opposite (if x_b0 > x_a0 then x_b0 else x_a0))))) = true then
    (some ((0 : Int), (M_Gates.mk x_self0.rows x_self0.known)))
  else
    (if ((decide ((if x_b0 < x_a0 then x_b0 else x_a0) = (1 : Int))) || (decide ((if x_b0 < x_a0 then x_b0 else x_a0) = (if x_b0 > x_a0 then x_b0 else x_a0)))) = true then
      (some ((if x_b0 > x_a0 then x_b0 else x_a0), (M_Gates.mk x_self0.rows x_self0.known)))
    else
      ((m_Gates_edge_of (M_Gates.mk x_self0.rows x_self0.known) ([Sum.inr ("both" : Str), Sum.inl (if x_b0 < x_a0 then x_b0 else x_a0), Sum.inl (if x_b0 > x_a0 then x_b0 else x_a0)] : List Key)).bind fun y11 =>
      some (y11.1, (M_Gates.mk y11.2.rows y11.2.known))))

def m_Gates_every_l1 : List Int → (Int × M_Gates) → Option (Int × M_Gates)
  | [], st1 => some st1
  | x38 :: t, st1 =>
    (m_Gates_both (M_Gates.mk st1.2.rows st1.2.known) st1.1 x38).bind fun y42 =>
    m_Gates_every_l1 t (y42.1, (M_Gates.mk y42.2.rows y42.2.known))
def m_Gates_every (x_self0 : M_Gates) (x_edges0 : (List Int)) : Option (Int × M_Gates) :=
  (m_Gates_every_l1 x_edges0 ((1 : Int), (M_Gates.mk x_self0.rows x_self0.known))).bind fun st1 =>
  some (st1.1, (M_Gates.mk st1.2.rows st1.2.known))

def m_Gates_either (x_self0 : M_Gates) (x_a0 : Int) (x_b0 : Int) : Option (Int × M_Gates) :=
  (m_Gates_both (M_Gates.mk x_self0.rows x_self0.known) (m_opposite x_a0) (m_opposite x_b0)).bind fun y1 =>
  some ((m_opposite y1.1), (M_Gates.mk y1.2.rows y1.2.known))

def m_Gates_one_of_l1 : List Int → (Int × M_Gates) → Option (Int × M_Gates)
  | [], st1 => some st1
  | x38 :: t, st1 =>
    (m_Gates_either (M_Gates.mk st1.2.rows st1.2.known) st1.1 x38).bind fun y42 =>
    m_Gates_one_of_l1 t (y42.1, (M_Gates.mk y42.2.rows y42.2.known))
def m_Gates_one_of (x_self0 : M_Gates) (x_edges0 : (List Int)) : Option (Int × M_Gates) :=
  (m_Gates_one_of_l1 x_edges0 ((0 : Int), (M_Gates.mk x_self0.rows x_self0.known))).bind fun st1 =>
  some (st1.1, (M_Gates.mk st1.2.rows st1.2.known))

def m_law_opposite (x_edge0 : Int) : Int :=
  if (decide ((x_edge0 % (2 : Int)) = (0 : Int))) = true then
    ((x_edge0 + (1 : Int)))
  else
    ((x_edge0 - (1 : Int)))

def m_law_both (x_rows0 : (List (List Key))) (x_a0 : Int) (x_b0 : Int) : Option (Int × (List (List Key))) :=
  if ((decide (x_a0 = (0 : Int))) || ((decide (x_b0 = (0 : Int))) || (decide (x_a0 = (m_law_opposite x_b0))))) = true then
    (some ((0 : Int), x_rows0))
  else
    (if (decide (x_a0 = (1 : Int))) = true then
      (some (x_b0, x_rows0))
    else
      (if ((decide (x_b0 = (1 : Int))) || (decide (x_a0 = x_b0))) = true then
        (some (x_a0, x_rows0))
      else
        ((m_law_row x_rows0 ([Sum.inr ("both" : Str), Sum.inl (if x_b0 < x_a0 then x_b0 else x_a0), Sum.inl (if x_b0 > x_a0 then x_b0 else x_a0)] : List Key)).bind fun y13 =>
        some (y13.1, y13.2))))

def m_law_either (x_rows0 : (List (List Key))) (x_a0 : Int) (x_b0 : Int) : Option (Int × (List (List Key))) :=
  (m_law_both x_rows0 (m_law_opposite x_a0) (m_law_opposite x_b0)).bind fun y1 =>
  some ((m_law_opposite y1.1), y1.2)

def m_law_folded_l1 (x_kind0 : Int) : List Int → (Int × (List (List Key))) → Option (Int × (List (List Key)))
  | [], st1 => some st1
  | x32 :: t, st1 =>
    if (decide (x_kind0 = (6 : Int))) = true then
      ((m_law_both st1.2 st1.1 x32).bind fun y37 =>
      m_law_folded_l1 x_kind0 t (y37.1, y37.2))
    else
      ((m_law_either st1.2 st1.1 x32).bind fun y46 =>
      m_law_folded_l1 x_kind0 t (y46.1, y46.2))
def m_law_folded (x_rows0 : (List (List Key))) (x_kind0 : Int) (x_given0 : (List Int)) : Option (Int × (List (List Key))) :=
  (if (decide (x_kind0 = (6 : Int))) = true then
      (some (1 : Int))
    else
      (some (0 : Int))).bind fun y4 =>
  (m_law_folded_l1 x_kind0 x_given0 (y4, x_rows0)).bind fun st1 =>
  some (st1.1, st1.2)

def m_law_differ (x_rows0 : (List (List Key))) (x_a0 : Int) (x_b0 : Int) : Option (Int × (List (List Key))) :=
  (m_law_both x_rows0 x_a0 (m_law_opposite x_b0)).bind fun y1 =>
  (m_law_both y1.2 (m_law_opposite x_a0) x_b0).bind fun y10 =>
  (m_law_either y10.2 y1.1 y10.1).bind fun y19 =>
  some (y19.1, y19.2)

def m_Gates_differ (x_self0 : M_Gates) (x_a0 : Int) (x_b0 : Int) : Option (Int × M_Gates) :=
  (m_Gates_both (M_Gates.mk x_self0.rows x_self0.known) x_a0 (m_opposite x_b0)).bind fun y1 =>
  (m_Gates_both (M_Gates.mk y1.2.rows y1.2.known) (m_opposite x_a0) x_b0).bind fun y14 =>
  (m_Gates_either (M_Gates.mk y14.2.rows y14.2.known) y1.1 y14.1).bind fun y27 =>
  some (y27.1, (M_Gates.mk y27.2.rows y27.2.known))

def m_law_choose (x_rows0 : (List (List Key))) (x_test0 : Int) (x_a0 : Int) (x_b0 : Int) : Option (Int × (List (List Key))) :=
  if (decide (x_a0 = x_b0)) = true then
    (some (x_a0, x_rows0))
  else
    ((m_law_both x_rows0 x_test0 x_a0).bind fun y2 =>
    (m_law_both y2.2 (m_law_opposite x_test0) x_b0).bind fun y11 =>
    (m_law_either y11.2 y2.1 y11.1).bind fun y20 =>
    some (y20.1, y20.2))

def m_Gates_choose (x_self0 : M_Gates) (x_test0 : Int) (x_a0 : Int) (x_b0 : Int) : Option (Int × M_Gates) :=
  if (decide (x_a0 = x_b0)) = true then
    (some (x_a0, (M_Gates.mk x_self0.rows x_self0.known)))
  else
    ((m_Gates_both (M_Gates.mk x_self0.rows x_self0.known) x_test0 x_a0).bind fun y2 =>
    (m_Gates_both (M_Gates.mk y2.2.rows y2.2.known) (m_opposite x_test0) x_b0).bind fun y15 =>
    (m_Gates_either (M_Gates.mk y15.2.rows y15.2.known) y2.1 y15.1).bind fun y28 =>
    some (y28.1, (M_Gates.mk y28.2.rows y28.2.known)))

def m_law_call_l1 (x_script0 : (List Int)) (x_edges0 : (List Int)) : List Int → ((List Int) × (List Int)) → Option ((List Int) × (List Int))
  | [], st1 => some st1
  | x104 :: t, st1 =>
    (m_law_edge x_script0 st1.1 x_edges0).bind fun y106 =>
    (grd (decide (st1.2.length < 16777216))).bind fun _ =>
    m_law_call_l1 x_script0 x_edges0 t (y106.2, (st1.2 ++ [y106.1]))
def m_law_call (x_script0 : (List Int)) (x_source0 : (List Int)) (x_gates0 : M_Gates) (x_rows0 : (List (List Key))) (x_edges0 : (List Int)) : Option ((Int × Int) × (List Int) × M_Gates × (List (List Key))) :=
  (m_law_take x_script0 x_source0 (8 : Int)).bind fun y1 =>
  if (decide (y1.1 < (2 : Int))) = true then
    ((m_law_letter x_script0 y1.2).bind fun y11 =>
    (m_law_row x_rows0 ([Sum.inr ("letter" : Str), Sum.inl y11.1] : List Key)).bind fun y27 =>
    (m_Gates_leaf (M_Gates.mk x_gates0.rows x_gates0.known) y11.1).bind fun y37 =>
    some ((y27.1, y37.1), y11.2, (M_Gates.mk y37.2.rows y37.2.known), y27.2))
  else
    (if (decide (y1.1 > (5 : Int))) = true then
      ((m_law_take x_script0 y1.2 (5 : Int)).bind fun y66 =>
      (grd (rngOk y66.1)).bind fun _ =>
      (m_law_call_l1 x_script0 x_edges0 (pyRange 0 y66.1.toNat) (y66.2, ([] : (List Int)))).bind fun st1 =>
      (if (decide (y1.1 = (6 : Int))) = true then
          ((m_Gates_every (M_Gates.mk x_gates0.rows x_gates0.known) st1.2).bind fun y135 =>
          some (y135.1, (M_Gates.mk y135.2.rows y135.2.known)))
        else
          ((m_Gates_one_of (M_Gates.mk x_gates0.rows x_gates0.known) st1.2).bind fun y150 =>
          some (y150.1, (M_Gates.mk y150.2.rows y150.2.known)))).bind fun y131 =>
      if (!decide (st1.2 = st1.2)) = true then
        (none)
      else
        ((m_law_folded x_rows0 y1.1 st1.2).bind fun y166 =>
        some ((y166.1, y131.1), st1.1, (M_Gates.mk y131.2.rows y131.2.known), y166.2)))
    else
      ((m_law_edge x_script0 y1.2 x_edges0).bind fun y182 =>
      (m_law_edge x_script0 y182.2 x_edges0).bind fun y191 =>
      if (decide (y1.1 = (2 : Int))) = true then
        ((m_law_both x_rows0 y182.1 y191.1).bind fun y202 =>
        (m_Gates_both (M_Gates.mk x_gates0.rows x_gates0.known) y182.1 y191.1).bind fun y212 =>
        some ((y202.1, y212.1), y191.2, (M_Gates.mk y212.2.rows y212.2.known), y202.2))
      else
        (if (decide (y1.1 = (3 : Int))) = true then
          ((m_law_either x_rows0 y182.1 y191.1).bind fun y234 =>
          (m_Gates_either (M_Gates.mk x_gates0.rows x_gates0.known) y182.1 y191.1).bind fun y244 =>
          some ((y234.1, y244.1), y191.2, (M_Gates.mk y244.2.rows y244.2.known), y234.2))
        else
          (if (decide (y1.1 = (4 : Int))) = true then
            ((m_law_differ x_rows0 y182.1 y191.1).bind fun y266 =>
            (m_Gates_differ (M_Gates.mk x_gates0.rows x_gates0.known) y182.1 y191.1).bind fun y276 =>
            some ((y266.1, y276.1), y191.2, (M_Gates.mk y276.2.rows y276.2.known), y266.2))
          else
            ((m_law_edge x_script0 y191.2 x_edges0).bind fun y296 =>
            (m_law_choose x_rows0 y296.1 y182.1 y191.1).bind fun y306 =>
            (m_Gates_choose (M_Gates.mk x_gates0.rows x_gates0.known) y296.1 y182.1 y191.1).bind fun y316 =>
            some ((y306.1, y316.1), y296.2, (M_Gates.mk y316.2.rows y316.2.known), y306.2))))))

def m_law_l1 : List Int → ((List Int) × (List (List Key)) × M_Gates) → Option (Flw ((List Int) × (List (List Key)) × M_Gates) Bool)
  | [], st1 => some (.done st1)
  | x100 :: t, st1 =>
    (m_law_row st1.2.1 ([Sum.inr ("letter" : Str), Sum.inl x100] : List Key)).bind fun y111 =>
    (m_Gates_leaf (M_Gates.mk st1.2.2.rows st1.2.2.known) x100).bind fun y121 =>
    if (!(m_law_is_edge y121.1 y111.1)) = true then
      (none)
    else
      ((grd (decide (st1.1.length < 16777216))).bind fun _ =>
      m_law_l1 t ((st1.1 ++ [y111.1]), y111.2, (M_Gates.mk y121.2.rows y121.2.known)))
def m_law_l2 (x_script0 : (List Int)) : List Int → ((List Int) × (List Int) × (List (List Key)) × M_Gates) → Option (Flw ((List Int) × (List Int) × (List (List Key)) × M_Gates) Bool)
  | [], st2 => some (.done st2)
  | x230 :: t, st2 =>
    (m_law_call x_script0 st2.1 (M_Gates.mk st2.2.2.2.rows st2.2.2.2.known) st2.2.2.1 st2.2.1).bind fun y233 =>
    if ((!(m_law_is_edge y233.1.2 y233.1.1)) || (!(m_law_is_edge (m_opposite y233.1.1) (m_law_opposite y233.1.1)))) = true then
      (none)
    else
      ((grd (decide (st2.2.1.length < 16777216))).bind fun _ =>
      (grd (decide ((st2.2.1 ++ [y233.1.1]).length < 16777216))).bind fun _ =>
      m_law_l2 x_script0 t (y233.2.1, ((st2.2.1 ++ [y233.1.1]) ++ [(m_law_opposite y233.1.1)]), y233.2.2.2, (M_Gates.mk y233.2.2.1.rows y233.2.2.1.known)))
def m_law (x_script0 : (List Int)) : Option Bool :=
  (m_law_seed x_script0).bind fun y1 =>
  (m_law_same_rows ((m_Gates_init).rows) ([([Sum.inr ("no" : Str)] : List Key)] : (List (List Key)))).bind fun y36 =>
  if (!y36) = true then
    (none)
  else
    ((m_law_l1 ([(2 : Int), (1 : Int)] : (List Int)) (([(0 : Int), (1 : Int)] : (List Int)), ([([Sum.inr ("no" : Str)] : List Key)] : (List (List Key))), (M_Gates.mk ((m_Gates_init).rows) ((m_Gates_init).known)))).bind fun y43 =>
    match y43 with
    | .ret r => some r
    | .done st1 =>
    (m_law_take x_script0 ([(0 : Int), (0 : Int), y1] : (List Int)) (12 : Int)).bind fun y140 =>
    ((m_law_take x_script0 y140.2 (8 : Int)).bind fun y156 =>
      if (decide (y156.1 = (5 : Int))) = true then
        (some ((((3 : Int) + y140.1) + (40 : Int)), y156.2))
      else
        (some (((3 : Int) + y140.1), y156.2))).bind fun y154 =>
    (grd (rngOk y154.1)).bind fun _ =>
    (m_law_l2 x_script0 (pyRange 0 y154.1.toNat) (y154.2, st1.1, st1.2.1, (M_Gates.mk st1.2.2.rows st1.2.2.known))).bind fun y166 =>
    match y166 with
    | .ret r => some r
    | .done st2 =>
    (m_law_same_rows st2.2.2.2.rows st2.2.2.1).bind fun y267 =>
    if (!y267) = true then
      (none)
    else
      ((m_law_edge x_script0 st2.1 st2.2.1).bind fun y270 =>
      (m_law_edge x_script0 y270.2 st2.2.1).bind fun y279 =>
      (m_law_both st2.2.2.1 y270.1 y279.1).bind fun y289 =>
      ((m_Gates_both (M_Gates.mk st2.2.2.2.rows st2.2.2.2.known) y270.1 y279.1).bind fun y310 =>
        if (!(m_law_is_edge y310.1 y289.1)) = true then (some (true, (M_Gates.mk y310.2.rows y310.2.known))) else ((m_Gates_both (M_Gates.mk y310.2.rows y310.2.known) y279.1 y270.1).bind fun y325 =>
        some ((!(m_law_is_edge y325.1 y289.1)), (M_Gates.mk y325.2.rows y325.2.known)))).bind fun b298 =>
      if b298.1 = true then
        (none)
      else
        (((m_law_same_rows ((m_Gates_init).rows) ([([Sum.inr ("no" : Str)] : List Key)] : (List (List Key)))).bind fun y382 =>
          if (!y382) = true then (some (true, (M_Gates.mk ((m_Gates_init).rows) ((m_Gates_init).known)))) else ((m_Gates_leaf (M_Gates.mk ((m_Gates_init).rows) ((m_Gates_init).known)) (7 : Int)).bind fun y387 =>
          some ((!(m_law_is_edge y387.1 (2 : Int))), (M_Gates.mk y387.2.rows y387.2.known)))).bind fun b361 =>
        if b361.1 = true then
          (none)
        else
          ((m_law_same_rows b298.2.rows y289.2).bind fun y404 =>
          some y404))))
end G

namespace G
open PySem PySem.Spec PyProof.Rows L2

/-! ## the draws -/
theorem seed_l1 : ∀ (ns : List Int) (s : Int), 0 ≤ s → ∃ y, m_law_seed_l1 ns s = some y ∧ 0 ≤ y
  | [], s, h => ⟨s, rfl, h⟩
  | n :: ns, s, h => by
    rw [m_law_seed_l1]
    exact seed_l1 ns _ (by omega)
theorem seed_ok (ns : List Int) : ∃ y, m_law_seed ns = some y ∧ 0 ≤ y := by
  obtain ⟨y, h1, h2⟩ := seed_l1 ns 1 (by decide)
  exact ⟨y, by simp [m_law_seed, h1], h2⟩
/-- the drawing state -/
def Src (l : List Int) : Prop := ∃ p q s : Int, l = [p, q, s] ∧ 0 ≤ p ∧ 0 ≤ q ∧ 0 ≤ s
theorem at0 (p q s : Int) : atI [p, q, s] 0 = some p := rfl
theorem at1 (p q s : Int) : atI [p, q, s] 1 = some q := rfl
theorem at2 (p q s : Int) : atI [p, q, s] 2 = some s := rfl
theorem ix0 (p q s : Int) : ixN [p, q, s].length 0 = some 0 := rfl
theorem ix1 (p q s : Int) : ixN [p, q, s].length 1 = some 1 := rfl
theorem ix2 (p q s : Int) : ixN [p, q, s].length 2 = some 2 := rfl
theorem atI_lt {α : Type} {xs : List α} {i : Int} (h0 : 0 ≤ i) (h1 : i < xs.length) : ∃ x, atI xs i = some x ∧ x ∈ xs ∧ xs[i.toNat]? = some x := by
  have hl : i.toNat < xs.length := by omega
  refine ⟨xs[i.toNat], ?_, List.getElem_mem hl, by simp [hl]⟩
  have e := atI_nat (xs := xs) (j := i.toNat) (v := xs[i.toNat]) (by simp [hl])
  have e2 : ((i.toNat : Nat) : Int) = i := by omega
  rw [e2] at e
  exact e
theorem grd_t {b : Bool} {β : Type} {f : Unit → Option β} (h : b = true) : (grd b).bind f = f () := by subst h; rfl
theorem bs {α β : Type} {m : Option α} {x : α} {f : α → Option β} (h : m = some x) : m.bind f = f x := by rw [h, Option.bind_some]
theorem divOk_t {j : Int} (h : 0 < j) (h2 : j < 1073741824) : divOk j = true := decide_eq_true ⟨h, h2⟩
theorem take_ok (ns src : List Int) (size : Int) (h : Src src) (h0 : 0 < size) (h1 : size < 1073741824) :
    ∃ d src', m_law_take ns src size = some (d, src') ∧ 0 ≤ d ∧ d < size ∧ Src src' := by
  obtain ⟨p, q, s, rfl, hp, hq, hs⟩ := h
  have last : ∀ p q s : Int, 0 ≤ p → 0 ≤ q → 0 ≤ s → ∃ d src', ((atI [p, q, s] (0 : Int)).bind fun y45 =>
      if (decide (y45 > (0 : Int))) = true then
        ((atI [p, q, s] (0 : Int)).bind fun y51 => (grd (divOk size)).bind fun _ => (atI [p, q, s] (0 : Int)).bind fun y57 =>
        (grd (divOk size)).bind fun _ => (ixN [p, q, s].length (0 : Int)).bind fun j63 => some ((y51 % size), ([p, q, s].set j63 (y57 / size))))
      else
        ((atI [p, q, s] (2 : Int)).bind fun y67 => (ixN [p, q, s].length (2 : Int)).bind fun j72 =>
        (atI ([p, q, s].set j72 (((y67 * (48271 : Int)) + (12345 : Int)) % (2147483647 : Int))) (2 : Int)).bind fun y76 =>
        (grd (divOk size)).bind fun _ => some (((y76 / (1009 : Int)) % size), ([p, q, s].set j72 (((y67 * (48271 : Int)) + (12345 : Int)) % (2147483647 : Int)))))) = some (d, src') ∧ 0 ≤ d ∧ d < size ∧ Src src' := by
    intro p q s hp hq hs
    rw [at0]
    simp only [Option.bind_some]
    by_cases c : p > 0
    · rw [if_pos (decide_eq_true c)]
      simp only [at0, ix0, Option.bind_some, grd_t (divOk_t h0 h1)]
      exact ⟨_, _, rfl, Int.emod_nonneg _ (by omega), Int.emod_lt_of_pos _ h0, p / size, q, s, rfl, Int.ediv_nonneg hp (by omega), hq, hs⟩
    · rw [if_neg (by simpa using c), at2, ix2]
      simp only [Option.bind_some]
      show ∃ d src', ((atI [p, q, (s * 48271 + 12345) % 2147483647] (2 : Int)).bind fun y76 => _) = _ ∧ _
      rw [at2]
      simp only [Option.bind_some, grd_t (divOk_t h0 h1)]
      exact ⟨_, _, rfl, Int.emod_nonneg _ (by omega), Int.emod_lt_of_pos _ h0, p, q, (s * 48271 + 12345) % 2147483647, rfl, hp, hq, by omega⟩
  unfold m_law_take
  rw [at0, at1]
  simp only [Option.bind_some]
  by_cases c : p = 0 ∧ q < ns.length
  · obtain ⟨c1, c2⟩ := c
    rw [if_pos (decide_eq_true c1)]
    simp only [Option.bind_some]
    rw [if_pos (decide_eq_true c2)]
    obtain ⟨x, hx, _⟩ := atI_lt hq c2
    rw [hx, ix0]
    simp only [Option.bind_some]
    show ∃ d src', ((((atI [if x < 0 then -x else x, q, s] (1 : Int)).bind fun y36 => (ixN [if x < 0 then -x else x, q, s].length (1 : Int)).bind fun j41 => some ([if x < 0 then -x else x, q, s].set j41 (y36 + (1 : Int)))).bind _)) = _ ∧ _
    rw [at1, ix1]
    simp only [Option.bind_some]
    exact last (if x < 0 then -x else x) (q + 1) s (by split <;> omega) (by omega) hs
  · by_cases c1 : p = 0
    · rw [if_pos (decide_eq_true c1)]
      simp only [Option.bind_some]
      rw [if_neg (by simp; omega)]
      exact last p q s hp hq hs
    · rw [if_neg (by simpa using c1)]
      simp only [Option.bind_some]
      rw [if_neg (by simp)]
      exact last p q s hp hq hs

/-! ## edges, rows -/
theorem opp_eq (e : Int) : m_opposite e = m_law_opposite e := by
  unfold m_opposite m_law_opposite
  rw [bitXor_and, bitAnd_m1]
  by_cases c : e % 2 = 0
  · rw [if_pos (decide_eq_true c)]; omega
  · rw [if_neg (by simpa using c)]; omega
theorem opp_nn {e : Int} (h : 0 ≤ e) : 0 ≤ m_law_opposite e := by
  unfold m_law_opposite
  by_cases c : e % 2 = 0
  · rw [if_pos (decide_eq_true c)]; omega
  · rw [if_neg (by simpa using c)]; omega
theorem opp_iff (a b : Int) : a = m_law_opposite b ↔ (b % 2 = 0 ∧ a = b + 1) ∨ (b % 2 = 1 ∧ a = b - 1) := by
  unfold m_law_opposite
  by_cases c : b % 2 = 0
  · rw [if_pos (decide_eq_true c)]; omega
  · rw [if_neg (by simpa using c)]; omega

/-- the place of a row -/
def fnd (row : List Key) : List (List Key) → Option Nat
  | [] => none
  | r :: rs => if r = row then some 0 else (fnd row rs).map (· + 1)
theorem fnd_lt {row : List Key} : ∀ {rs : List (List Key)} {k : Nat}, fnd row rs = some k → k < rs.length
  | r :: rs, k, h => by
    unfold fnd at h
    by_cases c : r = row
    · rw [if_pos c] at h; cases h; simp
    · rw [if_neg c] at h
      cases e : fnd row rs with
      | none => rw [e] at h; cases h
      | some j =>
        rw [e] at h
        cases h
        have := fnd_lt e
        simp; omega
theorem fnd_snoc {row x : List Key} : ∀ {rs : List (List Key)}, fnd row (rs ++ [x]) = match fnd row rs with
    | some k => some k
    | none => if x = row then some rs.length else none
  | [] => by
    show (if x = row then some 0 else none) = _
    rfl
  | r :: rs => by
    show (if r = row then some 0 else (fnd row (rs ++ [x])).map (· + 1)) = _
    rw [fnd_snoc (rs := rs)]
    show _ = match (if r = row then some 0 else (fnd row rs).map (· + 1)) with
      | some k => some k
      | none => if x = row then some (r :: rs).length else none
    by_cases c : r = row
    · simp [c]
    · rw [if_neg c, if_neg c]
      cases fnd row rs with
      | none =>
        by_cases c2 : x = row
        · simp [c2]
        · simp [c2]
      | some k => simp
def okRow (r : List Key) : Prop := DOk.ok r = true
/-- the linear search -/
theorem row_l1 (rows : List (List Key)) (row : List Key) (ho : ∀ r ∈ rows, okRow r) (hr : okRow row) : ∀ (n i : Nat), i + n = rows.length →
    m_law_row_l1 rows row ((List.range' i n).map fun (j : Nat) => (0 : Int) + (j : Int)) () = match fnd row (rows.drop i) with
      | some k => some (Flw.ret (2 * ((i + k : Nat) : Int), rows))
      | none => some (Flw.done ())
  | 0, i, h => by
    rw [List.drop_eq_nil_of_le (by omega)]
    rfl
  | n + 1, i, h => by
    have hl : i < rows.length := by omega
    rw [List.range'_succ, List.map_cons, m_law_row_l1]
    have e : atI rows ((0 : Int) + (i : Int)) = some rows[i] := by
      rw [Int.zero_add]
      exact atI_nat (by simp [hl])
    rw [e, List.drop_eq_getElem_cons hl]
    simp only [Option.bind_some]
    rw [grd_t (ho _ (List.getElem_mem hl)), grd_t hr]
    show _ = match (if rows[i] = row then some 0 else (fnd row (rows.drop (i + 1))).map (· + 1)) with
      | some k => some (Flw.ret (2 * ((i + k : Nat) : Int), rows))
      | none => some (Flw.done ())
    by_cases c : rows[i] = row
    · rw [if_pos (decide_eq_true c), if_pos c]
      simp
    · rw [if_neg (by simpa using c), if_neg c, row_l1 rows row ho hr n (i + 1) (by omega)]
      cases fnd row (rows.drop (i + 1)) with
      | none => rfl
      | some k =>
        show some (Flw.ret (2 * ((i + 1 + k : Nat) : Int), rows)) = some (Flw.ret (2 * ((i + (k + 1) : Nat) : Int), rows))
        rw [show i + 1 + k = i + (k + 1) by omega]
theorem rngOk_t {j : Int} (h0 : 0 ≤ j) (h1 : j < 16777216) : rngOk j = true := decide_eq_true ⟨by omega, by omega⟩
theorem rngOk_len {n : Nat} (h : n < 16777216) : rngOk (n : Int) = true := decide_eq_true ⟨by omega, by omega⟩
theorem law_row (rows : List (List Key)) (row : List Key) (ho : ∀ r ∈ rows, okRow r) (hr : okRow row) (hl : rows.length < 16777216) :
    m_law_row rows row = some (match fnd row rows with
      | some k => (2 * (k : Int), rows)
      | none => (2 * (rows.length : Int), rows ++ [row])) := by
  unfold m_law_row
  rw [grd_t (rngOk_len hl)]
  have e : pyRange 0 ((rows.length : Int)).toNat = (List.range' 0 rows.length).map fun (j : Nat) => (0 : Int) + (j : Int) := by
    unfold pyRange
    rw [List.range_eq_range']
    rfl
  rw [e, row_l1 rows row ho hr rows.length 0 (by omega), List.drop_zero]
  cases fnd row rows with
  | some k => simp
  | none =>
    simp only [Option.bind_some]
    rw [grd_t (decide_eq_true hl)]
    simp
    omega

/-! ## the two tables -/
/-- the program's table tells the same places as a search in the rows -/
structure Sim (G : M_Gates) (rows : List (List Key)) : Prop where
  eqr : G.rows = rows
  ok : ∀ r ∈ rows, okRow r
  first : ∃ rs, rows = [Sum.inr ("no" : Str)] :: rs
  len : G.known.length + 1 = rows.length
  look : ∀ row : List Key, row ≠ [Sum.inr ("no" : Str)] → mget G.known row = (fnd row rows).map fun k => 2 * (k : Int)
theorem mget_put_new {κ α : Type} [DecidableEq κ] {xs : List (κ × α)} {k : κ} {x : α} (h : mget xs k = none) : mput xs k x = xs ++ [(k, x)] := by
  unfold mput
  rw [if_neg]
  intro c
  obtain ⟨p, hp, e⟩ := List.any_eq_true.mp c
  unfold mget at h
  rw [Option.map_eq_none_iff, List.find?_eq_none] at h
  exact h p hp e
theorem mget_snoc {κ α : Type} [DecidableEq κ] {xs : List (κ × α)} {k j : κ} {x : α} : mget (xs ++ [(k, x)]) j = match mget xs j with
    | some y => some y
    | none => if k = j then some x else none := by
  unfold mget
  rw [List.find?_append]
  cases xs.find? fun p => decide (p.1 = j) with
  | some p => simp
  | none =>
    by_cases c : k = j
    · simp [List.find?_cons, c]
    · simp [List.find?_cons, c]
theorem edge_of_hit {G : M_Gates} {row : List Key} {e : Int} (q : mget G.known row = some e) : m_Gates_edge_of G row = some (e, G) := by
  unfold m_Gates_edge_of
  rw [q, if_neg (by simp)]
  simp only [Option.bind_some]
  rw [q]
  rfl
theorem edge_of {G : M_Gates} {rows : List (List Key)} (S : Sim G rows) (row : List Key) (hr : okRow row) (hn : row ≠ [Sum.inr ("no" : Str)]) (hl : rows.length < 16777216) :
    ∃ e rows' G', m_law_row rows row = some (e, rows') ∧ m_Gates_edge_of G row = some (e, G') ∧ Sim G' rows' ∧ 0 ≤ e ∧ rows.length ≤ rows'.length ∧ rows'.length ≤ rows.length + 1 ∧
      m_Gates_edge_of G' row = some (e, G') := by
  rw [law_row rows row S.ok hr hl]
  have q := S.look row hn
  cases c : fnd row rows with
  | some k =>
    rw [c] at q
    have e : m_Gates_edge_of G row = some (2 * (k : Int), G) := edge_of_hit q
    exact ⟨_, rows, G, rfl, e, S, by omega, Nat.le_refl _, Nat.le_succ _, e⟩
  | none =>
    rw [c] at q
    have q0 : mget G.known row = none := q
    have hk : G.known.length < 16777216 := by have := S.len; omega
    have hk2 : G.rows.length < 16777216 := by rw [S.eqr]; exact hl
    refine ⟨_, rows ++ [row], ⟨G.rows ++ [row], G.known ++ [(row, 2 * (G.rows.length : Int))]⟩, rfl, ?_, ?_, by omega, by simp, by simp, ?_⟩
    · unfold m_Gates_edge_of
      rw [q0]
      simp only [Option.isSome_none, Bool.not_false, if_pos]
      rw [grd_t (decide_eq_true hk), grd_t (decide_eq_true hk2), mget_put_new q0]
      simp only [Option.bind_some]
      rw [mget_snoc, q0]
      simp [S.eqr]
    · refine ⟨by simp [S.eqr], fun r h => ?_, ?_, by have := S.len; simp; omega, fun r hr2 => ?_⟩
      · rcases List.mem_append.mp h with h | h
        · exact S.ok r h
        · rw [List.mem_singleton.mp h]; exact hr
      · obtain ⟨rs, e⟩ := S.first
        exact ⟨rs ++ [row], by rw [e]; rfl⟩
      · show mget (G.known ++ [(row, 2 * (G.rows.length : Int))]) r = _
        rw [mget_snoc, S.look r hr2, fnd_snoc]
        cases fnd r rows with
        | some k => rfl
        | none =>
          by_cases c2 : row = r
          · simp [c2, S.eqr]
          · simp [c2]
    · refine edge_of_hit ?_
      show mget (G.known ++ [(row, 2 * (G.rows.length : Int))]) row = _
      rw [mget_snoc, q0]; simp [S.eqr]
theorem ok_letter (n : Int) : okRow [Sum.inr ("letter" : Str), Sum.inl n] := by
  show ([Sum.inr ("letter" : Str), Sum.inl n] : List Key).all DOk.ok = true
  simp only [List.all_cons, List.all_nil, Bool.and_true, Bool.and_eq_true]
  exact ⟨by decide +kernel, rfl⟩
theorem ok_both (a b : Int) : okRow [Sum.inr ("both" : Str), Sum.inl a, Sum.inl b] := by
  show ([Sum.inr ("both" : Str), Sum.inl a, Sum.inl b] : List Key).all DOk.ok = true
  simp only [List.all_cons, List.all_nil, Bool.and_true, Bool.and_eq_true]
  exact ⟨by decide +kernel, rfl, rfl⟩
theorem leaf_sim {G : M_Gates} {rows : List (List Key)} (S : Sim G rows) (n : Int) (hl : rows.length < 16777216) :
    ∃ e rows' G', m_law_row rows [Sum.inr ("letter" : Str), Sum.inl n] = some (e, rows') ∧ m_Gates_leaf G n = some (e, G') ∧ Sim G' rows' ∧ 0 ≤ e ∧ rows'.length ≤ rows.length + 1 := by
  obtain ⟨e, rows', G', h1, h2, h3, h4, _, h5, _⟩ := edge_of S [Sum.inr ("letter" : Str), Sum.inl n] (ok_letter n) (by intro h; cases h) hl
  refine ⟨e, rows', G', h1, ?_, h3, h4, h5⟩
  unfold m_Gates_leaf
  rw [h2]
  rfl
/-- what a call must show: the same edge from both, the tables stay alike -/
def Call (n : Nat) (rows : List (List Key)) (x : Option (Int × List (List Key))) (y : Option (Int × M_Gates)) : Prop :=
  ∃ e rows' G', x = some (e, rows') ∧ y = some (e, G') ∧ Sim G' rows' ∧ 0 ≤ e ∧ rows'.length ≤ rows.length + n
theorem gboth {G : M_Gates} {a b lo hi : Int} (hlo : (if b < a then b else a) = lo) (hhi : (if b > a then b else a) = hi) :
    m_Gates_both G a b = if lo = 0 ∨ lo = m_law_opposite hi then some (0, G) else if lo = 1 ∨ lo = hi then some (hi, G) else m_Gates_edge_of G [Sum.inr ("both" : Str), Sum.inl lo, Sum.inl hi] := by
  unfold m_Gates_both
  rw [hlo, hhi, opp_eq]
  by_cases c : lo = 0 ∨ lo = m_law_opposite hi
  · rw [if_pos c, if_pos (by simpa using c)]
  · rw [if_neg c, if_neg (by simpa using c)]
    by_cases d : lo = 1 ∨ lo = hi
    · rw [if_pos d, if_pos (by simpa using d)]
    · rw [if_neg d, if_neg (by simpa using d)]
      show (m_Gates_edge_of G _).bind _ = _
      cases m_Gates_edge_of G [Sum.inr ("both" : Str), Sum.inl lo, Sum.inl hi] <;> rfl
theorem both_comm (G : M_Gates) (a b : Int) : m_Gates_both G b a = m_Gates_both G a b := by
  rw [gboth (G := G) (a := a) (b := b) rfl rfl, gboth (G := G) (a := b) (b := a) (lo := if b < a then b else a) (hi := if b > a then b else a)]
  · split <;> split <;> omega
  · split <;> split <;> omega
theorem both_sim {G : M_Gates} {rows : List (List Key)} (S : Sim G rows) {a b : Int} (ha : 0 ≤ a) (hb : 0 ≤ b) (hl : rows.length < 16777216) :
    ∃ e rows' G', m_law_both rows a b = some (e, rows') ∧ m_Gates_both G a b = some (e, G') ∧ Sim G' rows' ∧ 0 ≤ e ∧ rows'.length ≤ rows.length + 1 ∧ m_Gates_both G' b a = some (e, G') := by
  generalize hlo : (if b < a then b else a) = lo
  generalize hhi : (if b > a then b else a) = hi
  have hlo' : lo = if b < a then b else a := hlo.symm
  have hhi' : hi = if b > a then b else a := hhi.symm
  have k0 : (a = 0 ∨ b = 0 ∨ a = m_law_opposite b) ↔ (lo = 0 ∨ lo = m_law_opposite hi) := by
    rw [opp_iff, opp_iff, hlo', hhi']
    split <;> split <;> omega
  by_cases c : a = 0 ∨ b = 0 ∨ a = m_law_opposite b
  · have e1 : m_Gates_both G a b = some (0, G) := by rw [gboth hlo hhi, if_pos (k0.mp c)]
    refine ⟨0, rows, G, ?_, e1, S, by omega, Nat.le_succ _, (both_comm G a b).trans e1⟩
    unfold m_law_both
    rw [if_pos (by simpa using c)]
  · have c2 := fun h => c (k0.mpr h)
    have h0 : ¬ a = 0 := fun h => c (.inl h)
    have h1 : ¬ b = 0 := fun h => c (.inr (.inl h))
    have k1 : (a = 1 ∨ b = 1 ∨ a = b) ↔ (lo = 1 ∨ lo = hi) := by
      rw [hlo', hhi']
      split <;> split <;> omega
    by_cases d : a = 1 ∨ b = 1 ∨ a = b
    · have e1 : m_Gates_both G a b = some (hi, G) := by rw [gboth hlo hhi, if_neg c2, if_pos (k1.mp d)]
      refine ⟨hi, rows, G, ?_, e1, S, by rw [hhi']; split <;> omega, Nat.le_succ _, (both_comm G a b).trans e1⟩
      unfold m_law_both
      rw [if_neg (by simpa using c)]
      by_cases d3 : a = 1
      · rw [if_pos (decide_eq_true d3)]
        have e : b = hi := by rw [hhi']; split <;> omega
        rw [← e]
      · rw [if_neg (by simpa using d3), if_pos (by simp; omega)]
        have e : a = hi := by rw [hhi']; split <;> omega
        rw [← e]
    · have d2 := fun h => d (k1.mpr h)
      obtain ⟨e, rows', G', h1, h2, h3, h4, _, h5, h6⟩ := edge_of S [Sum.inr ("both" : Str), Sum.inl lo, Sum.inl hi] (ok_both lo hi) (by intro h; cases h) hl
      refine ⟨e, rows', G', ?_, by rw [gboth hlo hhi, if_neg c2, if_neg d2, h2], h3, h4, h5, by rw [both_comm, gboth hlo hhi, if_neg c2, if_neg d2, h6]⟩
      unfold m_law_both
      rw [if_neg (by simpa using c), if_neg (by simp; omega), if_neg (by simp; omega)]
      have e1 : (if a < b then a else b) = lo := by rw [hlo']; split <;> split <;> omega
      have e2 : (if a > b then a else b) = hi := by rw [hhi']; split <;> split <;> omega
      rw [hlo, hhi, h1]
      rfl
theorem both_call {G : M_Gates} {rows : List (List Key)} (S : Sim G rows) {a b : Int} (ha : 0 ≤ a) (hb : 0 ≤ b) (hl : rows.length < 16777216) :
    Call 1 rows (m_law_both rows a b) (m_Gates_both G a b) := by
  obtain ⟨e, rows', G', h1, h2, h3, h4, h5, _⟩ := both_sim S ha hb hl
  exact ⟨e, rows', G', h1, h2, h3, h4, h5⟩
theorem either_call {G : M_Gates} {rows : List (List Key)} (S : Sim G rows) {a b : Int} (ha : 0 ≤ a) (hb : 0 ≤ b) (hl : rows.length < 16777216) :
    Call 1 rows (m_law_either rows a b) (m_Gates_either G a b) := by
  obtain ⟨e, rows', G', h1, h2, h3, h4, h5⟩ := both_call S (opp_nn ha) (opp_nn hb) hl
  refine ⟨m_law_opposite e, rows', G', ?_, ?_, h3, opp_nn h4, h5⟩
  · unfold m_law_either; rw [h1]; rfl
  · unfold m_Gates_either; rw [opp_eq, opp_eq]
    show (m_Gates_both G _ _).bind _ = _
    rw [h2]
    show some (m_opposite e, G') = _
    rw [opp_eq]
theorem differ_call {G : M_Gates} {rows : List (List Key)} (S : Sim G rows) {a b : Int} (ha : 0 ≤ a) (hb : 0 ≤ b) (hl : rows.length + 3 < 16777216) :
    Call 3 rows (m_law_differ rows a b) (m_Gates_differ G a b) := by
  obtain ⟨e, r1, G1, h1, h2, S1, h4, h5⟩ := both_call S ha (opp_nn hb) (by omega)
  obtain ⟨e2, r2, G2, g1, g2, S2, g4, g5⟩ := both_call S1 (opp_nn ha) hb (by omega)
  obtain ⟨e3, r3, G3, f1, f2, S3, f4, f5⟩ := either_call S2 h4 g4 (by omega)
  refine ⟨e3, r3, G3, ?_, ?_, S3, f4, by omega⟩
  · unfold m_law_differ; rw [h1]; simp only [Option.bind_some]; rw [g1]; simp only [Option.bind_some]; rw [f1]; rfl
  · unfold m_Gates_differ; rw [opp_eq, opp_eq, h2]; simp only [Option.bind_some]; rw [g2]; simp only [Option.bind_some]; rw [f2]; rfl
theorem choose_call {G : M_Gates} {rows : List (List Key)} (S : Sim G rows) {t a b : Int} (ht : 0 ≤ t) (ha : 0 ≤ a) (hb : 0 ≤ b) (hl : rows.length + 3 < 16777216) :
    Call 3 rows (m_law_choose rows t a b) (m_Gates_choose G t a b) := by
  unfold m_law_choose m_Gates_choose
  by_cases c : a = b
  · rw [if_pos (decide_eq_true c), if_pos (decide_eq_true c)]
    exact ⟨a, rows, G, rfl, rfl, S, ha, by omega⟩
  · rw [if_neg (by simpa using c), if_neg (by simpa using c)]
    obtain ⟨e, r1, G1, h1, h2, S1, h4, h5⟩ := both_call S ht ha (by omega)
    obtain ⟨e2, r2, G2, g1, g2, S2, g4, g5⟩ := both_call S1 (opp_nn ht) hb (by omega)
    obtain ⟨e3, r3, G3, f1, f2, S3, f4, f5⟩ := either_call S2 h4 g4 (by omega)
    refine ⟨e3, r3, G3, ?_, ?_, S3, f4, by omega⟩
    · rw [h1]; simp only [Option.bind_some]; rw [g1]; simp only [Option.bind_some]; rw [f1]; rfl
    · rw [opp_eq, h2]; simp only [Option.bind_some]; rw [g2]; simp only [Option.bind_some]; rw [f2]; rfl
/-! ## the folds -/
theorem every_l1 (kind : Int) (hk : kind = 6) : ∀ (xs : List Int) (rows : List (List Key)) (G : M_Gates) (due : Int), Sim G rows → 0 ≤ due → (∀ x ∈ xs, 0 ≤ x) → rows.length + xs.length < 16777216 →
    ∃ e rows' G', m_law_folded_l1 kind xs (due, rows) = some (e, rows') ∧ m_Gates_every_l1 xs (due, G) = some (e, G') ∧ Sim G' rows' ∧ 0 ≤ e ∧ rows'.length ≤ rows.length + xs.length
  | [], rows, G, due, S, hd, _, _ => ⟨due, rows, G, rfl, rfl, S, hd, Nat.le_refl _⟩
  | x :: xs, rows, G, due, S, hd, hx, hl => by
    have hl' : rows.length + (xs.length + 1) < 16777216 := hl
    obtain ⟨e, r1, G1, h1, h2, S1, h4, h5⟩ := both_call S hd (hx x (.head _)) (by omega)
    obtain ⟨e', r', G', g1, g2, g3, g4, g5⟩ := every_l1 kind hk xs r1 G1 e S1 h4 (fun y hy => hx y (.tail _ hy)) (by omega)
    refine ⟨e', r', G', ?_, ?_, g3, g4, by simp; omega⟩
    · rw [m_law_folded_l1, if_pos (decide_eq_true hk)]
      show (m_law_both rows due x).bind _ = _
      rw [h1]; exact g1
    · rw [m_Gates_every_l1]
      show (m_Gates_both G due x).bind _ = _
      rw [h2]; exact g2
theorem oneof_l1 (kind : Int) (hk : ¬ kind = 6) : ∀ (xs : List Int) (rows : List (List Key)) (G : M_Gates) (due : Int), Sim G rows → 0 ≤ due → (∀ x ∈ xs, 0 ≤ x) → rows.length + xs.length < 16777216 →
    ∃ e rows' G', m_law_folded_l1 kind xs (due, rows) = some (e, rows') ∧ m_Gates_one_of_l1 xs (due, G) = some (e, G') ∧ Sim G' rows' ∧ 0 ≤ e ∧ rows'.length ≤ rows.length + xs.length
  | [], rows, G, due, S, hd, _, _ => ⟨due, rows, G, rfl, rfl, S, hd, Nat.le_refl _⟩
  | x :: xs, rows, G, due, S, hd, hx, hl => by
    have hl' : rows.length + (xs.length + 1) < 16777216 := hl
    obtain ⟨e, r1, G1, h1, h2, S1, h4, h5⟩ := either_call S hd (hx x (.head _)) (by omega)
    obtain ⟨e', r', G', g1, g2, g3, g4, g5⟩ := oneof_l1 kind hk xs r1 G1 e S1 h4 (fun y hy => hx y (.tail _ hy)) (by omega)
    refine ⟨e', r', G', ?_, ?_, g3, g4, by simp; omega⟩
    · rw [m_law_folded_l1, if_neg (by simpa using hk)]
      show (m_law_either rows due x).bind _ = _
      rw [h1]; exact g1
    · rw [m_Gates_one_of_l1]
      show (m_Gates_either G due x).bind _ = _
      rw [h2]; exact g2

/-! ## one call of the row of calls -/
theorem letter_ok (ns src : List Int) (h : Src src) : ∃ n src', m_law_letter ns src = some (n, src') ∧ Src src' := by
  obtain ⟨d, s1, h1, _, _, S1⟩ := take_ok ns src 8 h (by decide) (by decide)
  unfold m_law_letter
  rw [h1]
  simp only [Option.bind_some]
  by_cases c : d = 7
  · obtain ⟨d2, s2, h2, _, _, S2⟩ := take_ok ns s1 3 S1 (by decide) (by decide)
    rw [if_pos (decide_eq_true c), h2]
    exact ⟨_, _, rfl, S2⟩
  · obtain ⟨d2, s2, h2, _, _, S2⟩ := take_ok ns s1 6 S1 (by decide) (by decide)
    rw [if_neg (by simpa using c), h2]
    exact ⟨_, _, rfl, S2⟩
theorem edge_ok (ns src edges : List Int) (h : Src src) (hn : 0 < edges.length) (hl : edges.length < 1073741824) (hp : ∀ e ∈ edges, 0 ≤ e) :
    ∃ e src', m_law_edge ns src edges = some (e, src') ∧ Src src' ∧ 0 ≤ e := by
  obtain ⟨d, s1, h1, h2, h3, S1⟩ := take_ok ns src (edges.length : Int) h (by omega) (by omega)
  unfold m_law_edge
  rw [h1]
  simp only [Option.bind_some]
  obtain ⟨x, hx, hm, _⟩ := atI_lt h2 h3
  rw [hx]
  exact ⟨x, s1, rfl, S1, hp x hm⟩
theorem given_ok (ns edges : List Int) (hn : 0 < edges.length) (hl : edges.length < 1073741824) (hp : ∀ e ∈ edges, 0 ≤ e) : ∀ (ks : List Int) (src acc : List Int), Src src → acc.length + ks.length < 16777216 → (∀ e ∈ acc, 0 ≤ e) →
    ∃ src' out, m_law_call_l1 ns edges ks (src, acc) = some (src', out) ∧ Src src' ∧ out.length = acc.length + ks.length ∧ ∀ e ∈ out, 0 ≤ e
  | [], src, acc, S, _, ha => ⟨src, acc, rfl, S, rfl, ha⟩
  | k :: ks, src, acc, S, hk, ha => by
    have hk' : acc.length + (ks.length + 1) < 16777216 := hk
    obtain ⟨e, s1, h1, S1, he⟩ := edge_ok ns src edges S hn hl hp
    obtain ⟨s2, out, g1, S2, g2, g3⟩ := given_ok ns edges hn hl hp ks s1 (acc ++ [e]) S1 (by simp; omega) (fun x hx => by
      rcases List.mem_append.mp hx with q | q
      · exact ha x q
      · rw [List.mem_singleton.mp q]; exact he)
    refine ⟨s2, out, ?_, S2, by rw [g2]; simp; omega, g3⟩
    rw [m_law_call_l1]
    show (m_law_edge ns src edges).bind _ = _
    rw [h1]
    simp only [Option.bind_some]
    rw [grd_t (decide_eq_true (by omega))]
    exact g1
/-- the state behind a call -/
def After (rows : List (List Key)) (x : Option ((Int × Int) × List Int × M_Gates × List (List Key))) : Prop :=
  ∃ e src' G' rows', x = some ((e, e), src', G', rows') ∧ Src src' ∧ Sim G' rows' ∧ 0 ≤ e ∧ rows'.length ≤ rows.length + 5
theorem call_ok (ns src edges : List Int) (G : M_Gates) (rows : List (List Key)) (hs : Src src) (S : Sim G rows) (hn : 0 < edges.length) (hl : edges.length < 1073741824) (hp : ∀ e ∈ edges, 0 ≤ e) (hr : rows.length + 10 < 16777216) :
    After rows (m_law_call ns src G rows edges) := by
  obtain ⟨kind, s1, h1, k0, k1, S1⟩ := take_ok ns src 8 hs (by decide) (by decide)
  unfold m_law_call
  rw [bs h1]
  by_cases c1 : kind < 2
  · rw [if_pos (decide_eq_true c1)]
    obtain ⟨n, s2, h2, S2⟩ := letter_ok ns s1 S1
    rw [bs h2]
    obtain ⟨e, r', G', g1, g2, g3, g4, g5⟩ := leaf_sim S n (by omega)
    rw [bs g1]
    rw [g2]
    exact ⟨e, s2, G', r', rfl, S2, g3, g4, by omega⟩
  rw [if_neg (by simpa using c1)]
  by_cases c2 : kind > 5
  · rw [if_pos (decide_eq_true c2)]
    obtain ⟨m, s2, h2, m0, m1, S2⟩ := take_ok ns s1 5 S1 (by decide) (by decide)
    rw [bs h2]
    rw [grd_t (rngOk_t (by omega) (by omega))]
    obtain ⟨s3, out, h3, S3, hlen, hpos⟩ := given_ok ns edges hn hl hp (pyRange 0 m.toNat) s2 [] S2 (by rw [pyRange_len]; simp; omega) (fun _ q => nomatch q)
    rw [pyRange_len] at hlen
    have hlen2 : out.length ≤ 4 := by rw [hlen]; simp; omega
    rw [bs h3]
    by_cases c3 : kind = 6
    · rw [if_pos (decide_eq_true c3)]
      obtain ⟨e, r', G', g1, g2, g3, g4, g5⟩ := every_l1 kind c3 out rows G 1 S (by decide) hpos (by omega)
      have f1 : m_Gates_every G out = some (e, G') := by
        unfold m_Gates_every
        show (m_Gates_every_l1 out (1, G)).bind _ = _
        rw [g2]; rfl
      have f2 : m_law_folded rows kind out = some (e, r') := by
        unfold m_law_folded
        rw [if_pos (decide_eq_true c3)]
        show (m_law_folded_l1 kind out (1, rows)).bind _ = _
        rw [g1]; rfl
      rw [bs f1, bs rfl, if_neg (by simp), bs f2]
      exact ⟨e, s3, G', r', rfl, S3, g3, g4, by omega⟩
    · rw [if_neg (by simpa using c3)]
      obtain ⟨e, r', G', g1, g2, g3, g4, g5⟩ := oneof_l1 kind c3 out rows G 0 S (by decide) hpos (by omega)
      have f1 : m_Gates_one_of G out = some (e, G') := by
        unfold m_Gates_one_of
        show (m_Gates_one_of_l1 out (0, G)).bind _ = _
        rw [g2]; rfl
      have f2 : m_law_folded rows kind out = some (e, r') := by
        unfold m_law_folded
        rw [if_neg (by simpa using c3)]
        show (m_law_folded_l1 kind out (0, rows)).bind _ = _
        rw [g1]; rfl
      rw [bs f1, bs rfl, if_neg (by simp), bs f2]
      exact ⟨e, s3, G', r', rfl, S3, g3, g4, by omega⟩
  rw [if_neg (by simpa using c2)]
  obtain ⟨a, s2, h2, S2, ha⟩ := edge_ok ns s1 edges S1 hn hl hp
  rw [bs h2]
  obtain ⟨b, s3, h3, S3, hb⟩ := edge_ok ns s2 edges S2 hn hl hp
  rw [bs h3]
  by_cases c3 : kind = 2
  · rw [if_pos (decide_eq_true c3)]
    obtain ⟨e, r', G', g1, g2, g3, g4, g5⟩ := both_call S ha hb (by omega)
    rw [bs g1]
    rw [g2]
    exact ⟨e, s3, G', r', rfl, S3, g3, g4, by omega⟩
  rw [if_neg (by simpa using c3)]
  by_cases c4 : kind = 3
  · rw [if_pos (decide_eq_true c4)]
    obtain ⟨e, r', G', g1, g2, g3, g4, g5⟩ := either_call S ha hb (by omega)
    rw [bs g1]
    rw [g2]
    exact ⟨e, s3, G', r', rfl, S3, g3, g4, by omega⟩
  rw [if_neg (by simpa using c4)]
  by_cases c5 : kind = 4
  · rw [if_pos (decide_eq_true c5)]
    obtain ⟨e, r', G', g1, g2, g3, g4, g5⟩ := differ_call S ha hb (by omega)
    rw [bs g1]
    rw [g2]
    exact ⟨e, s3, G', r', rfl, S3, g3, g4, by omega⟩
  rw [if_neg (by simpa using c5)]
  obtain ⟨t, s4, h4, S4, ht⟩ := edge_ok ns s3 edges S3 hn hl hp
  rw [bs h4]
  obtain ⟨e, r', G', g1, g2, g3, g4, g5⟩ := choose_call S ht ha hb (by omega)
  rw [bs g1]
  rw [g2]
  exact ⟨e, s4, G', r', rfl, S4, g3, g4, by omega⟩

/-! ## the law -/
theorem is_edge_self (e : Int) : m_law_is_edge e e = true := decide_eq_true rfl
theorem calls_ok (ns : List Int) : ∀ (ks : List Int) (src edges : List Int) (rows : List (List Key)) (G : M_Gates), Src src → Sim G rows → 0 < edges.length → (∀ e ∈ edges, 0 ≤ e) →
    edges.length + 2 * ks.length < 1000000 → rows.length + 5 * ks.length < 1000000 →
    ∃ src' edges' rows' G', m_law_l2 ns ks (src, edges, rows, G) = some (Flw.done (src', edges', rows', G')) ∧ Src src' ∧ Sim G' rows' ∧ 0 < edges'.length ∧ (∀ e ∈ edges', 0 ≤ e) ∧ edges'.length < 1000000 ∧ rows'.length < 1000000
  | [], src, edges, rows, G, hs, S, hn, hp, h1, h2 => ⟨src, edges, rows, G, rfl, hs, S, hn, hp, by simpa using h1, by simpa using h2⟩
  | k :: ks, src, edges, rows, G, hs, S, hn, hp, h1, h2 => by
    have h1' : edges.length + 2 * (ks.length + 1) < 1000000 := h1
    have h2' : rows.length + 5 * (ks.length + 1) < 1000000 := h2
    obtain ⟨e, s1, G1, r1, c1, S1, M1, he, hr⟩ := call_ok ns src edges G rows hs S hn (by omega) hp (by omega)
    obtain ⟨s2, e2, r2, G2, g1, g2, g3, g4, g5, g6, g7⟩ := calls_ok ns ks s1 ((edges ++ [e]) ++ [m_law_opposite e]) r1 G1 S1 M1 (by simp) (fun x hx => by
      rcases List.mem_append.mp hx with q | q
      · rcases List.mem_append.mp q with q | q
        · exact hp x q
        · rw [List.mem_singleton.mp q]; exact he
      · rw [List.mem_singleton.mp q]; exact opp_nn he) (by simp; omega) (by omega)
    refine ⟨s2, e2, r2, G2, ?_, g2, g3, g4, g5, g6, g7⟩
    rw [m_law_l2]
    show (m_law_call ns src G rows edges).bind _ = _
    rw [c1]
    simp only [Option.bind_some]
    rw [if_neg (by rw [is_edge_self, opp_eq, is_edge_self]; decide), grd_t (decide_eq_true (by omega)), grd_t (decide_eq_true (by simp; omega))]
    exact g1
theorem rows_l1 (rows : List (List Key)) (ho : ∀ r ∈ rows, okRow r) : ∀ (n i : Nat), i + n = rows.length →
    m_law_same_rows_l1 rows rows ((List.range' i n).map fun (j : Nat) => (0 : Int) + (j : Int)) () = some (Flw.done ())
  | 0, i, h => rfl
  | n + 1, i, h => by
    have hl : i < rows.length := by omega
    rw [List.range'_succ, List.map_cons, m_law_same_rows_l1]
    have e : atI rows ((0 : Int) + (i : Int)) = some rows[i] := by
      rw [Int.zero_add]
      exact atI_nat (by simp [hl])
    simp only [e, Option.bind_some]
    rw [grd_t (ho _ (List.getElem_mem hl)), grd_t (ho _ (List.getElem_mem hl))]
    simp only [Option.bind_some]
    rw [if_neg (by simp)]
    exact rows_l1 rows ho n (i + 1) (by omega)
theorem same_rows (rows : List (List Key)) (ho : ∀ r ∈ rows, okRow r) (hl : rows.length < 16777216) : m_law_same_rows rows rows = some true := by
  unfold m_law_same_rows
  rw [if_neg (by simp), grd_t (rngOk_len hl)]
  have e : pyRange 0 ((rows.length : Int)).toNat = (List.range' 0 rows.length).map fun (j : Nat) => (0 : Int) + (j : Int) := by
    unfold pyRange
    rw [List.range_eq_range']
    rfl
  rw [e, rows_l1 rows ho rows.length 0 (by omega)]
  rfl
theorem ok_no : okRow [Sum.inr ("no" : Str)] := by
  show ([Sum.inr ("no" : Str)] : List Key).all DOk.ok = true
  simp only [List.all_cons, List.all_nil, Bool.and_true]
  decide +kernel
theorem sim_init : Sim m_Gates_init [[Sum.inr ("no" : Str)]] where
  eqr := rfl
  ok := fun r h => by rw [List.mem_singleton.mp h]; exact ok_no
  first := ⟨[], rfl⟩
  len := rfl
  look := fun row h => by
    show (none : Option Int) = _
    unfold fnd
    rw [if_neg (fun q => h q.symm)]
    rfl
theorem twin_leaf : ∃ G, m_Gates_leaf m_Gates_init 7 = some (2, G) := by
  obtain ⟨e, r', G', h1, h2, _⟩ := leaf_sim sim_init 7 (by decide)
  rw [law_row _ _ sim_init.ok (ok_letter 7) (by decide)] at h1
  have q : fnd [Sum.inr ("letter" : Str), Sum.inl 7] [[Sum.inr ("no" : Str)]] = none := by
    unfold fnd
    rw [if_neg (by intro h; cases h)]
    rfl
  rw [q] at h1
  cases h1
  exact ⟨G', h2⟩
theorem starts_ok : ∀ (ls : List Int) (edges : List Int) (rows : List (List Key)) (G : M_Gates), Sim G rows → 0 < edges.length → (∀ e ∈ edges, 0 ≤ e) → edges.length + ls.length < 1000 → rows.length + ls.length < 1000 →
    ∃ edges' rows' G', m_law_l1 ls (edges, rows, G) = some (Flw.done (edges', rows', G')) ∧ Sim G' rows' ∧ 0 < edges'.length ∧ (∀ e ∈ edges', 0 ≤ e) ∧ edges'.length < 1000 ∧ rows'.length < 1000
  | [], edges, rows, G, S, hn, hp, h1, h2 => ⟨edges, rows, G, rfl, S, hn, hp, by simpa using h1, by simpa using h2⟩
  | l :: ls, edges, rows, G, S, hn, hp, h1, h2 => by
    have h1' : edges.length + (ls.length + 1) < 1000 := h1
    have h2' : rows.length + (ls.length + 1) < 1000 := h2
    obtain ⟨e, r1, G1, g1, g2, g3, g4, g5⟩ := leaf_sim S l (by omega)
    obtain ⟨e', r', G', f1, f2⟩ := starts_ok ls (edges ++ [e]) r1 G1 g3 (by simp) (fun x hx => by
      rcases List.mem_append.mp hx with q | q
      · exact hp x q
      · rw [List.mem_singleton.mp q]; exact g4) (by simp; omega) (by omega)
    refine ⟨e', r', G', ?_, f2⟩
    rw [m_law_l1]
    show (m_law_row rows _).bind _ = _
    rw [g1]
    simp only [Option.bind_some]
    show (m_Gates_leaf G l).bind _ = _
    rw [g2]
    simp only [Option.bind_some]
    rw [if_neg (by rw [is_edge_self]; decide), grd_t (decide_eq_true (by omega))]
    exact f1
theorem law_true (ns : List Int) (h : ns.length ≤ 63) : m_law ns = some true := by
  obtain ⟨seed, h1, hseed⟩ := seed_ok ns
  unfold m_law
  rw [bs h1]
  have e0 : m_law_same_rows m_Gates_init.rows [[Sum.inr ("no" : Str)]] = some true := same_rows _ sim_init.ok (by decide)
  rw [bs e0]
  rw [if_neg (by decide)]
  obtain ⟨edges, rows, G, g1, S, hn, hp, hl1, hl2⟩ := starts_ok [2, 1] [0, 1] [[Sum.inr ("no" : Str)]] m_Gates_init sim_init (by decide) (by decide) (by decide) (by decide)
  have g1' : m_law_l1 ([(2 : Int), (1 : Int)] : (List Int)) (([(0 : Int), (1 : Int)] : (List Int)), ([([Sum.inr ("no" : Str)] : List Key)] : (List (List Key))), (M_Gates.mk ((m_Gates_init).rows) ((m_Gates_init).known))) = some (Flw.done (edges, rows, G)) := g1
  rw [bs g1']
  dsimp only
  obtain ⟨d1, s1, t1, t10, t11, S1⟩ := take_ok ns [0, 0, seed] 12 ⟨0, 0, seed, rfl, by decide, by decide, hseed⟩ (by decide) (by decide)
  rw [bs t1]
  obtain ⟨d2, s2, t2, t20, t21, S2⟩ := take_ok ns s1 8 S1 (by decide) (by decide)
  rw [bs t2]
  have cnt : ∃ count, (if (decide (d2 = (5 : Int))) = true then some ((((3 : Int) + d1) + (40 : Int)), s2) else some (((3 : Int) + d1), s2)) = some (count, s2) ∧ 0 ≤ count ∧ count < 100 := by
    by_cases c : d2 = 5
    · rw [if_pos (decide_eq_true c)]; exact ⟨_, rfl, by omega, by omega⟩
    · rw [if_neg (by simpa using c)]; exact ⟨_, rfl, by omega, by omega⟩
  obtain ⟨count, hc, c0, c1⟩ := cnt
  rw [bs hc]
  rw [grd_t (rngOk_t (by omega) (by omega))]
  obtain ⟨s3, edges3, rows3, G3, q1, S3, M3, n3, p3, l3, l4⟩ := calls_ok ns (pyRange 0 count.toNat) s2 edges rows G S2 S hn hp (by rw [pyRange_len]; omega) (by rw [pyRange_len]; omega)
  have q1' : m_law_l2 ns (pyRange 0 count.toNat) (s2, edges, rows, M_Gates.mk G.rows G.known) = some (Flw.done (s3, edges3, rows3, G3)) := q1
  rw [bs q1']
  dsimp only
  rw [M3.eqr, same_rows rows3 M3.ok (by omega)]
  simp only [Option.bind_some]
  rw [if_neg (by decide)]
  obtain ⟨a, s4, h4, S4, ha⟩ := edge_ok ns s3 edges3 S3 n3 (by omega) p3
  rw [bs h4]
  obtain ⟨b, s5, h5, S5, hb⟩ := edge_ok ns s4 edges3 S4 n3 (by omega) p3
  rw [bs h5]
  obtain ⟨e, r6, G6, u1, u2, M6, u4, u5, u6⟩ := both_sim M3 ha hb (by omega)
  rw [bs u1]
  have eG : M_Gates.mk rows3 G3.known = G3 := by rw [← M3.eqr]
  rw [eG, bs u2]
  rw [if_neg (by rw [is_edge_self]; decide)]
  have u6' : m_Gates_both (M_Gates.mk G6.rows G6.known) b a = some (e, G6) := u6
  rw [bs u6', bs rfl, if_neg (by show ¬ (!m_law_is_edge e e) = true; rw [is_edge_self]; decide), bs e0, if_neg (by decide)]
  obtain ⟨G7, u7⟩ := twin_leaf
  have u7' : m_Gates_leaf (M_Gates.mk m_Gates_init.rows m_Gates_init.known) 7 = some (2, G7) := u7
  rw [bs u7', bs rfl, if_neg (by show ¬ (!m_law_is_edge 2 2) = true; rw [is_edge_self]; decide)]
  show (m_law_same_rows G6.rows r6).bind _ = _
  rw [M6.eqr, same_rows r6 M6.ok (by omega)]
  rfl
end G

namespace G
open PySem PySem.Spec PyProof.Rows L2

def top (i : Nat) : Stmt := PySem.Challenge.pw_someandall_k86_gates_fold_and_share.main.body.getD i (.Pass ⟨0, 0, 0, 0⟩)

abbrev s_law_seed : Stmt := top 7

abbrev s_Gates_init : Stmt := inClass (top 5) 0

abbrev s_law_same_rows : Stmt := top 19

abbrev s_law_row : Stmt := top 10

abbrev s_law_is_edge : Stmt := top 20

abbrev s_Gates_edge_of : Stmt := inClass (top 5) 1

abbrev s_Gates_leaf : Stmt := inClass (top 5) 2

abbrev s_law_take : Stmt := top 8

abbrev s_law_letter : Stmt := top 15

abbrev s_law_edge : Stmt := top 16

abbrev s_opposite : Stmt := top 4

abbrev s_Gates_both : Stmt := inClass (top 5) 3

abbrev s_Gates_every : Stmt := inClass (top 5) 7

abbrev s_Gates_either : Stmt := inClass (top 5) 4

abbrev s_Gates_one_of : Stmt := inClass (top 5) 8

abbrev s_law_opposite : Stmt := top 9

abbrev s_law_both : Stmt := top 11

abbrev s_law_either : Stmt := top 12

abbrev s_law_folded : Stmt := top 17

abbrev s_law_differ : Stmt := top 13

abbrev s_Gates_differ : Stmt := inClass (top 5) 5

abbrev s_law_choose : Stmt := top 14

abbrev s_Gates_choose : Stmt := inClass (top 5) 6

abbrev s_law_call : Stmt := top 18

abbrev s_law : Stmt := top 21

def fl_Gates (v0 v1 : V) : List (Str × V) := putF "_known" v1 (putF "rows" v0 ([]))
theorem fl_Gates_few {v0 v1 : V} : (fl_Gates v0 v1).length < 1000 := Nat.lt_of_le_of_lt (fewl (fewl (Nat.le_refl 0))) (by decide)
theorem fn_Gates_rows_known : ¬ (("rows" : Str) = "_known") := by decide +kernel
theorem fn_Gates_known_rows : ¬ (("_known" : Str) = "rows") := by decide +kernel
theorem fl_Gates_rows {v0 v1 : V} : (fl_Gates v0 v1).lookup ("rows" : Str) = some v0 := by
  unfold fl_Gates
  rw [lookup_putF, if_neg fn_Gates_rows_known, lookup_putF, if_pos rfl]
theorem fl_Gates_known {v0 v1 : V} : (fl_Gates v0 v1).lookup ("_known" : Str) = some v1 := by
  unfold fl_Gates
  rw [lookup_putF, if_pos rfl]
theorem fl_Gates_no_edge_of {v0 v1 : V} : (fl_Gates v0 v1).lookup ("_edge_of" : Str) = none := by
  unfold fl_Gates
  rw [lookup_putF, if_neg (show ¬ (("_edge_of" : Str) = "_known") by decide +kernel), lookup_putF, if_neg (show ¬ (("_edge_of" : Str) = "rows") by decide +kernel)]
  rfl
theorem fl_Gates_no_both {v0 v1 : V} : (fl_Gates v0 v1).lookup ("both" : Str) = none := by
  unfold fl_Gates
  rw [lookup_putF, if_neg (show ¬ (("both" : Str) = "_known") by decide +kernel), lookup_putF, if_neg (show ¬ (("both" : Str) = "rows") by decide +kernel)]
  rfl
theorem fl_Gates_no_choose {v0 v1 : V} : (fl_Gates v0 v1).lookup ("choose" : Str) = none := by
  unfold fl_Gates
  rw [lookup_putF, if_neg (show ¬ (("choose" : Str) = "_known") by decide +kernel), lookup_putF, if_neg (show ¬ (("choose" : Str) = "rows") by decide +kernel)]
  rfl
theorem fl_Gates_no_differ {v0 v1 : V} : (fl_Gates v0 v1).lookup ("differ" : Str) = none := by
  unfold fl_Gates
  rw [lookup_putF, if_neg (show ¬ (("differ" : Str) = "_known") by decide +kernel), lookup_putF, if_neg (show ¬ (("differ" : Str) = "rows") by decide +kernel)]
  rfl
theorem fl_Gates_no_either {v0 v1 : V} : (fl_Gates v0 v1).lookup ("either" : Str) = none := by
  unfold fl_Gates
  rw [lookup_putF, if_neg (show ¬ (("either" : Str) = "_known") by decide +kernel), lookup_putF, if_neg (show ¬ (("either" : Str) = "rows") by decide +kernel)]
  rfl
theorem fl_Gates_no_every {v0 v1 : V} : (fl_Gates v0 v1).lookup ("every" : Str) = none := by
  unfold fl_Gates
  rw [lookup_putF, if_neg (show ¬ (("every" : Str) = "_known") by decide +kernel), lookup_putF, if_neg (show ¬ (("every" : Str) = "rows") by decide +kernel)]
  rfl
theorem fl_Gates_no_leaf {v0 v1 : V} : (fl_Gates v0 v1).lookup ("leaf" : Str) = none := by
  unfold fl_Gates
  rw [lookup_putF, if_neg (show ¬ (("leaf" : Str) = "_known") by decide +kernel), lookup_putF, if_neg (show ¬ (("leaf" : Str) = "rows") by decide +kernel)]
  rfl
theorem fl_Gates_no_one_of {v0 v1 : V} : (fl_Gates v0 v1).lookup ("one_of" : Str) = none := by
  unfold fl_Gates
  rw [lookup_putF, if_neg (show ¬ (("one_of" : Str) = "_known") by decide +kernel), lookup_putF, if_neg (show ¬ (("one_of" : Str) = "rows") by decide +kernel)]
  rfl

structure Txt (K : PySem.W.Frag) (mg : Str → Option Value) where
  z_abs : mg "abs" = none
  z_bool : mg "bool" = none
  z_int : mg "int" = none
  z_isinstance : mg "isinstance" = none
  z_len : mg "len" = none
  z_list : mg "list" = none
  z_max : mg "max" = none
  z_min : mg "min" = none
  z_range : mg "range" = none
  z_tuple : mg "tuple" = none
  t_NO : Tok
  g_NO : mg "NO" = some (.int 0 t_NO)
  t_YES : Tok
  g_YES : mg "YES" = some (.int 1 t_YES)
  a_law_seed : Addr
  d_law_seed : FuncData
  F_law_seed : Fun K "_law_seed" "_law_seed" s_law_seed a_law_seed d_law_seed
  b_law_seed : Binds K d_law_seed ["script"] []
  g_law_seed : mg "_law_seed" = some (.ref a_law_seed)
  a_Gates_init : Addr
  d_Gates_init : FuncData
  F_Gates_init : Fun K "__init__" "Gates.__init__" s_Gates_init a_Gates_init d_Gates_init
  b_Gates_init : Binds K d_Gates_init ["self"] []
  a_law_same_rows : Addr
  d_law_same_rows : FuncData
  F_law_same_rows : Fun K "_law_same_rows" "_law_same_rows" s_law_same_rows a_law_same_rows d_law_same_rows
  b_law_same_rows : Binds K d_law_same_rows ["actual", "rows"] []
  g_law_same_rows : mg "_law_same_rows" = some (.ref a_law_same_rows)
  a_law_row : Addr
  d_law_row : FuncData
  F_law_row : Fun K "_law_row" "_law_row" s_law_row a_law_row d_law_row
  b_law_row : Binds K d_law_row ["rows", "row"] []
  g_law_row : mg "_law_row" = some (.ref a_law_row)
  a_law_is_edge : Addr
  d_law_is_edge : FuncData
  F_law_is_edge : Fun K "_law_is_edge" "_law_is_edge" s_law_is_edge a_law_is_edge d_law_is_edge
  b_law_is_edge : Binds K d_law_is_edge ["actual", "due"] []
  g_law_is_edge : mg "_law_is_edge" = some (.ref a_law_is_edge)
  a_Gates_edge_of : Addr
  d_Gates_edge_of : FuncData
  F_Gates_edge_of : Fun K "_edge_of" "Gates._edge_of" s_Gates_edge_of a_Gates_edge_of d_Gates_edge_of
  b_Gates_edge_of : Binds K d_Gates_edge_of ["self", "row"] []
  a_Gates_leaf : Addr
  d_Gates_leaf : FuncData
  F_Gates_leaf : Fun K "leaf" "Gates.leaf" s_Gates_leaf a_Gates_leaf d_Gates_leaf
  b_Gates_leaf : Binds K d_Gates_leaf ["self", "letter"] []
  a_law_take : Addr
  d_law_take : FuncData
  F_law_take : Fun K "_law_take" "_law_take" s_law_take a_law_take d_law_take
  b_law_take : Binds K d_law_take ["script", "source", "size"] []
  g_law_take : mg "_law_take" = some (.ref a_law_take)
  a_law_letter : Addr
  d_law_letter : FuncData
  F_law_letter : Fun K "_law_letter" "_law_letter" s_law_letter a_law_letter d_law_letter
  b_law_letter : Binds K d_law_letter ["script", "source"] []
  g_law_letter : mg "_law_letter" = some (.ref a_law_letter)
  a_law_edge : Addr
  d_law_edge : FuncData
  F_law_edge : Fun K "_law_edge" "_law_edge" s_law_edge a_law_edge d_law_edge
  b_law_edge : Binds K d_law_edge ["script", "source", "edges"] []
  g_law_edge : mg "_law_edge" = some (.ref a_law_edge)
  a_opposite : Addr
  d_opposite : FuncData
  F_opposite : Fun K "opposite" "opposite" s_opposite a_opposite d_opposite
  b_opposite : Binds K d_opposite ["edge"] []
  g_opposite : mg "opposite" = some (.ref a_opposite)
  a_Gates_both : Addr
  d_Gates_both : FuncData
  F_Gates_both : Fun K "both" "Gates.both" s_Gates_both a_Gates_both d_Gates_both
  b_Gates_both : Binds K d_Gates_both ["self", "a", "b"] []
  a_Gates_every : Addr
  d_Gates_every : FuncData
  F_Gates_every : Fun K "every" "Gates.every" s_Gates_every a_Gates_every d_Gates_every
  b_Gates_every : Binds K d_Gates_every ["self", "edges"] []
  a_Gates_either : Addr
  d_Gates_either : FuncData
  F_Gates_either : Fun K "either" "Gates.either" s_Gates_either a_Gates_either d_Gates_either
  b_Gates_either : Binds K d_Gates_either ["self", "a", "b"] []
  a_Gates_one_of : Addr
  d_Gates_one_of : FuncData
  F_Gates_one_of : Fun K "one_of" "Gates.one_of" s_Gates_one_of a_Gates_one_of d_Gates_one_of
  b_Gates_one_of : Binds K d_Gates_one_of ["self", "edges"] []
  a_law_opposite : Addr
  d_law_opposite : FuncData
  F_law_opposite : Fun K "_law_opposite" "_law_opposite" s_law_opposite a_law_opposite d_law_opposite
  b_law_opposite : Binds K d_law_opposite ["edge"] []
  g_law_opposite : mg "_law_opposite" = some (.ref a_law_opposite)
  a_law_both : Addr
  d_law_both : FuncData
  F_law_both : Fun K "_law_both" "_law_both" s_law_both a_law_both d_law_both
  b_law_both : Binds K d_law_both ["rows", "a", "b"] []
  g_law_both : mg "_law_both" = some (.ref a_law_both)
  a_law_either : Addr
  d_law_either : FuncData
  F_law_either : Fun K "_law_either" "_law_either" s_law_either a_law_either d_law_either
  b_law_either : Binds K d_law_either ["rows", "a", "b"] []
  g_law_either : mg "_law_either" = some (.ref a_law_either)
  a_law_folded : Addr
  d_law_folded : FuncData
  F_law_folded : Fun K "_law_folded" "_law_folded" s_law_folded a_law_folded d_law_folded
  b_law_folded : Binds K d_law_folded ["rows", "kind", "given"] []
  g_law_folded : mg "_law_folded" = some (.ref a_law_folded)
  a_law_differ : Addr
  d_law_differ : FuncData
  F_law_differ : Fun K "_law_differ" "_law_differ" s_law_differ a_law_differ d_law_differ
  b_law_differ : Binds K d_law_differ ["rows", "a", "b"] []
  g_law_differ : mg "_law_differ" = some (.ref a_law_differ)
  a_Gates_differ : Addr
  d_Gates_differ : FuncData
  F_Gates_differ : Fun K "differ" "Gates.differ" s_Gates_differ a_Gates_differ d_Gates_differ
  b_Gates_differ : Binds K d_Gates_differ ["self", "a", "b"] []
  a_law_choose : Addr
  d_law_choose : FuncData
  F_law_choose : Fun K "_law_choose" "_law_choose" s_law_choose a_law_choose d_law_choose
  b_law_choose : Binds K d_law_choose ["rows", "test", "a", "b"] []
  g_law_choose : mg "_law_choose" = some (.ref a_law_choose)
  a_Gates_choose : Addr
  d_Gates_choose : FuncData
  F_Gates_choose : Fun K "choose" "Gates.choose" s_Gates_choose a_Gates_choose d_Gates_choose
  b_Gates_choose : Binds K d_Gates_choose ["self", "test", "a", "b"] []
  a_law_call : Addr
  d_law_call : FuncData
  F_law_call : Fun K "_law_call" "_law_call" s_law_call a_law_call d_law_call
  b_law_call : Binds K d_law_call ["script", "source", "gates", "rows", "edges"] []
  g_law_call : mg "_law_call" = some (.ref a_law_call)
  a_law : Addr
  d_law : FuncData
  F_law : Fun K "law" "law" s_law a_law d_law
  b_law : Binds K d_law ["script"] []
  g_law : mg "law" = some (.ref a_law)
  a_Gates : Addr
  cl_Gates : Cls K a_Gates
  g_Gates : mg "Gates" = some (.ref a_Gates)
  n_Gates_rows : NoAttr K a_Gates "rows"
  n_Gates_known : NoAttr K a_Gates "_known"
  mk_Gates : Mk K a_Gates a_Gates_init
  h_Gates_edge_of : Meth K a_Gates "_edge_of" a_Gates_edge_of
  h_Gates_leaf : Meth K a_Gates "leaf" a_Gates_leaf
  h_Gates_both : Meth K a_Gates "both" a_Gates_both
  h_Gates_every : Meth K a_Gates "every" a_Gates_every
  h_Gates_either : Meth K a_Gates "either" a_Gates_either
  h_Gates_one_of : Meth K a_Gates "one_of" a_Gates_one_of
  h_Gates_differ : Meth K a_Gates "differ" a_Gates_differ
  h_Gates_choose : Meth K a_Gates "choose" a_Gates_choose

section
variable {P : Program} {w : World} {K : PySem.W.Frag} {mg : Str → Option Value} {base : Heap}

def sp_law_seed (T : Txt K mg) : Sp := fun vs H Q _ => ∃ (F0 : Hp) (R : Own) (a_script0 : Addr) (v_script0 : List V) (x_script0 : (List Int)) (r : Int),
  vs = [.ref a_script0] ∧ SqL K F0 a_script0 v_script0 ∧ LR (rInt F0) v_script0 x_script0 ∧ Sta F0 ([] ++ R) H ∧ m_law_seed x_script0 = some r ∧ Q (.int r) H

theorem sc_law_seed : FnScope ["script", "seed", "cell"] ["script"] (defScope s_law_seed) := ⟨rfl, rfl, rfl, by decide +kernel, rfl, by decide +kernel, by decide +kernel⟩
theorem ok_law_seed (T : Txt K mg) : FnOk P w K mg base CX0 1 T.a_law_seed T.d_law_seed ["script"] (sp_law_seed T) := by
  refine T.F_law_seed.ok sc_law_seed (fun vs H Q E h => ?_) (fun cdv A outer s H vs Q E hr h => ?_)
  · obtain ⟨_, _, _, _, _, _, rfl, _⟩ := h
    rfl
  · obtain ⟨F0, R, a_script0, v_script0, x_script0, r, rfl, hs_script0, hl_script0, S0, hm, kk⟩ := h
    have hu := hu_of hr
    unfold m_law_seed at hm
    refine ⟨_, (pss_cons (ps_set (i := 1) sc_law_seed.nd rfl (Or.inl rfl) pe_int) (pss_cons (ps_for PassesOwn.never rfl (pi_list (pv 0)) (pg_name (i := 2) sc_law_seed.nd rfl (Or.inl rfl)) (pss_one (ps_set (i := 1) sc_law_seed.nd rfl (Or.inl rfl) (pe_op op_mod (pe_op op_add (pe_op op_add (pe_op op_mul (pv 1) pe_int) (pe_op op_mod (pe_callTy call_int1 (by rfl) T.z_int (by decide +kernel) (pa_cons (pv 2) pa_nil)) pe_int)) pe_int) pe_int)))) (pss_one (ps_ret (pv 1))))), ?_⟩
    obtain ⟨y1, e2, hm3⟩ := bnd hm
    refine ⟨_, rfl, _, rfl, ⟨_, (SqL.mono hs_script0 ((Same.refl _).trans S0.sub))⟩, for_list (K := K) (a := a_script0) (xs := v_script0) (fun i σ H2 => ∃ (st1 : Int) (F16 : Hp) (o19 : Option V), σ = [some (.ref a_script0), some (.int st1), o19] ∧ H = H2 ∧ Same F0 F16 ∧ Sta F16 ([] ++ R) H2 ∧ m_law_seed_l1 (List.drop i x_script0) st1 = some y1) ⟨(1 : Int), F0, _, rfl, rfl, (Same.refl _), S0, e2⟩ (by rintro i σ H2 _ ⟨st1, F16, o19, rfl, rfl, s17, S18, _⟩; exact (SqL.mono hs_script0 (s17.trans S18.sub))) ?_ ?_⟩
    · rintro i v21 σ H2 hi ⟨st1, F16, o19, rfl, rfl, s17, S18, hm⟩
      obtain ⟨x20, hx22, rx23⟩ := LR.getV hl_script0 hi
      rw [drop_cons hx22, m_law_seed_l1] at hm
      obtain rfl := rInt_e rx23
      refine ⟨_, rfl, _, _, rfl, rfl, .inr ⟨by decide, by decide⟩, _, rfl, ?_⟩
      refine .inl ⟨_, rfl, ?_⟩
      refine ⟨_, _, rfl, rfl, (by show (0 : Int) < 2147483647; decide), _, _, rfl, rfl, _, _, rfl, rfl, _, _, rfl, rfl, (by show (0 : Int) < 2147483647; decide), ?_⟩
      exact ⟨((((st1 * (69621 : Int)) + (x20 % (2147483647 : Int))) + (7 : Int)) % (2147483647 : Int)), F16, _, rfl, rfl, s17, S18, hm⟩
    · rintro σ H2 ⟨st1, F16, o19, rfl, rfl, s17, S18, hm⟩
      rw [LR.dropEnd hl_script0, m_law_seed_l1] at hm
      obtain rfl := Option.some.inj hm
      have hm := hm3
      refine ⟨_, rfl, ?_⟩
      obtain rfl := Option.some.inj hm
      exact kk

def sp_Gates_init (T : Txt K mg) : Sp := fun vs H Q _ => ∃ (F0 : Hp) (R : Own) (a_self0 : Addr) (dx_self0 : Addr) (r : M_Gates),
  vs = [.ref a_self0] ∧ Sta F0 ([(a_self0, .ins T.a_Gates dx_self0 ([]))] ++ R) H ∧ m_Gates_init = r ∧ ∀ (F1 : Hp) (H1 : Hp) (a_self0p_rows0 : Addr) (v_self0p_rows0 : List V) (a_self0p_known0 : Addr) (v_self0p_known0 : List (List Key × V)), Same F0 F1 → Sta F1 ([(a_self0, .ins T.a_Gates dx_self0 (fl_Gates (.ref a_self0p_rows0) (.ref a_self0p_known0))), (a_self0p_rows0, .lst v_self0p_rows0), (a_self0p_known0, .dT v_self0p_known0)] ++ R) H1 → LR (rKT F1) v_self0p_rows0 r.rows → KR id (rInt F1) v_self0p_known0 r.known → Q (.non) H1

theorem sc_Gates_init : FnScope ["self"] ["self"] (defScope s_Gates_init) := ⟨rfl, rfl, rfl, by decide +kernel, rfl, by decide +kernel, by decide +kernel⟩
theorem ok_Gates_init (T : Txt K mg) : FnOk P w K mg base CX0 1 T.a_Gates_init T.d_Gates_init ["self"] (sp_Gates_init T) := by
  refine T.F_Gates_init.ok sc_Gates_init (fun vs H Q E h => ?_) (fun cdv A outer s H vs Q E hr h => ?_)
  · obtain ⟨_, _, _, _, _, rfl, _⟩ := h
    rfl
  · obtain ⟨F0, R, a_self0, dx_self0, r, rfl, S0, hm, kk⟩ := h
    have hu := hu_of hr
    unfold m_Gates_init at hm
    refine ⟨_, (pss_cons (ps_fld (pv 0) (pe_lst (pa_cons (pe_tup (pa_cons pe_str pa_nil)) pa_nil)) rfl) (pss_one (ps_fld (pv 0) pe_dnewT rfl))), ?_⟩
    refine ⟨(by show 1 ≤ sizeLine; decide), ?_⟩
    intro a1 np2
    obtain ⟨F3, s4, S5, h6⟩ : ∃ F', Same F0 F' ∧ Sta F' ([(a_self0, .ins T.a_Gates dx_self0 ([]))] ++ R) _ ∧ F' a1 = some (.tup (([Sum.inr ("no" : Str)] : List Key).map kV)) := ⟨_, S0.sameF np2 _, S0.newF np2 _, upd_same⟩
    refine ⟨(by show 1 ≤ sizeLine; decide), ?_⟩
    intro a7 np8
    have hl9 : LR (rKT F3) [.ref a1] ([([Sum.inr ("no" : Str)] : List Key)] : (List (List Key))) := ⟨⟨_, rfl, (Same.refl _) _ _ h6⟩, trivial⟩
    have S10 : Sta F3 ([(a7, .lst [.ref a1]), (a_self0, .ins T.a_Gates dx_self0 ([]))] ++ R) _ := S5.new np8 _
    refine ⟨_, rfl, _, _, _, _, rfl, (S10.get 1 rfl), T.cl_Gates, T.n_Gates_rows, (Nat.lt_of_le_of_lt (Nat.le_refl 0) (by decide)), ?_⟩
    have S11 : Sta F3 ([(a7, .lst [.ref a1]), (a_self0, .ins T.a_Gates dx_self0 (putF "rows" (.ref a7) ([])))] ++ R) _ := S10.set 1 rfl _
    intro a12 np13
    have hl14 : KR id (rInt F3) ([] : List (List Key × V)) ([] : (List ((List Key) × Int))) := trivial
    have S15 : Sta F3 ([(a12, .dT []), (a7, .lst [.ref a1]), (a_self0, .ins T.a_Gates dx_self0 (putF "rows" (.ref a7) ([])))] ++ R) _ := S11.new np13 _
    refine ⟨_, rfl, _, _, _, _, rfl, (S15.get 2 rfl), T.cl_Gates, T.n_Gates_known, (Nat.lt_of_le_of_lt (fewl (Nat.le_refl 0)) (by decide)), ?_⟩
    have S16 : Sta F3 ([(a12, .dT []), (a7, .lst [.ref a1]), (a_self0, .ins T.a_Gates dx_self0 (fl_Gates (.ref a7) (.ref a12)))] ++ R) _ := S15.set 2 rfl _
    obtain rfl := hm
    have S17 : Sta F3 ([(a_self0, .ins T.a_Gates dx_self0 (fl_Gates (.ref a7) (.ref a12))), (a7, .lst [.ref a1]), (a12, .dT [])] ++ R) _ := S16.pick [2, 1, 0] (by decide) rfl
    exact kk _ _ a7 [.ref a1] a12 [] s4 S17 hl9 hl14

def sp_law_same_rows (T : Txt K mg) : Sp := fun vs H Q _ => ∃ (F0 : Hp) (R : Own) (a_actual0 : Addr) (v_actual0 : List V) (x_actual0 : (List (List Key))) (a_rows0 : Addr) (v_rows0 : List V) (x_rows0 : (List (List Key))) (r : Bool),
  vs = [.ref a_actual0, .ref a_rows0] ∧ SqL K (ov F0 R) a_actual0 v_actual0 ∧ LR (rKT F0) v_actual0 x_actual0 ∧ SqL K (ov F0 R) a_rows0 v_rows0 ∧ LR (rKT F0) v_rows0 x_rows0 ∧ Sta F0 ([] ++ R) H ∧ m_law_same_rows x_actual0 x_rows0 = some r ∧ Q (.bl r) H

theorem sc_law_same_rows : FnScope ["actual", "rows", "k"] ["actual", "rows"] (defScope s_law_same_rows) := ⟨rfl, rfl, rfl, by decide +kernel, rfl, by decide +kernel, by decide +kernel⟩
theorem ok_law_same_rows (T : Txt K mg) : FnOk P w K mg base CX0 1 T.a_law_same_rows T.d_law_same_rows ["actual", "rows"] (sp_law_same_rows T) := by
  refine T.F_law_same_rows.ok sc_law_same_rows (fun vs H Q E h => ?_) (fun cdv A outer s H vs Q E hr h => ?_)
  · obtain ⟨_, _, _, _, _, _, _, _, _, rfl, _⟩ := h
    rfl
  · obtain ⟨F0, R, a_actual0, v_actual0, x_actual0, a_rows0, v_rows0, x_rows0, r, rfl, hs_actual0, hl_actual0, hs_rows0, hl_rows0, S0, hm, kk⟩ := h
    have hu := hu_of hr
    unfold m_law_same_rows at hm
    refine ⟨_, (pss_cons (ps_if (pt_pure (PW.pt (pw_or (pt_not (pt_val (pe_callB call_isi (by rfl) T.z_isinstance (by decide +kernel) (pa_cons (pv 0) (pa_cons (pe_bltn (v := .ty "list") (by rfl) T.z_list (by decide +kernel) rfl) pa_nil))))) (pw_or1 (pt_cmpR oI_ne (pe_callB call_len_seq (by rfl) T.z_len PySem.boot_len (pa_cons (pv 0) pa_nil)) (pe_callB call_len_seq (by rfl) T.z_len PySem.boot_len (pa_cons (pv 1) pa_nil)) (nomark _)))))) (pss_one (ps_ret pe_bl)) pss_nil) (pss_cons (ps_for PassesOwn.never rfl (pi_range1 rfl T.z_range (pa_cons (pe_callB call_len_seq (by rfl) T.z_len PySem.boot_len (pa_cons (pv 1) pa_nil)) pa_nil)) (pg_name (i := 2) sc_law_same_rows.nd rfl (Or.inl rfl)) (pss_one (ps_if (pt_pure (PW.pt (pw_or (pt_not (pt_val (pe_callB call_isi (by rfl) T.z_isinstance (by decide +kernel) (pa_cons (pe_ix ix_list (pv 0) (pv 2) (fun _ _ => rfl)) (pa_cons (pe_bltn (v := .ty "tuple") (by rfl) T.z_tuple (by decide +kernel) rfl) pa_nil))))) (pw_or1 (pt_cmpR (op_neD hr.units) (pe_ix ix_list (pv 0) (pv 2) (fun _ _ => rfl)) (pe_ix ix_list (pv 1) (pv 2) (fun _ _ => rfl)) (nomark _)))))) (pss_one (ps_ret pe_bl)) pss_nil))) (pss_one (ps_ret pe_bl)))), ?_⟩
    refine ⟨(!decide ((x_actual0.length : Int) = (x_rows0.length : Int))), ?_, ?_⟩
    · refine ⟨_, rfl, _, _, _, _, _, rfl, .ty _, (tyx_list (SqL.mono hs_actual0 (S0.bor (Same.refl _) (fun _ q => List.mem_append_right _ q)))), (by first | rfl | exact PySem.W.kitOne_builtin rfl | decide +kernel), _, rfl, ?_⟩
      refine iteF ?_
      refine ⟨_, rfl, _, _, rfl, .inl (SqL.mono hs_actual0 (S0.bor (Same.refl _) (fun _ q => List.mem_append_right _ q))), ?_⟩
      rw [LR.length hl_actual0]
      refine ⟨_, rfl, _, _, rfl, .inl (SqL.mono hs_rows0 (S0.bor (Same.refl _) (fun _ q => List.mem_append_right _ q))), ?_⟩
      rw [LR.length hl_rows0]
      refine ⟨_, _, rfl, rfl, _, rfl, ?_⟩
      exact ⟨rfl, rfl⟩
    by_cases c1 : (!decide ((x_actual0.length : Int) = (x_rows0.length : Int))) = true
    · have hm := ifT hm c1
      refine goT c1 ?_
      obtain rfl := Option.some.inj hm
      exact kk
    · have hm := ifF hm c1
      refine goF c1 ?_
      refine ⟨_, rfl, _, _, rfl, .inl (SqL.mono hs_rows0 (S0.bor (Same.refl _) (fun _ q => List.mem_append_right _ q))), ?_⟩
      rw [LR.length hl_rows0]
      obtain ⟨g5, hm⟩ := grd_ok hm
      obtain ⟨y2, e3, hm4⟩ := bnd hm
      refine ⟨_, rfl, (rngOk_lo g5), (rngOk_hi g5), for_rng (lo := 0) (n := (x_rows0.length : Int).toNat) (fun i σ H2 => ∃ (st1 : Unit) (F18 : Hp) (o21 : Option V), σ = [some (.ref a_actual0), some (.ref a_rows0), o21] ∧ H = H2 ∧ Same F0 F18 ∧ Sta F18 ([] ++ R) H2 ∧ m_law_same_rows_l1 x_actual0 x_rows0 (List.drop i (pyRange 0 (x_rows0.length : Int).toNat)) st1 = some y2) ⟨(), F0, _, rfl, rfl, (Same.refl _), S0, e3⟩ ?_ ?_⟩
      · rintro i x22 σ H2 hi ⟨st1, F18, o21, rfl, rfl, s19, S20, hm⟩
        rw [drop_cons hi, m_law_same_rows_l1] at hm
        obtain ⟨b24, e25, hm⟩ := bnd hm
        refine ⟨b24, ?_, ?_⟩
        · have hm := e25
          obtain ⟨y26, e27, hm⟩ := bnd hm
          obtain ⟨v28, ev29, rv30⟩ := LR.atI hl_actual0 e27
          obtain ⟨a31, rfl, h32⟩ := rv30
          refine ⟨_, rfl, _, rfl, _, _, _, _, rfl, rfl, (SqL.mono hs_actual0 (S20.bor s19 (fun _ q => List.mem_append_right _ q))), ev29, _, _, _, _, _, rfl, .ty _, (tyx_tup (SqT.of (S20.sub _ _ (s19 _ _ h32)))), (by first | rfl | exact PySem.W.kitOne_builtin rfl | decide +kernel), _, rfl, ?_⟩
          refine iteF ?_
          obtain ⟨y33, e34, hm⟩ := bnd hm
          obtain ⟨v35, ev36, rv37⟩ := LR.atI hl_actual0 e34
          obtain ⟨a38, rfl, h39⟩ := rv37
          obtain ⟨y40, e41, hm⟩ := bnd hm
          obtain ⟨v42, ev43, rv44⟩ := LR.atI hl_rows0 e41
          obtain ⟨a45, rfl, h46⟩ := rv44
          obtain ⟨g47, hm⟩ := grd_ok hm
          obtain ⟨g48, hm⟩ := grd_ok hm
          refine ⟨_, rfl, _, rfl, _, _, _, _, rfl, rfl, (SqL.mono hs_actual0 (S20.bor s19 (fun _ q => List.mem_append_right _ q))), ev36, _, rfl, _, rfl, _, _, _, _, rfl, rfl, (SqL.mono hs_rows0 (S20.bor s19 (fun _ q => List.mem_append_right _ q))), ev43, _, _, (dat_dp (K := K) (r := rKT) (MonoR.mono (r := rKT) S20.sub ⟨_, rfl, s19 _ _ h39⟩)), (dat_dp (K := K) (r := rKT) (MonoR.mono (r := rKT) S20.sub ⟨_, rfl, s19 _ _ h46⟩)), (dat_shaped (K := K) (r := rKT) (Nat.le_of_ble_eq_true rfl) _ g47), (dat_shaped (K := K) (r := rKT) (Nat.le_of_ble_eq_true rfl) _ g48), ?_⟩
          rw [dat_eqv (K := K) (r := rKT) y33 y40]
          refine ⟨_, rfl, ?_⟩
          exact ⟨Option.some.inj hm, rfl⟩
        by_cases c49 : b24 = true
        · have hm := ifT hm c49
          refine goT c49 ?_
          obtain rfl := Option.some.inj hm
          have hm := hm4
          obtain rfl := Option.some.inj hm
          exact kk
        · have hm := ifF hm c49
          refine goF c49 ?_
          exact ⟨(), F18, _, rfl, rfl, s19, S20, hm⟩
      · rintro σ H2 ⟨st1, F18, o21, rfl, rfl, s19, S20, hm⟩
        rw [drop_rng, m_law_same_rows_l1] at hm
        obtain rfl := Option.some.inj hm
        have hm := hm4
        obtain rfl := Option.some.inj hm
        exact kk

def sp_law_row (T : Txt K mg) : Sp := fun vs H Q _ => ∃ (F0 : Hp) (R : Own) (a_rows0 : Addr) (v_rows0 : List V) (x_rows0 : (List (List Key))) (a_row0 : Addr) (x_row0 : (List Key)) (r : (Int × (List (List Key)))),
  vs = [.ref a_rows0, .ref a_row0] ∧ LR (rKT F0) v_rows0 x_rows0 ∧ F0 a_row0 = some (.tup (x_row0.map kV)) ∧ Sta F0 ([(a_rows0, .lst v_rows0)] ++ R) H ∧ m_law_row x_rows0 x_row0 = some r ∧ ∀ (F1 : Hp) (H1 : Hp) (v_rows0p : List V), Same F0 F1 → Sta F1 ([(a_rows0, .lst v_rows0p)] ++ R) H1 → LR (rKT F1) v_rows0p r.2 → Q (.int r.1) H1

theorem sc_law_row : FnScope ["rows", "row", "k"] ["rows", "row"] (defScope s_law_row) := ⟨rfl, rfl, rfl, by decide +kernel, rfl, by decide +kernel, by decide +kernel⟩
theorem ok_law_row (T : Txt K mg) : FnOk P w K mg base CX0 1 T.a_law_row T.d_law_row ["rows", "row"] (sp_law_row T) := by
  refine T.F_law_row.ok sc_law_row (fun vs H Q E h => ?_) (fun cdv A outer s H vs Q E hr h => ?_)
  · obtain ⟨_, _, _, _, _, _, _, _, rfl, _⟩ := h
    rfl
  · obtain ⟨F0, R, a_rows0, v_rows0, x_rows0, a_row0, x_row0, r, rfl, hl_rows0, hs_row0, S0, hm, kk⟩ := h
    have hu := hu_of hr
    unfold m_law_row at hm
    refine ⟨_, (pss_cons (ps_for PassesOwn.never rfl (pi_range1 rfl T.z_range (pa_cons (pe_callB call_len_seq (by rfl) T.z_len PySem.boot_len (pa_cons (pv 0) pa_nil)) pa_nil)) (pg_name (i := 2) sc_law_row.nd rfl (Or.inl rfl)) (pss_one (ps_if (pt_cmpR (op_eqD hr.units) (pe_ix ix_list (pv 0) (pv 2) (fun _ _ => rfl)) (pv 1) (nomark _)) (pss_one (ps_ret (pe_op op_mul pe_int (pv 2)))) pss_nil))) (pss_cons (ps_expr (pe_bm PySem.F.plainAttrs_list PySem.F.slot_list_append PySem.F.type_list_append mt_append (pv 0) (pa_cons (pv 1) pa_nil))) (pss_one (ps_ret (pe_op op_sub (pe_op op_mul pe_int (pe_callB call_len_seq (by rfl) T.z_len PySem.boot_len (pa_cons (pv 0) pa_nil))) pe_int))))), ?_⟩
    refine ⟨_, rfl, _, _, rfl, .inl (SqL.of (S0.get 0 rfl)), ?_⟩
    rw [LR.length hl_rows0]
    obtain ⟨g4, hm⟩ := grd_ok hm
    obtain ⟨y1, e2, hm3⟩ := bnd hm
    refine ⟨_, rfl, (rngOk_lo g4), (rngOk_hi g4), for_rng (lo := 0) (n := (x_rows0.length : Int).toNat) (fun i σ H2 => ∃ (st1 : Unit) (F17 : Hp) (o20 : Option V), σ = [some (.ref a_rows0), some (.ref a_row0), o20] ∧ Same F0 F17 ∧ Sta F17 ([(a_rows0, .lst v_rows0)] ++ R) H2 ∧ m_law_row_l1 x_rows0 x_row0 (List.drop i (pyRange 0 (x_rows0.length : Int).toNat)) st1 = some y1) ⟨(), F0, _, rfl, (Same.refl _), S0, e2⟩ ?_ ?_⟩
    · rintro i x21 σ H2 hi ⟨st1, F17, o20, rfl, s18, S19, hm⟩
      rw [drop_cons hi, m_law_row_l1] at hm
      obtain ⟨y23, e24, hm⟩ := bnd hm
      obtain ⟨v25, ev26, rv27⟩ := LR.atI hl_rows0 e24
      obtain ⟨a28, rfl, h29⟩ := rv27
      obtain ⟨g30, hm⟩ := grd_ok hm
      obtain ⟨g31, hm⟩ := grd_ok hm
      refine ⟨_, rfl, _, rfl, _, _, _, _, rfl, rfl, (SqL.of (S19.get 0 rfl)), ev26, _, rfl, _, _, (dat_dp (K := K) (r := rKT) (MonoR.mono (r := rKT) S19.sub ⟨_, rfl, s18 _ _ h29⟩)), (dat_dp (K := K) (r := rKT) (MonoR.mono (r := rKT) S19.sub ⟨_, rfl, s18 _ _ hs_row0⟩)), (dat_shaped (K := K) (r := rKT) (Nat.le_of_ble_eq_true rfl) _ g30), (dat_shaped (K := K) (r := rKT) (Nat.le_of_ble_eq_true rfl) _ g31), ?_⟩
      rw [dat_eqv (K := K) (r := rKT) y23 x_row0]
      refine ⟨_, rfl, ?_⟩
      by_cases c32 : (decide (y23 = x_row0)) = true
      · have hm := ifT hm c32
        refine goT c32 ?_
        refine ⟨_, rfl, _, _, rfl, rfl, .inl ⟨by decide, by decide⟩, ?_⟩
        obtain rfl := Option.some.inj hm
        have hm := hm3
        obtain rfl := Option.some.inj hm
        exact kk _ _ v_rows0 s18 S19 (hl_rows0.mono s18)
      · have hm := ifF hm c32
        refine goF c32 ?_
        exact ⟨(), F17, _, rfl, s18, S19, hm⟩
    · rintro σ H2 ⟨st1, F17, o20, rfl, s18, S19, hm⟩
      rw [drop_rng, m_law_row_l1] at hm
      obtain rfl := Option.some.inj hm
      have hm := hm3
      obtain ⟨g33, hm⟩ := grd_ok hm
      refine ⟨_, rfl, .inl ⟨rfl, _, (SqL.of (S19.get 0 rfl))⟩, _, rfl, _, _, _, rfl, rfl, (S19.get 0 rfl), (by rw [LR.length (hl_rows0.mono s18)]; exact of_decide_eq_true g33), ?_⟩
      have hl34 : LR (rKT F17) (v_rows0 ++ [.ref a_row0]) (x_rows0 ++ [x_row0]) := LR.snoc (hl_rows0.mono s18) ⟨_, rfl, s18 _ _ hs_row0⟩
      have S35 : Sta F17 ([(a_rows0, .lst (v_rows0 ++ [.ref a_row0]))] ++ R) _ := S19.set 0 rfl _
      refine ⟨_, rfl, _, _, rfl, .inl (SqL.of (S35.get 0 rfl)), ?_⟩
      rw [LR.length hl34]
      refine ⟨_, _, rfl, rfl, .inl ⟨by decide, by decide⟩, _, _, rfl, rfl, ?_⟩
      obtain rfl := Option.some.inj hm
      exact kk _ _ (v_rows0 ++ [.ref a_row0]) s18 S35 hl34

def sp_law_is_edge (T : Txt K mg) : Sp := fun vs H Q _ => ∃ (x_actual0 : Int) (x_due0 : Int) (r : Bool),
  vs = [.int x_actual0, .int x_due0] ∧ m_law_is_edge x_actual0 x_due0 = r ∧ Q (.bl r) H

theorem sc_law_is_edge : FnScope ["actual", "due"] ["actual", "due"] (defScope s_law_is_edge) := ⟨rfl, rfl, rfl, by decide +kernel, rfl, by decide +kernel, by decide +kernel⟩
theorem ok_law_is_edge (T : Txt K mg) : FnOk P w K mg base CX0 1 T.a_law_is_edge T.d_law_is_edge ["actual", "due"] (sp_law_is_edge T) := by
  refine T.F_law_is_edge.ok sc_law_is_edge (fun vs H Q E h => ?_) (fun cdv A outer s H vs Q E hr h => ?_)
  · obtain ⟨_, _, _, rfl, _⟩ := h
    rfl
  · obtain ⟨x_actual0, x_due0, r, rfl, hm, kk⟩ := h
    have hu := hu_of hr
    unfold m_law_is_edge at hm
    refine ⟨_, (pss_one (ps_ret (pe_pure (pe_and (pe_callB call_isi (by rfl) T.z_isinstance (by decide +kernel) (pa_cons (pv 0) (pa_cons (pe_bltn (v := .ty "int") (by rfl) T.z_int (by decide +kernel) rfl) pa_nil))) (pe_and (pe_not (pe_callB call_isi (by rfl) T.z_isinstance (by decide +kernel) (pa_cons (pv 0) (pa_cons (pe_bltn (v := .ty "bool") (by rfl) T.z_bool (by decide +kernel) rfl) pa_nil)))) (pe_one (pe_cmpR oI_eq (pv 0) (pv 1) (nomark _)))))))), ?_⟩
    refine ⟨.bl (decide (x_actual0 = x_due0)), ?_, ?_⟩
    · refine ⟨_, rfl, _, _, _, _, _, rfl, .ty _, (.base (.int _)), (by first | rfl | exact PySem.W.kitOne_builtin rfl | decide +kernel), _, rfl, ?_⟩
      refine iteT ?_
      refine ⟨_, rfl, _, _, _, _, _, rfl, .ty _, (.base (.int _)), (by first | rfl | exact PySem.W.kitOne_builtin rfl | decide +kernel), _, rfl, _, rfl, ?_⟩
      refine iteT ?_
      refine ⟨_, rfl, _, rfl, _, _, rfl, rfl, ?_⟩
      exact ⟨rfl, rfl⟩
    obtain rfl := hm
    exact kk

def sp_Gates_edge_of (T : Txt K mg) : Sp := fun vs H Q _ => ∃ (F0 : Hp) (R : Own) (a_self0 : Addr) (dx_self0 : Addr) (x_self0 : M_Gates) (a_self0_rows0 : Addr) (v_self0_rows0 : List V) (a_self0_known0 : Addr) (v_self0_known0 : List (List Key × V)) (a_row0 : Addr) (x_row0 : (List Key)) (r : (Int × M_Gates)),
  vs = [.ref a_self0, .ref a_row0] ∧ LR (rKT F0) v_self0_rows0 x_self0.rows ∧ KR id (rInt F0) v_self0_known0 x_self0.known ∧ F0 a_row0 = some (.tup (x_row0.map kV)) ∧ Sta F0 ([(a_self0, .ins T.a_Gates dx_self0 (fl_Gates (.ref a_self0_rows0) (.ref a_self0_known0))), (a_self0_rows0, .lst v_self0_rows0), (a_self0_known0, .dT v_self0_known0)] ++ R) H ∧ m_Gates_edge_of x_self0 x_row0 = some r ∧ ∀ (F1 : Hp) (H1 : Hp) (a_self0p_rows0 : Addr) (v_self0p_rows0 : List V) (a_self0p_known0 : Addr) (v_self0p_known0 : List (List Key × V)), Same F0 F1 → Sta F1 ([(a_self0, .ins T.a_Gates dx_self0 (fl_Gates (.ref a_self0p_rows0) (.ref a_self0p_known0))), (a_self0p_rows0, .lst v_self0p_rows0), (a_self0p_known0, .dT v_self0p_known0)] ++ R) H1 → LR (rKT F1) v_self0p_rows0 r.2.rows → KR id (rInt F1) v_self0p_known0 r.2.known → Q (.int r.1) H1

theorem sc_Gates_edge_of : FnScope ["self", "row"] ["self", "row"] (defScope s_Gates_edge_of) := ⟨rfl, rfl, rfl, by decide +kernel, rfl, by decide +kernel, by decide +kernel⟩
theorem ok_Gates_edge_of (T : Txt K mg) : FnOk P w K mg base CX0 1 T.a_Gates_edge_of T.d_Gates_edge_of ["self", "row"] (sp_Gates_edge_of T) := by
  refine T.F_Gates_edge_of.ok sc_Gates_edge_of (fun vs H Q E h => ?_) (fun cdv A outer s H vs Q E hr h => ?_)
  · obtain ⟨_, _, _, _, _, _, _, _, _, _, _, _, rfl, _⟩ := h
    rfl
  · obtain ⟨F0, R, a_self0, dx_self0, x_self0, a_self0_rows0, v_self0_rows0, a_self0_known0, v_self0_known0, a_row0, x_row0, r, rfl, hl_self0_rows0, hl_self0_known0, hs_row0, S0, hm, kk⟩ := h
    have hu := hu_of hr
    unfold m_Gates_edge_of at hm
    refine ⟨_, (C8.pss_cut (ps_if (pt_cmp (pc_dnotin hu (pv 1) (pe_fld (pv 0) rfl))) (pss_cons (ps_dput hu (pe_fld (pv 0) rfl) (pv 1) (pe_op op_mul pe_int (pe_callB call_len_seq (by rfl) T.z_len PySem.boot_len (pa_cons (pe_fld (pv 0) rfl) pa_nil))) rfl) (pss_one (ps_expr (pe_bm PySem.F.plainAttrs_list PySem.F.slot_list_append PySem.F.type_list_append mt_append (pe_fld (pv 0) rfl) (pa_cons (pv 1) pa_nil))))) pss_nil) (pss_one (ps_ret (pe_dget hu (pe_fld (pv 0) rfl) (pv 1) (fun _ _ => rfl))))), ?_⟩
    obtain ⟨y10, e11, hm⟩ := bnd hm
    refine ⟨fun σ H2 => ∃ (F1 : Hp) (a4 : Addr) (v5 : List V) (a7 : Addr) (v8 : List (List Key × V)), σ = [some (.ref a_self0), some (.ref a_row0)] ∧ Same F0 F1 ∧ Sta F1 ([(a_self0, .ins T.a_Gates dx_self0 (fl_Gates (.ref a4) (.ref a7))), (a4, .lst v5), (a7, .dT v8)] ++ R) H2 ∧ LR (rKT F1) v5 y10.rows ∧ KR id (rInt F1) v8 y10.known, ?_, ?_⟩
    · have hm := e11
      refine ⟨_, rfl, _, rfl, _, _, _, _, _, rfl, (S0.get 0 rfl), T.cl_Gates, T.n_Gates_known, fl_Gates_known, _, _, rfl, (DGet.t (k := id x_row0) (S0.get 2 rfl) (S0.sub _ _ ((Same.refl _) _ _ hs_row0))), ?_⟩
      rw [show _ = (!(mget x_self0.known x_row0).isSome) from (congrArg (!·) (KR.some_eq hl_self0_known0 (kinj_K) x_row0))]
      refine ⟨_, rfl, ?_⟩
      by_cases c12 : (!(mget x_self0.known x_row0).isSome) = true
      · have hm := ifT hm c12
        refine goT c12 ?_
        refine ⟨_, rfl, _, _, _, _, _, rfl, (S0.get 0 rfl), T.cl_Gates, T.n_Gates_rows, fl_Gates_rows, _, _, rfl, .inl (SqL.of (S0.get 1 rfl)), ?_⟩
        rw [LR.length hl_self0_rows0]
        obtain ⟨g13, hm⟩ := grd_ok hm
        refine ⟨_, _, rfl, rfl, .inl ⟨by decide, by decide⟩, _, rfl, _, _, _, _, _, rfl, (S0.get 0 rfl), T.cl_Gates, T.n_Gates_known, fl_Gates_known, _, rfl, _, _, rfl, (DPut.t (k := id x_row0) (S0.get 2 rfl) (S0.sub _ _ ((Same.refl _) _ _ hs_row0)) (by rw [KR.length hl_self0_known0]; exact of_decide_eq_true g13)), ?_⟩
        have hl14 : KR id (rInt F0) (putK v_self0_known0 (id x_row0) (.int ((2 : Int) * (x_self0.rows.length : Int)))) (mput x_self0.known x_row0 ((2 : Int) * (x_self0.rows.length : Int))) := KR.put hl_self0_known0 kinj_K rfl
        have S15 : Sta F0 ([(a_self0, .ins T.a_Gates dx_self0 (fl_Gates (.ref a_self0_rows0) (.ref a_self0_known0))), (a_self0_rows0, .lst v_self0_rows0), (a_self0_known0, .dT (putK v_self0_known0 (id x_row0) (.int ((2 : Int) * (x_self0.rows.length : Int)))))] ++ R) _ := S0.set 2 rfl _
        obtain ⟨g16, hm⟩ := grd_ok hm
        refine ⟨_, rfl, _, _, _, _, _, rfl, (S15.get 0 rfl), T.cl_Gates, T.n_Gates_rows, fl_Gates_rows, .inl ⟨rfl, _, (SqL.of (S15.get 1 rfl))⟩, _, rfl, _, _, _, rfl, rfl, (S15.get 1 rfl), (by rw [LR.length hl_self0_rows0]; exact of_decide_eq_true g16), ?_⟩
        have hl17 : LR (rKT F0) (v_self0_rows0 ++ [.ref a_row0]) (x_self0.rows ++ [x_row0]) := LR.snoc hl_self0_rows0 ⟨_, rfl, (Same.refl _) _ _ hs_row0⟩
        have S18 : Sta F0 ([(a_self0, .ins T.a_Gates dx_self0 (fl_Gates (.ref a_self0_rows0) (.ref a_self0_known0))), (a_self0_rows0, .lst (v_self0_rows0 ++ [.ref a_row0])), (a_self0_known0, .dT (putK v_self0_known0 (id x_row0) (.int ((2 : Int) * (x_self0.rows.length : Int)))))] ++ R) _ := S15.set 1 rfl _
        obtain rfl := Option.some.inj hm
        exact ⟨F0, a_self0_rows0, (v_self0_rows0 ++ [.ref a_row0]), a_self0_known0, (putK v_self0_known0 (id x_row0) (.int ((2 : Int) * (x_self0.rows.length : Int)))), rfl, (Same.refl _), S18, hl17, hl14⟩
      · have hm := ifF hm c12
        refine goF c12 ?_
        obtain rfl := Option.some.inj hm
        exact ⟨F0, a_self0_rows0, v_self0_rows0, a_self0_known0, v_self0_known0, rfl, (Same.refl _), S0, hl_self0_rows0, hl_self0_known0⟩
    · rintro σ H2 ⟨F1, a4, v5, a7, v8, rfl, s2, S3, hl6, hl9⟩
      obtain ⟨y19, e20, hm⟩ := bnd hm
      obtain ⟨v21, ev22, rv23⟩ := KR.get hl9 kinj_K e20
      obtain rfl := rInt_e rv23
      refine ⟨_, rfl, _, _, _, _, _, rfl, (S3.get 0 rfl), T.cl_Gates, T.n_Gates_known, fl_Gates_known, _, rfl, _, _, rfl, (dget_of (DGet.t (k := id x_row0) (S3.get 2 rfl) (S3.sub _ _ (s2 _ _ hs_row0))) ev22), ?_⟩
      obtain rfl := Option.some.inj hm
      exact kk _ _ a4 v5 a7 v8 s2 S3 hl6 hl9

def sp_Gates_leaf (T : Txt K mg) : Sp := fun vs H Q _ => ∃ (F0 : Hp) (R : Own) (a_self0 : Addr) (dx_self0 : Addr) (x_self0 : M_Gates) (a_self0_rows0 : Addr) (v_self0_rows0 : List V) (a_self0_known0 : Addr) (v_self0_known0 : List (List Key × V)) (x_letter0 : Int) (r : (Int × M_Gates)),
  vs = [.ref a_self0, .int x_letter0] ∧ LR (rKT F0) v_self0_rows0 x_self0.rows ∧ KR id (rInt F0) v_self0_known0 x_self0.known ∧ Sta F0 ([(a_self0, .ins T.a_Gates dx_self0 (fl_Gates (.ref a_self0_rows0) (.ref a_self0_known0))), (a_self0_rows0, .lst v_self0_rows0), (a_self0_known0, .dT v_self0_known0)] ++ R) H ∧ m_Gates_leaf x_self0 x_letter0 = some r ∧ ∀ (F1 : Hp) (H1 : Hp) (a_self0p_rows0 : Addr) (v_self0p_rows0 : List V) (a_self0p_known0 : Addr) (v_self0p_known0 : List (List Key × V)), Same F0 F1 → Sta F1 ([(a_self0, .ins T.a_Gates dx_self0 (fl_Gates (.ref a_self0p_rows0) (.ref a_self0p_known0))), (a_self0p_rows0, .lst v_self0p_rows0), (a_self0p_known0, .dT v_self0p_known0)] ++ R) H1 → LR (rKT F1) v_self0p_rows0 r.2.rows → KR id (rInt F1) v_self0p_known0 r.2.known → Q (.int r.1) H1

theorem sc_Gates_leaf : FnScope ["self", "letter"] ["self", "letter"] (defScope s_Gates_leaf) := ⟨rfl, rfl, rfl, by decide +kernel, rfl, by decide +kernel, by decide +kernel⟩
theorem ok_Gates_leaf (T : Txt K mg) : FnOk P w K mg base CX0 2 T.a_Gates_leaf T.d_Gates_leaf ["self", "letter"] (sp_Gates_leaf T) := by
  refine T.F_Gates_leaf.ok sc_Gates_leaf (fun vs H Q E h => ?_) (fun cdv A outer s H vs Q E hr h => ?_)
  · obtain ⟨_, _, _, _, _, _, _, _, _, _, _, rfl, _⟩ := h
    rfl
  · obtain ⟨F0, R, a_self0, dx_self0, x_self0, a_self0_rows0, v_self0_rows0, a_self0_known0, v_self0_known0, x_letter0, r, rfl, hl_self0_rows0, hl_self0_known0, S0, hm, kk⟩ := h
    have hu := hu_of hr
    unfold m_Gates_leaf at hm
    refine ⟨_, (pss_one (ps_ret (pe_meth (pv 0) T.cl_Gates T.h_Gates_edge_of (ok_Gates_edge_of T) (hr.mono (by decide)) T.b_Gates_edge_of .nil pass0 (pa_cons (pe_tup (pa_cons pe_str (pa_cons (pv 1) pa_nil))) pa_nil)))), ?_⟩
    refine ⟨_, rfl, _, _, _, rfl, (S0.get 0 rfl), fl_Gates_no_edge_of, _, rfl, (by show 2 ≤ sizeLine; decide), ?_⟩
    intro a1 np2
    obtain ⟨F3, s4, S5, h6⟩ : ∃ F', Same F0 F' ∧ Sta F' ([(a_self0, .ins T.a_Gates dx_self0 (fl_Gates (.ref a_self0_rows0) (.ref a_self0_known0))), (a_self0_rows0, .lst v_self0_rows0), (a_self0_known0, .dT v_self0_known0)] ++ R) _ ∧ F' a1 = some (.tup (([Sum.inr ("letter" : Str), Sum.inl x_letter0] : List Key).map kV)) := ⟨_, S0.sameF np2 _, S0.newF np2 _, upd_same⟩
    obtain ⟨y7, e8, hm⟩ := bnd hm
    refine ⟨F3, ([] ++ R), a_self0, dx_self0, (M_Gates.mk x_self0.rows x_self0.known), a_self0_rows0, v_self0_rows0, a_self0_known0, v_self0_known0, a1, ([Sum.inr ("letter" : Str), Sum.inl x_letter0] : List Key), _, rfl, (hl_self0_rows0.mono s4), (KR.mono hl_self0_known0 s4), ((Same.refl _) _ _ h6), S5, e8, fun F9 H10 a13 v14 a16 v17 s11 S12 hl15 hl18 => ?_⟩
    have S19 : Sta F9 ([(a_self0, .ins T.a_Gates dx_self0 (fl_Gates (.ref a13) (.ref a16))), (a13, .lst v14), (a16, .dT v17)] ++ R) _ := S12
    obtain rfl := Option.some.inj hm
    exact kk _ _ a13 v14 a16 v17 (s4.trans s11) S19 hl15 hl18

def sp_law_take (T : Txt K mg) : Sp := fun vs H Q _ => ∃ (F0 : Hp) (R : Own) (a_script0 : Addr) (v_script0 : List V) (x_script0 : (List Int)) (a_source0 : Addr) (v_source0 : List V) (x_source0 : (List Int)) (x_size0 : Int) (r : (Int × (List Int))),
  vs = [.ref a_script0, .ref a_source0, .int x_size0] ∧ SqL K F0 a_script0 v_script0 ∧ LR (rInt F0) v_script0 x_script0 ∧ LR (rInt F0) v_source0 x_source0 ∧ Sta F0 ([(a_source0, .lst v_source0)] ++ R) H ∧ m_law_take x_script0 x_source0 x_size0 = some r ∧ ∀ (F1 : Hp) (H1 : Hp) (v_source0p : List V), Same F0 F1 → Sta F1 ([(a_source0, .lst v_source0p)] ++ R) H1 → LR (rInt F1) v_source0p r.2 → Q (.int r.1) H1

theorem sc_law_take : FnScope ["script", "source", "size", "digit"] ["script", "source", "size"] (defScope s_law_take) := ⟨rfl, rfl, rfl, by decide +kernel, rfl, by decide +kernel, by decide +kernel⟩
theorem ok_law_take (T : Txt K mg) : FnOk P w K mg base CX0 1 T.a_law_take T.d_law_take ["script", "source", "size"] (sp_law_take T) := by
  refine T.F_law_take.ok sc_law_take (fun vs H Q E h => ?_) (fun cdv A outer s H vs Q E hr h => ?_)
  · obtain ⟨_, _, _, _, _, _, _, _, _, _, rfl, _⟩ := h
    rfl
  · obtain ⟨F0, R, a_script0, v_script0, x_script0, a_source0, v_source0, x_source0, x_size0, r, rfl, hs_script0, hl_script0, hl_source0, S0, hm, kk⟩ := h
    have hu := hu_of hr
    unfold m_law_take at hm
    refine ⟨_, (C8.pss_cut (ps_if (pt_pure (PW.pt (pw_and (pt_cmpR oI_eq (pe_ix ix_list (pv 1) pe_int (fun _ _ => rfl)) pe_int (nomark _)) (pw_and1 (pt_cmpR op_lt (pe_ix ix_list (pv 1) pe_int (fun _ _ => rfl)) (pe_callB call_len_seq (by rfl) T.z_len PySem.boot_len (pa_cons (pv 0) pa_nil)) (nomark _)))))) (pss_cons (ps_asg (pe_callB call_abs (by rfl) T.z_abs (by decide +kernel) (pa_cons (pe_ix ix_list (pv 0) (pe_ix ix_list (pv 1) pe_int (fun _ _ => rfl)) (fun _ _ => rfl)) pa_nil)) (pg_sub (pv 1) pe_int set_list)) (pss_one (ps_asg (pe_op op_add (pe_ix ix_list (pv 1) pe_int (fun _ _ => rfl)) pe_int) (pg_sub (pv 1) pe_int set_list)))) pss_nil) (pss_cons (ps_if (pt_cmpR op_gt (pe_ix ix_list (pv 1) pe_int (fun _ _ => rfl)) pe_int (nomark _)) (pss_cons (ps_set (i := 3) sc_law_take.nd rfl (Or.inl rfl) (pe_op op_mod (pe_callTy call_int1 (by rfl) T.z_int (by decide +kernel) (pa_cons (pe_ix ix_list (pv 1) pe_int (fun _ _ => rfl)) pa_nil)) (pv 2))) (pss_cons (ps_asg (pe_op op_fdiv (pe_ix ix_list (pv 1) pe_int (fun _ _ => rfl)) (pv 2)) (pg_sub (pv 1) pe_int set_list)) (pss_one (ps_ret (pv 3))))) pss_nil) (pss_cons (ps_asg (pe_op op_mod (pe_op op_add (pe_op op_mul (pe_ix ix_list (pv 1) pe_int (fun _ _ => rfl)) pe_int) pe_int) pe_int) (pg_sub (pv 1) pe_int set_list)) (pss_one (ps_ret (pe_op op_mod (pe_op op_fdiv (pe_ix ix_list (pv 1) pe_int (fun _ _ => rfl)) pe_int) (pv 2))))))), ?_⟩
    obtain ⟨y6, e7, hm⟩ := bnd hm
    refine ⟨fun σ H2 => ∃ (F1 : Hp) (v4 : List V), σ = [some (.ref a_script0), some (.ref a_source0), some (.int x_size0), none] ∧ Same F0 F1 ∧ Sta F1 ([(a_source0, .lst v4)] ++ R) H2 ∧ LR (rInt F1) v4 y6, ?_, ?_⟩
    · have hm := e7
      obtain ⟨b8, e9, hm⟩ := bnd hm
      refine ⟨b8, ?_, ?_⟩
      · have hm := e9
        obtain ⟨y10, e11, hm⟩ := bnd hm
        obtain ⟨v12, ev13, rv14⟩ := LR.atI hl_source0 e11
        obtain rfl := rInt_e rv14
        refine ⟨_, rfl, _, _, _, _, rfl, rfl, (SqL.of (S0.get 0 rfl)), ev13, _, _, rfl, rfl, _, rfl, ?_⟩
        by_cases c15 : (decide (y10 = (0 : Int))) = true
        · have hm := ifT hm c15
          refine goT c15 ?_
          obtain ⟨y16, e17, hm⟩ := bnd hm
          obtain ⟨v18, ev19, rv20⟩ := LR.atI hl_source0 e17
          obtain rfl := rInt_e rv20
          refine ⟨_, rfl, _, _, _, _, rfl, rfl, (SqL.of (S0.get 0 rfl)), ev19, _, rfl, _, _, rfl, .inl (SqL.mono hs_script0 ((Same.refl _).trans S0.sub)), ?_⟩
          rw [LR.length hl_script0]
          refine ⟨_, _, rfl, rfl, _, rfl, ?_⟩
          exact ⟨Option.some.inj hm, rfl⟩
        · have hm := ifF hm c15
          exact goF c15 ⟨Option.some.inj hm, rfl⟩
      by_cases c21 : b8 = true
      · have hm := ifT hm c21
        refine goT c21 ?_
        obtain ⟨y22, e23, hm⟩ := bnd hm
        obtain ⟨v24, ev25, rv26⟩ := LR.atI hl_source0 e23
        obtain rfl := rInt_e rv26
        obtain ⟨y27, e28, hm⟩ := bnd hm
        obtain ⟨v29, ev30, rv31⟩ := LR.atI hl_script0 e28
        obtain rfl := rInt_e rv31
        obtain ⟨j32, e33, hm⟩ := bnd hm
        refine ⟨_, rfl, _, rfl, _, _, _, _, rfl, rfl, (SqL.of (S0.get 0 rfl)), ev25, _, _, _, _, rfl, rfl, (SqL.mono hs_script0 ((Same.refl _).trans S0.sub)), ev30, _, rfl, _, rfl, _, _, _, _, rfl, rfl, (S0.get 0 rfl), (by rw [LR.length hl_source0]; exact e33), ?_⟩
        have hl34 : LR (rInt F0) (v_source0.set j32 (.int (if y27 < 0 then -y27 else y27))) (x_source0.set j32 (if y27 < 0 then -y27 else y27)) := LR.set hl_source0 rfl
        have S35 : Sta F0 ([(a_source0, .lst (v_source0.set j32 (.int (if y27 < 0 then -y27 else y27))))] ++ R) _ := S0.set 0 rfl _
        obtain ⟨y36, e37, hm⟩ := bnd hm
        obtain ⟨v38, ev39, rv40⟩ := LR.atI hl34 e37
        obtain rfl := rInt_e rv40
        obtain ⟨j41, e42, hm⟩ := bnd hm
        refine ⟨_, rfl, _, _, _, _, rfl, rfl, (SqL.of (S35.get 0 rfl)), ev39, _, _, rfl, rfl, _, rfl, _, _, _, _, rfl, rfl, (S35.get 0 rfl), (by rw [LR.length hl34]; exact e42), ?_⟩
        have hl43 : LR (rInt F0) ((v_source0.set j32 (.int (if y27 < 0 then -y27 else y27))).set j41 (.int (y36 + (1 : Int)))) ((x_source0.set j32 (if y27 < 0 then -y27 else y27)).set j41 (y36 + (1 : Int))) := LR.set hl34 rfl
        have S44 : Sta F0 ([(a_source0, .lst ((v_source0.set j32 (.int (if y27 < 0 then -y27 else y27))).set j41 (.int (y36 + (1 : Int)))))] ++ R) _ := S35.set 0 rfl _
        obtain rfl := Option.some.inj hm
        exact ⟨F0, ((v_source0.set j32 (.int (if y27 < 0 then -y27 else y27))).set j41 (.int (y36 + (1 : Int)))), rfl, (Same.refl _), S44, hl43⟩
      · have hm := ifF hm c21
        refine goF c21 ?_
        obtain rfl := Option.some.inj hm
        exact ⟨F0, v_source0, rfl, (Same.refl _), S0, hl_source0⟩
    · rintro σ H2 ⟨F1, v4, rfl, s2, S3, hl5⟩
      obtain ⟨y45, e46, hm⟩ := bnd hm
      obtain ⟨v47, ev48, rv49⟩ := LR.atI hl5 e46
      obtain rfl := rInt_e rv49
      refine ⟨_, rfl, _, _, _, _, rfl, rfl, (SqL.of (S3.get 0 rfl)), ev48, _, _, rfl, rfl, _, rfl, ?_⟩
      by_cases c50 : (decide (y45 > (0 : Int))) = true
      · have hm := ifT hm c50
        refine goT c50 ?_
        obtain ⟨y51, e52, hm⟩ := bnd hm
        obtain ⟨v53, ev54, rv55⟩ := LR.atI hl5 e52
        obtain rfl := rInt_e rv55
        refine ⟨_, rfl, _, _, _, _, rfl, rfl, (SqL.of (S3.get 0 rfl)), ev54, ?_⟩
        refine .inl ⟨_, rfl, ?_⟩
        obtain ⟨g56, hm⟩ := grd_ok hm
        refine ⟨_, rfl, _, _, rfl, rfl, divOk_mod g56, ?_⟩
        obtain ⟨y57, e58, hm⟩ := bnd hm
        obtain ⟨v59, ev60, rv61⟩ := LR.atI hl5 e58
        obtain rfl := rInt_e rv61
        obtain ⟨g62, hm⟩ := grd_ok hm
        obtain ⟨j63, e64, hm⟩ := bnd hm
        refine ⟨_, rfl, _, _, _, _, rfl, rfl, (SqL.of (S3.get 0 rfl)), ev60, _, rfl, _, _, rfl, rfl, divOk_fdiv g62, _, rfl, _, _, _, _, rfl, rfl, (S3.get 0 rfl), (by rw [LR.length hl5]; exact e64), ?_⟩
        have hl65 : LR (rInt F1) (v4.set j63 (.int (y57 / x_size0))) (y6.set j63 (y57 / x_size0)) := LR.set hl5 rfl
        have S66 : Sta F1 ([(a_source0, .lst (v4.set j63 (.int (y57 / x_size0))))] ++ R) _ := S3.set 0 rfl _
        refine ⟨_, rfl, ?_⟩
        obtain rfl := Option.some.inj hm
        exact kk _ _ (v4.set j63 (.int (y57 / x_size0))) s2 S66 hl65
      · have hm := ifF hm c50
        refine goF c50 ?_
        obtain ⟨y67, e68, hm⟩ := bnd hm
        obtain ⟨v69, ev70, rv71⟩ := LR.atI hl5 e68
        obtain rfl := rInt_e rv71
        obtain ⟨j72, e73, hm⟩ := bnd hm
        refine ⟨_, rfl, _, _, _, _, rfl, rfl, (SqL.of (S3.get 0 rfl)), ev70, _, _, rfl, rfl, .inr ⟨by decide, by decide⟩, _, _, rfl, rfl, _, _, rfl, rfl, (by show (0 : Int) < 2147483647; decide), _, rfl, _, _, _, _, rfl, rfl, (S3.get 0 rfl), (by rw [LR.length hl5]; exact e73), ?_⟩
        have hl74 : LR (rInt F1) (v4.set j72 (.int (((y67 * (48271 : Int)) + (12345 : Int)) % (2147483647 : Int)))) (y6.set j72 (((y67 * (48271 : Int)) + (12345 : Int)) % (2147483647 : Int))) := LR.set hl5 rfl
        have S75 : Sta F1 ([(a_source0, .lst (v4.set j72 (.int (((y67 * (48271 : Int)) + (12345 : Int)) % (2147483647 : Int)))))] ++ R) _ := S3.set 0 rfl _
        obtain ⟨y76, e77, hm⟩ := bnd hm
        obtain ⟨v78, ev79, rv80⟩ := LR.atI hl74 e77
        obtain rfl := rInt_e rv80
        obtain ⟨g81, hm⟩ := grd_ok hm
        refine ⟨_, rfl, _, _, _, _, rfl, rfl, (SqL.of (S75.get 0 rfl)), ev79, _, _, rfl, rfl, ⟨by decide, by decide⟩, _, rfl, _, _, rfl, rfl, divOk_mod g81, ?_⟩
        obtain rfl := Option.some.inj hm
        exact kk _ _ (v4.set j72 (.int (((y67 * (48271 : Int)) + (12345 : Int)) % (2147483647 : Int)))) s2 S75 hl74

def sp_law_letter (T : Txt K mg) : Sp := fun vs H Q _ => ∃ (F0 : Hp) (R : Own) (a_script0 : Addr) (v_script0 : List V) (x_script0 : (List Int)) (a_source0 : Addr) (v_source0 : List V) (x_source0 : (List Int)) (r : (Int × (List Int))),
  vs = [.ref a_script0, .ref a_source0] ∧ SqL K F0 a_script0 v_script0 ∧ LR (rInt F0) v_script0 x_script0 ∧ LR (rInt F0) v_source0 x_source0 ∧ Sta F0 ([(a_source0, .lst v_source0)] ++ R) H ∧ m_law_letter x_script0 x_source0 = some r ∧ ∀ (F1 : Hp) (H1 : Hp) (v_source0p : List V), Same F0 F1 → Sta F1 ([(a_source0, .lst v_source0p)] ++ R) H1 → LR (rInt F1) v_source0p r.2 → Q (.int r.1) H1

theorem sc_law_letter : FnScope ["script", "source"] ["script", "source"] (defScope s_law_letter) := ⟨rfl, rfl, rfl, by decide +kernel, rfl, by decide +kernel, by decide +kernel⟩
theorem ok_law_letter (T : Txt K mg) : FnOk P w K mg base CX0 2 T.a_law_letter T.d_law_letter ["script", "source"] (sp_law_letter T) := by
  refine T.F_law_letter.ok sc_law_letter (fun vs H Q E h => ?_) (fun cdv A outer s H vs Q E hr h => ?_)
  · obtain ⟨_, _, _, _, _, _, _, _, _, rfl, _⟩ := h
    rfl
  · obtain ⟨F0, R, a_script0, v_script0, x_script0, a_source0, v_source0, x_source0, r, rfl, hs_script0, hl_script0, hl_source0, S0, hm, kk⟩ := h
    have hu := hu_of hr
    unfold m_law_letter at hm
    refine ⟨_, (pss_cons (ps_if (pt_cmpR oI_eq (pe_call (ok_law_take T) (hr.mono (by decide)) rfl T.g_law_take T.F_law_take.kp T.b_law_take .nil pass0 (pa_cons (pv 0) (pa_cons (pv 1) (pa_cons pe_int pa_nil)))) pe_int (nomark _)) (pss_one (ps_ret (pe_op op_sub pe_int (pe_call (ok_law_take T) (hr.mono (by decide)) rfl T.g_law_take T.F_law_take.kp T.b_law_take .nil pass0 (pa_cons (pv 0) (pa_cons (pv 1) (pa_cons pe_int pa_nil))))))) pss_nil) (pss_one (ps_ret (pe_op op_add pe_int (pe_call (ok_law_take T) (hr.mono (by decide)) rfl T.g_law_take T.F_law_take.kp T.b_law_take .nil pass0 (pa_cons (pv 0) (pa_cons (pv 1) (pa_cons pe_int pa_nil)))))))), ?_⟩
    obtain ⟨y1, e2, hm⟩ := bnd hm
    refine ⟨_, rfl, _, rfl, F0, ([] ++ R), a_script0, v_script0, x_script0, a_source0, v_source0, x_source0, (8 : Int), _, rfl, (SqL.mono hs_script0 (Same.refl _)), (hl_script0), hl_source0, S0, e2, fun F3 H4 v7 s5 S6 hl8 => ?_⟩
    have S9 : Sta F3 ([(a_source0, .lst v7)] ++ R) _ := S6
    refine ⟨_, _, rfl, rfl, _, rfl, ?_⟩
    by_cases c10 : (decide (y1.1 = (7 : Int))) = true
    · have hm := ifT hm c10
      refine goT c10 ?_
      obtain ⟨y11, e12, hm⟩ := bnd hm
      refine ⟨_, rfl, _, rfl, F3, ([] ++ R), a_script0, v_script0, x_script0, a_source0, v7, y1.2, (3 : Int), _, rfl, (SqL.mono hs_script0 s5), ((hl_script0.mono s5)), hl8, S9, e12, fun F13 H14 v17 s15 S16 hl18 => ?_⟩
      have S19 : Sta F13 ([(a_source0, .lst v17)] ++ R) _ := S16
      refine ⟨_, _, rfl, rfl, ?_⟩
      obtain rfl := Option.some.inj hm
      exact kk _ _ v17 (s5.trans s15) S19 hl18
    · have hm := ifF hm c10
      refine goF c10 ?_
      obtain ⟨y20, e21, hm⟩ := bnd hm
      refine ⟨_, rfl, _, rfl, F3, ([] ++ R), a_script0, v_script0, x_script0, a_source0, v7, y1.2, (6 : Int), _, rfl, (SqL.mono hs_script0 s5), ((hl_script0.mono s5)), hl8, S9, e21, fun F22 H23 v26 s24 S25 hl27 => ?_⟩
      have S28 : Sta F22 ([(a_source0, .lst v26)] ++ R) _ := S25
      refine ⟨_, _, rfl, rfl, ?_⟩
      obtain rfl := Option.some.inj hm
      exact kk _ _ v26 (s5.trans s24) S28 hl27

def sp_law_edge (T : Txt K mg) : Sp := fun vs H Q _ => ∃ (F0 : Hp) (R : Own) (a_script0 : Addr) (v_script0 : List V) (x_script0 : (List Int)) (a_source0 : Addr) (v_source0 : List V) (x_source0 : (List Int)) (a_edges0 : Addr) (v_edges0 : List V) (x_edges0 : (List Int)) (r : (Int × (List Int))),
  vs = [.ref a_script0, .ref a_source0, .ref a_edges0] ∧ SqL K F0 a_script0 v_script0 ∧ LR (rInt F0) v_script0 x_script0 ∧ LR (rInt F0) v_source0 x_source0 ∧ SqL K (ov F0 R) a_edges0 v_edges0 ∧ LR (rInt F0) v_edges0 x_edges0 ∧ Sta F0 ([(a_source0, .lst v_source0)] ++ R) H ∧ m_law_edge x_script0 x_source0 x_edges0 = some r ∧ ∀ (F1 : Hp) (H1 : Hp) (v_source0p : List V), Same F0 F1 → Sta F1 ([(a_source0, .lst v_source0p)] ++ R) H1 → LR (rInt F1) v_source0p r.2 → Q (.int r.1) H1

theorem sc_law_edge : FnScope ["script", "source", "edges"] ["script", "source", "edges"] (defScope s_law_edge) := ⟨rfl, rfl, rfl, by decide +kernel, rfl, by decide +kernel, by decide +kernel⟩
theorem ok_law_edge (T : Txt K mg) : FnOk P w K mg base CX0 2 T.a_law_edge T.d_law_edge ["script", "source", "edges"] (sp_law_edge T) := by
  refine T.F_law_edge.ok sc_law_edge (fun vs H Q E h => ?_) (fun cdv A outer s H vs Q E hr h => ?_)
  · obtain ⟨_, _, _, _, _, _, _, _, _, _, _, _, rfl, _⟩ := h
    rfl
  · obtain ⟨F0, R, a_script0, v_script0, x_script0, a_source0, v_source0, x_source0, a_edges0, v_edges0, x_edges0, r, rfl, hs_script0, hl_script0, hl_source0, hs_edges0, hl_edges0, S0, hm, kk⟩ := h
    have hu := hu_of hr
    unfold m_law_edge at hm
    refine ⟨_, (pss_one (ps_ret (pe_ix ix_list (pv 2) (pe_call (ok_law_take T) (hr.mono (by decide)) rfl T.g_law_take T.F_law_take.kp T.b_law_take .nil pass0 (pa_cons (pv 0) (pa_cons (pv 1) (pa_cons (pe_callB call_len_seq (by rfl) T.z_len PySem.boot_len (pa_cons (pv 2) pa_nil)) pa_nil)))) (fun _ _ => rfl)))), ?_⟩
    refine ⟨_, rfl, _, rfl, _, rfl, _, rfl, _, _, rfl, .inl (SqL.mono hs_edges0 (S0.bor (Same.refl _) (fun _ q => List.mem_append_right _ q))), ?_⟩
    rw [LR.length hl_edges0]
    obtain ⟨y1, e2, hm⟩ := bnd hm
    refine ⟨F0, ([] ++ R), a_script0, v_script0, x_script0, a_source0, v_source0, x_source0, (x_edges0.length : Int), _, rfl, (SqL.mono hs_script0 (Same.refl _)), (hl_script0), hl_source0, S0, e2, fun F3 H4 v7 s5 S6 hl8 => ?_⟩
    have S9 : Sta F3 ([(a_source0, .lst v7)] ++ R) _ := S6
    obtain ⟨y10, e11, hm⟩ := bnd hm
    obtain ⟨v12, ev13, rv14⟩ := LR.atI hl_edges0 e11
    obtain rfl := rInt_e rv14
    refine ⟨_, _, _, _, rfl, rfl, (SqL.mono hs_edges0 (S9.bor s5 (fun _ q => List.mem_append_right _ q))), ev13, ?_⟩
    obtain rfl := Option.some.inj hm
    exact kk _ _ v7 s5 S9 hl8

def sp_opposite (T : Txt K mg) : Sp := fun vs H Q _ => ∃ (x_edge0 : Int) (r : Int),
  vs = [.int x_edge0] ∧ m_opposite x_edge0 = r ∧ Q (.int r) H

theorem sc_opposite : FnScope ["edge"] ["edge"] (defScope s_opposite) := ⟨rfl, rfl, rfl, by decide +kernel, rfl, by decide +kernel, by decide +kernel⟩
theorem ok_opposite (T : Txt K mg) : FnOk P w K mg base CX0 1 T.a_opposite T.d_opposite ["edge"] (sp_opposite T) := by
  refine T.F_opposite.ok sc_opposite (fun vs H Q E h => ?_) (fun cdv A outer s H vs Q E hr h => ?_)
  · obtain ⟨_, _, rfl, _⟩ := h
    rfl
  · obtain ⟨x_edge0, r, rfl, hm, kk⟩ := h
    have hu := hu_of hr
    unfold m_opposite at hm
    refine ⟨_, (pss_one (ps_ret (pe_op op_xor (pv 0) pe_int))), ?_⟩
    refine ⟨_, rfl, _, _, rfl, rfl, ?_⟩
    obtain rfl := hm
    exact kk

def sp_Gates_both (T : Txt K mg) : Sp := fun vs H Q _ => ∃ (F0 : Hp) (R : Own) (a_self0 : Addr) (dx_self0 : Addr) (x_self0 : M_Gates) (a_self0_rows0 : Addr) (v_self0_rows0 : List V) (a_self0_known0 : Addr) (v_self0_known0 : List (List Key × V)) (x_a0 : Int) (x_b0 : Int) (r : (Int × M_Gates)),
  vs = [.ref a_self0, .int x_a0, .int x_b0] ∧ LR (rKT F0) v_self0_rows0 x_self0.rows ∧ KR id (rInt F0) v_self0_known0 x_self0.known ∧ Sta F0 ([(a_self0, .ins T.a_Gates dx_self0 (fl_Gates (.ref a_self0_rows0) (.ref a_self0_known0))), (a_self0_rows0, .lst v_self0_rows0), (a_self0_known0, .dT v_self0_known0)] ++ R) H ∧ m_Gates_both x_self0 x_a0 x_b0 = some r ∧ ∀ (F1 : Hp) (H1 : Hp) (a_self0p_rows0 : Addr) (v_self0p_rows0 : List V) (a_self0p_known0 : Addr) (v_self0p_known0 : List (List Key × V)), Same F0 F1 → Sta F1 ([(a_self0, .ins T.a_Gates dx_self0 (fl_Gates (.ref a_self0p_rows0) (.ref a_self0p_known0))), (a_self0p_rows0, .lst v_self0p_rows0), (a_self0p_known0, .dT v_self0p_known0)] ++ R) H1 → LR (rKT F1) v_self0p_rows0 r.2.rows → KR id (rInt F1) v_self0p_known0 r.2.known → Q (.int r.1) H1

theorem sc_Gates_both : FnScope ["self", "a", "b", "low", "high"] ["self", "a", "b"] (defScope s_Gates_both) := ⟨rfl, rfl, rfl, by decide +kernel, rfl, by decide +kernel, by decide +kernel⟩
theorem ok_Gates_both (T : Txt K mg) : FnOk P w K mg base CX0 2 T.a_Gates_both T.d_Gates_both ["self", "a", "b"] (sp_Gates_both T) := by
  refine T.F_Gates_both.ok sc_Gates_both (fun vs H Q E h => ?_) (fun cdv A outer s H vs Q E hr h => ?_)
  · obtain ⟨_, _, _, _, _, _, _, _, _, _, _, _, rfl, _⟩ := h
    rfl
  · obtain ⟨F0, R, a_self0, dx_self0, x_self0, a_self0_rows0, v_self0_rows0, a_self0_known0, v_self0_known0, x_a0, x_b0, r, rfl, hl_self0_rows0, hl_self0_known0, S0, hm, kk⟩ := h
    have hu := hu_of hr
    unfold m_Gates_both at hm
    refine ⟨_, (pss_cons (ps_set (i := 3) sc_Gates_both.nd rfl (Or.inl rfl) (pe_callB (call_min2 rfl) (by rfl) T.z_min (by decide +kernel) (pa_cons (pv 1) (pa_cons (pv 2) pa_nil)))) (pss_cons (ps_set (i := 4) sc_Gates_both.nd rfl (Or.inl rfl) (pe_callB (call_max2 rfl) (by rfl) T.z_max (by decide +kernel) (pa_cons (pv 1) (pa_cons (pv 2) pa_nil)))) (pss_cons (ps_if (pt_pure (PW.pt (pw_or (pt_cmpR oI_eq (pv 3) (pe_glob (v := .int 0) rfl T.g_NO ⟨_, rfl⟩) (nomark _)) (pw_or1 (pt_cmpR oI_eq (pv 3) (pe_call (ok_opposite T) (hr.mono (by decide)) rfl T.g_opposite T.F_opposite.kp T.b_opposite .nil pass0 (pa_cons (pv 4) pa_nil)) (nomark _)))))) (pss_one (ps_ret (pe_glob (v := .int 0) rfl T.g_NO ⟨_, rfl⟩))) pss_nil) (pss_cons (ps_if (pt_pure (PW.pt (pw_or (pt_cmpR oI_eq (pv 3) (pe_glob (v := .int 1) rfl T.g_YES ⟨_, rfl⟩) (nomark _)) (pw_or1 (pt_cmpR oI_eq (pv 3) (pv 4) (nomark _)))))) (pss_one (ps_ret (pv 4))) pss_nil) (pss_one (ps_ret (pe_meth (pv 0) T.cl_Gates T.h_Gates_edge_of (ok_Gates_edge_of T) (hr.mono (by decide)) T.b_Gates_edge_of .nil pass0 (pa_cons (pe_tup (pa_cons pe_str (pa_cons (pv 3) (pa_cons (pv 4) pa_nil)))) pa_nil)))))))), ?_⟩
    refine ⟨_, rfl, _, rfl, _, _, rfl, ?_⟩
    refine ⟨_, rfl, _, rfl, _, _, rfl, ?_⟩
    refine ⟨((decide ((if x_b0 < x_a0 then x_b0 else x_a0) = (0 : Int))) || (decide ((if x_b0 < x_a0 then x_b0 else x_a0) = (m_opposite (if x_b0 > x_a0 then x_b0 else x_a0))))), ?_, ?_⟩
    · refine ⟨_, rfl, _, _, rfl, rfl, _, rfl, ?_⟩
      by_cases c1 : (decide ((if x_b0 < x_a0 then x_b0 else x_a0) = (0 : Int))) = true
      · exact goT c1 ⟨by simp [c1], rfl⟩
      · refine goF c1 ?_
        refine ⟨_, rfl, _, rfl, (if x_b0 > x_a0 then x_b0 else x_a0), _, rfl, rfl, _, _, rfl, rfl, _, rfl, ?_⟩
        exact ⟨by simp [c1], rfl⟩
    by_cases c2 : ((decide ((if x_b0 < x_a0 then x_b0 else x_a0) = (0 : Int))) || (decide ((if x_b0 < x_a0 then x_b0 else x_a0) = (m_opposite (if x_b0 > x_a0 then x_b0 else x_a0))))) = true
    · have hm := ifT hm c2
      refine goT c2 ?_
      obtain rfl := Option.some.inj hm
      exact kk _ _ a_self0_rows0 v_self0_rows0 a_self0_known0 v_self0_known0 (Same.refl _) S0 hl_self0_rows0 hl_self0_known0
    · have hm := ifF hm c2
      refine goF c2 ?_
      refine ⟨((decide ((if x_b0 < x_a0 then x_b0 else x_a0) = (1 : Int))) || (decide ((if x_b0 < x_a0 then x_b0 else x_a0) = (if x_b0 > x_a0 then x_b0 else x_a0)))), ?_, ?_⟩
      · refine ⟨_, rfl, _, _, rfl, rfl, _, rfl, ?_⟩
        by_cases c3 : (decide ((if x_b0 < x_a0 then x_b0 else x_a0) = (1 : Int))) = true
        · exact goT c3 ⟨by simp [c3], rfl⟩
        · refine goF c3 ?_
          refine ⟨_, rfl, _, rfl, _, _, rfl, rfl, _, rfl, ?_⟩
          exact ⟨by simp [c3], rfl⟩
      by_cases c4 : ((decide ((if x_b0 < x_a0 then x_b0 else x_a0) = (1 : Int))) || (decide ((if x_b0 < x_a0 then x_b0 else x_a0) = (if x_b0 > x_a0 then x_b0 else x_a0)))) = true
      · have hm := ifT hm c4
        refine goT c4 ?_
        refine ⟨_, rfl, ?_⟩
        obtain rfl := Option.some.inj hm
        exact kk _ _ a_self0_rows0 v_self0_rows0 a_self0_known0 v_self0_known0 (Same.refl _) S0 hl_self0_rows0 hl_self0_known0
      · have hm := ifF hm c4
        refine goF c4 ?_
        refine ⟨_, rfl, _, _, _, rfl, (S0.get 0 rfl), fl_Gates_no_edge_of, _, rfl, _, rfl, (by show 3 ≤ sizeLine; decide), ?_⟩
        intro a5 np6
        obtain ⟨F7, s8, S9, h10⟩ : ∃ F', Same F0 F' ∧ Sta F' ([(a_self0, .ins T.a_Gates dx_self0 (fl_Gates (.ref a_self0_rows0) (.ref a_self0_known0))), (a_self0_rows0, .lst v_self0_rows0), (a_self0_known0, .dT v_self0_known0)] ++ R) _ ∧ F' a5 = some (.tup (([Sum.inr ("both" : Str), Sum.inl (if x_b0 < x_a0 then x_b0 else x_a0), Sum.inl (if x_b0 > x_a0 then x_b0 else x_a0)] : List Key).map kV)) := ⟨_, S0.sameF np6 _, S0.newF np6 _, upd_same⟩
        obtain ⟨y11, e12, hm⟩ := bnd hm
        refine ⟨F7, ([] ++ R), a_self0, dx_self0, (M_Gates.mk x_self0.rows x_self0.known), a_self0_rows0, v_self0_rows0, a_self0_known0, v_self0_known0, a5, ([Sum.inr ("both" : Str), Sum.inl (if x_b0 < x_a0 then x_b0 else x_a0), Sum.inl (if x_b0 > x_a0 then x_b0 else x_a0)] : List Key), _, rfl, (hl_self0_rows0.mono s8), (KR.mono hl_self0_known0 s8), ((Same.refl _) _ _ h10), S9, e12, fun F13 H14 a17 v18 a20 v21 s15 S16 hl19 hl22 => ?_⟩
        have S23 : Sta F13 ([(a_self0, .ins T.a_Gates dx_self0 (fl_Gates (.ref a17) (.ref a20))), (a17, .lst v18), (a20, .dT v21)] ++ R) _ := S16
        obtain rfl := Option.some.inj hm
        exact kk _ _ a17 v18 a20 v21 (s8.trans s15) S23 hl19 hl22

def sp_Gates_every (T : Txt K mg) : Sp := fun vs H Q _ => ∃ (F0 : Hp) (R : Own) (a_self0 : Addr) (dx_self0 : Addr) (x_self0 : M_Gates) (a_self0_rows0 : Addr) (v_self0_rows0 : List V) (a_self0_known0 : Addr) (v_self0_known0 : List (List Key × V)) (a_edges0 : Addr) (v_edges0 : List V) (x_edges0 : (List Int)) (r : (Int × M_Gates)),
  vs = [.ref a_self0, .ref a_edges0] ∧ LR (rKT F0) v_self0_rows0 x_self0.rows ∧ KR id (rInt F0) v_self0_known0 x_self0.known ∧ SqL K (ov F0 R) a_edges0 v_edges0 ∧ LR (rInt F0) v_edges0 x_edges0 ∧ Sta F0 ([(a_self0, .ins T.a_Gates dx_self0 (fl_Gates (.ref a_self0_rows0) (.ref a_self0_known0))), (a_self0_rows0, .lst v_self0_rows0), (a_self0_known0, .dT v_self0_known0)] ++ R) H ∧ m_Gates_every x_self0 x_edges0 = some r ∧ ∀ (F1 : Hp) (H1 : Hp) (a_self0p_rows0 : Addr) (v_self0p_rows0 : List V) (a_self0p_known0 : Addr) (v_self0p_known0 : List (List Key × V)), Same F0 F1 → Sta F1 ([(a_self0, .ins T.a_Gates dx_self0 (fl_Gates (.ref a_self0p_rows0) (.ref a_self0p_known0))), (a_self0p_rows0, .lst v_self0p_rows0), (a_self0p_known0, .dT v_self0p_known0)] ++ R) H1 → LR (rKT F1) v_self0p_rows0 r.2.rows → KR id (rInt F1) v_self0p_known0 r.2.known → Q (.int r.1) H1

theorem sc_Gates_every : FnScope ["self", "edges", "result", "edge"] ["self", "edges"] (defScope s_Gates_every) := ⟨rfl, rfl, rfl, by decide +kernel, rfl, by decide +kernel, by decide +kernel⟩
theorem ok_Gates_every (T : Txt K mg) : FnOk P w K mg base CX0 3 T.a_Gates_every T.d_Gates_every ["self", "edges"] (sp_Gates_every T) := by
  refine T.F_Gates_every.ok sc_Gates_every (fun vs H Q E h => ?_) (fun cdv A outer s H vs Q E hr h => ?_)
  · obtain ⟨_, _, _, _, _, _, _, _, _, _, _, _, _, rfl, _⟩ := h
    rfl
  · obtain ⟨F0, R, a_self0, dx_self0, x_self0, a_self0_rows0, v_self0_rows0, a_self0_known0, v_self0_known0, a_edges0, v_edges0, x_edges0, r, rfl, hl_self0_rows0, hl_self0_known0, hs_edges0, hl_edges0, S0, hm, kk⟩ := h
    have hu := hu_of hr
    unfold m_Gates_every at hm
    refine ⟨_, (pss_cons (ps_set (i := 2) sc_Gates_every.nd rfl (Or.inl rfl) (pe_glob (v := .int 1) rfl T.g_YES ⟨_, rfl⟩)) (pss_cons (ps_for PassesOwn.never rfl (pi_list (pv 1)) (pg_name (i := 3) sc_Gates_every.nd rfl (Or.inl rfl)) (pss_one (ps_set (i := 2) sc_Gates_every.nd rfl (Or.inl rfl) (pe_meth (pv 0) T.cl_Gates T.h_Gates_both (ok_Gates_both T) (hr.mono (by decide)) T.b_Gates_both .nil pass0 (pa_cons (pv 2) (pa_cons (pv 3) pa_nil)))))) (pss_one (ps_ret (pv 2))))), ?_⟩
    obtain ⟨y1, e2, hm3⟩ := bnd hm
    refine ⟨_, rfl, _, rfl, ⟨_, (SqL.mono hs_edges0 (S0.bor (Same.refl _) (fun _ q => List.mem_append_right _ q)))⟩, for_list (K := K) (a := a_edges0) (xs := v_edges0) (fun i σ H2 => ∃ (st1 : (Int × M_Gates)) (F28 : Hp) (a32 : Addr) (v33 : List V) (a35 : Addr) (v36 : List (List Key × V)) (o31 : Option V), σ = [some (.ref a_self0), some (.ref a_edges0), some (.int st1.1), o31] ∧ Same F0 F28 ∧ Sta F28 ([(a_self0, .ins T.a_Gates dx_self0 (fl_Gates (.ref a32) (.ref a35))), (a32, .lst v33), (a35, .dT v36)] ++ R) H2 ∧ LR (rKT F28) v33 st1.2.rows ∧ KR id (rInt F28) v36 st1.2.known ∧ m_Gates_every_l1 (List.drop i x_edges0) st1 = some y1) ⟨((1 : Int), (M_Gates.mk x_self0.rows x_self0.known)), F0, a_self0_rows0, v_self0_rows0, a_self0_known0, v_self0_known0, _, rfl, (Same.refl _), S0, hl_self0_rows0, hl_self0_known0, e2⟩ (by rintro i σ H2 _ ⟨st1, F28, a32, v33, a35, v36, o31, rfl, s29, S30, hl34, hl37, _⟩; exact (SqL.mono hs_edges0 (S30.bor s29 (fun _ q => List.mem_append_right _ q)))) ?_ ?_⟩
    · rintro i v39 σ H2 hi ⟨st1, F28, a32, v33, a35, v36, o31, rfl, s29, S30, hl34, hl37, hm⟩
      obtain ⟨x38, hx40, rx41⟩ := LR.getV hl_edges0 hi
      rw [drop_cons hx40, m_Gates_every_l1] at hm
      obtain rfl := rInt_e rx41
      obtain ⟨y42, e43, hm⟩ := bnd hm
      refine ⟨_, rfl, _, _, _, rfl, (S30.get 0 rfl), fl_Gates_no_both, _, rfl, _, rfl, F28, ([] ++ R), a_self0, dx_self0, (M_Gates.mk st1.2.rows st1.2.known), a32, v33, a35, v36, st1.1, x38, _, rfl, hl34, hl37, S30, e43, fun F44 H45 a48 v49 a51 v52 s46 S47 hl50 hl53 => ?_⟩
      have S54 : Sta F44 ([(a_self0, .ins T.a_Gates dx_self0 (fl_Gates (.ref a48) (.ref a51))), (a48, .lst v49), (a51, .dT v52)] ++ R) _ := S47
      exact ⟨(y42.1, (M_Gates.mk y42.2.rows y42.2.known)), F44, a48, v49, a51, v52, _, rfl, (s29.trans s46), S54, hl50, hl53, hm⟩
    · rintro σ H2 ⟨st1, F28, a32, v33, a35, v36, o31, rfl, s29, S30, hl34, hl37, hm⟩
      rw [LR.dropEnd hl_edges0, m_Gates_every_l1] at hm
      obtain rfl := Option.some.inj hm
      have hm := hm3
      refine ⟨_, rfl, ?_⟩
      obtain rfl := Option.some.inj hm
      exact kk _ _ a32 v33 a35 v36 s29 S30 hl34 hl37

def sp_Gates_either (T : Txt K mg) : Sp := fun vs H Q _ => ∃ (F0 : Hp) (R : Own) (a_self0 : Addr) (dx_self0 : Addr) (x_self0 : M_Gates) (a_self0_rows0 : Addr) (v_self0_rows0 : List V) (a_self0_known0 : Addr) (v_self0_known0 : List (List Key × V)) (x_a0 : Int) (x_b0 : Int) (r : (Int × M_Gates)),
  vs = [.ref a_self0, .int x_a0, .int x_b0] ∧ LR (rKT F0) v_self0_rows0 x_self0.rows ∧ KR id (rInt F0) v_self0_known0 x_self0.known ∧ Sta F0 ([(a_self0, .ins T.a_Gates dx_self0 (fl_Gates (.ref a_self0_rows0) (.ref a_self0_known0))), (a_self0_rows0, .lst v_self0_rows0), (a_self0_known0, .dT v_self0_known0)] ++ R) H ∧ m_Gates_either x_self0 x_a0 x_b0 = some r ∧ ∀ (F1 : Hp) (H1 : Hp) (a_self0p_rows0 : Addr) (v_self0p_rows0 : List V) (a_self0p_known0 : Addr) (v_self0p_known0 : List (List Key × V)), Same F0 F1 → Sta F1 ([(a_self0, .ins T.a_Gates dx_self0 (fl_Gates (.ref a_self0p_rows0) (.ref a_self0p_known0))), (a_self0p_rows0, .lst v_self0p_rows0), (a_self0p_known0, .dT v_self0p_known0)] ++ R) H1 → LR (rKT F1) v_self0p_rows0 r.2.rows → KR id (rInt F1) v_self0p_known0 r.2.known → Q (.int r.1) H1

theorem sc_Gates_either : FnScope ["self", "a", "b"] ["self", "a", "b"] (defScope s_Gates_either) := ⟨rfl, rfl, rfl, by decide +kernel, rfl, by decide +kernel, by decide +kernel⟩
theorem ok_Gates_either (T : Txt K mg) : FnOk P w K mg base CX0 3 T.a_Gates_either T.d_Gates_either ["self", "a", "b"] (sp_Gates_either T) := by
  refine T.F_Gates_either.ok sc_Gates_either (fun vs H Q E h => ?_) (fun cdv A outer s H vs Q E hr h => ?_)
  · obtain ⟨_, _, _, _, _, _, _, _, _, _, _, _, rfl, _⟩ := h
    rfl
  · obtain ⟨F0, R, a_self0, dx_self0, x_self0, a_self0_rows0, v_self0_rows0, a_self0_known0, v_self0_known0, x_a0, x_b0, r, rfl, hl_self0_rows0, hl_self0_known0, S0, hm, kk⟩ := h
    have hu := hu_of hr
    unfold m_Gates_either at hm
    refine ⟨_, (pss_one (ps_ret (pe_call (ok_opposite T) (hr.mono (by decide)) rfl T.g_opposite T.F_opposite.kp T.b_opposite .nil pass0 (pa_cons (pe_meth (pv 0) T.cl_Gates T.h_Gates_both (ok_Gates_both T) (hr.mono (by decide)) T.b_Gates_both .nil pass0 (pa_cons (pe_call (ok_opposite T) (hr.mono (by decide)) rfl T.g_opposite T.F_opposite.kp T.b_opposite .nil pass0 (pa_cons (pv 1) pa_nil)) (pa_cons (pe_call (ok_opposite T) (hr.mono (by decide)) rfl T.g_opposite T.F_opposite.kp T.b_opposite .nil pass0 (pa_cons (pv 2) pa_nil)) pa_nil))) pa_nil)))), ?_⟩
    obtain ⟨y1, e2, hm⟩ := bnd hm
    refine ⟨_, rfl, _, _, _, rfl, (S0.get 0 rfl), fl_Gates_no_both, _, rfl, x_a0, _, rfl, rfl, _, rfl, x_b0, _, rfl, rfl, F0, ([] ++ R), a_self0, dx_self0, (M_Gates.mk x_self0.rows x_self0.known), a_self0_rows0, v_self0_rows0, a_self0_known0, v_self0_known0, (m_opposite x_a0), (m_opposite x_b0), _, rfl, hl_self0_rows0, hl_self0_known0, S0, e2, fun F3 H4 a7 v8 a10 v11 s5 S6 hl9 hl12 => ?_⟩
    have S13 : Sta F3 ([(a_self0, .ins T.a_Gates dx_self0 (fl_Gates (.ref a7) (.ref a10))), (a7, .lst v8), (a10, .dT v11)] ++ R) _ := S6
    refine ⟨y1.1, _, rfl, rfl, ?_⟩
    obtain rfl := Option.some.inj hm
    exact kk _ _ a7 v8 a10 v11 s5 S13 hl9 hl12

def sp_Gates_one_of (T : Txt K mg) : Sp := fun vs H Q _ => ∃ (F0 : Hp) (R : Own) (a_self0 : Addr) (dx_self0 : Addr) (x_self0 : M_Gates) (a_self0_rows0 : Addr) (v_self0_rows0 : List V) (a_self0_known0 : Addr) (v_self0_known0 : List (List Key × V)) (a_edges0 : Addr) (v_edges0 : List V) (x_edges0 : (List Int)) (r : (Int × M_Gates)),
  vs = [.ref a_self0, .ref a_edges0] ∧ LR (rKT F0) v_self0_rows0 x_self0.rows ∧ KR id (rInt F0) v_self0_known0 x_self0.known ∧ SqL K (ov F0 R) a_edges0 v_edges0 ∧ LR (rInt F0) v_edges0 x_edges0 ∧ Sta F0 ([(a_self0, .ins T.a_Gates dx_self0 (fl_Gates (.ref a_self0_rows0) (.ref a_self0_known0))), (a_self0_rows0, .lst v_self0_rows0), (a_self0_known0, .dT v_self0_known0)] ++ R) H ∧ m_Gates_one_of x_self0 x_edges0 = some r ∧ ∀ (F1 : Hp) (H1 : Hp) (a_self0p_rows0 : Addr) (v_self0p_rows0 : List V) (a_self0p_known0 : Addr) (v_self0p_known0 : List (List Key × V)), Same F0 F1 → Sta F1 ([(a_self0, .ins T.a_Gates dx_self0 (fl_Gates (.ref a_self0p_rows0) (.ref a_self0p_known0))), (a_self0p_rows0, .lst v_self0p_rows0), (a_self0p_known0, .dT v_self0p_known0)] ++ R) H1 → LR (rKT F1) v_self0p_rows0 r.2.rows → KR id (rInt F1) v_self0p_known0 r.2.known → Q (.int r.1) H1

theorem sc_Gates_one_of : FnScope ["self", "edges", "result", "edge"] ["self", "edges"] (defScope s_Gates_one_of) := ⟨rfl, rfl, rfl, by decide +kernel, rfl, by decide +kernel, by decide +kernel⟩
theorem ok_Gates_one_of (T : Txt K mg) : FnOk P w K mg base CX0 4 T.a_Gates_one_of T.d_Gates_one_of ["self", "edges"] (sp_Gates_one_of T) := by
  refine T.F_Gates_one_of.ok sc_Gates_one_of (fun vs H Q E h => ?_) (fun cdv A outer s H vs Q E hr h => ?_)
  · obtain ⟨_, _, _, _, _, _, _, _, _, _, _, _, _, rfl, _⟩ := h
    rfl
  · obtain ⟨F0, R, a_self0, dx_self0, x_self0, a_self0_rows0, v_self0_rows0, a_self0_known0, v_self0_known0, a_edges0, v_edges0, x_edges0, r, rfl, hl_self0_rows0, hl_self0_known0, hs_edges0, hl_edges0, S0, hm, kk⟩ := h
    have hu := hu_of hr
    unfold m_Gates_one_of at hm
    refine ⟨_, (pss_cons (ps_set (i := 2) sc_Gates_one_of.nd rfl (Or.inl rfl) (pe_glob (v := .int 0) rfl T.g_NO ⟨_, rfl⟩)) (pss_cons (ps_for PassesOwn.never rfl (pi_list (pv 1)) (pg_name (i := 3) sc_Gates_one_of.nd rfl (Or.inl rfl)) (pss_one (ps_set (i := 2) sc_Gates_one_of.nd rfl (Or.inl rfl) (pe_meth (pv 0) T.cl_Gates T.h_Gates_either (ok_Gates_either T) (hr.mono (by decide)) T.b_Gates_either .nil pass0 (pa_cons (pv 2) (pa_cons (pv 3) pa_nil)))))) (pss_one (ps_ret (pv 2))))), ?_⟩
    obtain ⟨y1, e2, hm3⟩ := bnd hm
    refine ⟨_, rfl, _, rfl, ⟨_, (SqL.mono hs_edges0 (S0.bor (Same.refl _) (fun _ q => List.mem_append_right _ q)))⟩, for_list (K := K) (a := a_edges0) (xs := v_edges0) (fun i σ H2 => ∃ (st1 : (Int × M_Gates)) (F28 : Hp) (a32 : Addr) (v33 : List V) (a35 : Addr) (v36 : List (List Key × V)) (o31 : Option V), σ = [some (.ref a_self0), some (.ref a_edges0), some (.int st1.1), o31] ∧ Same F0 F28 ∧ Sta F28 ([(a_self0, .ins T.a_Gates dx_self0 (fl_Gates (.ref a32) (.ref a35))), (a32, .lst v33), (a35, .dT v36)] ++ R) H2 ∧ LR (rKT F28) v33 st1.2.rows ∧ KR id (rInt F28) v36 st1.2.known ∧ m_Gates_one_of_l1 (List.drop i x_edges0) st1 = some y1) ⟨((0 : Int), (M_Gates.mk x_self0.rows x_self0.known)), F0, a_self0_rows0, v_self0_rows0, a_self0_known0, v_self0_known0, _, rfl, (Same.refl _), S0, hl_self0_rows0, hl_self0_known0, e2⟩ (by rintro i σ H2 _ ⟨st1, F28, a32, v33, a35, v36, o31, rfl, s29, S30, hl34, hl37, _⟩; exact (SqL.mono hs_edges0 (S30.bor s29 (fun _ q => List.mem_append_right _ q)))) ?_ ?_⟩
    · rintro i v39 σ H2 hi ⟨st1, F28, a32, v33, a35, v36, o31, rfl, s29, S30, hl34, hl37, hm⟩
      obtain ⟨x38, hx40, rx41⟩ := LR.getV hl_edges0 hi
      rw [drop_cons hx40, m_Gates_one_of_l1] at hm
      obtain rfl := rInt_e rx41
      obtain ⟨y42, e43, hm⟩ := bnd hm
      refine ⟨_, rfl, _, _, _, rfl, (S30.get 0 rfl), fl_Gates_no_either, _, rfl, _, rfl, F28, ([] ++ R), a_self0, dx_self0, (M_Gates.mk st1.2.rows st1.2.known), a32, v33, a35, v36, st1.1, x38, _, rfl, hl34, hl37, S30, e43, fun F44 H45 a48 v49 a51 v52 s46 S47 hl50 hl53 => ?_⟩
      have S54 : Sta F44 ([(a_self0, .ins T.a_Gates dx_self0 (fl_Gates (.ref a48) (.ref a51))), (a48, .lst v49), (a51, .dT v52)] ++ R) _ := S47
      exact ⟨(y42.1, (M_Gates.mk y42.2.rows y42.2.known)), F44, a48, v49, a51, v52, _, rfl, (s29.trans s46), S54, hl50, hl53, hm⟩
    · rintro σ H2 ⟨st1, F28, a32, v33, a35, v36, o31, rfl, s29, S30, hl34, hl37, hm⟩
      rw [LR.dropEnd hl_edges0, m_Gates_one_of_l1] at hm
      obtain rfl := Option.some.inj hm
      have hm := hm3
      refine ⟨_, rfl, ?_⟩
      obtain rfl := Option.some.inj hm
      exact kk _ _ a32 v33 a35 v36 s29 S30 hl34 hl37

def sp_law_opposite (T : Txt K mg) : Sp := fun vs H Q _ => ∃ (x_edge0 : Int) (r : Int),
  vs = [.int x_edge0] ∧ m_law_opposite x_edge0 = r ∧ Q (.int r) H

theorem sc_law_opposite : FnScope ["edge"] ["edge"] (defScope s_law_opposite) := ⟨rfl, rfl, rfl, by decide +kernel, rfl, by decide +kernel, by decide +kernel⟩
theorem ok_law_opposite (T : Txt K mg) : FnOk P w K mg base CX0 1 T.a_law_opposite T.d_law_opposite ["edge"] (sp_law_opposite T) := by
  refine T.F_law_opposite.ok sc_law_opposite (fun vs H Q E h => ?_) (fun cdv A outer s H vs Q E hr h => ?_)
  · obtain ⟨_, _, rfl, _⟩ := h
    rfl
  · obtain ⟨x_edge0, r, rfl, hm, kk⟩ := h
    have hu := hu_of hr
    unfold m_law_opposite at hm
    refine ⟨_, (pss_cons (ps_if (pt_cmpR oI_eq (pe_op op_mod (pe_callTy call_int1 (by rfl) T.z_int (by decide +kernel) (pa_cons (pv 0) pa_nil)) pe_int) pe_int (nomark _)) (pss_one (ps_ret (pe_op op_add (pv 0) pe_int))) pss_nil) (pss_one (ps_ret (pe_op op_sub (pv 0) pe_int)))), ?_⟩
    refine ⟨_, rfl, ?_⟩
    refine .inl ⟨_, rfl, ?_⟩
    refine ⟨_, _, rfl, rfl, (by show (0 : Int) < 2; decide), _, _, rfl, rfl, _, rfl, ?_⟩
    by_cases c1 : (decide ((x_edge0 % (2 : Int)) = (0 : Int))) = true
    · have hm := ifT hm c1
      refine goT c1 ?_
      refine ⟨_, rfl, _, _, rfl, rfl, ?_⟩
      obtain rfl := hm
      exact kk
    · have hm := ifF hm c1
      refine goF c1 ?_
      refine ⟨_, rfl, _, _, rfl, rfl, ?_⟩
      obtain rfl := hm
      exact kk

def sp_law_both (T : Txt K mg) : Sp := fun vs H Q _ => ∃ (F0 : Hp) (R : Own) (a_rows0 : Addr) (v_rows0 : List V) (x_rows0 : (List (List Key))) (x_a0 : Int) (x_b0 : Int) (r : (Int × (List (List Key)))),
  vs = [.ref a_rows0, .int x_a0, .int x_b0] ∧ LR (rKT F0) v_rows0 x_rows0 ∧ Sta F0 ([(a_rows0, .lst v_rows0)] ++ R) H ∧ m_law_both x_rows0 x_a0 x_b0 = some r ∧ ∀ (F1 : Hp) (H1 : Hp) (v_rows0p : List V), Same F0 F1 → Sta F1 ([(a_rows0, .lst v_rows0p)] ++ R) H1 → LR (rKT F1) v_rows0p r.2 → Q (.int r.1) H1

theorem sc_law_both : FnScope ["rows", "a", "b"] ["rows", "a", "b"] (defScope s_law_both) := ⟨rfl, rfl, rfl, by decide +kernel, rfl, by decide +kernel, by decide +kernel⟩
theorem ok_law_both (T : Txt K mg) : FnOk P w K mg base CX0 2 T.a_law_both T.d_law_both ["rows", "a", "b"] (sp_law_both T) := by
  refine T.F_law_both.ok sc_law_both (fun vs H Q E h => ?_) (fun cdv A outer s H vs Q E hr h => ?_)
  · obtain ⟨_, _, _, _, _, _, _, _, rfl, _⟩ := h
    rfl
  · obtain ⟨F0, R, a_rows0, v_rows0, x_rows0, x_a0, x_b0, r, rfl, hl_rows0, S0, hm, kk⟩ := h
    have hu := hu_of hr
    unfold m_law_both at hm
    refine ⟨_, (pss_cons (ps_if (pt_pure (PW.pt (pw_or (pt_cmpR oI_eq (pv 1) pe_int (nomark _)) (pw_or (pt_cmpR oI_eq (pv 2) pe_int (nomark _)) (pw_or1 (pt_cmpR oI_eq (pv 1) (pe_call (ok_law_opposite T) (hr.mono (by decide)) rfl T.g_law_opposite T.F_law_opposite.kp T.b_law_opposite .nil pass0 (pa_cons (pv 2) pa_nil)) (nomark _))))))) (pss_one (ps_ret pe_int)) pss_nil) (pss_cons (ps_if (pt_cmpR oI_eq (pv 1) pe_int (nomark _)) (pss_one (ps_ret (pv 2))) pss_nil) (pss_cons (ps_if (pt_pure (PW.pt (pw_or (pt_cmpR oI_eq (pv 2) pe_int (nomark _)) (pw_or1 (pt_cmpR oI_eq (pv 1) (pv 2) (nomark _)))))) (pss_one (ps_ret (pv 1))) pss_nil) (pss_one (ps_ret (pe_call (ok_law_row T) (hr.mono (by decide)) rfl T.g_law_row T.F_law_row.kp T.b_law_row .nil pass0 (pa_cons (pv 0) (pa_cons (pe_tup (pa_cons pe_str (pa_cons (pe_callB (call_min2 rfl) (by rfl) T.z_min (by decide +kernel) (pa_cons (pv 1) (pa_cons (pv 2) pa_nil))) (pa_cons (pe_callB (call_max2 rfl) (by rfl) T.z_max (by decide +kernel) (pa_cons (pv 1) (pa_cons (pv 2) pa_nil))) pa_nil)))) pa_nil)))))))), ?_⟩
    refine ⟨((decide (x_a0 = (0 : Int))) || ((decide (x_b0 = (0 : Int))) || (decide (x_a0 = (m_law_opposite x_b0))))), ?_, ?_⟩
    · refine ⟨_, rfl, _, _, rfl, rfl, _, rfl, ?_⟩
      by_cases c1 : (decide (x_a0 = (0 : Int))) = true
      · exact goT c1 ⟨by simp [c1], rfl⟩
      · refine goF c1 ?_
        refine ⟨_, rfl, _, _, rfl, rfl, _, rfl, ?_⟩
        by_cases c2 : (decide (x_b0 = (0 : Int))) = true
        · exact goT c2 ⟨by simp [c1, c2], rfl⟩
        · refine goF c2 ?_
          refine ⟨_, rfl, _, rfl, x_b0, _, rfl, rfl, _, _, rfl, rfl, _, rfl, ?_⟩
          exact ⟨by simp [c1, c2], rfl⟩
    by_cases c3 : ((decide (x_a0 = (0 : Int))) || ((decide (x_b0 = (0 : Int))) || (decide (x_a0 = (m_law_opposite x_b0))))) = true
    · have hm := ifT hm c3
      refine goT c3 ?_
      obtain rfl := Option.some.inj hm
      exact kk _ _ v_rows0 (Same.refl _) S0 hl_rows0
    · have hm := ifF hm c3
      refine goF c3 ?_
      refine ⟨_, rfl, _, _, rfl, rfl, _, rfl, ?_⟩
      by_cases c4 : (decide (x_a0 = (1 : Int))) = true
      · have hm := ifT hm c4
        refine goT c4 ?_
        refine ⟨_, rfl, ?_⟩
        obtain rfl := Option.some.inj hm
        exact kk _ _ v_rows0 (Same.refl _) S0 hl_rows0
      · have hm := ifF hm c4
        refine goF c4 ?_
        refine ⟨((decide (x_b0 = (1 : Int))) || (decide (x_a0 = x_b0))), ?_, ?_⟩
        · refine ⟨_, rfl, _, _, rfl, rfl, _, rfl, ?_⟩
          by_cases c5 : (decide (x_b0 = (1 : Int))) = true
          · exact goT c5 ⟨by simp [c5], rfl⟩
          · refine goF c5 ?_
            refine ⟨_, rfl, _, rfl, _, _, rfl, rfl, _, rfl, ?_⟩
            exact ⟨by simp [c5], rfl⟩
        by_cases c6 : ((decide (x_b0 = (1 : Int))) || (decide (x_a0 = x_b0))) = true
        · have hm := ifT hm c6
          refine goT c6 ?_
          refine ⟨_, rfl, ?_⟩
          obtain rfl := Option.some.inj hm
          exact kk _ _ v_rows0 (Same.refl _) S0 hl_rows0
        · have hm := ifF hm c6
          refine goF c6 ?_
          refine ⟨_, rfl, _, rfl, _, rfl, _, _, rfl, _, rfl, _, rfl, _, _, rfl, (by show 3 ≤ sizeLine; decide), ?_⟩
          intro a7 np8
          obtain ⟨F9, s10, S11, h12⟩ : ∃ F', Same F0 F' ∧ Sta F' ([(a_rows0, .lst v_rows0)] ++ R) _ ∧ F' a7 = some (.tup (([Sum.inr ("both" : Str), Sum.inl (if x_b0 < x_a0 then x_b0 else x_a0), Sum.inl (if x_b0 > x_a0 then x_b0 else x_a0)] : List Key).map kV)) := ⟨_, S0.sameF np8 _, S0.newF np8 _, upd_same⟩
          obtain ⟨y13, e14, hm⟩ := bnd hm
          refine ⟨F9, ([] ++ R), a_rows0, v_rows0, x_rows0, a7, ([Sum.inr ("both" : Str), Sum.inl (if x_b0 < x_a0 then x_b0 else x_a0), Sum.inl (if x_b0 > x_a0 then x_b0 else x_a0)] : List Key), _, rfl, (hl_rows0.mono s10), ((Same.refl _) _ _ h12), S11, e14, fun F15 H16 v19 s17 S18 hl20 => ?_⟩
          have S21 : Sta F15 ([(a_rows0, .lst v19)] ++ R) _ := S18
          obtain rfl := Option.some.inj hm
          exact kk _ _ v19 (s10.trans s17) S21 hl20

def sp_law_either (T : Txt K mg) : Sp := fun vs H Q _ => ∃ (F0 : Hp) (R : Own) (a_rows0 : Addr) (v_rows0 : List V) (x_rows0 : (List (List Key))) (x_a0 : Int) (x_b0 : Int) (r : (Int × (List (List Key)))),
  vs = [.ref a_rows0, .int x_a0, .int x_b0] ∧ LR (rKT F0) v_rows0 x_rows0 ∧ Sta F0 ([(a_rows0, .lst v_rows0)] ++ R) H ∧ m_law_either x_rows0 x_a0 x_b0 = some r ∧ ∀ (F1 : Hp) (H1 : Hp) (v_rows0p : List V), Same F0 F1 → Sta F1 ([(a_rows0, .lst v_rows0p)] ++ R) H1 → LR (rKT F1) v_rows0p r.2 → Q (.int r.1) H1

theorem sc_law_either : FnScope ["rows", "a", "b"] ["rows", "a", "b"] (defScope s_law_either) := ⟨rfl, rfl, rfl, by decide +kernel, rfl, by decide +kernel, by decide +kernel⟩
theorem ok_law_either (T : Txt K mg) : FnOk P w K mg base CX0 3 T.a_law_either T.d_law_either ["rows", "a", "b"] (sp_law_either T) := by
  refine T.F_law_either.ok sc_law_either (fun vs H Q E h => ?_) (fun cdv A outer s H vs Q E hr h => ?_)
  · obtain ⟨_, _, _, _, _, _, _, _, rfl, _⟩ := h
    rfl
  · obtain ⟨F0, R, a_rows0, v_rows0, x_rows0, x_a0, x_b0, r, rfl, hl_rows0, S0, hm, kk⟩ := h
    have hu := hu_of hr
    unfold m_law_either at hm
    refine ⟨_, (pss_one (ps_ret (pe_call (ok_law_opposite T) (hr.mono (by decide)) rfl T.g_law_opposite T.F_law_opposite.kp T.b_law_opposite .nil pass0 (pa_cons (pe_call (ok_law_both T) (hr.mono (by decide)) rfl T.g_law_both T.F_law_both.kp T.b_law_both .nil pass0 (pa_cons (pv 0) (pa_cons (pe_call (ok_law_opposite T) (hr.mono (by decide)) rfl T.g_law_opposite T.F_law_opposite.kp T.b_law_opposite .nil pass0 (pa_cons (pv 1) pa_nil)) (pa_cons (pe_call (ok_law_opposite T) (hr.mono (by decide)) rfl T.g_law_opposite T.F_law_opposite.kp T.b_law_opposite .nil pass0 (pa_cons (pv 2) pa_nil)) pa_nil)))) pa_nil)))), ?_⟩
    obtain ⟨y1, e2, hm⟩ := bnd hm
    refine ⟨_, rfl, _, rfl, x_a0, _, rfl, rfl, _, rfl, x_b0, _, rfl, rfl, F0, ([] ++ R), a_rows0, v_rows0, x_rows0, (m_law_opposite x_a0), (m_law_opposite x_b0), _, rfl, hl_rows0, S0, e2, fun F3 H4 v7 s5 S6 hl8 => ?_⟩
    have S9 : Sta F3 ([(a_rows0, .lst v7)] ++ R) _ := S6
    refine ⟨y1.1, _, rfl, rfl, ?_⟩
    obtain rfl := Option.some.inj hm
    exact kk _ _ v7 s5 S9 hl8

def sp_law_folded (T : Txt K mg) : Sp := fun vs H Q _ => ∃ (F0 : Hp) (R : Own) (a_rows0 : Addr) (v_rows0 : List V) (x_rows0 : (List (List Key))) (x_kind0 : Int) (a_given0 : Addr) (v_given0 : List V) (x_given0 : (List Int)) (r : (Int × (List (List Key)))),
  vs = [.ref a_rows0, .int x_kind0, .ref a_given0] ∧ LR (rKT F0) v_rows0 x_rows0 ∧ SqL K (ov F0 R) a_given0 v_given0 ∧ LR (rInt F0) v_given0 x_given0 ∧ Sta F0 ([(a_rows0, .lst v_rows0)] ++ R) H ∧ m_law_folded x_rows0 x_kind0 x_given0 = some r ∧ ∀ (F1 : Hp) (H1 : Hp) (v_rows0p : List V), Same F0 F1 → Sta F1 ([(a_rows0, .lst v_rows0p)] ++ R) H1 → LR (rKT F1) v_rows0p r.2 → Q (.int r.1) H1

theorem sc_law_folded : FnScope ["rows", "kind", "given", "due", "edge"] ["rows", "kind", "given"] (defScope s_law_folded) := ⟨rfl, rfl, rfl, by decide +kernel, rfl, by decide +kernel, by decide +kernel⟩
theorem ok_law_folded (T : Txt K mg) : FnOk P w K mg base CX0 4 T.a_law_folded T.d_law_folded ["rows", "kind", "given"] (sp_law_folded T) := by
  refine T.F_law_folded.ok sc_law_folded (fun vs H Q E h => ?_) (fun cdv A outer s H vs Q E hr h => ?_)
  · obtain ⟨_, _, _, _, _, _, _, _, _, _, rfl, _⟩ := h
    rfl
  · obtain ⟨F0, R, a_rows0, v_rows0, x_rows0, x_kind0, a_given0, v_given0, x_given0, r, rfl, hl_rows0, hs_given0, hl_given0, S0, hm, kk⟩ := h
    have hu := hu_of hr
    unfold m_law_folded at hm
    refine ⟨_, (pss_cons (ps_set (i := 3) sc_law_folded.nd rfl (Or.inl rfl) pe_int) (C8.pss_cut (ps_if (pt_cmpR oI_eq (pv 1) pe_int (nomark _)) (pss_one (ps_set (i := 3) sc_law_folded.nd rfl (Or.inl rfl) pe_int)) pss_nil) (pss_cons (ps_for PassesOwn.never rfl (pi_list (pv 2)) (pg_name (i := 4) sc_law_folded.nd rfl (Or.inl rfl)) (pss_one (ps_if (pt_cmpR oI_eq (pv 1) pe_int (nomark _)) (pss_one (ps_set (i := 3) sc_law_folded.nd rfl (Or.inl rfl) (pe_call (ok_law_both T) (hr.mono (by decide)) rfl T.g_law_both T.F_law_both.kp T.b_law_both .nil pass0 (pa_cons (pv 0) (pa_cons (pv 3) (pa_cons (pv 4) pa_nil)))))) (pss_one (ps_set (i := 3) sc_law_folded.nd rfl (Or.inl rfl) (pe_call (ok_law_either T) (hr.mono (by decide)) rfl T.g_law_either T.F_law_either.kp T.b_law_either .nil pass0 (pa_cons (pv 0) (pa_cons (pv 3) (pa_cons (pv 4) pa_nil))))))))) (pss_one (ps_ret (pv 3)))))), ?_⟩
    obtain ⟨y4, e5, hm⟩ := bnd hm
    refine ⟨fun σ H2 => ∃ (F1 : Hp), σ = [some (.ref a_rows0), some (.int x_kind0), some (.ref a_given0), some (.int y4), none] ∧ Same F0 F1 ∧ Sta F1 ([(a_rows0, .lst v_rows0)] ++ R) H2, ?_, ?_⟩
    · have hm := e5
      refine ⟨_, rfl, _, _, rfl, rfl, _, rfl, ?_⟩
      by_cases c6 : (decide (x_kind0 = (6 : Int))) = true
      · have hm := ifT hm c6
        refine goT c6 ?_
        obtain rfl := Option.some.inj hm
        exact ⟨F0, rfl, (Same.refl _), S0⟩
      · have hm := ifF hm c6
        refine goF c6 ?_
        obtain rfl := Option.some.inj hm
        exact ⟨F0, rfl, (Same.refl _), S0⟩
    · rintro σ H2 ⟨F1, rfl, s2, S3⟩
      obtain ⟨y7, e8, hm9⟩ := bnd hm
      refine ⟨_, rfl, _, rfl, ⟨_, (SqL.mono hs_given0 (S3.bor s2 (fun _ q => List.mem_append_right _ q)))⟩, for_list (K := K) (a := a_given0) (xs := v_given0) (fun i σ H2 => ∃ (st1 : (Int × (List (List Key)))) (F26 : Hp) (v30 : List V) (o29 : Option V), σ = [some (.ref a_rows0), some (.int x_kind0), some (.ref a_given0), some (.int st1.1), o29] ∧ Same F1 F26 ∧ Sta F26 ([(a_rows0, .lst v30)] ++ R) H2 ∧ LR (rKT F26) v30 st1.2 ∧ m_law_folded_l1 x_kind0 (List.drop i x_given0) st1 = some y7) ⟨(y4, x_rows0), F1, v_rows0, _, rfl, (Same.refl _), S3, (hl_rows0.mono s2), e8⟩ (by rintro i σ H2 _ ⟨st1, F26, v30, o29, rfl, s27, S28, hl31, _⟩; exact (SqL.mono hs_given0 (S28.bor (s2.trans s27) (fun _ q => List.mem_append_right _ q)))) ?_ ?_⟩
      · rintro i v33 σ H2 hi ⟨st1, F26, v30, o29, rfl, s27, S28, hl31, hm⟩
        obtain ⟨x32, hx34, rx35⟩ := LR.getV hl_given0 hi
        rw [drop_cons hx34, m_law_folded_l1] at hm
        obtain rfl := rInt_e rx35
        refine ⟨_, rfl, _, _, rfl, rfl, _, rfl, ?_⟩
        by_cases c36 : (decide (x_kind0 = (6 : Int))) = true
        · have hm := ifT hm c36
          refine goT c36 ?_
          obtain ⟨y37, e38, hm⟩ := bnd hm
          refine ⟨_, rfl, _, rfl, _, rfl, F26, ([] ++ R), a_rows0, v30, st1.2, st1.1, x32, _, rfl, hl31, S28, e38, fun F39 H40 v43 s41 S42 hl44 => ?_⟩
          have S45 : Sta F39 ([(a_rows0, .lst v43)] ++ R) _ := S42
          exact ⟨(y37.1, y37.2), F39, v43, _, rfl, (s27.trans s41), S45, hl44, hm⟩
        · have hm := ifF hm c36
          refine goF c36 ?_
          obtain ⟨y46, e47, hm⟩ := bnd hm
          refine ⟨_, rfl, _, rfl, _, rfl, F26, ([] ++ R), a_rows0, v30, st1.2, st1.1, x32, _, rfl, hl31, S28, e47, fun F48 H49 v52 s50 S51 hl53 => ?_⟩
          have S54 : Sta F48 ([(a_rows0, .lst v52)] ++ R) _ := S51
          exact ⟨(y46.1, y46.2), F48, v52, _, rfl, (s27.trans s50), S54, hl53, hm⟩
      · rintro σ H2 ⟨st1, F26, v30, o29, rfl, s27, S28, hl31, hm⟩
        rw [LR.dropEnd hl_given0, m_law_folded_l1] at hm
        obtain rfl := Option.some.inj hm
        have hm := hm9
        refine ⟨_, rfl, ?_⟩
        obtain rfl := Option.some.inj hm
        exact kk _ _ v30 (s2.trans s27) S28 hl31

def sp_law_differ (T : Txt K mg) : Sp := fun vs H Q _ => ∃ (F0 : Hp) (R : Own) (a_rows0 : Addr) (v_rows0 : List V) (x_rows0 : (List (List Key))) (x_a0 : Int) (x_b0 : Int) (r : (Int × (List (List Key)))),
  vs = [.ref a_rows0, .int x_a0, .int x_b0] ∧ LR (rKT F0) v_rows0 x_rows0 ∧ Sta F0 ([(a_rows0, .lst v_rows0)] ++ R) H ∧ m_law_differ x_rows0 x_a0 x_b0 = some r ∧ ∀ (F1 : Hp) (H1 : Hp) (v_rows0p : List V), Same F0 F1 → Sta F1 ([(a_rows0, .lst v_rows0p)] ++ R) H1 → LR (rKT F1) v_rows0p r.2 → Q (.int r.1) H1

theorem sc_law_differ : FnScope ["rows", "a", "b", "left", "right"] ["rows", "a", "b"] (defScope s_law_differ) := ⟨rfl, rfl, rfl, by decide +kernel, rfl, by decide +kernel, by decide +kernel⟩
theorem ok_law_differ (T : Txt K mg) : FnOk P w K mg base CX0 4 T.a_law_differ T.d_law_differ ["rows", "a", "b"] (sp_law_differ T) := by
  refine T.F_law_differ.ok sc_law_differ (fun vs H Q E h => ?_) (fun cdv A outer s H vs Q E hr h => ?_)
  · obtain ⟨_, _, _, _, _, _, _, _, rfl, _⟩ := h
    rfl
  · obtain ⟨F0, R, a_rows0, v_rows0, x_rows0, x_a0, x_b0, r, rfl, hl_rows0, S0, hm, kk⟩ := h
    have hu := hu_of hr
    unfold m_law_differ at hm
    refine ⟨_, (pss_cons (ps_set (i := 3) sc_law_differ.nd rfl (Or.inl rfl) (pe_call (ok_law_both T) (hr.mono (by decide)) rfl T.g_law_both T.F_law_both.kp T.b_law_both .nil pass0 (pa_cons (pv 0) (pa_cons (pv 1) (pa_cons (pe_call (ok_law_opposite T) (hr.mono (by decide)) rfl T.g_law_opposite T.F_law_opposite.kp T.b_law_opposite .nil pass0 (pa_cons (pv 2) pa_nil)) pa_nil))))) (pss_cons (ps_set (i := 4) sc_law_differ.nd rfl (Or.inl rfl) (pe_call (ok_law_both T) (hr.mono (by decide)) rfl T.g_law_both T.F_law_both.kp T.b_law_both .nil pass0 (pa_cons (pv 0) (pa_cons (pe_call (ok_law_opposite T) (hr.mono (by decide)) rfl T.g_law_opposite T.F_law_opposite.kp T.b_law_opposite .nil pass0 (pa_cons (pv 1) pa_nil)) (pa_cons (pv 2) pa_nil))))) (pss_one (ps_ret (pe_call (ok_law_either T) (hr.mono (by decide)) rfl T.g_law_either T.F_law_either.kp T.b_law_either .nil pass0 (pa_cons (pv 0) (pa_cons (pv 3) (pa_cons (pv 4) pa_nil)))))))), ?_⟩
    obtain ⟨y1, e2, hm⟩ := bnd hm
    refine ⟨_, rfl, _, rfl, _, rfl, x_b0, _, rfl, rfl, F0, ([] ++ R), a_rows0, v_rows0, x_rows0, x_a0, (m_law_opposite x_b0), _, rfl, hl_rows0, S0, e2, fun F3 H4 v7 s5 S6 hl8 => ?_⟩
    have S9 : Sta F3 ([(a_rows0, .lst v7)] ++ R) _ := S6
    obtain ⟨y10, e11, hm⟩ := bnd hm
    refine ⟨_, rfl, _, rfl, x_a0, _, rfl, rfl, _, rfl, F3, ([] ++ R), a_rows0, v7, y1.2, (m_law_opposite x_a0), x_b0, _, rfl, hl8, S9, e11, fun F12 H13 v16 s14 S15 hl17 => ?_⟩
    have S18 : Sta F12 ([(a_rows0, .lst v16)] ++ R) _ := S15
    obtain ⟨y19, e20, hm⟩ := bnd hm
    refine ⟨_, rfl, _, rfl, _, rfl, F12, ([] ++ R), a_rows0, v16, y10.2, y1.1, y10.1, _, rfl, hl17, S18, e20, fun F21 H22 v25 s23 S24 hl26 => ?_⟩
    have S27 : Sta F21 ([(a_rows0, .lst v25)] ++ R) _ := S24
    obtain rfl := Option.some.inj hm
    exact kk _ _ v25 (s5.trans (s14.trans s23)) S27 hl26

def sp_Gates_differ (T : Txt K mg) : Sp := fun vs H Q _ => ∃ (F0 : Hp) (R : Own) (a_self0 : Addr) (dx_self0 : Addr) (x_self0 : M_Gates) (a_self0_rows0 : Addr) (v_self0_rows0 : List V) (a_self0_known0 : Addr) (v_self0_known0 : List (List Key × V)) (x_a0 : Int) (x_b0 : Int) (r : (Int × M_Gates)),
  vs = [.ref a_self0, .int x_a0, .int x_b0] ∧ LR (rKT F0) v_self0_rows0 x_self0.rows ∧ KR id (rInt F0) v_self0_known0 x_self0.known ∧ Sta F0 ([(a_self0, .ins T.a_Gates dx_self0 (fl_Gates (.ref a_self0_rows0) (.ref a_self0_known0))), (a_self0_rows0, .lst v_self0_rows0), (a_self0_known0, .dT v_self0_known0)] ++ R) H ∧ m_Gates_differ x_self0 x_a0 x_b0 = some r ∧ ∀ (F1 : Hp) (H1 : Hp) (a_self0p_rows0 : Addr) (v_self0p_rows0 : List V) (a_self0p_known0 : Addr) (v_self0p_known0 : List (List Key × V)), Same F0 F1 → Sta F1 ([(a_self0, .ins T.a_Gates dx_self0 (fl_Gates (.ref a_self0p_rows0) (.ref a_self0p_known0))), (a_self0p_rows0, .lst v_self0p_rows0), (a_self0p_known0, .dT v_self0p_known0)] ++ R) H1 → LR (rKT F1) v_self0p_rows0 r.2.rows → KR id (rInt F1) v_self0p_known0 r.2.known → Q (.int r.1) H1

theorem sc_Gates_differ : FnScope ["self", "a", "b"] ["self", "a", "b"] (defScope s_Gates_differ) := ⟨rfl, rfl, rfl, by decide +kernel, rfl, by decide +kernel, by decide +kernel⟩
theorem ok_Gates_differ (T : Txt K mg) : FnOk P w K mg base CX0 4 T.a_Gates_differ T.d_Gates_differ ["self", "a", "b"] (sp_Gates_differ T) := by
  refine T.F_Gates_differ.ok sc_Gates_differ (fun vs H Q E h => ?_) (fun cdv A outer s H vs Q E hr h => ?_)
  · obtain ⟨_, _, _, _, _, _, _, _, _, _, _, _, rfl, _⟩ := h
    rfl
  · obtain ⟨F0, R, a_self0, dx_self0, x_self0, a_self0_rows0, v_self0_rows0, a_self0_known0, v_self0_known0, x_a0, x_b0, r, rfl, hl_self0_rows0, hl_self0_known0, S0, hm, kk⟩ := h
    have hu := hu_of hr
    unfold m_Gates_differ at hm
    refine ⟨_, (pss_one (ps_ret (pe_meth (pv 0) T.cl_Gates T.h_Gates_either (ok_Gates_either T) (hr.mono (by decide)) T.b_Gates_either .nil pass0 (pa_cons (pe_meth (pv 0) T.cl_Gates T.h_Gates_both (ok_Gates_both T) (hr.mono (by decide)) T.b_Gates_both .nil pass0 (pa_cons (pv 1) (pa_cons (pe_call (ok_opposite T) (hr.mono (by decide)) rfl T.g_opposite T.F_opposite.kp T.b_opposite .nil pass0 (pa_cons (pv 2) pa_nil)) pa_nil))) (pa_cons (pe_meth (pv 0) T.cl_Gates T.h_Gates_both (ok_Gates_both T) (hr.mono (by decide)) T.b_Gates_both .nil pass0 (pa_cons (pe_call (ok_opposite T) (hr.mono (by decide)) rfl T.g_opposite T.F_opposite.kp T.b_opposite .nil pass0 (pa_cons (pv 1) pa_nil)) (pa_cons (pv 2) pa_nil))) pa_nil))))), ?_⟩
    obtain ⟨y1, e2, hm⟩ := bnd hm
    refine ⟨_, rfl, _, _, _, rfl, (S0.get 0 rfl), fl_Gates_no_either, _, rfl, _, _, _, rfl, (S0.get 0 rfl), fl_Gates_no_both, _, rfl, _, rfl, x_b0, _, rfl, rfl, F0, ([] ++ R), a_self0, dx_self0, (M_Gates.mk x_self0.rows x_self0.known), a_self0_rows0, v_self0_rows0, a_self0_known0, v_self0_known0, x_a0, (m_opposite x_b0), _, rfl, hl_self0_rows0, hl_self0_known0, S0, e2, fun F3 H4 a7 v8 a10 v11 s5 S6 hl9 hl12 => ?_⟩
    have S13 : Sta F3 ([(a_self0, .ins T.a_Gates dx_self0 (fl_Gates (.ref a7) (.ref a10))), (a7, .lst v8), (a10, .dT v11)] ++ R) _ := S6
    obtain ⟨y14, e15, hm⟩ := bnd hm
    refine ⟨_, rfl, _, _, _, rfl, (S13.get 0 rfl), fl_Gates_no_both, _, rfl, x_a0, _, rfl, rfl, _, rfl, F3, ([] ++ R), a_self0, dx_self0, (M_Gates.mk y1.2.rows y1.2.known), a7, v8, a10, v11, (m_opposite x_a0), x_b0, _, rfl, hl9, hl12, S13, e15, fun F16 H17 a20 v21 a23 v24 s18 S19 hl22 hl25 => ?_⟩
    have S26 : Sta F16 ([(a_self0, .ins T.a_Gates dx_self0 (fl_Gates (.ref a20) (.ref a23))), (a20, .lst v21), (a23, .dT v24)] ++ R) _ := S19
    obtain ⟨y27, e28, hm⟩ := bnd hm
    refine ⟨F16, ([] ++ R), a_self0, dx_self0, (M_Gates.mk y14.2.rows y14.2.known), a20, v21, a23, v24, y1.1, y14.1, _, rfl, hl22, hl25, S26, e28, fun F29 H30 a33 v34 a36 v37 s31 S32 hl35 hl38 => ?_⟩
    have S39 : Sta F29 ([(a_self0, .ins T.a_Gates dx_self0 (fl_Gates (.ref a33) (.ref a36))), (a33, .lst v34), (a36, .dT v37)] ++ R) _ := S32
    obtain rfl := Option.some.inj hm
    exact kk _ _ a33 v34 a36 v37 (s5.trans (s18.trans s31)) S39 hl35 hl38

def sp_law_choose (T : Txt K mg) : Sp := fun vs H Q _ => ∃ (F0 : Hp) (R : Own) (a_rows0 : Addr) (v_rows0 : List V) (x_rows0 : (List (List Key))) (x_test0 : Int) (x_a0 : Int) (x_b0 : Int) (r : (Int × (List (List Key)))),
  vs = [.ref a_rows0, .int x_test0, .int x_a0, .int x_b0] ∧ LR (rKT F0) v_rows0 x_rows0 ∧ Sta F0 ([(a_rows0, .lst v_rows0)] ++ R) H ∧ m_law_choose x_rows0 x_test0 x_a0 x_b0 = some r ∧ ∀ (F1 : Hp) (H1 : Hp) (v_rows0p : List V), Same F0 F1 → Sta F1 ([(a_rows0, .lst v_rows0p)] ++ R) H1 → LR (rKT F1) v_rows0p r.2 → Q (.int r.1) H1

theorem sc_law_choose : FnScope ["rows", "test", "a", "b", "left", "right"] ["rows", "test", "a", "b"] (defScope s_law_choose) := ⟨rfl, rfl, rfl, by decide +kernel, rfl, by decide +kernel, by decide +kernel⟩
theorem ok_law_choose (T : Txt K mg) : FnOk P w K mg base CX0 4 T.a_law_choose T.d_law_choose ["rows", "test", "a", "b"] (sp_law_choose T) := by
  refine T.F_law_choose.ok sc_law_choose (fun vs H Q E h => ?_) (fun cdv A outer s H vs Q E hr h => ?_)
  · obtain ⟨_, _, _, _, _, _, _, _, _, rfl, _⟩ := h
    rfl
  · obtain ⟨F0, R, a_rows0, v_rows0, x_rows0, x_test0, x_a0, x_b0, r, rfl, hl_rows0, S0, hm, kk⟩ := h
    have hu := hu_of hr
    unfold m_law_choose at hm
    refine ⟨_, (pss_cons (ps_if (pt_cmpR oI_eq (pv 2) (pv 3) (nomark _)) (pss_one (ps_ret (pv 2))) pss_nil) (pss_cons (ps_set (i := 4) sc_law_choose.nd rfl (Or.inl rfl) (pe_call (ok_law_both T) (hr.mono (by decide)) rfl T.g_law_both T.F_law_both.kp T.b_law_both .nil pass0 (pa_cons (pv 0) (pa_cons (pv 1) (pa_cons (pv 2) pa_nil))))) (pss_cons (ps_set (i := 5) sc_law_choose.nd rfl (Or.inl rfl) (pe_call (ok_law_both T) (hr.mono (by decide)) rfl T.g_law_both T.F_law_both.kp T.b_law_both .nil pass0 (pa_cons (pv 0) (pa_cons (pe_call (ok_law_opposite T) (hr.mono (by decide)) rfl T.g_law_opposite T.F_law_opposite.kp T.b_law_opposite .nil pass0 (pa_cons (pv 1) pa_nil)) (pa_cons (pv 3) pa_nil))))) (pss_one (ps_ret (pe_call (ok_law_either T) (hr.mono (by decide)) rfl T.g_law_either T.F_law_either.kp T.b_law_either .nil pass0 (pa_cons (pv 0) (pa_cons (pv 4) (pa_cons (pv 5) pa_nil))))))))), ?_⟩
    refine ⟨_, rfl, _, rfl, _, _, rfl, rfl, _, rfl, ?_⟩
    by_cases c1 : (decide (x_a0 = x_b0)) = true
    · have hm := ifT hm c1
      refine goT c1 ?_
      refine ⟨_, rfl, ?_⟩
      obtain rfl := Option.some.inj hm
      exact kk _ _ v_rows0 (Same.refl _) S0 hl_rows0
    · have hm := ifF hm c1
      refine goF c1 ?_
      obtain ⟨y2, e3, hm⟩ := bnd hm
      refine ⟨_, rfl, _, rfl, _, rfl, F0, ([] ++ R), a_rows0, v_rows0, x_rows0, x_test0, x_a0, _, rfl, hl_rows0, S0, e3, fun F4 H5 v8 s6 S7 hl9 => ?_⟩
      have S10 : Sta F4 ([(a_rows0, .lst v8)] ++ R) _ := S7
      obtain ⟨y11, e12, hm⟩ := bnd hm
      refine ⟨_, rfl, _, rfl, x_test0, _, rfl, rfl, _, rfl, F4, ([] ++ R), a_rows0, v8, y2.2, (m_law_opposite x_test0), x_b0, _, rfl, hl9, S10, e12, fun F13 H14 v17 s15 S16 hl18 => ?_⟩
      have S19 : Sta F13 ([(a_rows0, .lst v17)] ++ R) _ := S16
      obtain ⟨y20, e21, hm⟩ := bnd hm
      refine ⟨_, rfl, _, rfl, _, rfl, F13, ([] ++ R), a_rows0, v17, y11.2, y2.1, y11.1, _, rfl, hl18, S19, e21, fun F22 H23 v26 s24 S25 hl27 => ?_⟩
      have S28 : Sta F22 ([(a_rows0, .lst v26)] ++ R) _ := S25
      obtain rfl := Option.some.inj hm
      exact kk _ _ v26 (s6.trans (s15.trans s24)) S28 hl27

def sp_Gates_choose (T : Txt K mg) : Sp := fun vs H Q _ => ∃ (F0 : Hp) (R : Own) (a_self0 : Addr) (dx_self0 : Addr) (x_self0 : M_Gates) (a_self0_rows0 : Addr) (v_self0_rows0 : List V) (a_self0_known0 : Addr) (v_self0_known0 : List (List Key × V)) (x_test0 : Int) (x_a0 : Int) (x_b0 : Int) (r : (Int × M_Gates)),
  vs = [.ref a_self0, .int x_test0, .int x_a0, .int x_b0] ∧ LR (rKT F0) v_self0_rows0 x_self0.rows ∧ KR id (rInt F0) v_self0_known0 x_self0.known ∧ Sta F0 ([(a_self0, .ins T.a_Gates dx_self0 (fl_Gates (.ref a_self0_rows0) (.ref a_self0_known0))), (a_self0_rows0, .lst v_self0_rows0), (a_self0_known0, .dT v_self0_known0)] ++ R) H ∧ m_Gates_choose x_self0 x_test0 x_a0 x_b0 = some r ∧ ∀ (F1 : Hp) (H1 : Hp) (a_self0p_rows0 : Addr) (v_self0p_rows0 : List V) (a_self0p_known0 : Addr) (v_self0p_known0 : List (List Key × V)), Same F0 F1 → Sta F1 ([(a_self0, .ins T.a_Gates dx_self0 (fl_Gates (.ref a_self0p_rows0) (.ref a_self0p_known0))), (a_self0p_rows0, .lst v_self0p_rows0), (a_self0p_known0, .dT v_self0p_known0)] ++ R) H1 → LR (rKT F1) v_self0p_rows0 r.2.rows → KR id (rInt F1) v_self0p_known0 r.2.known → Q (.int r.1) H1

theorem sc_Gates_choose : FnScope ["self", "test", "a", "b"] ["self", "test", "a", "b"] (defScope s_Gates_choose) := ⟨rfl, rfl, rfl, by decide +kernel, rfl, by decide +kernel, by decide +kernel⟩
theorem ok_Gates_choose (T : Txt K mg) : FnOk P w K mg base CX0 4 T.a_Gates_choose T.d_Gates_choose ["self", "test", "a", "b"] (sp_Gates_choose T) := by
  refine T.F_Gates_choose.ok sc_Gates_choose (fun vs H Q E h => ?_) (fun cdv A outer s H vs Q E hr h => ?_)
  · obtain ⟨_, _, _, _, _, _, _, _, _, _, _, _, _, rfl, _⟩ := h
    rfl
  · obtain ⟨F0, R, a_self0, dx_self0, x_self0, a_self0_rows0, v_self0_rows0, a_self0_known0, v_self0_known0, x_test0, x_a0, x_b0, r, rfl, hl_self0_rows0, hl_self0_known0, S0, hm, kk⟩ := h
    have hu := hu_of hr
    unfold m_Gates_choose at hm
    refine ⟨_, (pss_cons (ps_if (pt_cmpR oI_eq (pv 2) (pv 3) (nomark _)) (pss_one (ps_ret (pv 2))) pss_nil) (pss_one (ps_ret (pe_meth (pv 0) T.cl_Gates T.h_Gates_either (ok_Gates_either T) (hr.mono (by decide)) T.b_Gates_either .nil pass0 (pa_cons (pe_meth (pv 0) T.cl_Gates T.h_Gates_both (ok_Gates_both T) (hr.mono (by decide)) T.b_Gates_both .nil pass0 (pa_cons (pv 1) (pa_cons (pv 2) pa_nil))) (pa_cons (pe_meth (pv 0) T.cl_Gates T.h_Gates_both (ok_Gates_both T) (hr.mono (by decide)) T.b_Gates_both .nil pass0 (pa_cons (pe_call (ok_opposite T) (hr.mono (by decide)) rfl T.g_opposite T.F_opposite.kp T.b_opposite .nil pass0 (pa_cons (pv 1) pa_nil)) (pa_cons (pv 3) pa_nil))) pa_nil)))))), ?_⟩
    refine ⟨_, rfl, _, rfl, _, _, rfl, rfl, _, rfl, ?_⟩
    by_cases c1 : (decide (x_a0 = x_b0)) = true
    · have hm := ifT hm c1
      refine goT c1 ?_
      refine ⟨_, rfl, ?_⟩
      obtain rfl := Option.some.inj hm
      exact kk _ _ a_self0_rows0 v_self0_rows0 a_self0_known0 v_self0_known0 (Same.refl _) S0 hl_self0_rows0 hl_self0_known0
    · have hm := ifF hm c1
      refine goF c1 ?_
      obtain ⟨y2, e3, hm⟩ := bnd hm
      refine ⟨_, rfl, _, _, _, rfl, (S0.get 0 rfl), fl_Gates_no_either, _, rfl, _, _, _, rfl, (S0.get 0 rfl), fl_Gates_no_both, _, rfl, _, rfl, F0, ([] ++ R), a_self0, dx_self0, (M_Gates.mk x_self0.rows x_self0.known), a_self0_rows0, v_self0_rows0, a_self0_known0, v_self0_known0, x_test0, x_a0, _, rfl, hl_self0_rows0, hl_self0_known0, S0, e3, fun F4 H5 a8 v9 a11 v12 s6 S7 hl10 hl13 => ?_⟩
      have S14 : Sta F4 ([(a_self0, .ins T.a_Gates dx_self0 (fl_Gates (.ref a8) (.ref a11))), (a8, .lst v9), (a11, .dT v12)] ++ R) _ := S7
      obtain ⟨y15, e16, hm⟩ := bnd hm
      refine ⟨_, rfl, _, _, _, rfl, (S14.get 0 rfl), fl_Gates_no_both, _, rfl, x_test0, _, rfl, rfl, _, rfl, F4, ([] ++ R), a_self0, dx_self0, (M_Gates.mk y2.2.rows y2.2.known), a8, v9, a11, v12, (m_opposite x_test0), x_b0, _, rfl, hl10, hl13, S14, e16, fun F17 H18 a21 v22 a24 v25 s19 S20 hl23 hl26 => ?_⟩
      have S27 : Sta F17 ([(a_self0, .ins T.a_Gates dx_self0 (fl_Gates (.ref a21) (.ref a24))), (a21, .lst v22), (a24, .dT v25)] ++ R) _ := S20
      obtain ⟨y28, e29, hm⟩ := bnd hm
      refine ⟨F17, ([] ++ R), a_self0, dx_self0, (M_Gates.mk y15.2.rows y15.2.known), a21, v22, a24, v25, y2.1, y15.1, _, rfl, hl23, hl26, S27, e29, fun F30 H31 a34 v35 a37 v38 s32 S33 hl36 hl39 => ?_⟩
      have S40 : Sta F30 ([(a_self0, .ins T.a_Gates dx_self0 (fl_Gates (.ref a34) (.ref a37))), (a34, .lst v35), (a37, .dT v38)] ++ R) _ := S33
      obtain rfl := Option.some.inj hm
      exact kk _ _ a34 v35 a37 v38 (s6.trans (s19.trans s32)) S40 hl36 hl39

def sp_law_call (T : Txt K mg) : Sp := fun vs H Q _ => ∃ (F0 : Hp) (R : Own) (a_script0 : Addr) (v_script0 : List V) (x_script0 : (List Int)) (a_source0 : Addr) (v_source0 : List V) (x_source0 : (List Int)) (a_gates0 : Addr) (dx_gates0 : Addr) (x_gates0 : M_Gates) (a_gates0_rows0 : Addr) (v_gates0_rows0 : List V) (a_gates0_known0 : Addr) (v_gates0_known0 : List (List Key × V)) (a_rows0 : Addr) (v_rows0 : List V) (x_rows0 : (List (List Key))) (a_edges0 : Addr) (v_edges0 : List V) (x_edges0 : (List Int)) (r : ((Int × Int) × (List Int) × M_Gates × (List (List Key)))),
  vs = [.ref a_script0, .ref a_source0, .ref a_gates0, .ref a_rows0, .ref a_edges0] ∧ SqL K F0 a_script0 v_script0 ∧ LR (rInt F0) v_script0 x_script0 ∧ LR (rInt F0) v_source0 x_source0 ∧ LR (rKT F0) v_gates0_rows0 x_gates0.rows ∧ KR id (rInt F0) v_gates0_known0 x_gates0.known ∧ LR (rKT F0) v_rows0 x_rows0 ∧ SqL K (ov F0 R) a_edges0 v_edges0 ∧ LR (rInt F0) v_edges0 x_edges0 ∧ Sta F0 ([(a_source0, .lst v_source0), (a_gates0, .ins T.a_Gates dx_gates0 (fl_Gates (.ref a_gates0_rows0) (.ref a_gates0_known0))), (a_gates0_rows0, .lst v_gates0_rows0), (a_gates0_known0, .dT v_gates0_known0), (a_rows0, .lst v_rows0)] ++ R) H ∧ m_law_call x_script0 x_source0 x_gates0 x_rows0 x_edges0 = some r ∧ ∀ (F1 : Hp) (H1 : Hp) (v_source0p : List V) (a_gates0p_rows0 : Addr) (v_gates0p_rows0 : List V) (a_gates0p_known0 : Addr) (v_gates0p_known0 : List (List Key × V)) (v_rows0p : List V) (v_ret0p : V), Same F0 F1 → Sta F1 ([(a_source0, .lst v_source0p), (a_gates0, .ins T.a_Gates dx_gates0 (fl_Gates (.ref a_gates0p_rows0) (.ref a_gates0p_known0))), (a_gates0p_rows0, .lst v_gates0p_rows0), (a_gates0p_known0, .dT v_gates0p_known0), (a_rows0, .lst v_rows0p)] ++ R) H1 → LR (rInt F1) v_source0p r.2.1 → LR (rKT F1) v_gates0p_rows0 r.2.2.1.rows → KR id (rInt F1) v_gates0p_known0 r.2.2.1.known → LR (rKT F1) v_rows0p r.2.2.2 → (rT2 K rInt rInt) F1 v_ret0p r.1 → Q (v_ret0p) H1

theorem sc_law_call : FnScope ["script", "source", "gates", "rows", "edges", "kind", "letter", "given", "k", "handed", "got", "a", "b", "test"] ["script", "source", "gates", "rows", "edges"] (defScope s_law_call) := ⟨rfl, rfl, rfl, by decide +kernel, rfl, by decide +kernel, by decide +kernel⟩
theorem ok_law_call (T : Txt K mg) : FnOk P w K mg base CX0 5 T.a_law_call T.d_law_call ["script", "source", "gates", "rows", "edges"] (sp_law_call T) := by
  refine T.F_law_call.ok sc_law_call (fun vs H Q E h => ?_) (fun cdv A outer s H vs Q E hr h => ?_)
  · obtain ⟨_, _, _, _, _, _, _, _, _, _, _, _, _, _, _, _, _, _, _, _, _, _, rfl, _⟩ := h
    rfl
  · obtain ⟨F0, R, a_script0, v_script0, x_script0, a_source0, v_source0, x_source0, a_gates0, dx_gates0, x_gates0, a_gates0_rows0, v_gates0_rows0, a_gates0_known0, v_gates0_known0, a_rows0, v_rows0, x_rows0, a_edges0, v_edges0, x_edges0, r, rfl, hs_script0, hl_script0, hl_source0, hl_gates0_rows0, hl_gates0_known0, hl_rows0, hs_edges0, hl_edges0, S0, hm, kk⟩ := h
    have hu := hu_of hr
    unfold m_law_call at hm
    refine ⟨_, (pss_cons (ps_set (i := 5) sc_law_call.nd rfl (Or.inl rfl) (pe_call (ok_law_take T) (hr.mono (by decide)) rfl T.g_law_take T.F_law_take.kp T.b_law_take .nil pass0 (pa_cons (pv 0) (pa_cons (pv 1) (pa_cons pe_int pa_nil))))) (pss_cons (ps_if (pt_cmpR op_lt (pv 5) pe_int (nomark _)) (pss_cons (ps_set (i := 6) sc_law_call.nd rfl (Or.inl rfl) (pe_call (ok_law_letter T) (hr.mono (by decide)) rfl T.g_law_letter T.F_law_letter.kp T.b_law_letter .nil pass0 (pa_cons (pv 0) (pa_cons (pv 1) pa_nil)))) (pss_one (ps_ret (pe_tup (pa_cons (pe_call (ok_law_row T) (hr.mono (by decide)) rfl T.g_law_row T.F_law_row.kp T.b_law_row .nil pass0 (pa_cons (pv 3) (pa_cons (pe_tup (pa_cons pe_str (pa_cons (pv 6) pa_nil))) pa_nil))) (pa_cons (pe_meth (pv 2) T.cl_Gates T.h_Gates_leaf (ok_Gates_leaf T) (hr.mono (by decide)) T.b_Gates_leaf .nil pass0 (pa_cons (pv 6) pa_nil)) pa_nil)))))) pss_nil) (pss_cons (ps_if (pt_cmpR op_gt (pv 5) pe_int (nomark _)) (pss_cons (ps_set (i := 7) sc_law_call.nd rfl (Or.inl rfl) (pe_lst pa_nil)) (pss_cons (ps_for PassesOwn.never rfl (pi_range1 rfl T.z_range (pa_cons (pe_call (ok_law_take T) (hr.mono (by decide)) rfl T.g_law_take T.F_law_take.kp T.b_law_take .nil pass0 (pa_cons (pv 0) (pa_cons (pv 1) (pa_cons pe_int pa_nil)))) pa_nil)) (pg_name (i := 8) sc_law_call.nd rfl (Or.inl rfl)) (pss_one (ps_expr (pe_bm PySem.F.plainAttrs_list PySem.F.slot_list_append PySem.F.type_list_append mt_append (pv 7) (pa_cons (pe_call (ok_law_edge T) (hr.mono (by decide)) rfl T.g_law_edge T.F_law_edge.kp T.b_law_edge .nil pass0 (pa_cons (pv 0) (pa_cons (pv 1) (pa_cons (pv 4) pa_nil)))) pa_nil))))) (pss_cons (ps_set (i := 9) sc_law_call.nd rfl (Or.inl rfl) (pe_callTy call_list_of (by rfl) T.z_list (by decide +kernel) (pa_cons (pv 7) pa_nil))) (C8.pss_cut (ps_if (pt_cmpR oI_eq (pv 5) pe_int (nomark _)) (pss_one (ps_set (i := 10) sc_law_call.nd rfl (Or.inl rfl) (pe_meth (pv 2) T.cl_Gates T.h_Gates_every (ok_Gates_every T) (hr.mono (by decide)) T.b_Gates_every .nil pass0 (pa_cons (pv 9) pa_nil)))) (pss_one (ps_set (i := 10) sc_law_call.nd rfl (Or.inl rfl) (pe_meth (pv 2) T.cl_Gates T.h_Gates_one_of (ok_Gates_one_of T) (hr.mono (by decide)) T.b_Gates_one_of .nil pass0 (pa_cons (pv 9) pa_nil))))) (pss_cons (ps_if (pt_cmpR (op_neD hr.units) (pv 9) (pv 7) (nomark _)) (pss_one ps_never) pss_nil) (pss_one (ps_ret (pe_tup (pa_cons (pe_call (ok_law_folded T) (hr.mono (by decide)) rfl T.g_law_folded T.F_law_folded.kp T.b_law_folded .nil pass0 (pa_cons (pv 3) (pa_cons (pv 5) (pa_cons (pv 7) pa_nil)))) (pa_cons (pv 10) pa_nil)))))))))) pss_nil) (pss_cons (ps_set (i := 11) sc_law_call.nd rfl (Or.inl rfl) (pe_call (ok_law_edge T) (hr.mono (by decide)) rfl T.g_law_edge T.F_law_edge.kp T.b_law_edge .nil pass0 (pa_cons (pv 0) (pa_cons (pv 1) (pa_cons (pv 4) pa_nil))))) (pss_cons (ps_set (i := 12) sc_law_call.nd rfl (Or.inl rfl) (pe_call (ok_law_edge T) (hr.mono (by decide)) rfl T.g_law_edge T.F_law_edge.kp T.b_law_edge .nil pass0 (pa_cons (pv 0) (pa_cons (pv 1) (pa_cons (pv 4) pa_nil))))) (pss_cons (ps_if (pt_cmpR oI_eq (pv 5) pe_int (nomark _)) (pss_one (ps_ret (pe_tup (pa_cons (pe_call (ok_law_both T) (hr.mono (by decide)) rfl T.g_law_both T.F_law_both.kp T.b_law_both .nil pass0 (pa_cons (pv 3) (pa_cons (pv 11) (pa_cons (pv 12) pa_nil)))) (pa_cons (pe_meth (pv 2) T.cl_Gates T.h_Gates_both (ok_Gates_both T) (hr.mono (by decide)) T.b_Gates_both .nil pass0 (pa_cons (pv 11) (pa_cons (pv 12) pa_nil))) pa_nil))))) pss_nil) (pss_cons (ps_if (pt_cmpR oI_eq (pv 5) pe_int (nomark _)) (pss_one (ps_ret (pe_tup (pa_cons (pe_call (ok_law_either T) (hr.mono (by decide)) rfl T.g_law_either T.F_law_either.kp T.b_law_either .nil pass0 (pa_cons (pv 3) (pa_cons (pv 11) (pa_cons (pv 12) pa_nil)))) (pa_cons (pe_meth (pv 2) T.cl_Gates T.h_Gates_either (ok_Gates_either T) (hr.mono (by decide)) T.b_Gates_either .nil pass0 (pa_cons (pv 11) (pa_cons (pv 12) pa_nil))) pa_nil))))) pss_nil) (pss_cons (ps_if (pt_cmpR oI_eq (pv 5) pe_int (nomark _)) (pss_one (ps_ret (pe_tup (pa_cons (pe_call (ok_law_differ T) (hr.mono (by decide)) rfl T.g_law_differ T.F_law_differ.kp T.b_law_differ .nil pass0 (pa_cons (pv 3) (pa_cons (pv 11) (pa_cons (pv 12) pa_nil)))) (pa_cons (pe_meth (pv 2) T.cl_Gates T.h_Gates_differ (ok_Gates_differ T) (hr.mono (by decide)) T.b_Gates_differ .nil pass0 (pa_cons (pv 11) (pa_cons (pv 12) pa_nil))) pa_nil))))) pss_nil) (pss_cons (ps_set (i := 13) sc_law_call.nd rfl (Or.inl rfl) (pe_call (ok_law_edge T) (hr.mono (by decide)) rfl T.g_law_edge T.F_law_edge.kp T.b_law_edge .nil pass0 (pa_cons (pv 0) (pa_cons (pv 1) (pa_cons (pv 4) pa_nil))))) (pss_one (ps_ret (pe_tup (pa_cons (pe_call (ok_law_choose T) (hr.mono (by decide)) rfl T.g_law_choose T.F_law_choose.kp T.b_law_choose .nil pass0 (pa_cons (pv 3) (pa_cons (pv 13) (pa_cons (pv 11) (pa_cons (pv 12) pa_nil))))) (pa_cons (pe_meth (pv 2) T.cl_Gates T.h_Gates_choose (ok_Gates_choose T) (hr.mono (by decide)) T.b_Gates_choose .nil pass0 (pa_cons (pv 13) (pa_cons (pv 11) (pa_cons (pv 12) pa_nil)))) pa_nil)))))))))))))), ?_⟩
    obtain ⟨y1, e2, hm⟩ := bnd hm
    refine ⟨_, rfl, _, rfl, F0, ([(a_gates0, .ins T.a_Gates dx_gates0 (fl_Gates (.ref a_gates0_rows0) (.ref a_gates0_known0))), (a_gates0_rows0, .lst v_gates0_rows0), (a_gates0_known0, .dT v_gates0_known0), (a_rows0, .lst v_rows0)] ++ R), a_script0, v_script0, x_script0, a_source0, v_source0, x_source0, (8 : Int), _, rfl, (SqL.mono hs_script0 (Same.refl _)), (hl_script0), hl_source0, S0, e2, fun F3 H4 v7 s5 S6 hl8 => ?_⟩
    have S9 : Sta F3 ([(a_source0, .lst v7), (a_gates0, .ins T.a_Gates dx_gates0 (fl_Gates (.ref a_gates0_rows0) (.ref a_gates0_known0))), (a_gates0_rows0, .lst v_gates0_rows0), (a_gates0_known0, .dT v_gates0_known0), (a_rows0, .lst v_rows0)] ++ R) _ := S6
    refine ⟨_, rfl, _, _, rfl, rfl, _, rfl, ?_⟩
    by_cases c10 : (decide (y1.1 < (2 : Int))) = true
    · have hm := ifT hm c10
      refine goT c10 ?_
      obtain ⟨y11, e12, hm⟩ := bnd hm
      refine ⟨_, rfl, _, rfl, F3, ([(a_gates0, .ins T.a_Gates dx_gates0 (fl_Gates (.ref a_gates0_rows0) (.ref a_gates0_known0))), (a_gates0_rows0, .lst v_gates0_rows0), (a_gates0_known0, .dT v_gates0_known0), (a_rows0, .lst v_rows0)] ++ R), a_script0, v_script0, x_script0, a_source0, v7, y1.2, _, rfl, (SqL.mono hs_script0 s5), ((hl_script0.mono s5)), hl8, S9, e12, fun F13 H14 v17 s15 S16 hl18 => ?_⟩
      have S19 : Sta F13 ([(a_source0, .lst v17), (a_gates0, .ins T.a_Gates dx_gates0 (fl_Gates (.ref a_gates0_rows0) (.ref a_gates0_known0))), (a_gates0_rows0, .lst v_gates0_rows0), (a_gates0_known0, .dT v_gates0_known0), (a_rows0, .lst v_rows0)] ++ R) _ := S16
      refine ⟨_, rfl, _, rfl, (by show 2 ≤ sizeLine; decide), ?_⟩
      intro a20 np21
      obtain ⟨F22, s23, S24, h25⟩ : ∃ F', Same F13 F' ∧ Sta F' ([(a_source0, .lst v17), (a_gates0, .ins T.a_Gates dx_gates0 (fl_Gates (.ref a_gates0_rows0) (.ref a_gates0_known0))), (a_gates0_rows0, .lst v_gates0_rows0), (a_gates0_known0, .dT v_gates0_known0), (a_rows0, .lst v_rows0)] ++ R) _ ∧ F' a20 = some (.tup (([Sum.inr ("letter" : Str), Sum.inl y11.1] : List Key).map kV)) := ⟨_, S19.sameF np21 _, S19.newF np21 _, upd_same⟩
      have S26 : Sta F22 ([(a_rows0, .lst v_rows0), (a_source0, .lst v17), (a_gates0, .ins T.a_Gates dx_gates0 (fl_Gates (.ref a_gates0_rows0) (.ref a_gates0_known0))), (a_gates0_rows0, .lst v_gates0_rows0), (a_gates0_known0, .dT v_gates0_known0)] ++ R) _ := S24.pick [4, 0, 1, 2, 3] (by decide) rfl
      obtain ⟨y27, e28, hm⟩ := bnd hm
      refine ⟨F22, ([(a_source0, .lst v17), (a_gates0, .ins T.a_Gates dx_gates0 (fl_Gates (.ref a_gates0_rows0) (.ref a_gates0_known0))), (a_gates0_rows0, .lst v_gates0_rows0), (a_gates0_known0, .dT v_gates0_known0)] ++ R), a_rows0, v_rows0, x_rows0, a20, ([Sum.inr ("letter" : Str), Sum.inl y11.1] : List Key), _, rfl, (hl_rows0.mono (s5.trans (s15.trans s23))), ((Same.refl _) _ _ h25), S26, e28, fun F29 H30 v33 s31 S32 hl34 => ?_⟩
      have S35 : Sta F29 ([(a_rows0, .lst v33), (a_source0, .lst v17), (a_gates0, .ins T.a_Gates dx_gates0 (fl_Gates (.ref a_gates0_rows0) (.ref a_gates0_known0))), (a_gates0_rows0, .lst v_gates0_rows0), (a_gates0_known0, .dT v_gates0_known0)] ++ R) _ := S32
      have S36 : Sta F29 ([(a_gates0, .ins T.a_Gates dx_gates0 (fl_Gates (.ref a_gates0_rows0) (.ref a_gates0_known0))), (a_gates0_rows0, .lst v_gates0_rows0), (a_gates0_known0, .dT v_gates0_known0), (a_rows0, .lst v33), (a_source0, .lst v17)] ++ R) _ := S35.pick [2, 3, 4, 0, 1] (by decide) rfl
      obtain ⟨y37, e38, hm⟩ := bnd hm
      refine ⟨_, rfl, _, _, _, rfl, (S35.get 2 rfl), fl_Gates_no_leaf, _, rfl, F29, ([(a_rows0, .lst v33), (a_source0, .lst v17)] ++ R), a_gates0, dx_gates0, (M_Gates.mk x_gates0.rows x_gates0.known), a_gates0_rows0, v_gates0_rows0, a_gates0_known0, v_gates0_known0, y11.1, _, rfl, (hl_gates0_rows0.mono (s5.trans (s15.trans (s23.trans s31)))), (KR.mono hl_gates0_known0 (s5.trans (s15.trans (s23.trans s31)))), S36, e38, fun F39 H40 a43 v44 a46 v47 s41 S42 hl45 hl48 => ?_⟩
      have S49 : Sta F39 ([(a_gates0, .ins T.a_Gates dx_gates0 (fl_Gates (.ref a43) (.ref a46))), (a43, .lst v44), (a46, .dT v47), (a_rows0, .lst v33), (a_source0, .lst v17)] ++ R) _ := S42
      refine ⟨(by show 2 ≤ sizeLine; decide), ?_⟩
      intro a50 np51
      obtain ⟨F52, s53, S54, h55⟩ : ∃ F', Same F39 F' ∧ Sta F' ([(a_gates0, .ins T.a_Gates dx_gates0 (fl_Gates (.ref a43) (.ref a46))), (a43, .lst v44), (a46, .dT v47), (a_rows0, .lst v33), (a_source0, .lst v17)] ++ R) _ ∧ F' a50 = some (.tup [.int y27.1, .int y37.1]) := ⟨_, S49.sameF np51 _, S49.newF np51 _, upd_same⟩
      obtain rfl := Option.some.inj hm
      have S56 : Sta F52 ([(a_source0, .lst v17), (a_gates0, .ins T.a_Gates dx_gates0 (fl_Gates (.ref a43) (.ref a46))), (a43, .lst v44), (a46, .dT v47), (a_rows0, .lst v33)] ++ R) _ := S54.pick [4, 0, 1, 2, 3] (by decide) rfl
      exact kk _ _ v17 a43 v44 a46 v47 v33 (.ref a50) (s5.trans (s15.trans (s23.trans (s31.trans (s41.trans s53))))) S56 (hl18.mono (s23.trans (s31.trans (s41.trans s53)))) (hl45.mono s53) (KR.mono hl48 s53) (hl34.mono (s41.trans s53)) ⟨_, _, _, rfl, SqT.mono (SqT.of h55) (Same.refl _), rfl, rfl⟩
    · have hm := ifF hm c10
      refine goF c10 ?_
      refine ⟨_, rfl, _, _, rfl, rfl, _, rfl, ?_⟩
      by_cases c57 : (decide (y1.1 > (5 : Int))) = true
      · have hm := ifT hm c57
        refine goT c57 ?_
        refine ⟨(by show 0 ≤ sizeLine; decide), ?_⟩
        intro a58 np59
        have hl60 : LR (rInt F3) [] ([] : (List Int)) := trivial
        have S61 : Sta F3 ([(a58, .lst []), (a_source0, .lst v7), (a_gates0, .ins T.a_Gates dx_gates0 (fl_Gates (.ref a_gates0_rows0) (.ref a_gates0_known0))), (a_gates0_rows0, .lst v_gates0_rows0), (a_gates0_known0, .dT v_gates0_known0), (a_rows0, .lst v_rows0)] ++ R) _ := S9.new np59 _
        have S65 : Sta F3 ([(a_source0, .lst v7), (a58, .lst []), (a_gates0, .ins T.a_Gates dx_gates0 (fl_Gates (.ref a_gates0_rows0) (.ref a_gates0_known0))), (a_gates0_rows0, .lst v_gates0_rows0), (a_gates0_known0, .dT v_gates0_known0), (a_rows0, .lst v_rows0)] ++ R) _ := S61.pick [1, 0, 2, 3, 4, 5] (by decide) rfl
        obtain ⟨y66, e67, hm⟩ := bnd hm
        refine ⟨_, rfl, _, rfl, F3, ([(a58, .lst []), (a_gates0, .ins T.a_Gates dx_gates0 (fl_Gates (.ref a_gates0_rows0) (.ref a_gates0_known0))), (a_gates0_rows0, .lst v_gates0_rows0), (a_gates0_known0, .dT v_gates0_known0), (a_rows0, .lst v_rows0)] ++ R), a_script0, v_script0, x_script0, a_source0, v7, y1.2, (5 : Int), _, rfl, (SqL.mono hs_script0 s5), ((hl_script0.mono s5)), hl8, S65, e67, fun F68 H69 v72 s70 S71 hl73 => ?_⟩
        have S74 : Sta F68 ([(a_source0, .lst v72), (a58, .lst []), (a_gates0, .ins T.a_Gates dx_gates0 (fl_Gates (.ref a_gates0_rows0) (.ref a_gates0_known0))), (a_gates0_rows0, .lst v_gates0_rows0), (a_gates0_known0, .dT v_gates0_known0), (a_rows0, .lst v_rows0)] ++ R) _ := S71
        obtain ⟨g75, hm⟩ := grd_ok hm
        obtain ⟨y62, e63, hm64⟩ := bnd hm
        refine ⟨_, rfl, (rngOk_lo g75), (rngOk_hi g75), for_rng (lo := 0) (n := y66.1.toNat) (fun i σ H2 => ∃ (st1 : ((List Int) × (List Int))) (F96 : Hp) (v100 : List V) (v102 : List V) (o99 : Option V), σ = [some (.ref a_script0), some (.ref a_source0), some (.ref a_gates0), some (.ref a_rows0), some (.ref a_edges0), some (.int y1.1), none, some (.ref a58), o99, none, none, none, none, none] ∧ Same F68 F96 ∧ Sta F96 ([(a_source0, .lst v100), (a58, .lst v102), (a_gates0, .ins T.a_Gates dx_gates0 (fl_Gates (.ref a_gates0_rows0) (.ref a_gates0_known0))), (a_gates0_rows0, .lst v_gates0_rows0), (a_gates0_known0, .dT v_gates0_known0), (a_rows0, .lst v_rows0)] ++ R) H2 ∧ LR (rInt F96) v100 st1.1 ∧ LR (rInt F96) v102 st1.2 ∧ m_law_call_l1 x_script0 x_edges0 (List.drop i (pyRange 0 y66.1.toNat)) st1 = some y62) ⟨(y66.2, ([] : (List Int))), F68, v72, [], _, rfl, (Same.refl _), S74, hl73, (hl60.mono s70), e63⟩ ?_ ?_⟩
        · rintro i x104 σ H2 hi ⟨st1, F96, v100, v102, o99, rfl, s97, S98, hl101, hl103, hm⟩
          rw [drop_cons hi, m_law_call_l1] at hm
          obtain ⟨y106, e107, hm⟩ := bnd hm
          refine ⟨_, rfl, .inl ⟨rfl, _, (SqL.of (S98.get 1 rfl))⟩, _, rfl, _, rfl, _, rfl, F96, ([(a58, .lst v102), (a_gates0, .ins T.a_Gates dx_gates0 (fl_Gates (.ref a_gates0_rows0) (.ref a_gates0_known0))), (a_gates0_rows0, .lst v_gates0_rows0), (a_gates0_known0, .dT v_gates0_known0), (a_rows0, .lst v_rows0)] ++ R), a_script0, v_script0, x_script0, a_source0, v100, st1.1, a_edges0, v_edges0, x_edges0, _, rfl, (SqL.mono hs_script0 (s5.trans (s70.trans s97))), ((hl_script0.mono (s5.trans (s70.trans s97)))), hl101, (SqL.mono hs_edges0 (S98.tl.ovR (s5.trans (s70.trans s97)) (fun _ q => List.mem_append_right _ q))), (hl_edges0.mono (s5.trans (s70.trans s97))), S98, e107, fun F108 H109 v112 s110 S111 hl113 => ?_⟩
          have S114 : Sta F108 ([(a_source0, .lst v112), (a58, .lst v102), (a_gates0, .ins T.a_Gates dx_gates0 (fl_Gates (.ref a_gates0_rows0) (.ref a_gates0_known0))), (a_gates0_rows0, .lst v_gates0_rows0), (a_gates0_known0, .dT v_gates0_known0), (a_rows0, .lst v_rows0)] ++ R) _ := S111
          obtain ⟨g115, hm⟩ := grd_ok hm
          refine ⟨_, _, _, rfl, rfl, (S114.get 1 rfl), (by rw [LR.length (hl103.mono s110)]; exact of_decide_eq_true g115), ?_⟩
          have hl116 : LR (rInt F108) (v102 ++ [.int y106.1]) (st1.2 ++ [y106.1]) := LR.snoc (hl103.mono s110) rfl
          have S117 : Sta F108 ([(a_source0, .lst v112), (a58, .lst (v102 ++ [.int y106.1])), (a_gates0, .ins T.a_Gates dx_gates0 (fl_Gates (.ref a_gates0_rows0) (.ref a_gates0_known0))), (a_gates0_rows0, .lst v_gates0_rows0), (a_gates0_known0, .dT v_gates0_known0), (a_rows0, .lst v_rows0)] ++ R) _ := S114.set 1 rfl _
          exact ⟨(y106.2, (st1.2 ++ [y106.1])), F108, v112, (v102 ++ [.int y106.1]), _, rfl, (s97.trans s110), S117, hl113, hl116, hm⟩
        · rintro σ H2 ⟨st1, F96, v100, v102, o99, rfl, s97, S98, hl101, hl103, hm⟩
          rw [drop_rng, m_law_call_l1] at hm
          obtain rfl := Option.some.inj hm
          have hm := hm64
          refine ⟨_, rfl, _, _, rfl, .inl (SqL.of (S98.get 1 rfl)), ?_⟩
          intro a118 np119
          have hl120 := hl103
          have S121 : Sta F96 ([(a118, .lst v102), (a_source0, .lst v100), (a58, .lst v102), (a_gates0, .ins T.a_Gates dx_gates0 (fl_Gates (.ref a_gates0_rows0) (.ref a_gates0_known0))), (a_gates0_rows0, .lst v_gates0_rows0), (a_gates0_known0, .dT v_gates0_known0), (a_rows0, .lst v_rows0)] ++ R) _ := S98.new np119 _
          obtain ⟨y131, e132, hm⟩ := bnd hm
          refine ⟨fun σ H2 => ∃ (F122 : Hp) (a125 : Addr) (v126 : List V) (a128 : Addr) (v129 : List (List Key × V)), σ = [some (.ref a_script0), some (.ref a_source0), some (.ref a_gates0), some (.ref a_rows0), some (.ref a_edges0), some (.int y1.1), none, some (.ref a58), o99, some (.ref a118), some (.int y131.1), none, none, none] ∧ Same F96 F122 ∧ Sta F122 ([(a118, .lst v102), (a_source0, .lst v100), (a58, .lst v102), (a_gates0, .ins T.a_Gates dx_gates0 (fl_Gates (.ref a125) (.ref a128))), (a125, .lst v126), (a128, .dT v129), (a_rows0, .lst v_rows0)] ++ R) H2 ∧ LR (rKT F122) v126 y131.2.rows ∧ KR id (rInt F122) v129 y131.2.known, ?_, ?_⟩
          · have hm := e132
            refine ⟨_, rfl, _, _, rfl, rfl, _, rfl, ?_⟩
            by_cases c133 : (decide (y1.1 = (6 : Int))) = true
            · have hm := ifT hm c133
              refine goT c133 ?_
              have S134 : Sta F96 ([(a_gates0, .ins T.a_Gates dx_gates0 (fl_Gates (.ref a_gates0_rows0) (.ref a_gates0_known0))), (a_gates0_rows0, .lst v_gates0_rows0), (a_gates0_known0, .dT v_gates0_known0), (a118, .lst v102), (a_source0, .lst v100), (a58, .lst v102), (a_rows0, .lst v_rows0)] ++ R) _ := S121.pick [3, 4, 5, 0, 1, 2, 6] (by decide) rfl
              obtain ⟨y135, e136, hm⟩ := bnd hm
              refine ⟨_, rfl, _, _, _, rfl, (S121.get 3 rfl), fl_Gates_no_every, _, rfl, F96, ([(a118, .lst v102), (a_source0, .lst v100), (a58, .lst v102), (a_rows0, .lst v_rows0)] ++ R), a_gates0, dx_gates0, (M_Gates.mk x_gates0.rows x_gates0.known), a_gates0_rows0, v_gates0_rows0, a_gates0_known0, v_gates0_known0, a118, v102, st1.2, _, rfl, (hl_gates0_rows0.mono (s5.trans (s70.trans s97))), (KR.mono hl_gates0_known0 (s5.trans (s70.trans s97))), (SqL.of (S134.tl.tl.tl.getO 0 rfl)), hl120, S134, e136, fun F137 H138 a141 v142 a144 v145 s139 S140 hl143 hl146 => ?_⟩
              have S147 : Sta F137 ([(a_gates0, .ins T.a_Gates dx_gates0 (fl_Gates (.ref a141) (.ref a144))), (a141, .lst v142), (a144, .dT v145), (a118, .lst v102), (a_source0, .lst v100), (a58, .lst v102), (a_rows0, .lst v_rows0)] ++ R) _ := S140
              obtain rfl := Option.some.inj hm
              have S148 : Sta F137 ([(a118, .lst v102), (a_source0, .lst v100), (a58, .lst v102), (a_gates0, .ins T.a_Gates dx_gates0 (fl_Gates (.ref a141) (.ref a144))), (a141, .lst v142), (a144, .dT v145), (a_rows0, .lst v_rows0)] ++ R) _ := S147.pick [3, 4, 5, 0, 1, 2, 6] (by decide) rfl
              exact ⟨F137, a141, v142, a144, v145, rfl, s139, S148, hl143, hl146⟩
            · have hm := ifF hm c133
              refine goF c133 ?_
              have S149 : Sta F96 ([(a_gates0, .ins T.a_Gates dx_gates0 (fl_Gates (.ref a_gates0_rows0) (.ref a_gates0_known0))), (a_gates0_rows0, .lst v_gates0_rows0), (a_gates0_known0, .dT v_gates0_known0), (a118, .lst v102), (a_source0, .lst v100), (a58, .lst v102), (a_rows0, .lst v_rows0)] ++ R) _ := S121.pick [3, 4, 5, 0, 1, 2, 6] (by decide) rfl
              obtain ⟨y150, e151, hm⟩ := bnd hm
              refine ⟨_, rfl, _, _, _, rfl, (S121.get 3 rfl), fl_Gates_no_one_of, _, rfl, F96, ([(a118, .lst v102), (a_source0, .lst v100), (a58, .lst v102), (a_rows0, .lst v_rows0)] ++ R), a_gates0, dx_gates0, (M_Gates.mk x_gates0.rows x_gates0.known), a_gates0_rows0, v_gates0_rows0, a_gates0_known0, v_gates0_known0, a118, v102, st1.2, _, rfl, (hl_gates0_rows0.mono (s5.trans (s70.trans s97))), (KR.mono hl_gates0_known0 (s5.trans (s70.trans s97))), (SqL.of (S149.tl.tl.tl.getO 0 rfl)), hl120, S149, e151, fun F152 H153 a156 v157 a159 v160 s154 S155 hl158 hl161 => ?_⟩
              have S162 : Sta F152 ([(a_gates0, .ins T.a_Gates dx_gates0 (fl_Gates (.ref a156) (.ref a159))), (a156, .lst v157), (a159, .dT v160), (a118, .lst v102), (a_source0, .lst v100), (a58, .lst v102), (a_rows0, .lst v_rows0)] ++ R) _ := S155
              obtain rfl := Option.some.inj hm
              have S163 : Sta F152 ([(a118, .lst v102), (a_source0, .lst v100), (a58, .lst v102), (a_gates0, .ins T.a_Gates dx_gates0 (fl_Gates (.ref a156) (.ref a159))), (a156, .lst v157), (a159, .dT v160), (a_rows0, .lst v_rows0)] ++ R) _ := S162.pick [3, 4, 5, 0, 1, 2, 6] (by decide) rfl
              exact ⟨F152, a156, v157, a159, v160, rfl, s154, S163, hl158, hl161⟩
          · rintro σ H2 ⟨F122, a125, v126, a128, v129, rfl, s123, S124, hl127, hl130⟩
            refine ⟨_, rfl, _, rfl, _, _, (dat_dp (K := K) (r := (rLst K rInt)) ⟨_, _, rfl, (SqL.of (S124.get 0 rfl)), LR.mono (hl120.mono s123) S124.sub⟩), (dat_dp (K := K) (r := (rLst K rInt)) ⟨_, _, rfl, (SqL.of (S124.get 2 rfl)), LR.mono (hl103.mono s123) S124.sub⟩), (dat_shaped (K := K) (r := (rLst K rInt)) (Nat.le_of_ble_eq_true rfl) _ (DPl.pl _)), (dat_shaped (K := K) (r := (rLst K rInt)) (Nat.le_of_ble_eq_true rfl) _ (DPl.pl _)), ?_⟩
            rw [dat_eqv (K := K) (r := (rLst K rInt)) st1.2 st1.2]
            refine ⟨_, rfl, ?_⟩
            by_cases c164 : (!decide (st1.2 = st1.2)) = true
            · have hm := ifT hm c164
              cases hm
            · have hm := ifF hm c164
              refine goF c164 ?_
              have S165 : Sta F122 ([(a_rows0, .lst v_rows0), (a118, .lst v102), (a_source0, .lst v100), (a58, .lst v102), (a_gates0, .ins T.a_Gates dx_gates0 (fl_Gates (.ref a125) (.ref a128))), (a125, .lst v126), (a128, .dT v129)] ++ R) _ := S124.pick [6, 0, 1, 2, 3, 4, 5] (by decide) rfl
              obtain ⟨y166, e167, hm⟩ := bnd hm
              refine ⟨_, rfl, _, rfl, _, rfl, F122, ([(a118, .lst v102), (a_source0, .lst v100), (a58, .lst v102), (a_gates0, .ins T.a_Gates dx_gates0 (fl_Gates (.ref a125) (.ref a128))), (a125, .lst v126), (a128, .dT v129)] ++ R), a_rows0, v_rows0, x_rows0, y1.1, a58, v102, st1.2, _, rfl, (hl_rows0.mono (s5.trans (s70.trans (s97.trans s123)))), (SqL.of (S165.tl.getO 2 rfl)), (hl103.mono s123), S165, e167, fun F168 H169 v172 s170 S171 hl173 => ?_⟩
              have S174 : Sta F168 ([(a_rows0, .lst v172), (a118, .lst v102), (a_source0, .lst v100), (a58, .lst v102), (a_gates0, .ins T.a_Gates dx_gates0 (fl_Gates (.ref a125) (.ref a128))), (a125, .lst v126), (a128, .dT v129)] ++ R) _ := S171
              refine ⟨_, rfl, (by show 2 ≤ sizeLine; decide), ?_⟩
              intro a175 np176
              obtain ⟨F177, s178, S179, h180⟩ : ∃ F', Same F168 F' ∧ Sta F' ([(a_rows0, .lst v172), (a118, .lst v102), (a_source0, .lst v100), (a58, .lst v102), (a_gates0, .ins T.a_Gates dx_gates0 (fl_Gates (.ref a125) (.ref a128))), (a125, .lst v126), (a128, .dT v129)] ++ R) _ ∧ F' a175 = some (.tup [.int y166.1, .int y131.1]) := ⟨_, S174.sameF np176 _, S174.newF np176 _, upd_same⟩
              obtain rfl := Option.some.inj hm
              have S181 : Sta F177 ([(a_source0, .lst v100), (a_gates0, .ins T.a_Gates dx_gates0 (fl_Gates (.ref a125) (.ref a128))), (a125, .lst v126), (a128, .dT v129), (a_rows0, .lst v172)] ++ R) _ := S179.pick [2, 4, 5, 6, 0] (by decide) rfl
              exact kk _ _ v100 a125 v126 a128 v129 v172 (.ref a175) (s5.trans (s70.trans (s97.trans (s123.trans (s170.trans s178))))) S181 (hl101.mono (s123.trans (s170.trans s178))) (hl127.mono (s170.trans s178)) (KR.mono hl130 (s170.trans s178)) (hl173.mono s178) ⟨_, _, _, rfl, SqT.mono (SqT.of h180) (Same.refl _), rfl, rfl⟩
      · have hm := ifF hm c57
        refine goF c57 ?_
        obtain ⟨y182, e183, hm⟩ := bnd hm
        refine ⟨_, rfl, _, rfl, _, rfl, F3, ([(a_gates0, .ins T.a_Gates dx_gates0 (fl_Gates (.ref a_gates0_rows0) (.ref a_gates0_known0))), (a_gates0_rows0, .lst v_gates0_rows0), (a_gates0_known0, .dT v_gates0_known0), (a_rows0, .lst v_rows0)] ++ R), a_script0, v_script0, x_script0, a_source0, v7, y1.2, a_edges0, v_edges0, x_edges0, _, rfl, (SqL.mono hs_script0 s5), ((hl_script0.mono s5)), hl8, (SqL.mono hs_edges0 (S9.tl.ovR s5 (fun _ q => List.mem_append_right _ q))), (hl_edges0.mono s5), S9, e183, fun F184 H185 v188 s186 S187 hl189 => ?_⟩
        have S190 : Sta F184 ([(a_source0, .lst v188), (a_gates0, .ins T.a_Gates dx_gates0 (fl_Gates (.ref a_gates0_rows0) (.ref a_gates0_known0))), (a_gates0_rows0, .lst v_gates0_rows0), (a_gates0_known0, .dT v_gates0_known0), (a_rows0, .lst v_rows0)] ++ R) _ := S187
        obtain ⟨y191, e192, hm⟩ := bnd hm
        refine ⟨_, rfl, _, rfl, _, rfl, F184, ([(a_gates0, .ins T.a_Gates dx_gates0 (fl_Gates (.ref a_gates0_rows0) (.ref a_gates0_known0))), (a_gates0_rows0, .lst v_gates0_rows0), (a_gates0_known0, .dT v_gates0_known0), (a_rows0, .lst v_rows0)] ++ R), a_script0, v_script0, x_script0, a_source0, v188, y182.2, a_edges0, v_edges0, x_edges0, _, rfl, (SqL.mono hs_script0 (s5.trans s186)), ((hl_script0.mono (s5.trans s186))), hl189, (SqL.mono hs_edges0 (S190.tl.ovR (s5.trans s186) (fun _ q => List.mem_append_right _ q))), (hl_edges0.mono (s5.trans s186)), S190, e192, fun F193 H194 v197 s195 S196 hl198 => ?_⟩
        have S199 : Sta F193 ([(a_source0, .lst v197), (a_gates0, .ins T.a_Gates dx_gates0 (fl_Gates (.ref a_gates0_rows0) (.ref a_gates0_known0))), (a_gates0_rows0, .lst v_gates0_rows0), (a_gates0_known0, .dT v_gates0_known0), (a_rows0, .lst v_rows0)] ++ R) _ := S196
        refine ⟨_, rfl, _, _, rfl, rfl, _, rfl, ?_⟩
        by_cases c200 : (decide (y1.1 = (2 : Int))) = true
        · have hm := ifT hm c200
          refine goT c200 ?_
          have S201 : Sta F193 ([(a_rows0, .lst v_rows0), (a_source0, .lst v197), (a_gates0, .ins T.a_Gates dx_gates0 (fl_Gates (.ref a_gates0_rows0) (.ref a_gates0_known0))), (a_gates0_rows0, .lst v_gates0_rows0), (a_gates0_known0, .dT v_gates0_known0)] ++ R) _ := S199.pick [4, 0, 1, 2, 3] (by decide) rfl
          obtain ⟨y202, e203, hm⟩ := bnd hm
          refine ⟨_, rfl, _, rfl, _, rfl, F193, ([(a_source0, .lst v197), (a_gates0, .ins T.a_Gates dx_gates0 (fl_Gates (.ref a_gates0_rows0) (.ref a_gates0_known0))), (a_gates0_rows0, .lst v_gates0_rows0), (a_gates0_known0, .dT v_gates0_known0)] ++ R), a_rows0, v_rows0, x_rows0, y182.1, y191.1, _, rfl, (hl_rows0.mono (s5.trans (s186.trans s195))), S201, e203, fun F204 H205 v208 s206 S207 hl209 => ?_⟩
          have S210 : Sta F204 ([(a_rows0, .lst v208), (a_source0, .lst v197), (a_gates0, .ins T.a_Gates dx_gates0 (fl_Gates (.ref a_gates0_rows0) (.ref a_gates0_known0))), (a_gates0_rows0, .lst v_gates0_rows0), (a_gates0_known0, .dT v_gates0_known0)] ++ R) _ := S207
          have S211 : Sta F204 ([(a_gates0, .ins T.a_Gates dx_gates0 (fl_Gates (.ref a_gates0_rows0) (.ref a_gates0_known0))), (a_gates0_rows0, .lst v_gates0_rows0), (a_gates0_known0, .dT v_gates0_known0), (a_rows0, .lst v208), (a_source0, .lst v197)] ++ R) _ := S210.pick [2, 3, 4, 0, 1] (by decide) rfl
          obtain ⟨y212, e213, hm⟩ := bnd hm
          refine ⟨_, rfl, _, _, _, rfl, (S210.get 2 rfl), fl_Gates_no_both, _, rfl, _, rfl, F204, ([(a_rows0, .lst v208), (a_source0, .lst v197)] ++ R), a_gates0, dx_gates0, (M_Gates.mk x_gates0.rows x_gates0.known), a_gates0_rows0, v_gates0_rows0, a_gates0_known0, v_gates0_known0, y182.1, y191.1, _, rfl, (hl_gates0_rows0.mono (s5.trans (s186.trans (s195.trans s206)))), (KR.mono hl_gates0_known0 (s5.trans (s186.trans (s195.trans s206)))), S211, e213, fun F214 H215 a218 v219 a221 v222 s216 S217 hl220 hl223 => ?_⟩
          have S224 : Sta F214 ([(a_gates0, .ins T.a_Gates dx_gates0 (fl_Gates (.ref a218) (.ref a221))), (a218, .lst v219), (a221, .dT v222), (a_rows0, .lst v208), (a_source0, .lst v197)] ++ R) _ := S217
          refine ⟨(by show 2 ≤ sizeLine; decide), ?_⟩
          intro a225 np226
          obtain ⟨F227, s228, S229, h230⟩ : ∃ F', Same F214 F' ∧ Sta F' ([(a_gates0, .ins T.a_Gates dx_gates0 (fl_Gates (.ref a218) (.ref a221))), (a218, .lst v219), (a221, .dT v222), (a_rows0, .lst v208), (a_source0, .lst v197)] ++ R) _ ∧ F' a225 = some (.tup [.int y202.1, .int y212.1]) := ⟨_, S224.sameF np226 _, S224.newF np226 _, upd_same⟩
          obtain rfl := Option.some.inj hm
          have S231 : Sta F227 ([(a_source0, .lst v197), (a_gates0, .ins T.a_Gates dx_gates0 (fl_Gates (.ref a218) (.ref a221))), (a218, .lst v219), (a221, .dT v222), (a_rows0, .lst v208)] ++ R) _ := S229.pick [4, 0, 1, 2, 3] (by decide) rfl
          exact kk _ _ v197 a218 v219 a221 v222 v208 (.ref a225) (s5.trans (s186.trans (s195.trans (s206.trans (s216.trans s228))))) S231 (hl198.mono (s206.trans (s216.trans s228))) (hl220.mono s228) (KR.mono hl223 s228) (hl209.mono (s216.trans s228)) ⟨_, _, _, rfl, SqT.mono (SqT.of h230) (Same.refl _), rfl, rfl⟩
        · have hm := ifF hm c200
          refine goF c200 ?_
          refine ⟨_, rfl, _, _, rfl, rfl, _, rfl, ?_⟩
          by_cases c232 : (decide (y1.1 = (3 : Int))) = true
          · have hm := ifT hm c232
            refine goT c232 ?_
            have S233 : Sta F193 ([(a_rows0, .lst v_rows0), (a_source0, .lst v197), (a_gates0, .ins T.a_Gates dx_gates0 (fl_Gates (.ref a_gates0_rows0) (.ref a_gates0_known0))), (a_gates0_rows0, .lst v_gates0_rows0), (a_gates0_known0, .dT v_gates0_known0)] ++ R) _ := S199.pick [4, 0, 1, 2, 3] (by decide) rfl
            obtain ⟨y234, e235, hm⟩ := bnd hm
            refine ⟨_, rfl, _, rfl, _, rfl, F193, ([(a_source0, .lst v197), (a_gates0, .ins T.a_Gates dx_gates0 (fl_Gates (.ref a_gates0_rows0) (.ref a_gates0_known0))), (a_gates0_rows0, .lst v_gates0_rows0), (a_gates0_known0, .dT v_gates0_known0)] ++ R), a_rows0, v_rows0, x_rows0, y182.1, y191.1, _, rfl, (hl_rows0.mono (s5.trans (s186.trans s195))), S233, e235, fun F236 H237 v240 s238 S239 hl241 => ?_⟩
            have S242 : Sta F236 ([(a_rows0, .lst v240), (a_source0, .lst v197), (a_gates0, .ins T.a_Gates dx_gates0 (fl_Gates (.ref a_gates0_rows0) (.ref a_gates0_known0))), (a_gates0_rows0, .lst v_gates0_rows0), (a_gates0_known0, .dT v_gates0_known0)] ++ R) _ := S239
            have S243 : Sta F236 ([(a_gates0, .ins T.a_Gates dx_gates0 (fl_Gates (.ref a_gates0_rows0) (.ref a_gates0_known0))), (a_gates0_rows0, .lst v_gates0_rows0), (a_gates0_known0, .dT v_gates0_known0), (a_rows0, .lst v240), (a_source0, .lst v197)] ++ R) _ := S242.pick [2, 3, 4, 0, 1] (by decide) rfl
            obtain ⟨y244, e245, hm⟩ := bnd hm
            refine ⟨_, rfl, _, _, _, rfl, (S242.get 2 rfl), fl_Gates_no_either, _, rfl, _, rfl, F236, ([(a_rows0, .lst v240), (a_source0, .lst v197)] ++ R), a_gates0, dx_gates0, (M_Gates.mk x_gates0.rows x_gates0.known), a_gates0_rows0, v_gates0_rows0, a_gates0_known0, v_gates0_known0, y182.1, y191.1, _, rfl, (hl_gates0_rows0.mono (s5.trans (s186.trans (s195.trans s238)))), (KR.mono hl_gates0_known0 (s5.trans (s186.trans (s195.trans s238)))), S243, e245, fun F246 H247 a250 v251 a253 v254 s248 S249 hl252 hl255 => ?_⟩
            have S256 : Sta F246 ([(a_gates0, .ins T.a_Gates dx_gates0 (fl_Gates (.ref a250) (.ref a253))), (a250, .lst v251), (a253, .dT v254), (a_rows0, .lst v240), (a_source0, .lst v197)] ++ R) _ := S249
            refine ⟨(by show 2 ≤ sizeLine; decide), ?_⟩
            intro a257 np258
            obtain ⟨F259, s260, S261, h262⟩ : ∃ F', Same F246 F' ∧ Sta F' ([(a_gates0, .ins T.a_Gates dx_gates0 (fl_Gates (.ref a250) (.ref a253))), (a250, .lst v251), (a253, .dT v254), (a_rows0, .lst v240), (a_source0, .lst v197)] ++ R) _ ∧ F' a257 = some (.tup [.int y234.1, .int y244.1]) := ⟨_, S256.sameF np258 _, S256.newF np258 _, upd_same⟩
            obtain rfl := Option.some.inj hm
            have S263 : Sta F259 ([(a_source0, .lst v197), (a_gates0, .ins T.a_Gates dx_gates0 (fl_Gates (.ref a250) (.ref a253))), (a250, .lst v251), (a253, .dT v254), (a_rows0, .lst v240)] ++ R) _ := S261.pick [4, 0, 1, 2, 3] (by decide) rfl
            exact kk _ _ v197 a250 v251 a253 v254 v240 (.ref a257) (s5.trans (s186.trans (s195.trans (s238.trans (s248.trans s260))))) S263 (hl198.mono (s238.trans (s248.trans s260))) (hl252.mono s260) (KR.mono hl255 s260) (hl241.mono (s248.trans s260)) ⟨_, _, _, rfl, SqT.mono (SqT.of h262) (Same.refl _), rfl, rfl⟩
          · have hm := ifF hm c232
            refine goF c232 ?_
            refine ⟨_, rfl, _, _, rfl, rfl, _, rfl, ?_⟩
            by_cases c264 : (decide (y1.1 = (4 : Int))) = true
            · have hm := ifT hm c264
              refine goT c264 ?_
              have S265 : Sta F193 ([(a_rows0, .lst v_rows0), (a_source0, .lst v197), (a_gates0, .ins T.a_Gates dx_gates0 (fl_Gates (.ref a_gates0_rows0) (.ref a_gates0_known0))), (a_gates0_rows0, .lst v_gates0_rows0), (a_gates0_known0, .dT v_gates0_known0)] ++ R) _ := S199.pick [4, 0, 1, 2, 3] (by decide) rfl
              obtain ⟨y266, e267, hm⟩ := bnd hm
              refine ⟨_, rfl, _, rfl, _, rfl, F193, ([(a_source0, .lst v197), (a_gates0, .ins T.a_Gates dx_gates0 (fl_Gates (.ref a_gates0_rows0) (.ref a_gates0_known0))), (a_gates0_rows0, .lst v_gates0_rows0), (a_gates0_known0, .dT v_gates0_known0)] ++ R), a_rows0, v_rows0, x_rows0, y182.1, y191.1, _, rfl, (hl_rows0.mono (s5.trans (s186.trans s195))), S265, e267, fun F268 H269 v272 s270 S271 hl273 => ?_⟩
              have S274 : Sta F268 ([(a_rows0, .lst v272), (a_source0, .lst v197), (a_gates0, .ins T.a_Gates dx_gates0 (fl_Gates (.ref a_gates0_rows0) (.ref a_gates0_known0))), (a_gates0_rows0, .lst v_gates0_rows0), (a_gates0_known0, .dT v_gates0_known0)] ++ R) _ := S271
              have S275 : Sta F268 ([(a_gates0, .ins T.a_Gates dx_gates0 (fl_Gates (.ref a_gates0_rows0) (.ref a_gates0_known0))), (a_gates0_rows0, .lst v_gates0_rows0), (a_gates0_known0, .dT v_gates0_known0), (a_rows0, .lst v272), (a_source0, .lst v197)] ++ R) _ := S274.pick [2, 3, 4, 0, 1] (by decide) rfl
              obtain ⟨y276, e277, hm⟩ := bnd hm
              refine ⟨_, rfl, _, _, _, rfl, (S274.get 2 rfl), fl_Gates_no_differ, _, rfl, _, rfl, F268, ([(a_rows0, .lst v272), (a_source0, .lst v197)] ++ R), a_gates0, dx_gates0, (M_Gates.mk x_gates0.rows x_gates0.known), a_gates0_rows0, v_gates0_rows0, a_gates0_known0, v_gates0_known0, y182.1, y191.1, _, rfl, (hl_gates0_rows0.mono (s5.trans (s186.trans (s195.trans s270)))), (KR.mono hl_gates0_known0 (s5.trans (s186.trans (s195.trans s270)))), S275, e277, fun F278 H279 a282 v283 a285 v286 s280 S281 hl284 hl287 => ?_⟩
              have S288 : Sta F278 ([(a_gates0, .ins T.a_Gates dx_gates0 (fl_Gates (.ref a282) (.ref a285))), (a282, .lst v283), (a285, .dT v286), (a_rows0, .lst v272), (a_source0, .lst v197)] ++ R) _ := S281
              refine ⟨(by show 2 ≤ sizeLine; decide), ?_⟩
              intro a289 np290
              obtain ⟨F291, s292, S293, h294⟩ : ∃ F', Same F278 F' ∧ Sta F' ([(a_gates0, .ins T.a_Gates dx_gates0 (fl_Gates (.ref a282) (.ref a285))), (a282, .lst v283), (a285, .dT v286), (a_rows0, .lst v272), (a_source0, .lst v197)] ++ R) _ ∧ F' a289 = some (.tup [.int y266.1, .int y276.1]) := ⟨_, S288.sameF np290 _, S288.newF np290 _, upd_same⟩
              obtain rfl := Option.some.inj hm
              have S295 : Sta F291 ([(a_source0, .lst v197), (a_gates0, .ins T.a_Gates dx_gates0 (fl_Gates (.ref a282) (.ref a285))), (a282, .lst v283), (a285, .dT v286), (a_rows0, .lst v272)] ++ R) _ := S293.pick [4, 0, 1, 2, 3] (by decide) rfl
              exact kk _ _ v197 a282 v283 a285 v286 v272 (.ref a289) (s5.trans (s186.trans (s195.trans (s270.trans (s280.trans s292))))) S295 (hl198.mono (s270.trans (s280.trans s292))) (hl284.mono s292) (KR.mono hl287 s292) (hl273.mono (s280.trans s292)) ⟨_, _, _, rfl, SqT.mono (SqT.of h294) (Same.refl _), rfl, rfl⟩
            · have hm := ifF hm c264
              refine goF c264 ?_
              obtain ⟨y296, e297, hm⟩ := bnd hm
              refine ⟨_, rfl, _, rfl, _, rfl, F193, ([(a_gates0, .ins T.a_Gates dx_gates0 (fl_Gates (.ref a_gates0_rows0) (.ref a_gates0_known0))), (a_gates0_rows0, .lst v_gates0_rows0), (a_gates0_known0, .dT v_gates0_known0), (a_rows0, .lst v_rows0)] ++ R), a_script0, v_script0, x_script0, a_source0, v197, y191.2, a_edges0, v_edges0, x_edges0, _, rfl, (SqL.mono hs_script0 (s5.trans (s186.trans s195))), ((hl_script0.mono (s5.trans (s186.trans s195)))), hl198, (SqL.mono hs_edges0 (S199.tl.ovR (s5.trans (s186.trans s195)) (fun _ q => List.mem_append_right _ q))), (hl_edges0.mono (s5.trans (s186.trans s195))), S199, e297, fun F298 H299 v302 s300 S301 hl303 => ?_⟩
              have S304 : Sta F298 ([(a_source0, .lst v302), (a_gates0, .ins T.a_Gates dx_gates0 (fl_Gates (.ref a_gates0_rows0) (.ref a_gates0_known0))), (a_gates0_rows0, .lst v_gates0_rows0), (a_gates0_known0, .dT v_gates0_known0), (a_rows0, .lst v_rows0)] ++ R) _ := S301
              have S305 : Sta F298 ([(a_rows0, .lst v_rows0), (a_source0, .lst v302), (a_gates0, .ins T.a_Gates dx_gates0 (fl_Gates (.ref a_gates0_rows0) (.ref a_gates0_known0))), (a_gates0_rows0, .lst v_gates0_rows0), (a_gates0_known0, .dT v_gates0_known0)] ++ R) _ := S304.pick [4, 0, 1, 2, 3] (by decide) rfl
              obtain ⟨y306, e307, hm⟩ := bnd hm
              refine ⟨_, rfl, _, rfl, _, rfl, _, rfl, F298, ([(a_source0, .lst v302), (a_gates0, .ins T.a_Gates dx_gates0 (fl_Gates (.ref a_gates0_rows0) (.ref a_gates0_known0))), (a_gates0_rows0, .lst v_gates0_rows0), (a_gates0_known0, .dT v_gates0_known0)] ++ R), a_rows0, v_rows0, x_rows0, y296.1, y182.1, y191.1, _, rfl, (hl_rows0.mono (s5.trans (s186.trans (s195.trans s300)))), S305, e307, fun F308 H309 v312 s310 S311 hl313 => ?_⟩
              have S314 : Sta F308 ([(a_rows0, .lst v312), (a_source0, .lst v302), (a_gates0, .ins T.a_Gates dx_gates0 (fl_Gates (.ref a_gates0_rows0) (.ref a_gates0_known0))), (a_gates0_rows0, .lst v_gates0_rows0), (a_gates0_known0, .dT v_gates0_known0)] ++ R) _ := S311
              have S315 : Sta F308 ([(a_gates0, .ins T.a_Gates dx_gates0 (fl_Gates (.ref a_gates0_rows0) (.ref a_gates0_known0))), (a_gates0_rows0, .lst v_gates0_rows0), (a_gates0_known0, .dT v_gates0_known0), (a_rows0, .lst v312), (a_source0, .lst v302)] ++ R) _ := S314.pick [2, 3, 4, 0, 1] (by decide) rfl
              obtain ⟨y316, e317, hm⟩ := bnd hm
              refine ⟨_, rfl, _, _, _, rfl, (S314.get 2 rfl), fl_Gates_no_choose, _, rfl, _, rfl, _, rfl, F308, ([(a_rows0, .lst v312), (a_source0, .lst v302)] ++ R), a_gates0, dx_gates0, (M_Gates.mk x_gates0.rows x_gates0.known), a_gates0_rows0, v_gates0_rows0, a_gates0_known0, v_gates0_known0, y296.1, y182.1, y191.1, _, rfl, (hl_gates0_rows0.mono (s5.trans (s186.trans (s195.trans (s300.trans s310))))), (KR.mono hl_gates0_known0 (s5.trans (s186.trans (s195.trans (s300.trans s310))))), S315, e317, fun F318 H319 a322 v323 a325 v326 s320 S321 hl324 hl327 => ?_⟩
              have S328 : Sta F318 ([(a_gates0, .ins T.a_Gates dx_gates0 (fl_Gates (.ref a322) (.ref a325))), (a322, .lst v323), (a325, .dT v326), (a_rows0, .lst v312), (a_source0, .lst v302)] ++ R) _ := S321
              refine ⟨(by show 2 ≤ sizeLine; decide), ?_⟩
              intro a329 np330
              obtain ⟨F331, s332, S333, h334⟩ : ∃ F', Same F318 F' ∧ Sta F' ([(a_gates0, .ins T.a_Gates dx_gates0 (fl_Gates (.ref a322) (.ref a325))), (a322, .lst v323), (a325, .dT v326), (a_rows0, .lst v312), (a_source0, .lst v302)] ++ R) _ ∧ F' a329 = some (.tup [.int y306.1, .int y316.1]) := ⟨_, S328.sameF np330 _, S328.newF np330 _, upd_same⟩
              obtain rfl := Option.some.inj hm
              have S335 : Sta F331 ([(a_source0, .lst v302), (a_gates0, .ins T.a_Gates dx_gates0 (fl_Gates (.ref a322) (.ref a325))), (a322, .lst v323), (a325, .dT v326), (a_rows0, .lst v312)] ++ R) _ := S333.pick [4, 0, 1, 2, 3] (by decide) rfl
              exact kk _ _ v302 a322 v323 a325 v326 v312 (.ref a329) (s5.trans (s186.trans (s195.trans (s300.trans (s310.trans (s320.trans s332)))))) S335 (hl303.mono (s310.trans (s320.trans s332))) (hl324.mono s332) (KR.mono hl327 s332) (hl313.mono (s320.trans s332)) ⟨_, _, _, rfl, SqT.mono (SqT.of h334) (Same.refl _), rfl, rfl⟩

def sp_law (T : Txt K mg) : Sp := fun vs H Q _ => ∃ (F0 : Hp) (R : Own) (a_script0 : Addr) (v_script0 : List V) (x_script0 : (List Int)) (r : Bool),
  vs = [.ref a_script0] ∧ SqL K F0 a_script0 v_script0 ∧ LR (rInt F0) v_script0 x_script0 ∧ Sta F0 ([] ++ R) H ∧ m_law x_script0 = some r ∧ ∀ (F1 : Hp) (H1 : Hp), Same F0 F1 → Sta F1 ([] ++ R) H1 → Q (.bl r) H1

theorem sc_law : FnScope ["script", "source", "gates", "rows", "edges", "letter", "due", "count", "k", "got", "a", "b", "twin"] ["script"] (defScope s_law) := ⟨rfl, rfl, rfl, by decide +kernel, rfl, by decide +kernel, by decide +kernel⟩
theorem ok_law (T : Txt K mg) : FnOk P w K mg base CX0 6 T.a_law T.d_law ["script"] (sp_law T) := by
  refine T.F_law.ok sc_law (fun vs H Q E h => ?_) (fun cdv A outer s H vs Q E hr h => ?_)
  · obtain ⟨_, _, _, _, _, _, rfl, _⟩ := h
    rfl
  · obtain ⟨F0, R, a_script0, v_script0, x_script0, r, rfl, hs_script0, hl_script0, S0, hm, kk⟩ := h
    have hu := hu_of hr
    unfold m_law at hm
    refine ⟨_, (pss_cons (ps_set (i := 1) sc_law.nd rfl (Or.inl rfl) (pe_lst (pa_cons pe_int (pa_cons pe_int (pa_cons (pe_call (ok_law_seed T) (hr.mono (by decide)) rfl T.g_law_seed T.F_law_seed.kp T.b_law_seed .nil pass0 (pa_cons (pv 0) pa_nil)) pa_nil))))) (pss_cons (ps_set (i := 2) sc_law.nd rfl (Or.inl rfl) (pe_make0 T.mk_Gates (ok_Gates_init T) (hr.mono (by decide)) rfl T.g_Gates T.b_Gates_init .nil pass0)) (pss_cons (ps_set (i := 3) sc_law.nd rfl (Or.inl rfl) (pe_lst (pa_cons (pe_tup (pa_cons pe_str pa_nil)) pa_nil))) (pss_cons (ps_if (pt_not (pt_val (pe_call (ok_law_same_rows T) (hr.mono (by decide)) rfl T.g_law_same_rows T.F_law_same_rows.kp T.b_law_same_rows .nil pass0 (pa_cons (pe_fld (pv 2) rfl) (pa_cons (pv 3) pa_nil))))) (pss_one ps_never) pss_nil) (pss_cons (ps_set (i := 4) sc_law.nd rfl (Or.inl rfl) (pe_lst (pa_cons pe_int (pa_cons pe_int pa_nil)))) (pss_cons (ps_for PassesOwn.never rfl (pi_list (pe_lst (pa_cons pe_int (pa_cons pe_int pa_nil)))) (pg_name (i := 5) sc_law.nd rfl (Or.inl rfl)) (pss_cons (ps_set (i := 6) sc_law.nd rfl (Or.inl rfl) (pe_call (ok_law_row T) (hr.mono (by decide)) rfl T.g_law_row T.F_law_row.kp T.b_law_row .nil pass0 (pa_cons (pv 3) (pa_cons (pe_tup (pa_cons pe_str (pa_cons (pv 5) pa_nil))) pa_nil)))) (pss_cons (ps_if (pt_not (pt_val (pe_call (ok_law_is_edge T) (hr.mono (by decide)) rfl T.g_law_is_edge T.F_law_is_edge.kp T.b_law_is_edge .nil pass0 (pa_cons (pe_meth (pv 2) T.cl_Gates T.h_Gates_leaf (ok_Gates_leaf T) (hr.mono (by decide)) T.b_Gates_leaf .nil pass0 (pa_cons (pv 5) pa_nil)) (pa_cons (pv 6) pa_nil))))) (pss_one ps_never) pss_nil) (pss_one (ps_expr (pe_bm PySem.F.plainAttrs_list PySem.F.slot_list_append PySem.F.type_list_append mt_append (pv 4) (pa_cons (pv 6) pa_nil))))))) (pss_cons (ps_set (i := 7) sc_law.nd rfl (Or.inl rfl) (pe_op op_add pe_int (pe_call (ok_law_take T) (hr.mono (by decide)) rfl T.g_law_take T.F_law_take.kp T.b_law_take .nil pass0 (pa_cons (pv 0) (pa_cons (pv 1) (pa_cons pe_int pa_nil)))))) (C8.pss_cut (ps_if (pt_cmpR oI_eq (pe_call (ok_law_take T) (hr.mono (by decide)) rfl T.g_law_take T.F_law_take.kp T.b_law_take .nil pass0 (pa_cons (pv 0) (pa_cons (pv 1) (pa_cons pe_int pa_nil)))) pe_int (nomark _)) (pss_one (ps_set (i := 7) sc_law.nd rfl (Or.inl rfl) (pe_op op_add (pv 7) pe_int))) pss_nil) (pss_cons (ps_for PassesOwn.never rfl (pi_range1 rfl T.z_range (pa_cons (pv 7) pa_nil)) (pg_name (i := 8) sc_law.nd rfl (Or.inl rfl)) (pss_cons (ps_asg (pe_call (ok_law_call T) (hr.mono (by decide)) rfl T.g_law_call T.F_law_call.kp T.b_law_call .nil pass0 (pa_cons (pv 0) (pa_cons (pv 1) (pa_cons (pv 2) (pa_cons (pv 3) (pa_cons (pv 4) pa_nil)))))) (pg_tup rfl (pgs_cons (pg_name (i := 6) sc_law.nd rfl (Or.inl rfl)) (pgs_cons (pg_name (i := 9) sc_law.nd rfl (Or.inl rfl)) pgs_nil)))) (pss_cons (ps_if (pt_pure (PW.pt (pw_or (pt_not (pt_val (pe_call (ok_law_is_edge T) (hr.mono (by decide)) rfl T.g_law_is_edge T.F_law_is_edge.kp T.b_law_is_edge .nil pass0 (pa_cons (pv 9) (pa_cons (pv 6) pa_nil))))) (pw_or1 (pt_not (pt_val (pe_call (ok_law_is_edge T) (hr.mono (by decide)) rfl T.g_law_is_edge T.F_law_is_edge.kp T.b_law_is_edge .nil pass0 (pa_cons (pe_call (ok_opposite T) (hr.mono (by decide)) rfl T.g_opposite T.F_opposite.kp T.b_opposite .nil pass0 (pa_cons (pv 6) pa_nil)) (pa_cons (pe_call (ok_law_opposite T) (hr.mono (by decide)) rfl T.g_law_opposite T.F_law_opposite.kp T.b_law_opposite .nil pass0 (pa_cons (pv 6) pa_nil)) pa_nil))))))))) (pss_one ps_never) pss_nil) (pss_cons (ps_expr (pe_bm PySem.F.plainAttrs_list PySem.F.slot_list_append PySem.F.type_list_append mt_append (pv 4) (pa_cons (pv 6) pa_nil))) (pss_one (ps_expr (pe_bm PySem.F.plainAttrs_list PySem.F.slot_list_append PySem.F.type_list_append mt_append (pv 4) (pa_cons (pe_call (ok_law_opposite T) (hr.mono (by decide)) rfl T.g_law_opposite T.F_law_opposite.kp T.b_law_opposite .nil pass0 (pa_cons (pv 6) pa_nil)) pa_nil)))))))) (pss_cons (ps_if (pt_not (pt_val (pe_call (ok_law_same_rows T) (hr.mono (by decide)) rfl T.g_law_same_rows T.F_law_same_rows.kp T.b_law_same_rows .nil pass0 (pa_cons (pe_fld (pv 2) rfl) (pa_cons (pv 3) pa_nil))))) (pss_one ps_never) pss_nil) (pss_cons (ps_set (i := 10) sc_law.nd rfl (Or.inl rfl) (pe_call (ok_law_edge T) (hr.mono (by decide)) rfl T.g_law_edge T.F_law_edge.kp T.b_law_edge .nil pass0 (pa_cons (pv 0) (pa_cons (pv 1) (pa_cons (pv 4) pa_nil))))) (pss_cons (ps_set (i := 11) sc_law.nd rfl (Or.inl rfl) (pe_call (ok_law_edge T) (hr.mono (by decide)) rfl T.g_law_edge T.F_law_edge.kp T.b_law_edge .nil pass0 (pa_cons (pv 0) (pa_cons (pv 1) (pa_cons (pv 4) pa_nil))))) (pss_cons (ps_set (i := 6) sc_law.nd rfl (Or.inl rfl) (pe_call (ok_law_both T) (hr.mono (by decide)) rfl T.g_law_both T.F_law_both.kp T.b_law_both .nil pass0 (pa_cons (pv 3) (pa_cons (pv 10) (pa_cons (pv 11) pa_nil))))) (pss_cons (ps_if (pt_cut (PW.pt (pw_or (pt_not (pt_val (pe_call (ok_law_is_edge T) (hr.mono (by decide)) rfl T.g_law_is_edge T.F_law_is_edge.kp T.b_law_is_edge .nil pass0 (pa_cons (pe_meth (pv 2) T.cl_Gates T.h_Gates_both (ok_Gates_both T) (hr.mono (by decide)) T.b_Gates_both .nil pass0 (pa_cons (pv 10) (pa_cons (pv 11) pa_nil))) (pa_cons (pv 6) pa_nil))))) (pw_or1 (pt_not (pt_val (pe_call (ok_law_is_edge T) (hr.mono (by decide)) rfl T.g_law_is_edge T.F_law_is_edge.kp T.b_law_is_edge .nil pass0 (pa_cons (pe_meth (pv 2) T.cl_Gates T.h_Gates_both (ok_Gates_both T) (hr.mono (by decide)) T.b_Gates_both .nil pass0 (pa_cons (pv 11) (pa_cons (pv 10) pa_nil))) (pa_cons (pv 6) pa_nil))))))))) (pss_one ps_never) pss_nil) (pss_cons (ps_set (i := 12) sc_law.nd rfl (Or.inl rfl) (pe_make0 T.mk_Gates (ok_Gates_init T) (hr.mono (by decide)) rfl T.g_Gates T.b_Gates_init .nil pass0)) (pss_cons (ps_if (pt_cut (PW.pt (pw_or (pt_not (pt_val (pe_call (ok_law_same_rows T) (hr.mono (by decide)) rfl T.g_law_same_rows T.F_law_same_rows.kp T.b_law_same_rows .nil pass0 (pa_cons (pe_fld (pv 12) rfl) (pa_cons (pe_lst (pa_cons (pe_tup (pa_cons pe_str pa_nil)) pa_nil)) pa_nil))))) (pw_or1 (pt_not (pt_val (pe_call (ok_law_is_edge T) (hr.mono (by decide)) rfl T.g_law_is_edge T.F_law_is_edge.kp T.b_law_is_edge .nil pass0 (pa_cons (pe_meth (pv 12) T.cl_Gates T.h_Gates_leaf (ok_Gates_leaf T) (hr.mono (by decide)) T.b_Gates_leaf .nil pass0 (pa_cons pe_int pa_nil)) (pa_cons pe_int pa_nil))))))))) (pss_one ps_never) pss_nil) (pss_one (ps_ret (pe_call (ok_law_same_rows T) (hr.mono (by decide)) rfl T.g_law_same_rows T.F_law_same_rows.kp T.b_law_same_rows .nil pass0 (pa_cons (pe_fld (pv 2) rfl) (pa_cons (pv 3) pa_nil))))))))))))))))))))), ?_⟩
    obtain ⟨y1, e2, hm⟩ := bnd hm
    refine ⟨_, rfl, F0, ([] ++ R), a_script0, v_script0, x_script0, _, rfl, (SqL.mono hs_script0 (Same.refl _)), (hl_script0), S0, e2, (by show 3 ≤ sizeLine; decide), ?_⟩
    intro a3 np4
    have hl5 : LR (rInt F0) [.int 0, .int 0, .int y1] ([(0 : Int), (0 : Int), y1] : (List Int)) := ⟨rfl, rfl, rfl, trivial⟩
    have S6 : Sta F0 ([(a3, .lst [.int 0, .int 0, .int y1])] ++ R) _ := S0.new np4 _
    intro a7 dx8 nx9 ndx10 nex11
    obtain ⟨F12, s13, S14⟩ : ∃ F', Same F0 F' ∧ Sta F' ([(a7, .ins T.a_Gates dx8 [])] ++ ([(a3, .lst [.int 0, .int 0, .int y1])] ++ R)) _ := ⟨_, S6.sameF ndx10 (.own a7), (S6.newF ndx10 (.own a7)).new (by rw [upd_ne nex11.symm]; exact nx9) (.ins T.a_Gates dx8 [])⟩
    refine ⟨F12, ([(a3, .lst [.int 0, .int 0, .int y1])] ++ R), a7, dx8, _, rfl, S14, rfl, fun F15 H16 a19 v20 a22 v23 s17 S18 hl21 hl24 => ⟨rfl, ?_⟩⟩
    have S25 : Sta F15 ([(a7, .ins T.a_Gates dx8 (fl_Gates (.ref a19) (.ref a22))), (a19, .lst v20), (a22, .dT v23), (a3, .lst [.int 0, .int 0, .int y1])] ++ R) _ := S18
    refine ⟨(by show 1 ≤ sizeLine; decide), ?_⟩
    intro a26 np27
    obtain ⟨F28, s29, S30, h31⟩ : ∃ F', Same F15 F' ∧ Sta F' ([(a7, .ins T.a_Gates dx8 (fl_Gates (.ref a19) (.ref a22))), (a19, .lst v20), (a22, .dT v23), (a3, .lst [.int 0, .int 0, .int y1])] ++ R) _ ∧ F' a26 = some (.tup (([Sum.inr ("no" : Str)] : List Key).map kV)) := ⟨_, S25.sameF np27 _, S25.newF np27 _, upd_same⟩
    refine ⟨(by show 1 ≤ sizeLine; decide), ?_⟩
    intro a32 np33
    have hl34 : LR (rKT F28) [.ref a26] ([([Sum.inr ("no" : Str)] : List Key)] : (List (List Key))) := ⟨⟨_, rfl, (Same.refl _) _ _ h31⟩, trivial⟩
    have S35 : Sta F28 ([(a32, .lst [.ref a26]), (a7, .ins T.a_Gates dx8 (fl_Gates (.ref a19) (.ref a22))), (a19, .lst v20), (a22, .dT v23), (a3, .lst [.int 0, .int 0, .int y1])] ++ R) _ := S30.new np33 _
    obtain ⟨y36, e37, hm⟩ := bnd hm
    refine ⟨_, rfl, _, _, _, _, _, rfl, (S35.get 1 rfl), T.cl_Gates, T.n_Gates_rows, fl_Gates_rows, _, rfl, F28, ([(a32, .lst [.ref a26]), (a7, .ins T.a_Gates dx8 (fl_Gates (.ref a19) (.ref a22))), (a19, .lst v20), (a22, .dT v23), (a3, .lst [.int 0, .int 0, .int y1])] ++ R), a19, v20, ((m_Gates_init).rows), a32, [.ref a26], ([([Sum.inr ("no" : Str)] : List Key)] : (List (List Key))), _, rfl, (SqL.of (S35.getO 2 rfl)), (hl21.mono s29), (SqL.of (S35.getO 0 rfl)), hl34, S35, e37, _, rfl, ?_⟩
    by_cases c38 : (!y36) = true
    · have hm := ifT hm c38
      cases hm
    · have hm := ifF hm c38
      refine goF c38 ?_
      refine ⟨(by show 2 ≤ sizeLine; decide), ?_⟩
      intro a39 np40
      have hl41 : LR (rInt F28) [.int 0, .int 1] ([(0 : Int), (1 : Int)] : (List Int)) := ⟨rfl, rfl, trivial⟩
      have S42 : Sta F28 ([(a39, .lst [.int 0, .int 1]), (a32, .lst [.ref a26]), (a7, .ins T.a_Gates dx8 (fl_Gates (.ref a19) (.ref a22))), (a19, .lst v20), (a22, .dT v23), (a3, .lst [.int 0, .int 0, .int y1])] ++ R) _ := S35.new np40 _
      refine ⟨(by show 2 ≤ sizeLine; decide), ?_⟩
      intro a46 np47
      have hl48 : LR (rInt F28) [.int 2, .int 1] ([(2 : Int), (1 : Int)] : (List Int)) := ⟨rfl, rfl, trivial⟩
      have S49 : Sta F28 ([(a46, .lst [.int 2, .int 1]), (a39, .lst [.int 0, .int 1]), (a32, .lst [.ref a26]), (a7, .ins T.a_Gates dx8 (fl_Gates (.ref a19) (.ref a22))), (a19, .lst v20), (a22, .dT v23), (a3, .lst [.int 0, .int 0, .int y1])] ++ R) _ := S42.new np47 _
      obtain ⟨y43, e44, hm45⟩ := bnd hm
      refine ⟨_, rfl, ⟨_, (SqL.of (S49.get 0 rfl))⟩, for_list (K := K) (a := a46) (xs := [.int 2, .int 1]) (fun i σ H2 => ∃ (st1 : ((List Int) × (List (List Key)) × M_Gates)) (F85 : Hp) (v90 : List V) (v92 : List V) (a94 : Addr) (v95 : List V) (a97 : Addr) (v98 : List (List Key × V)) (o88 : Option V) (o89 : Option V), σ = [some (.ref a_script0), some (.ref a3), some (.ref a7), some (.ref a32), some (.ref a39), o88, o89, none, none, none, none, none, none] ∧ Same F28 F85 ∧ Sta F85 ([(a46, .lst [.int 2, .int 1]), (a39, .lst v90), (a32, .lst v92), (a7, .ins T.a_Gates dx8 (fl_Gates (.ref a94) (.ref a97))), (a94, .lst v95), (a97, .dT v98), (a3, .lst [.int 0, .int 0, .int y1])] ++ R) H2 ∧ LR (rInt F85) v90 st1.1 ∧ LR (rKT F85) v92 st1.2.1 ∧ LR (rKT F85) v95 st1.2.2.rows ∧ KR id (rInt F85) v98 st1.2.2.known ∧ m_law_l1 (List.drop i ([(2 : Int), (1 : Int)] : (List Int))) st1 = some y43) ⟨(([(0 : Int), (1 : Int)] : (List Int)), ([([Sum.inr ("no" : Str)] : List Key)] : (List (List Key))), (M_Gates.mk ((m_Gates_init).rows) ((m_Gates_init).known))), F28, [.int 0, .int 1], [.ref a26], a19, v20, a22, v23, _, _, rfl, (Same.refl _), S49, hl41, hl34, (hl21.mono s29), (KR.mono hl24 s29), e44⟩ (by rintro i σ H2 _ ⟨st1, F85, v90, v92, a94, v95, a97, v98, o88, o89, rfl, s86, S87, hl91, hl93, hl96, hl99, _⟩; exact (SqL.of (S87.get 0 rfl))) ?_ ?_⟩
      · rintro i v101 σ H2 hi ⟨st1, F85, v90, v92, a94, v95, a97, v98, o88, o89, rfl, s86, S87, hl91, hl93, hl96, hl99, hm⟩
        obtain ⟨x100, hx102, rx103⟩ := LR.getV hl48 hi
        rw [drop_cons hx102, m_law_l1] at hm
        obtain rfl := rInt_e rx103
        refine ⟨_, rfl, _, rfl, (by show 2 ≤ sizeLine; decide), ?_⟩
        intro a104 np105
        obtain ⟨F106, s107, S108, h109⟩ : ∃ F', Same F85 F' ∧ Sta F' ([(a46, .lst [.int 2, .int 1]), (a39, .lst v90), (a32, .lst v92), (a7, .ins T.a_Gates dx8 (fl_Gates (.ref a94) (.ref a97))), (a94, .lst v95), (a97, .dT v98), (a3, .lst [.int 0, .int 0, .int y1])] ++ R) _ ∧ F' a104 = some (.tup (([Sum.inr ("letter" : Str), Sum.inl x100] : List Key).map kV)) := ⟨_, S87.sameF np105 _, S87.newF np105 _, upd_same⟩
        have S110 : Sta F106 ([(a32, .lst v92), (a46, .lst [.int 2, .int 1]), (a39, .lst v90), (a7, .ins T.a_Gates dx8 (fl_Gates (.ref a94) (.ref a97))), (a94, .lst v95), (a97, .dT v98), (a3, .lst [.int 0, .int 0, .int y1])] ++ R) _ := S108.pick [2, 0, 1, 3, 4, 5, 6] (by decide) rfl
        obtain ⟨y111, e112, hm⟩ := bnd hm
        refine ⟨F106, ([(a46, .lst [.int 2, .int 1]), (a39, .lst v90), (a7, .ins T.a_Gates dx8 (fl_Gates (.ref a94) (.ref a97))), (a94, .lst v95), (a97, .dT v98), (a3, .lst [.int 0, .int 0, .int y1])] ++ R), a32, v92, st1.2.1, a104, ([Sum.inr ("letter" : Str), Sum.inl x100] : List Key), _, rfl, (hl93.mono s107), ((Same.refl _) _ _ h109), S110, e112, fun F113 H114 v117 s115 S116 hl118 => ?_⟩
        have S119 : Sta F113 ([(a32, .lst v117), (a46, .lst [.int 2, .int 1]), (a39, .lst v90), (a7, .ins T.a_Gates dx8 (fl_Gates (.ref a94) (.ref a97))), (a94, .lst v95), (a97, .dT v98), (a3, .lst [.int 0, .int 0, .int y1])] ++ R) _ := S116
        have S120 : Sta F113 ([(a7, .ins T.a_Gates dx8 (fl_Gates (.ref a94) (.ref a97))), (a94, .lst v95), (a97, .dT v98), (a32, .lst v117), (a46, .lst [.int 2, .int 1]), (a39, .lst v90), (a3, .lst [.int 0, .int 0, .int y1])] ++ R) _ := S119.pick [3, 4, 5, 0, 1, 2, 6] (by decide) rfl
        obtain ⟨y121, e122, hm⟩ := bnd hm
        refine ⟨_, rfl, _, _, _, rfl, (S119.get 3 rfl), fl_Gates_no_leaf, _, rfl, F113, ([(a32, .lst v117), (a46, .lst [.int 2, .int 1]), (a39, .lst v90), (a3, .lst [.int 0, .int 0, .int y1])] ++ R), a7, dx8, (M_Gates.mk st1.2.2.rows st1.2.2.known), a94, v95, a97, v98, x100, _, rfl, (hl96.mono (s107.trans s115)), (KR.mono hl99 (s107.trans s115)), S120, e122, fun F123 H124 a127 v128 a130 v131 s125 S126 hl129 hl132 => ?_⟩
        have S133 : Sta F123 ([(a7, .ins T.a_Gates dx8 (fl_Gates (.ref a127) (.ref a130))), (a127, .lst v128), (a130, .dT v131), (a32, .lst v117), (a46, .lst [.int 2, .int 1]), (a39, .lst v90), (a3, .lst [.int 0, .int 0, .int y1])] ++ R) _ := S126
        refine ⟨_, rfl, y121.1, y111.1, _, rfl, rfl, _, rfl, ?_⟩
        by_cases c134 : (!(m_law_is_edge y121.1 y111.1)) = true
        · have hm := ifT hm c134
          cases hm
        · have hm := ifF hm c134
          refine goF c134 ?_
          obtain ⟨g135, hm⟩ := grd_ok hm
          refine ⟨_, rfl, .inl ⟨rfl, _, (SqL.of (S133.get 5 rfl))⟩, _, rfl, _, _, _, rfl, rfl, (S133.get 5 rfl), (by rw [LR.length (hl91.mono (s107.trans (s115.trans s125)))]; exact of_decide_eq_true g135), ?_⟩
          have hl136 : LR (rInt F123) (v90 ++ [.int y111.1]) (st1.1 ++ [y111.1]) := LR.snoc (hl91.mono (s107.trans (s115.trans s125))) rfl
          have S137 : Sta F123 ([(a7, .ins T.a_Gates dx8 (fl_Gates (.ref a127) (.ref a130))), (a127, .lst v128), (a130, .dT v131), (a32, .lst v117), (a46, .lst [.int 2, .int 1]), (a39, .lst (v90 ++ [.int y111.1])), (a3, .lst [.int 0, .int 0, .int y1])] ++ R) _ := S133.set 5 rfl _
          have S138 : Sta F123 ([(a46, .lst [.int 2, .int 1]), (a39, .lst (v90 ++ [.int y111.1])), (a32, .lst v117), (a7, .ins T.a_Gates dx8 (fl_Gates (.ref a127) (.ref a130))), (a127, .lst v128), (a130, .dT v131), (a3, .lst [.int 0, .int 0, .int y1])] ++ R) _ := S137.pick [4, 5, 3, 0, 1, 2, 6] (by decide) rfl
          exact ⟨((st1.1 ++ [y111.1]), y111.2, (M_Gates.mk y121.2.rows y121.2.known)), F123, (v90 ++ [.int y111.1]), v117, a127, v128, a130, v131, _, _, rfl, (s86.trans (s107.trans (s115.trans s125))), S138, hl136, (hl118.mono s125), hl129, hl132, hm⟩
      · rintro σ H2 ⟨st1, F85, v90, v92, a94, v95, a97, v98, o88, o89, rfl, s86, S87, hl91, hl93, hl96, hl99, hm⟩
        rw [LR.dropEnd hl48, m_law_l1] at hm
        obtain rfl := Option.some.inj hm
        have hm := hm45
        have S139 : Sta F85 ([(a3, .lst [.int 0, .int 0, .int y1]), (a46, .lst [.int 2, .int 1]), (a39, .lst v90), (a32, .lst v92), (a7, .ins T.a_Gates dx8 (fl_Gates (.ref a94) (.ref a97))), (a94, .lst v95), (a97, .dT v98)] ++ R) _ := S87.pick [6, 0, 1, 2, 3, 4, 5] (by decide) rfl
        obtain ⟨y140, e141, hm⟩ := bnd hm
        refine ⟨_, rfl, _, rfl, F85, ([(a46, .lst [.int 2, .int 1]), (a39, .lst v90), (a32, .lst v92), (a7, .ins T.a_Gates dx8 (fl_Gates (.ref a94) (.ref a97))), (a94, .lst v95), (a97, .dT v98)] ++ R), a_script0, v_script0, x_script0, a3, [.int 0, .int 0, .int y1], ([(0 : Int), (0 : Int), y1] : (List Int)), (12 : Int), _, rfl, (SqL.mono hs_script0 (s13.trans (s17.trans (s29.trans s86)))), ((hl_script0.mono (s13.trans (s17.trans (s29.trans s86))))), (hl5.mono (s13.trans (s17.trans (s29.trans s86)))), S139, e141, fun F142 H143 v146 s144 S145 hl147 => ?_⟩
        have S148 : Sta F142 ([(a3, .lst v146), (a46, .lst [.int 2, .int 1]), (a39, .lst v90), (a32, .lst v92), (a7, .ins T.a_Gates dx8 (fl_Gates (.ref a94) (.ref a97))), (a94, .lst v95), (a97, .dT v98)] ++ R) _ := S145
        refine ⟨_, _, rfl, rfl, ?_⟩
        obtain ⟨y154, e155, hm⟩ := bnd hm
        refine ⟨fun σ H2 => ∃ (F149 : Hp) (v152 : List V), σ = [some (.ref a_script0), some (.ref a3), some (.ref a7), some (.ref a32), some (.ref a39), o88, o89, some (.int y154.1), none, none, none, none, none] ∧ Same F142 F149 ∧ Sta F149 ([(a3, .lst v152), (a46, .lst [.int 2, .int 1]), (a39, .lst v90), (a32, .lst v92), (a7, .ins T.a_Gates dx8 (fl_Gates (.ref a94) (.ref a97))), (a94, .lst v95), (a97, .dT v98)] ++ R) H2 ∧ LR (rInt F149) v152 y154.2, ?_, ?_⟩
        · have hm := e155
          obtain ⟨y156, e157, hm⟩ := bnd hm
          refine ⟨_, rfl, _, rfl, F142, ([(a46, .lst [.int 2, .int 1]), (a39, .lst v90), (a32, .lst v92), (a7, .ins T.a_Gates dx8 (fl_Gates (.ref a94) (.ref a97))), (a94, .lst v95), (a97, .dT v98)] ++ R), a_script0, v_script0, x_script0, a3, v146, y140.2, (8 : Int), _, rfl, (SqL.mono hs_script0 (s13.trans (s17.trans (s29.trans (s86.trans s144))))), ((hl_script0.mono (s13.trans (s17.trans (s29.trans (s86.trans s144)))))), hl147, S148, e157, fun F158 H159 v162 s160 S161 hl163 => ?_⟩
          have S164 : Sta F158 ([(a3, .lst v162), (a46, .lst [.int 2, .int 1]), (a39, .lst v90), (a32, .lst v92), (a7, .ins T.a_Gates dx8 (fl_Gates (.ref a94) (.ref a97))), (a94, .lst v95), (a97, .dT v98)] ++ R) _ := S161
          refine ⟨_, _, rfl, rfl, _, rfl, ?_⟩
          by_cases c165 : (decide (y156.1 = (5 : Int))) = true
          · have hm := ifT hm c165
            refine goT c165 ?_
            refine ⟨_, rfl, _, _, rfl, rfl, ?_⟩
            obtain rfl := Option.some.inj hm
            exact ⟨F158, v162, rfl, s160, S164, hl163⟩
          · have hm := ifF hm c165
            refine goF c165 ?_
            obtain rfl := Option.some.inj hm
            exact ⟨F158, v162, rfl, s160, S164, hl163⟩
        · rintro σ H2 ⟨F149, v152, rfl, s150, S151, hl153⟩
          obtain ⟨g169, hm⟩ := grd_ok hm
          obtain ⟨y166, e167, hm168⟩ := bnd hm
          refine ⟨_, rfl, _, rfl, (rngOk_lo g169), (rngOk_hi g169), for_rng (lo := 0) (n := y154.1.toNat) (fun i σ H2 => ∃ (st2 : ((List Int) × (List Int) × (List (List Key)) × M_Gates)) (F212 : Hp) (v218 : List V) (v220 : List V) (v222 : List V) (a224 : Addr) (v225 : List V) (a227 : Addr) (v228 : List (List Key × V)) (o215 : Option V) (o216 : Option V) (o217 : Option V), σ = [some (.ref a_script0), some (.ref a3), some (.ref a7), some (.ref a32), some (.ref a39), o88, o215, some (.int y154.1), o216, o217, none, none, none] ∧ Same F149 F212 ∧ Sta F212 ([(a3, .lst v218), (a46, .lst [.int 2, .int 1]), (a39, .lst v220), (a32, .lst v222), (a7, .ins T.a_Gates dx8 (fl_Gates (.ref a224) (.ref a227))), (a224, .lst v225), (a227, .dT v228)] ++ R) H2 ∧ LR (rInt F212) v218 st2.1 ∧ LR (rInt F212) v220 st2.2.1 ∧ LR (rKT F212) v222 st2.2.2.1 ∧ LR (rKT F212) v225 st2.2.2.2.rows ∧ KR id (rInt F212) v228 st2.2.2.2.known ∧ m_law_l2 x_script0 (List.drop i (pyRange 0 y154.1.toNat)) st2 = some y166) ⟨(y154.2, st1.1, st1.2.1, (M_Gates.mk st1.2.2.rows st1.2.2.known)), F149, v152, v90, v92, a94, v95, a97, v98, _, _, _, rfl, (Same.refl _), S151, hl153, (hl91.mono (s144.trans s150)), (hl93.mono (s144.trans s150)), (hl96.mono (s144.trans s150)), (KR.mono hl99 (s144.trans s150)), e167⟩ ?_ ?_⟩
          · rintro i x230 σ H2 hi ⟨st2, F212, v218, v220, v222, a224, v225, a227, v228, o215, o216, o217, rfl, s213, S214, hl219, hl221, hl223, hl226, hl229, hm⟩
            rw [drop_cons hi, m_law_l2] at hm
            have S232 : Sta F212 ([(a3, .lst v218), (a7, .ins T.a_Gates dx8 (fl_Gates (.ref a224) (.ref a227))), (a224, .lst v225), (a227, .dT v228), (a32, .lst v222), (a46, .lst [.int 2, .int 1]), (a39, .lst v220)] ++ R) _ := S214.pick [0, 4, 5, 6, 3, 1, 2] (by decide) rfl
            obtain ⟨y233, e234, hm⟩ := bnd hm
            refine ⟨_, rfl, _, rfl, _, rfl, _, rfl, _, rfl, F212, ([(a46, .lst [.int 2, .int 1]), (a39, .lst v220)] ++ R), a_script0, v_script0, x_script0, a3, v218, st2.1, a7, dx8, (M_Gates.mk st2.2.2.2.rows st2.2.2.2.known), a224, v225, a227, v228, a32, v222, st2.2.2.1, a39, v220, st2.2.1, _, rfl, (SqL.mono hs_script0 (s13.trans (s17.trans (s29.trans (s86.trans (s144.trans (s150.trans s213))))))), ((hl_script0.mono (s13.trans (s17.trans (s29.trans (s86.trans (s144.trans (s150.trans s213)))))))), hl219, hl226, hl229, hl223, (SqL.of (S232.tl.tl.tl.tl.tl.getO 1 rfl)), hl221, S232, e234, fun F235 H236 v239 a241 v242 a244 v245 v247 v249 s237 S238 hl240 hl243 hl246 hl248 p250 => ?_⟩
            have S251 : Sta F235 ([(a3, .lst v239), (a7, .ins T.a_Gates dx8 (fl_Gates (.ref a241) (.ref a244))), (a241, .lst v242), (a244, .dT v245), (a32, .lst v247), (a46, .lst [.int 2, .int 1]), (a39, .lst v220)] ++ R) _ := S238
            obtain ⟨a252, u254, u255, rfl, hs253, p256, p257⟩ := p250
            obtain rfl := rInt_e p256
            obtain rfl := rInt_e p257
            refine ⟨_, _, rfl, (SqT.mono hs253 ((Same.refl _).trans S251.sub)), rfl, _, _, rfl, _, _, rfl, rfl, ?_⟩
            refine ⟨((!(m_law_is_edge y233.1.2 y233.1.1)) || (!(m_law_is_edge (m_opposite y233.1.1) (m_law_opposite y233.1.1)))), ?_, ?_⟩
            · refine ⟨_, rfl, _, rfl, y233.1.2, y233.1.1, _, rfl, rfl, _, rfl, ?_⟩
              by_cases c258 : (!(m_law_is_edge y233.1.2 y233.1.1)) = true
              · exact goT c258 ⟨by simp [c258], rfl⟩
              · refine goF c258 ?_
                refine ⟨_, rfl, y233.1.1, _, rfl, rfl, _, rfl, y233.1.1, _, rfl, rfl, (m_opposite y233.1.1), (m_law_opposite y233.1.1), _, rfl, rfl, _, rfl, ?_⟩
                exact ⟨by simp [c258], rfl⟩
            by_cases c259 : ((!(m_law_is_edge y233.1.2 y233.1.1)) || (!(m_law_is_edge (m_opposite y233.1.1) (m_law_opposite y233.1.1)))) = true
            · have hm := ifT hm c259
              cases hm
            · have hm := ifF hm c259
              refine goF c259 ?_
              obtain ⟨g260, hm⟩ := grd_ok hm
              refine ⟨_, rfl, .inl ⟨rfl, _, (SqL.of (S251.get 6 rfl))⟩, _, rfl, _, _, _, rfl, rfl, (S251.get 6 rfl), (by rw [LR.length (hl221.mono s237)]; exact of_decide_eq_true g260), ?_⟩
              have hl261 : LR (rInt F235) (v220 ++ [.int y233.1.1]) (st2.2.1 ++ [y233.1.1]) := LR.snoc (hl221.mono s237) rfl
              have S262 : Sta F235 ([(a3, .lst v239), (a7, .ins T.a_Gates dx8 (fl_Gates (.ref a241) (.ref a244))), (a241, .lst v242), (a244, .dT v245), (a32, .lst v247), (a46, .lst [.int 2, .int 1]), (a39, .lst (v220 ++ [.int y233.1.1]))] ++ R) _ := S251.set 6 rfl _
              obtain ⟨g263, hm⟩ := grd_ok hm
              refine ⟨_, rfl, .inl ⟨rfl, _, (SqL.of (S262.get 6 rfl))⟩, _, rfl, y233.1.1, _, rfl, rfl, _, _, _, rfl, rfl, (S262.get 6 rfl), (by rw [LR.length hl261]; exact of_decide_eq_true g263), ?_⟩
              have hl264 : LR (rInt F235) ((v220 ++ [.int y233.1.1]) ++ [.int (m_law_opposite y233.1.1)]) ((st2.2.1 ++ [y233.1.1]) ++ [(m_law_opposite y233.1.1)]) := LR.snoc hl261 rfl
              have S265 : Sta F235 ([(a3, .lst v239), (a7, .ins T.a_Gates dx8 (fl_Gates (.ref a241) (.ref a244))), (a241, .lst v242), (a244, .dT v245), (a32, .lst v247), (a46, .lst [.int 2, .int 1]), (a39, .lst ((v220 ++ [.int y233.1.1]) ++ [.int (m_law_opposite y233.1.1)]))] ++ R) _ := S262.set 6 rfl _
              have S266 : Sta F235 ([(a3, .lst v239), (a46, .lst [.int 2, .int 1]), (a39, .lst ((v220 ++ [.int y233.1.1]) ++ [.int (m_law_opposite y233.1.1)])), (a32, .lst v247), (a7, .ins T.a_Gates dx8 (fl_Gates (.ref a241) (.ref a244))), (a241, .lst v242), (a244, .dT v245)] ++ R) _ := S265.pick [0, 5, 6, 4, 1, 2, 3] (by decide) rfl
              exact ⟨(y233.2.1, ((st2.2.1 ++ [y233.1.1]) ++ [(m_law_opposite y233.1.1)]), y233.2.2.2, (M_Gates.mk y233.2.2.1.rows y233.2.2.1.known)), F235, v239, ((v220 ++ [.int y233.1.1]) ++ [.int (m_law_opposite y233.1.1)]), v247, a241, v242, a244, v245, _, _, _, rfl, (s213.trans s237), S266, hl240, hl264, hl248, hl243, hl246, hm⟩
          · rintro σ H2 ⟨st2, F212, v218, v220, v222, a224, v225, a227, v228, o215, o216, o217, rfl, s213, S214, hl219, hl221, hl223, hl226, hl229, hm⟩
            rw [drop_rng, m_law_l2] at hm
            obtain rfl := Option.some.inj hm
            have hm := hm168
            obtain ⟨y267, e268, hm⟩ := bnd hm
            refine ⟨_, rfl, _, _, _, _, _, rfl, (S214.get 4 rfl), T.cl_Gates, T.n_Gates_rows, fl_Gates_rows, _, rfl, F212, ([(a3, .lst v218), (a46, .lst [.int 2, .int 1]), (a39, .lst v220), (a32, .lst v222), (a7, .ins T.a_Gates dx8 (fl_Gates (.ref a224) (.ref a227))), (a224, .lst v225), (a227, .dT v228)] ++ R), a224, v225, st2.2.2.2.rows, a32, v222, st2.2.2.1, _, rfl, (SqL.of (S214.getO 5 rfl)), hl226, (SqL.of (S214.getO 3 rfl)), hl223, S214, e268, _, rfl, ?_⟩
            by_cases c269 : (!y267) = true
            · have hm := ifT hm c269
              cases hm
            · have hm := ifF hm c269
              refine goF c269 ?_
              obtain ⟨y270, e271, hm⟩ := bnd hm
              refine ⟨_, rfl, _, rfl, _, rfl, F212, ([(a46, .lst [.int 2, .int 1]), (a39, .lst v220), (a32, .lst v222), (a7, .ins T.a_Gates dx8 (fl_Gates (.ref a224) (.ref a227))), (a224, .lst v225), (a227, .dT v228)] ++ R), a_script0, v_script0, x_script0, a3, v218, st2.1, a39, v220, st2.2.1, _, rfl, (SqL.mono hs_script0 (s13.trans (s17.trans (s29.trans (s86.trans (s144.trans (s150.trans s213))))))), ((hl_script0.mono (s13.trans (s17.trans (s29.trans (s86.trans (s144.trans (s150.trans s213)))))))), hl219, (SqL.of (S214.tl.getO 1 rfl)), hl221, S214, e271, fun F272 H273 v276 s274 S275 hl277 => ?_⟩
              have S278 : Sta F272 ([(a3, .lst v276), (a46, .lst [.int 2, .int 1]), (a39, .lst v220), (a32, .lst v222), (a7, .ins T.a_Gates dx8 (fl_Gates (.ref a224) (.ref a227))), (a224, .lst v225), (a227, .dT v228)] ++ R) _ := S275
              obtain ⟨y279, e280, hm⟩ := bnd hm
              refine ⟨_, rfl, _, rfl, _, rfl, F272, ([(a46, .lst [.int 2, .int 1]), (a39, .lst v220), (a32, .lst v222), (a7, .ins T.a_Gates dx8 (fl_Gates (.ref a224) (.ref a227))), (a224, .lst v225), (a227, .dT v228)] ++ R), a_script0, v_script0, x_script0, a3, v276, y270.2, a39, v220, st2.2.1, _, rfl, (SqL.mono hs_script0 (s13.trans (s17.trans (s29.trans (s86.trans (s144.trans (s150.trans (s213.trans s274)))))))), ((hl_script0.mono (s13.trans (s17.trans (s29.trans (s86.trans (s144.trans (s150.trans (s213.trans s274))))))))), hl277, (SqL.of (S278.tl.getO 1 rfl)), (hl221.mono s274), S278, e280, fun F281 H282 v285 s283 S284 hl286 => ?_⟩
              have S287 : Sta F281 ([(a3, .lst v285), (a46, .lst [.int 2, .int 1]), (a39, .lst v220), (a32, .lst v222), (a7, .ins T.a_Gates dx8 (fl_Gates (.ref a224) (.ref a227))), (a224, .lst v225), (a227, .dT v228)] ++ R) _ := S284
              have S288 : Sta F281 ([(a32, .lst v222), (a3, .lst v285), (a46, .lst [.int 2, .int 1]), (a39, .lst v220), (a7, .ins T.a_Gates dx8 (fl_Gates (.ref a224) (.ref a227))), (a224, .lst v225), (a227, .dT v228)] ++ R) _ := S287.pick [3, 0, 1, 2, 4, 5, 6] (by decide) rfl
              obtain ⟨y289, e290, hm⟩ := bnd hm
              refine ⟨_, rfl, _, rfl, _, rfl, F281, ([(a3, .lst v285), (a46, .lst [.int 2, .int 1]), (a39, .lst v220), (a7, .ins T.a_Gates dx8 (fl_Gates (.ref a224) (.ref a227))), (a224, .lst v225), (a227, .dT v228)] ++ R), a32, v222, st2.2.2.1, y270.1, y279.1, _, rfl, (hl223.mono (s274.trans s283)), S288, e290, fun F291 H292 v295 s293 S294 hl296 => ?_⟩
              have S297 : Sta F291 ([(a32, .lst v295), (a3, .lst v285), (a46, .lst [.int 2, .int 1]), (a39, .lst v220), (a7, .ins T.a_Gates dx8 (fl_Gates (.ref a224) (.ref a227))), (a224, .lst v225), (a227, .dT v228)] ++ R) _ := S294
              obtain ⟨b298, e299, hm⟩ := bnd hm
              refine ⟨fun b H' => ∃ (F300 : Hp) (a303 : Addr) (v304 : List V) (a306 : Addr) (v307 : List (List Key × V)), Same F291 F300 ∧ Sta F300 ([(a32, .lst v295), (a3, .lst v285), (a46, .lst [.int 2, .int 1]), (a39, .lst v220), (a7, .ins T.a_Gates dx8 (fl_Gates (.ref a303) (.ref a306))), (a303, .lst v304), (a306, .dT v307)] ++ R) H' ∧ LR (rKT F300) v304 b298.2.rows ∧ KR id (rInt F300) v307 b298.2.known ∧ b = b298.1, ?_, ?_⟩
              · have hm := e299
                have S309 : Sta F291 ([(a7, .ins T.a_Gates dx8 (fl_Gates (.ref a224) (.ref a227))), (a224, .lst v225), (a227, .dT v228), (a32, .lst v295), (a3, .lst v285), (a46, .lst [.int 2, .int 1]), (a39, .lst v220)] ++ R) _ := S297.pick [4, 5, 6, 0, 1, 2, 3] (by decide) rfl
                obtain ⟨y310, e311, hm⟩ := bnd hm
                refine ⟨_, rfl, _, _, _, rfl, (S297.get 4 rfl), fl_Gates_no_both, _, rfl, _, rfl, F291, ([(a32, .lst v295), (a3, .lst v285), (a46, .lst [.int 2, .int 1]), (a39, .lst v220)] ++ R), a7, dx8, (M_Gates.mk st2.2.2.2.rows st2.2.2.2.known), a224, v225, a227, v228, y270.1, y279.1, _, rfl, (hl226.mono (s274.trans (s283.trans s293))), (KR.mono hl229 (s274.trans (s283.trans s293))), S309, e311, fun F312 H313 a316 v317 a319 v320 s314 S315 hl318 hl321 => ?_⟩
                have S322 : Sta F312 ([(a7, .ins T.a_Gates dx8 (fl_Gates (.ref a316) (.ref a319))), (a316, .lst v317), (a319, .dT v320), (a32, .lst v295), (a3, .lst v285), (a46, .lst [.int 2, .int 1]), (a39, .lst v220)] ++ R) _ := S315
                refine ⟨_, rfl, y310.1, y289.1, _, rfl, rfl, _, rfl, ?_⟩
                by_cases c323 : (!(m_law_is_edge y310.1 y289.1)) = true
                · have hm := ifT hm c323
                  obtain rfl := Option.some.inj hm
                  have S324 : Sta F312 ([(a32, .lst v295), (a3, .lst v285), (a46, .lst [.int 2, .int 1]), (a39, .lst v220), (a7, .ins T.a_Gates dx8 (fl_Gates (.ref a316) (.ref a319))), (a316, .lst v317), (a319, .dT v320)] ++ R) _ := S322.pick [3, 4, 5, 6, 0, 1, 2] (by decide) rfl
                  exact goT c323 ⟨F312, a316, v317, a319, v320, s314, S324, hl318, hl321, rfl⟩
                · have hm := ifF hm c323
                  refine goF c323 ?_
                  obtain ⟨y325, e326, hm⟩ := bnd hm
                  refine ⟨_, rfl, _, _, _, rfl, (S322.get 0 rfl), fl_Gates_no_both, _, rfl, _, rfl, F312, ([(a32, .lst v295), (a3, .lst v285), (a46, .lst [.int 2, .int 1]), (a39, .lst v220)] ++ R), a7, dx8, (M_Gates.mk y310.2.rows y310.2.known), a316, v317, a319, v320, y279.1, y270.1, _, rfl, hl318, hl321, S322, e326, fun F327 H328 a331 v332 a334 v335 s329 S330 hl333 hl336 => ?_⟩
                  have S337 : Sta F327 ([(a7, .ins T.a_Gates dx8 (fl_Gates (.ref a331) (.ref a334))), (a331, .lst v332), (a334, .dT v335), (a32, .lst v295), (a3, .lst v285), (a46, .lst [.int 2, .int 1]), (a39, .lst v220)] ++ R) _ := S330
                  refine ⟨_, rfl, y325.1, y289.1, _, rfl, rfl, _, rfl, ?_⟩
                  obtain rfl := Option.some.inj hm
                  have S338 : Sta F327 ([(a32, .lst v295), (a3, .lst v285), (a46, .lst [.int 2, .int 1]), (a39, .lst v220), (a7, .ins T.a_Gates dx8 (fl_Gates (.ref a331) (.ref a334))), (a331, .lst v332), (a334, .dT v335)] ++ R) _ := S337.pick [3, 4, 5, 6, 0, 1, 2] (by decide) rfl
                  exact ⟨F327, a331, v332, a334, v335, (s314.trans s329), S338, hl333, hl336, rfl⟩
              rintro b339 H340 ⟨F300, a303, v304, a306, v307, s301, S302, hl305, hl308, rfl⟩
              by_cases c341 : b298.1 = true
              · have hm := ifT hm c341
                cases hm
              · have hm := ifF hm c341
                refine goF c341 ?_
                intro a342 dx343 nx344 ndx345 nex346
                obtain ⟨F347, s348, S349⟩ : ∃ F', Same F300 F' ∧ Sta F' ([(a342, .ins T.a_Gates dx343 [])] ++ ([(a32, .lst v295), (a3, .lst v285), (a46, .lst [.int 2, .int 1]), (a39, .lst v220), (a7, .ins T.a_Gates dx8 (fl_Gates (.ref a303) (.ref a306))), (a303, .lst v304), (a306, .dT v307)] ++ R)) _ := ⟨_, S302.sameF ndx345 (.own a342), (S302.newF ndx345 (.own a342)).new (by rw [upd_ne nex346.symm]; exact nx344) (.ins T.a_Gates dx343 [])⟩
                refine ⟨F347, ([(a32, .lst v295), (a3, .lst v285), (a46, .lst [.int 2, .int 1]), (a39, .lst v220), (a7, .ins T.a_Gates dx8 (fl_Gates (.ref a303) (.ref a306))), (a303, .lst v304), (a306, .dT v307)] ++ R), a342, dx343, _, rfl, S349, rfl, fun F350 H351 a354 v355 a357 v358 s352 S353 hl356 hl359 => ⟨rfl, ?_⟩⟩
                have S360 : Sta F350 ([(a342, .ins T.a_Gates dx343 (fl_Gates (.ref a354) (.ref a357))), (a354, .lst v355), (a357, .dT v358), (a32, .lst v295), (a3, .lst v285), (a46, .lst [.int 2, .int 1]), (a39, .lst v220), (a7, .ins T.a_Gates dx8 (fl_Gates (.ref a303) (.ref a306))), (a303, .lst v304), (a306, .dT v307)] ++ R) _ := S353
                obtain ⟨b361, e362, hm⟩ := bnd hm
                refine ⟨fun b H' => ∃ (F363 : Hp) (a366 : Addr) (v367 : List V) (a369 : Addr) (v370 : List (List Key × V)), Same F350 F363 ∧ Sta F363 ([(a342, .ins T.a_Gates dx343 (fl_Gates (.ref a366) (.ref a369))), (a366, .lst v367), (a369, .dT v370), (a32, .lst v295), (a3, .lst v285), (a46, .lst [.int 2, .int 1]), (a39, .lst v220), (a7, .ins T.a_Gates dx8 (fl_Gates (.ref a303) (.ref a306))), (a303, .lst v304), (a306, .dT v307)] ++ R) H' ∧ LR (rKT F363) v367 b361.2.rows ∧ KR id (rInt F363) v370 b361.2.known ∧ b = b361.1, ?_, ?_⟩
                · have hm := e362
                  refine ⟨_, rfl, _, _, _, _, _, rfl, (S360.get 0 rfl), T.cl_Gates, T.n_Gates_rows, fl_Gates_rows, (by show 1 ≤ sizeLine; decide), ?_⟩
                  intro a372 np373
                  obtain ⟨F374, s375, S376, h377⟩ : ∃ F', Same F350 F' ∧ Sta F' ([(a342, .ins T.a_Gates dx343 (fl_Gates (.ref a354) (.ref a357))), (a354, .lst v355), (a357, .dT v358), (a32, .lst v295), (a3, .lst v285), (a46, .lst [.int 2, .int 1]), (a39, .lst v220), (a7, .ins T.a_Gates dx8 (fl_Gates (.ref a303) (.ref a306))), (a303, .lst v304), (a306, .dT v307)] ++ R) _ ∧ F' a372 = some (.tup (([Sum.inr ("no" : Str)] : List Key).map kV)) := ⟨_, S360.sameF np373 _, S360.newF np373 _, upd_same⟩
                  refine ⟨(by show 1 ≤ sizeLine; decide), ?_⟩
                  intro a378 np379
                  have hl380 : LR (rKT F374) [.ref a372] ([([Sum.inr ("no" : Str)] : List Key)] : (List (List Key))) := ⟨⟨_, rfl, (Same.refl _) _ _ h377⟩, trivial⟩
                  have S381 : Sta F374 ([(a378, .lst [.ref a372]), (a342, .ins T.a_Gates dx343 (fl_Gates (.ref a354) (.ref a357))), (a354, .lst v355), (a357, .dT v358), (a32, .lst v295), (a3, .lst v285), (a46, .lst [.int 2, .int 1]), (a39, .lst v220), (a7, .ins T.a_Gates dx8 (fl_Gates (.ref a303) (.ref a306))), (a303, .lst v304), (a306, .dT v307)] ++ R) _ := S376.new np379 _
                  obtain ⟨y382, e383, hm⟩ := bnd hm
                  refine ⟨F374, ([(a378, .lst [.ref a372]), (a342, .ins T.a_Gates dx343 (fl_Gates (.ref a354) (.ref a357))), (a354, .lst v355), (a357, .dT v358), (a32, .lst v295), (a3, .lst v285), (a46, .lst [.int 2, .int 1]), (a39, .lst v220), (a7, .ins T.a_Gates dx8 (fl_Gates (.ref a303) (.ref a306))), (a303, .lst v304), (a306, .dT v307)] ++ R), a354, v355, ((m_Gates_init).rows), a378, [.ref a372], ([([Sum.inr ("no" : Str)] : List Key)] : (List (List Key))), _, rfl, (SqL.of (S381.getO 2 rfl)), (hl356.mono s375), (SqL.of (S381.getO 0 rfl)), hl380, S381, e383, _, rfl, ?_⟩
                  by_cases c384 : (!y382) = true
                  · have hm := ifT hm c384
                    obtain rfl := Option.some.inj hm
                    have S385 : Sta F374 ([(a342, .ins T.a_Gates dx343 (fl_Gates (.ref a354) (.ref a357))), (a354, .lst v355), (a357, .dT v358), (a32, .lst v295), (a3, .lst v285), (a46, .lst [.int 2, .int 1]), (a39, .lst v220), (a7, .ins T.a_Gates dx8 (fl_Gates (.ref a303) (.ref a306))), (a303, .lst v304), (a306, .dT v307)] ++ R) _ := S381.pick [1, 2, 3, 4, 5, 6, 7, 8, 9, 10] (by decide) rfl
                    exact goT c384 ⟨F374, a354, v355, a357, v358, s375, S385, (hl356.mono s375), (KR.mono hl359 s375), rfl⟩
                  · have hm := ifF hm c384
                    refine goF c384 ?_
                    have S386 : Sta F374 ([(a342, .ins T.a_Gates dx343 (fl_Gates (.ref a354) (.ref a357))), (a354, .lst v355), (a357, .dT v358), (a378, .lst [.ref a372]), (a32, .lst v295), (a3, .lst v285), (a46, .lst [.int 2, .int 1]), (a39, .lst v220), (a7, .ins T.a_Gates dx8 (fl_Gates (.ref a303) (.ref a306))), (a303, .lst v304), (a306, .dT v307)] ++ R) _ := S381.pick [1, 2, 3, 0, 4, 5, 6, 7, 8, 9, 10] (by decide) rfl
                    obtain ⟨y387, e388, hm⟩ := bnd hm
                    refine ⟨_, rfl, _, _, _, rfl, (S381.get 1 rfl), fl_Gates_no_leaf, F374, ([(a378, .lst [.ref a372]), (a32, .lst v295), (a3, .lst v285), (a46, .lst [.int 2, .int 1]), (a39, .lst v220), (a7, .ins T.a_Gates dx8 (fl_Gates (.ref a303) (.ref a306))), (a303, .lst v304), (a306, .dT v307)] ++ R), a342, dx343, (M_Gates.mk ((m_Gates_init).rows) ((m_Gates_init).known)), a354, v355, a357, v358, (7 : Int), _, rfl, (hl356.mono s375), (KR.mono hl359 s375), S386, e388, fun F389 H390 a393 v394 a396 v397 s391 S392 hl395 hl398 => ?_⟩
                    have S399 : Sta F389 ([(a342, .ins T.a_Gates dx343 (fl_Gates (.ref a393) (.ref a396))), (a393, .lst v394), (a396, .dT v397), (a378, .lst [.ref a372]), (a32, .lst v295), (a3, .lst v285), (a46, .lst [.int 2, .int 1]), (a39, .lst v220), (a7, .ins T.a_Gates dx8 (fl_Gates (.ref a303) (.ref a306))), (a303, .lst v304), (a306, .dT v307)] ++ R) _ := S392
                    refine ⟨y387.1, (2 : Int), _, rfl, rfl, _, rfl, ?_⟩
                    obtain rfl := Option.some.inj hm
                    have S400 : Sta F389 ([(a342, .ins T.a_Gates dx343 (fl_Gates (.ref a393) (.ref a396))), (a393, .lst v394), (a396, .dT v397), (a32, .lst v295), (a3, .lst v285), (a46, .lst [.int 2, .int 1]), (a39, .lst v220), (a7, .ins T.a_Gates dx8 (fl_Gates (.ref a303) (.ref a306))), (a303, .lst v304), (a306, .dT v307)] ++ R) _ := S399.pick [0, 1, 2, 4, 5, 6, 7, 8, 9, 10] (by decide) rfl
                    exact ⟨F389, a393, v394, a396, v397, (s375.trans s391), S400, hl395, hl398, rfl⟩
                rintro b401 H402 ⟨F363, a366, v367, a369, v370, s364, S365, hl368, hl371, rfl⟩
                by_cases c403 : b361.1 = true
                · have hm := ifT hm c403
                  cases hm
                · have hm := ifF hm c403
                  refine goF c403 ?_
                  obtain ⟨y404, e405, hm⟩ := bnd hm
                  refine ⟨_, rfl, _, _, _, _, _, rfl, (S365.get 7 rfl), T.cl_Gates, T.n_Gates_rows, fl_Gates_rows, _, rfl, F363, ([(a342, .ins T.a_Gates dx343 (fl_Gates (.ref a366) (.ref a369))), (a366, .lst v367), (a369, .dT v370), (a32, .lst v295), (a3, .lst v285), (a46, .lst [.int 2, .int 1]), (a39, .lst v220), (a7, .ins T.a_Gates dx8 (fl_Gates (.ref a303) (.ref a306))), (a303, .lst v304), (a306, .dT v307)] ++ R), a303, v304, b298.2.rows, a32, v295, y289.2, _, rfl, (SqL.of (S365.getO 8 rfl)), (hl305.mono (s348.trans (s352.trans s364))), (SqL.of (S365.getO 3 rfl)), (hl296.mono (s301.trans (s348.trans (s352.trans s364)))), S365, e405, ?_⟩
                  obtain rfl := Option.some.inj hm
                  have S406 : Sta F363 ([] ++ R) _ := S365.pick [] (by decide) rfl
                  exact kk _ _ (s13.trans (s17.trans (s29.trans (s86.trans (s144.trans (s150.trans (s213.trans (s274.trans (s283.trans (s293.trans (s301.trans (s348.trans (s352.trans s364))))))))))))) S406

end
end G

namespace G
open PySem PySem.Spec PyProof.Rows L2
def spTop (K : PySem.W.Frag) : Sp := fun vs H Q _ => ∃ (a : Addr) (ns : List Int), vs = [.ref a] ∧ SqL K H a (ns.map V.int) ∧ ns.length ≤ 63 ∧ ∀ H', Q (.bl true) H'
theorem top_of {P : Program} {w : World} {K : PySem.W.Frag} {mg : Str → Option Value} {base : Heap} (T : Txt K mg) : FnOk P w K mg base CX0 6 T.a_law T.d_law ["script"] (spTop K) :=
  (ok_law T).imp fun vs H Q E ⟨a, ns, e, hs, hl, k⟩ => by
    subst e
    refine ⟨H, [], a, ns.map V.int, ns, true, rfl, hs, lr_ints ns, sta0 H, law_true ns hl, ?_⟩
    first
      | exact k _
      | (intro F1 H1 _ _; exact k _)
theorem all_mk {l : PySem.W.OpenLaw} {w : World} {K : PySem.W.Frag} {h : Heap} {mg : Str → Option Value} {fa a_law a_law_seed a_Gates_init a_law_same_rows a_law_row a_law_is_edge a_Gates_edge_of a_Gates_leaf a_law_take a_law_letter a_law_edge a_opposite a_Gates_both a_Gates_every a_Gates_either a_Gates_one_of a_law_opposite a_law_both a_law_either a_law_folded a_law_differ a_Gates_differ a_law_choose a_Gates_choose a_law_call a_Gates : Addr} (X : K.In h) (G : h.Ns mainGlobals mg) (hfa : mg "law" = some (.ref fa))
    {od_law_seed an_law_seed od_Gates_init an_Gates_init od_law_same_rows an_law_same_rows od_law_row an_law_row od_law_is_edge an_law_is_edge od_Gates_edge_of an_Gates_edge_of od_Gates_leaf an_Gates_leaf od_law_take an_law_take od_law_letter an_law_letter od_law_edge an_law_edge od_opposite an_opposite od_Gates_both an_Gates_both od_Gates_every an_Gates_every od_Gates_either an_Gates_either od_Gates_one_of an_Gates_one_of od_law_opposite an_law_opposite od_law_both an_law_both od_law_either an_law_either od_law_folded an_law_folded od_law_differ an_law_differ od_Gates_differ an_Gates_differ od_law_choose an_law_choose od_Gates_choose an_Gates_choose od_law_call an_law_call od_law an_law : Option Addr} {sl_law_seed sl_Gates_init sl_law_same_rows sl_law_row sl_law_is_edge sl_Gates_edge_of sl_Gates_leaf sl_law_take sl_law_letter sl_law_edge sl_opposite sl_Gates_both sl_Gates_every sl_Gates_either sl_Gates_one_of sl_law_opposite sl_law_both sl_law_either sl_law_folded sl_law_differ sl_Gates_differ sl_law_choose sl_Gates_choose sl_law_call sl_law : Array (Option Value)} {oc_law_seed kV_law_seed dc_law_seed pm_law_seed cd_law_seed ct_law_seed oc_Gates_init kV_Gates_init dc_Gates_init pm_Gates_init cd_Gates_init ct_Gates_init oc_law_same_rows kV_law_same_rows dc_law_same_rows pm_law_same_rows cd_law_same_rows ct_law_same_rows oc_law_row kV_law_row dc_law_row pm_law_row cd_law_row ct_law_row oc_law_is_edge kV_law_is_edge dc_law_is_edge pm_law_is_edge cd_law_is_edge ct_law_is_edge oc_Gates_edge_of kV_Gates_edge_of dc_Gates_edge_of pm_Gates_edge_of cd_Gates_edge_of ct_Gates_edge_of oc_Gates_leaf kV_Gates_leaf dc_Gates_leaf pm_Gates_leaf cd_Gates_leaf ct_Gates_leaf oc_law_take kV_law_take dc_law_take pm_law_take cd_law_take ct_law_take oc_law_letter kV_law_letter dc_law_letter pm_law_letter cd_law_letter ct_law_letter oc_law_edge kV_law_edge dc_law_edge pm_law_edge cd_law_edge ct_law_edge oc_opposite kV_opposite dc_opposite pm_opposite cd_opposite ct_opposite oc_Gates_both kV_Gates_both dc_Gates_both pm_Gates_both cd_Gates_both ct_Gates_both oc_Gates_every kV_Gates_every dc_Gates_every pm_Gates_every cd_Gates_every ct_Gates_every oc_Gates_either kV_Gates_either dc_Gates_either pm_Gates_either cd_Gates_either ct_Gates_either oc_Gates_one_of kV_Gates_one_of dc_Gates_one_of pm_Gates_one_of cd_Gates_one_of ct_Gates_one_of oc_law_opposite kV_law_opposite dc_law_opposite pm_law_opposite cd_law_opposite ct_law_opposite oc_law_both kV_law_both dc_law_both pm_law_both cd_law_both ct_law_both oc_law_either kV_law_either dc_law_either pm_law_either cd_law_either ct_law_either oc_law_folded kV_law_folded dc_law_folded pm_law_folded cd_law_folded ct_law_folded oc_law_differ kV_law_differ dc_law_differ pm_law_differ cd_law_differ ct_law_differ oc_Gates_differ kV_Gates_differ dc_Gates_differ pm_Gates_differ cd_Gates_differ ct_Gates_differ oc_law_choose kV_law_choose dc_law_choose pm_law_choose cd_law_choose ct_law_choose oc_Gates_choose kV_Gates_choose dc_Gates_choose pm_Gates_choose cd_Gates_choose ct_Gates_choose oc_law_call kV_law_call dc_law_call pm_law_call cd_law_call ct_law_call oc_law kV_law dc_law pm_law cd_law ct_law : Value} {t_NO t_YES : Tok}
    (qc_Gates : PySem.W.nsIn K mainGlobals "Gates" = some (some (.ref a_Gates)))
    (q_law_seed : PySem.W.nsIn K mainGlobals "_law_seed" = some (some (.ref a_law_seed)))
    (l_law_seed : K.lookup a_law_seed = some ⟨oc_law_seed, od_law_seed, .func (PySem.W.fnOf "_law_seed" "_law_seed" (defArgs s_law_seed) (defBody s_law_seed) (defScope s_law_seed) .none kV_law_seed dc_law_seed pm_law_seed an_law_seed cd_law_seed ct_law_seed), sl_law_seed⟩)
    (c_law_seed : PySem.W.codeIn K cd_law_seed "_law_seed" = true)
    (k_law_seed : PySem.W.keepIn K (.ref a_law_seed) = true)
    (q_Gates_init : PySem.W.findIn K (.ref a_Gates) "__init__" = some (some (.ref a_Gates_init)))
    (i_Gates_init : PySem.W.isFn K (.ref a_Gates_init) = true)
    (l_Gates_init : K.lookup a_Gates_init = some ⟨oc_Gates_init, od_Gates_init, .func (PySem.W.fnOf "__init__" "Gates.__init__" (defArgs s_Gates_init) (defBody s_Gates_init) (defScope s_Gates_init) .none kV_Gates_init dc_Gates_init pm_Gates_init an_Gates_init cd_Gates_init ct_Gates_init), sl_Gates_init⟩)
    (c_Gates_init : PySem.W.codeIn K cd_Gates_init "Gates.__init__" = true)
    (k_Gates_init : PySem.W.keepIn K (.ref a_Gates_init) = true)
    (q_law_same_rows : PySem.W.nsIn K mainGlobals "_law_same_rows" = some (some (.ref a_law_same_rows)))
    (l_law_same_rows : K.lookup a_law_same_rows = some ⟨oc_law_same_rows, od_law_same_rows, .func (PySem.W.fnOf "_law_same_rows" "_law_same_rows" (defArgs s_law_same_rows) (defBody s_law_same_rows) (defScope s_law_same_rows) .none kV_law_same_rows dc_law_same_rows pm_law_same_rows an_law_same_rows cd_law_same_rows ct_law_same_rows), sl_law_same_rows⟩)
    (c_law_same_rows : PySem.W.codeIn K cd_law_same_rows "_law_same_rows" = true)
    (k_law_same_rows : PySem.W.keepIn K (.ref a_law_same_rows) = true)
    (q_law_row : PySem.W.nsIn K mainGlobals "_law_row" = some (some (.ref a_law_row)))
    (l_law_row : K.lookup a_law_row = some ⟨oc_law_row, od_law_row, .func (PySem.W.fnOf "_law_row" "_law_row" (defArgs s_law_row) (defBody s_law_row) (defScope s_law_row) .none kV_law_row dc_law_row pm_law_row an_law_row cd_law_row ct_law_row), sl_law_row⟩)
    (c_law_row : PySem.W.codeIn K cd_law_row "_law_row" = true)
    (k_law_row : PySem.W.keepIn K (.ref a_law_row) = true)
    (q_law_is_edge : PySem.W.nsIn K mainGlobals "_law_is_edge" = some (some (.ref a_law_is_edge)))
    (l_law_is_edge : K.lookup a_law_is_edge = some ⟨oc_law_is_edge, od_law_is_edge, .func (PySem.W.fnOf "_law_is_edge" "_law_is_edge" (defArgs s_law_is_edge) (defBody s_law_is_edge) (defScope s_law_is_edge) .none kV_law_is_edge dc_law_is_edge pm_law_is_edge an_law_is_edge cd_law_is_edge ct_law_is_edge), sl_law_is_edge⟩)
    (c_law_is_edge : PySem.W.codeIn K cd_law_is_edge "_law_is_edge" = true)
    (k_law_is_edge : PySem.W.keepIn K (.ref a_law_is_edge) = true)
    (q_Gates_edge_of : PySem.W.findIn K (.ref a_Gates) "_edge_of" = some (some (.ref a_Gates_edge_of)))
    (i_Gates_edge_of : PySem.W.isFn K (.ref a_Gates_edge_of) = true)
    (l_Gates_edge_of : K.lookup a_Gates_edge_of = some ⟨oc_Gates_edge_of, od_Gates_edge_of, .func (PySem.W.fnOf "_edge_of" "Gates._edge_of" (defArgs s_Gates_edge_of) (defBody s_Gates_edge_of) (defScope s_Gates_edge_of) .none kV_Gates_edge_of dc_Gates_edge_of pm_Gates_edge_of an_Gates_edge_of cd_Gates_edge_of ct_Gates_edge_of), sl_Gates_edge_of⟩)
    (c_Gates_edge_of : PySem.W.codeIn K cd_Gates_edge_of "Gates._edge_of" = true)
    (k_Gates_edge_of : PySem.W.keepIn K (.ref a_Gates_edge_of) = true)
    (q_Gates_leaf : PySem.W.findIn K (.ref a_Gates) "leaf" = some (some (.ref a_Gates_leaf)))
    (i_Gates_leaf : PySem.W.isFn K (.ref a_Gates_leaf) = true)
    (l_Gates_leaf : K.lookup a_Gates_leaf = some ⟨oc_Gates_leaf, od_Gates_leaf, .func (PySem.W.fnOf "leaf" "Gates.leaf" (defArgs s_Gates_leaf) (defBody s_Gates_leaf) (defScope s_Gates_leaf) .none kV_Gates_leaf dc_Gates_leaf pm_Gates_leaf an_Gates_leaf cd_Gates_leaf ct_Gates_leaf), sl_Gates_leaf⟩)
    (c_Gates_leaf : PySem.W.codeIn K cd_Gates_leaf "Gates.leaf" = true)
    (k_Gates_leaf : PySem.W.keepIn K (.ref a_Gates_leaf) = true)
    (q_law_take : PySem.W.nsIn K mainGlobals "_law_take" = some (some (.ref a_law_take)))
    (l_law_take : K.lookup a_law_take = some ⟨oc_law_take, od_law_take, .func (PySem.W.fnOf "_law_take" "_law_take" (defArgs s_law_take) (defBody s_law_take) (defScope s_law_take) .none kV_law_take dc_law_take pm_law_take an_law_take cd_law_take ct_law_take), sl_law_take⟩)
    (c_law_take : PySem.W.codeIn K cd_law_take "_law_take" = true)
    (k_law_take : PySem.W.keepIn K (.ref a_law_take) = true)
    (q_law_letter : PySem.W.nsIn K mainGlobals "_law_letter" = some (some (.ref a_law_letter)))
    (l_law_letter : K.lookup a_law_letter = some ⟨oc_law_letter, od_law_letter, .func (PySem.W.fnOf "_law_letter" "_law_letter" (defArgs s_law_letter) (defBody s_law_letter) (defScope s_law_letter) .none kV_law_letter dc_law_letter pm_law_letter an_law_letter cd_law_letter ct_law_letter), sl_law_letter⟩)
    (c_law_letter : PySem.W.codeIn K cd_law_letter "_law_letter" = true)
    (k_law_letter : PySem.W.keepIn K (.ref a_law_letter) = true)
    (q_law_edge : PySem.W.nsIn K mainGlobals "_law_edge" = some (some (.ref a_law_edge)))
    (l_law_edge : K.lookup a_law_edge = some ⟨oc_law_edge, od_law_edge, .func (PySem.W.fnOf "_law_edge" "_law_edge" (defArgs s_law_edge) (defBody s_law_edge) (defScope s_law_edge) .none kV_law_edge dc_law_edge pm_law_edge an_law_edge cd_law_edge ct_law_edge), sl_law_edge⟩)
    (c_law_edge : PySem.W.codeIn K cd_law_edge "_law_edge" = true)
    (k_law_edge : PySem.W.keepIn K (.ref a_law_edge) = true)
    (q_opposite : PySem.W.nsIn K mainGlobals "opposite" = some (some (.ref a_opposite)))
    (l_opposite : K.lookup a_opposite = some ⟨oc_opposite, od_opposite, .func (PySem.W.fnOf "opposite" "opposite" (defArgs s_opposite) (defBody s_opposite) (defScope s_opposite) .none kV_opposite dc_opposite pm_opposite an_opposite cd_opposite ct_opposite), sl_opposite⟩)
    (c_opposite : PySem.W.codeIn K cd_opposite "opposite" = true)
    (k_opposite : PySem.W.keepIn K (.ref a_opposite) = true)
    (q_Gates_both : PySem.W.findIn K (.ref a_Gates) "both" = some (some (.ref a_Gates_both)))
    (i_Gates_both : PySem.W.isFn K (.ref a_Gates_both) = true)
    (l_Gates_both : K.lookup a_Gates_both = some ⟨oc_Gates_both, od_Gates_both, .func (PySem.W.fnOf "both" "Gates.both" (defArgs s_Gates_both) (defBody s_Gates_both) (defScope s_Gates_both) .none kV_Gates_both dc_Gates_both pm_Gates_both an_Gates_both cd_Gates_both ct_Gates_both), sl_Gates_both⟩)
    (c_Gates_both : PySem.W.codeIn K cd_Gates_both "Gates.both" = true)
    (k_Gates_both : PySem.W.keepIn K (.ref a_Gates_both) = true)
    (q_Gates_every : PySem.W.findIn K (.ref a_Gates) "every" = some (some (.ref a_Gates_every)))
    (i_Gates_every : PySem.W.isFn K (.ref a_Gates_every) = true)
    (l_Gates_every : K.lookup a_Gates_every = some ⟨oc_Gates_every, od_Gates_every, .func (PySem.W.fnOf "every" "Gates.every" (defArgs s_Gates_every) (defBody s_Gates_every) (defScope s_Gates_every) .none kV_Gates_every dc_Gates_every pm_Gates_every an_Gates_every cd_Gates_every ct_Gates_every), sl_Gates_every⟩)
    (c_Gates_every : PySem.W.codeIn K cd_Gates_every "Gates.every" = true)
    (k_Gates_every : PySem.W.keepIn K (.ref a_Gates_every) = true)
    (q_Gates_either : PySem.W.findIn K (.ref a_Gates) "either" = some (some (.ref a_Gates_either)))
    (i_Gates_either : PySem.W.isFn K (.ref a_Gates_either) = true)
    (l_Gates_either : K.lookup a_Gates_either = some ⟨oc_Gates_either, od_Gates_either, .func (PySem.W.fnOf "either" "Gates.either" (defArgs s_Gates_either) (defBody s_Gates_either) (defScope s_Gates_either) .none kV_Gates_either dc_Gates_either pm_Gates_either an_Gates_either cd_Gates_either ct_Gates_either), sl_Gates_either⟩)
    (c_Gates_either : PySem.W.codeIn K cd_Gates_either "Gates.either" = true)
    (k_Gates_either : PySem.W.keepIn K (.ref a_Gates_either) = true)
    (q_Gates_one_of : PySem.W.findIn K (.ref a_Gates) "one_of" = some (some (.ref a_Gates_one_of)))
    (i_Gates_one_of : PySem.W.isFn K (.ref a_Gates_one_of) = true)
    (l_Gates_one_of : K.lookup a_Gates_one_of = some ⟨oc_Gates_one_of, od_Gates_one_of, .func (PySem.W.fnOf "one_of" "Gates.one_of" (defArgs s_Gates_one_of) (defBody s_Gates_one_of) (defScope s_Gates_one_of) .none kV_Gates_one_of dc_Gates_one_of pm_Gates_one_of an_Gates_one_of cd_Gates_one_of ct_Gates_one_of), sl_Gates_one_of⟩)
    (c_Gates_one_of : PySem.W.codeIn K cd_Gates_one_of "Gates.one_of" = true)
    (k_Gates_one_of : PySem.W.keepIn K (.ref a_Gates_one_of) = true)
    (q_law_opposite : PySem.W.nsIn K mainGlobals "_law_opposite" = some (some (.ref a_law_opposite)))
    (l_law_opposite : K.lookup a_law_opposite = some ⟨oc_law_opposite, od_law_opposite, .func (PySem.W.fnOf "_law_opposite" "_law_opposite" (defArgs s_law_opposite) (defBody s_law_opposite) (defScope s_law_opposite) .none kV_law_opposite dc_law_opposite pm_law_opposite an_law_opposite cd_law_opposite ct_law_opposite), sl_law_opposite⟩)
    (c_law_opposite : PySem.W.codeIn K cd_law_opposite "_law_opposite" = true)
    (k_law_opposite : PySem.W.keepIn K (.ref a_law_opposite) = true)
    (q_law_both : PySem.W.nsIn K mainGlobals "_law_both" = some (some (.ref a_law_both)))
    (l_law_both : K.lookup a_law_both = some ⟨oc_law_both, od_law_both, .func (PySem.W.fnOf "_law_both" "_law_both" (defArgs s_law_both) (defBody s_law_both) (defScope s_law_both) .none kV_law_both dc_law_both pm_law_both an_law_both cd_law_both ct_law_both), sl_law_both⟩)
    (c_law_both : PySem.W.codeIn K cd_law_both "_law_both" = true)
    (k_law_both : PySem.W.keepIn K (.ref a_law_both) = true)
    (q_law_either : PySem.W.nsIn K mainGlobals "_law_either" = some (some (.ref a_law_either)))
    (l_law_either : K.lookup a_law_either = some ⟨oc_law_either, od_law_either, .func (PySem.W.fnOf "_law_either" "_law_either" (defArgs s_law_either) (defBody s_law_either) (defScope s_law_either) .none kV_law_either dc_law_either pm_law_either an_law_either cd_law_either ct_law_either), sl_law_either⟩)
    (c_law_either : PySem.W.codeIn K cd_law_either "_law_either" = true)
    (k_law_either : PySem.W.keepIn K (.ref a_law_either) = true)
    (q_law_folded : PySem.W.nsIn K mainGlobals "_law_folded" = some (some (.ref a_law_folded)))
    (l_law_folded : K.lookup a_law_folded = some ⟨oc_law_folded, od_law_folded, .func (PySem.W.fnOf "_law_folded" "_law_folded" (defArgs s_law_folded) (defBody s_law_folded) (defScope s_law_folded) .none kV_law_folded dc_law_folded pm_law_folded an_law_folded cd_law_folded ct_law_folded), sl_law_folded⟩)
    (c_law_folded : PySem.W.codeIn K cd_law_folded "_law_folded" = true)
    (k_law_folded : PySem.W.keepIn K (.ref a_law_folded) = true)
    (q_law_differ : PySem.W.nsIn K mainGlobals "_law_differ" = some (some (.ref a_law_differ)))
    (l_law_differ : K.lookup a_law_differ = some ⟨oc_law_differ, od_law_differ, .func (PySem.W.fnOf "_law_differ" "_law_differ" (defArgs s_law_differ) (defBody s_law_differ) (defScope s_law_differ) .none kV_law_differ dc_law_differ pm_law_differ an_law_differ cd_law_differ ct_law_differ), sl_law_differ⟩)
    (c_law_differ : PySem.W.codeIn K cd_law_differ "_law_differ" = true)
    (k_law_differ : PySem.W.keepIn K (.ref a_law_differ) = true)
    (q_Gates_differ : PySem.W.findIn K (.ref a_Gates) "differ" = some (some (.ref a_Gates_differ)))
    (i_Gates_differ : PySem.W.isFn K (.ref a_Gates_differ) = true)
    (l_Gates_differ : K.lookup a_Gates_differ = some ⟨oc_Gates_differ, od_Gates_differ, .func (PySem.W.fnOf "differ" "Gates.differ" (defArgs s_Gates_differ) (defBody s_Gates_differ) (defScope s_Gates_differ) .none kV_Gates_differ dc_Gates_differ pm_Gates_differ an_Gates_differ cd_Gates_differ ct_Gates_differ), sl_Gates_differ⟩)
    (c_Gates_differ : PySem.W.codeIn K cd_Gates_differ "Gates.differ" = true)
    (k_Gates_differ : PySem.W.keepIn K (.ref a_Gates_differ) = true)
    (q_law_choose : PySem.W.nsIn K mainGlobals "_law_choose" = some (some (.ref a_law_choose)))
    (l_law_choose : K.lookup a_law_choose = some ⟨oc_law_choose, od_law_choose, .func (PySem.W.fnOf "_law_choose" "_law_choose" (defArgs s_law_choose) (defBody s_law_choose) (defScope s_law_choose) .none kV_law_choose dc_law_choose pm_law_choose an_law_choose cd_law_choose ct_law_choose), sl_law_choose⟩)
    (c_law_choose : PySem.W.codeIn K cd_law_choose "_law_choose" = true)
    (k_law_choose : PySem.W.keepIn K (.ref a_law_choose) = true)
    (q_Gates_choose : PySem.W.findIn K (.ref a_Gates) "choose" = some (some (.ref a_Gates_choose)))
    (i_Gates_choose : PySem.W.isFn K (.ref a_Gates_choose) = true)
    (l_Gates_choose : K.lookup a_Gates_choose = some ⟨oc_Gates_choose, od_Gates_choose, .func (PySem.W.fnOf "choose" "Gates.choose" (defArgs s_Gates_choose) (defBody s_Gates_choose) (defScope s_Gates_choose) .none kV_Gates_choose dc_Gates_choose pm_Gates_choose an_Gates_choose cd_Gates_choose ct_Gates_choose), sl_Gates_choose⟩)
    (c_Gates_choose : PySem.W.codeIn K cd_Gates_choose "Gates.choose" = true)
    (k_Gates_choose : PySem.W.keepIn K (.ref a_Gates_choose) = true)
    (q_law_call : PySem.W.nsIn K mainGlobals "_law_call" = some (some (.ref a_law_call)))
    (l_law_call : K.lookup a_law_call = some ⟨oc_law_call, od_law_call, .func (PySem.W.fnOf "_law_call" "_law_call" (defArgs s_law_call) (defBody s_law_call) (defScope s_law_call) .none kV_law_call dc_law_call pm_law_call an_law_call cd_law_call ct_law_call), sl_law_call⟩)
    (c_law_call : PySem.W.codeIn K cd_law_call "_law_call" = true)
    (k_law_call : PySem.W.keepIn K (.ref a_law_call) = true)
    (q_law : PySem.W.nsIn K mainGlobals "law" = some (some (.ref a_law)))
    (l_law : K.lookup a_law = some ⟨oc_law, od_law, .func (PySem.W.fnOf "law" "law" (defArgs s_law) (defBody s_law) (defScope s_law) .none kV_law dc_law pm_law an_law cd_law ct_law), sl_law⟩)
    (c_law : PySem.W.codeIn K cd_law "law" = true)
    (k_law : PySem.W.keepIn K (.ref a_law) = true)
    (pg_Gates : PySem.W.plainGet K a_Gates Str.empty = true)
    (hd_Gates : PySem.W.hasDictIn K a_Gates = true)
    (po_Gates : PySem.W.plainOver K a_Gates = true)
    (sa_Gates : PySem.W.findIn K (.ref a_Gates) "__setattr__" = some (some (.builtin "object.__setattr__")))
    (mk_Gates : PySem.W.makesIn K a_Gates = true)
    (kc_Gates : PySem.W.keepIn K (.ref a_Gates) = true)
    (nf_Gates_rows : PySem.W.findIn K (.ref a_Gates) "rows" = some none)
    (nf_Gates_known : PySem.W.findIn K (.ref a_Gates) "_known" = some none)
    (zz_abs : PySem.W.nsIn K mainGlobals "abs" = some none)
    (zz_bool : PySem.W.nsIn K mainGlobals "bool" = some none)
    (zz_int : PySem.W.nsIn K mainGlobals "int" = some none)
    (zz_isinstance : PySem.W.nsIn K mainGlobals "isinstance" = some none)
    (zz_len : PySem.W.nsIn K mainGlobals "len" = some none)
    (zz_list : PySem.W.nsIn K mainGlobals "list" = some none)
    (zz_max : PySem.W.nsIn K mainGlobals "max" = some none)
    (zz_min : PySem.W.nsIn K mainGlobals "min" = some none)
    (zz_range : PySem.W.nsIn K mainGlobals "range" = some none)
    (zz_tuple : PySem.W.nsIn K mainGlobals "tuple" = some none)
    (gc_NO : PySem.W.nsIn K mainGlobals "NO" = some (some (.int 0 t_NO)))
    (gc_YES : PySem.W.nsIn K mainGlobals "YES" = some (some (.int 1 t_YES))) :
    ∃ fd : FuncData, (∀ (s : Shared) (v : Value), BindsTo s fd ⟨[v], []⟩ [("script", v)]) ∧ ∀ base : Heap, K.In base → base.Ns mainGlobals mg → FnOk l.prog w K mg base CX0 6 fa fd ["script"] (spTop K) := by
  have e := hfa.symm.trans (PySem.W.mg_of X G q_law)
  cases e
  let T : Txt K mg := {
    z_abs := PySem.W.mg_none_of X G zz_abs,
    z_bool := PySem.W.mg_none_of X G zz_bool,
    z_int := PySem.W.mg_none_of X G zz_int,
    z_isinstance := PySem.W.mg_none_of X G zz_isinstance,
    z_len := PySem.W.mg_none_of X G zz_len,
    z_list := PySem.W.mg_none_of X G zz_list,
    z_max := PySem.W.mg_none_of X G zz_max,
    z_min := PySem.W.mg_none_of X G zz_min,
    z_range := PySem.W.mg_none_of X G zz_range,
    z_tuple := PySem.W.mg_none_of X G zz_tuple,
    t_NO := t_NO,
    g_NO := PySem.W.mg_of X G gc_NO,
    t_YES := t_YES,
    g_YES := PySem.W.mg_of X G gc_YES,
    a_law_seed := a_law_seed,
    d_law_seed := _,
    F_law_seed := fun_mk (st := s_law_seed) l_law_seed c_law_seed k_law_seed,
    b_law_seed := (fun_mk (st := s_law_seed) l_law_seed c_law_seed k_law_seed).binds (ps := ["script"]) (fun _ _ _ _ _ _ us hl => match us, hl with | [_], _ => rfl),
    g_law_seed := PySem.W.mg_of X G q_law_seed,
    a_Gates_init := a_Gates_init,
    d_Gates_init := _,
    F_Gates_init := fun_mk (st := s_Gates_init) l_Gates_init c_Gates_init k_Gates_init,
    b_Gates_init := (fun_mk (st := s_Gates_init) l_Gates_init c_Gates_init k_Gates_init).binds (ps := ["self"]) (fun _ _ _ _ _ _ us hl => match us, hl with | [_], _ => rfl),
    a_law_same_rows := a_law_same_rows,
    d_law_same_rows := _,
    F_law_same_rows := fun_mk (st := s_law_same_rows) l_law_same_rows c_law_same_rows k_law_same_rows,
    b_law_same_rows := (fun_mk (st := s_law_same_rows) l_law_same_rows c_law_same_rows k_law_same_rows).binds (ps := ["actual", "rows"]) (fun _ _ _ _ _ _ us hl => match us, hl with | [_, _], _ => rfl),
    g_law_same_rows := PySem.W.mg_of X G q_law_same_rows,
    a_law_row := a_law_row,
    d_law_row := _,
    F_law_row := fun_mk (st := s_law_row) l_law_row c_law_row k_law_row,
    b_law_row := (fun_mk (st := s_law_row) l_law_row c_law_row k_law_row).binds (ps := ["rows", "row"]) (fun _ _ _ _ _ _ us hl => match us, hl with | [_, _], _ => rfl),
    g_law_row := PySem.W.mg_of X G q_law_row,
    a_law_is_edge := a_law_is_edge,
    d_law_is_edge := _,
    F_law_is_edge := fun_mk (st := s_law_is_edge) l_law_is_edge c_law_is_edge k_law_is_edge,
    b_law_is_edge := (fun_mk (st := s_law_is_edge) l_law_is_edge c_law_is_edge k_law_is_edge).binds (ps := ["actual", "due"]) (fun _ _ _ _ _ _ us hl => match us, hl with | [_, _], _ => rfl),
    g_law_is_edge := PySem.W.mg_of X G q_law_is_edge,
    a_Gates_edge_of := a_Gates_edge_of,
    d_Gates_edge_of := _,
    F_Gates_edge_of := fun_mk (st := s_Gates_edge_of) l_Gates_edge_of c_Gates_edge_of k_Gates_edge_of,
    b_Gates_edge_of := (fun_mk (st := s_Gates_edge_of) l_Gates_edge_of c_Gates_edge_of k_Gates_edge_of).binds (ps := ["self", "row"]) (fun _ _ _ _ _ _ us hl => match us, hl with | [_, _], _ => rfl),
    a_Gates_leaf := a_Gates_leaf,
    d_Gates_leaf := _,
    F_Gates_leaf := fun_mk (st := s_Gates_leaf) l_Gates_leaf c_Gates_leaf k_Gates_leaf,
    b_Gates_leaf := (fun_mk (st := s_Gates_leaf) l_Gates_leaf c_Gates_leaf k_Gates_leaf).binds (ps := ["self", "letter"]) (fun _ _ _ _ _ _ us hl => match us, hl with | [_, _], _ => rfl),
    a_law_take := a_law_take,
    d_law_take := _,
    F_law_take := fun_mk (st := s_law_take) l_law_take c_law_take k_law_take,
    b_law_take := (fun_mk (st := s_law_take) l_law_take c_law_take k_law_take).binds (ps := ["script", "source", "size"]) (fun _ _ _ _ _ _ us hl => match us, hl with | [_, _, _], _ => rfl),
    g_law_take := PySem.W.mg_of X G q_law_take,
    a_law_letter := a_law_letter,
    d_law_letter := _,
    F_law_letter := fun_mk (st := s_law_letter) l_law_letter c_law_letter k_law_letter,
    b_law_letter := (fun_mk (st := s_law_letter) l_law_letter c_law_letter k_law_letter).binds (ps := ["script", "source"]) (fun _ _ _ _ _ _ us hl => match us, hl with | [_, _], _ => rfl),
    g_law_letter := PySem.W.mg_of X G q_law_letter,
    a_law_edge := a_law_edge,
    d_law_edge := _,
    F_law_edge := fun_mk (st := s_law_edge) l_law_edge c_law_edge k_law_edge,
    b_law_edge := (fun_mk (st := s_law_edge) l_law_edge c_law_edge k_law_edge).binds (ps := ["script", "source", "edges"]) (fun _ _ _ _ _ _ us hl => match us, hl with | [_, _, _], _ => rfl),
    g_law_edge := PySem.W.mg_of X G q_law_edge,
    a_opposite := a_opposite,
    d_opposite := _,
    F_opposite := fun_mk (st := s_opposite) l_opposite c_opposite k_opposite,
    b_opposite := (fun_mk (st := s_opposite) l_opposite c_opposite k_opposite).binds (ps := ["edge"]) (fun _ _ _ _ _ _ us hl => match us, hl with | [_], _ => rfl),
    g_opposite := PySem.W.mg_of X G q_opposite,
    a_Gates_both := a_Gates_both,
    d_Gates_both := _,
    F_Gates_both := fun_mk (st := s_Gates_both) l_Gates_both c_Gates_both k_Gates_both,
    b_Gates_both := (fun_mk (st := s_Gates_both) l_Gates_both c_Gates_both k_Gates_both).binds (ps := ["self", "a", "b"]) (fun _ _ _ _ _ _ us hl => match us, hl with | [_, _, _], _ => rfl),
    a_Gates_every := a_Gates_every,
    d_Gates_every := _,
    F_Gates_every := fun_mk (st := s_Gates_every) l_Gates_every c_Gates_every k_Gates_every,
    b_Gates_every := (fun_mk (st := s_Gates_every) l_Gates_every c_Gates_every k_Gates_every).binds (ps := ["self", "edges"]) (fun _ _ _ _ _ _ us hl => match us, hl with | [_, _], _ => rfl),
    a_Gates_either := a_Gates_either,
    d_Gates_either := _,
    F_Gates_either := fun_mk (st := s_Gates_either) l_Gates_either c_Gates_either k_Gates_either,
    b_Gates_either := (fun_mk (st := s_Gates_either) l_Gates_either c_Gates_either k_Gates_either).binds (ps := ["self", "a", "b"]) (fun _ _ _ _ _ _ us hl => match us, hl with | [_, _, _], _ => rfl),
    a_Gates_one_of := a_Gates_one_of,
    d_Gates_one_of := _,
    F_Gates_one_of := fun_mk (st := s_Gates_one_of) l_Gates_one_of c_Gates_one_of k_Gates_one_of,
    b_Gates_one_of := (fun_mk (st := s_Gates_one_of) l_Gates_one_of c_Gates_one_of k_Gates_one_of).binds (ps := ["self", "edges"]) (fun _ _ _ _ _ _ us hl => match us, hl with | [_, _], _ => rfl),
    a_law_opposite := a_law_opposite,
    d_law_opposite := _,
    F_law_opposite := fun_mk (st := s_law_opposite) l_law_opposite c_law_opposite k_law_opposite,
    b_law_opposite := (fun_mk (st := s_law_opposite) l_law_opposite c_law_opposite k_law_opposite).binds (ps := ["edge"]) (fun _ _ _ _ _ _ us hl => match us, hl with | [_], _ => rfl),
    g_law_opposite := PySem.W.mg_of X G q_law_opposite,
    a_law_both := a_law_both,
    d_law_both := _,
    F_law_both := fun_mk (st := s_law_both) l_law_both c_law_both k_law_both,
    b_law_both := (fun_mk (st := s_law_both) l_law_both c_law_both k_law_both).binds (ps := ["rows", "a", "b"]) (fun _ _ _ _ _ _ us hl => match us, hl with | [_, _, _], _ => rfl),
    g_law_both := PySem.W.mg_of X G q_law_both,
    a_law_either := a_law_either,
    d_law_either := _,
    F_law_either := fun_mk (st := s_law_either) l_law_either c_law_either k_law_either,
    b_law_either := (fun_mk (st := s_law_either) l_law_either c_law_either k_law_either).binds (ps := ["rows", "a", "b"]) (fun _ _ _ _ _ _ us hl => match us, hl with | [_, _, _], _ => rfl),
    g_law_either := PySem.W.mg_of X G q_law_either,
    a_law_folded := a_law_folded,
    d_law_folded := _,
    F_law_folded := fun_mk (st := s_law_folded) l_law_folded c_law_folded k_law_folded,
    b_law_folded := (fun_mk (st := s_law_folded) l_law_folded c_law_folded k_law_folded).binds (ps := ["rows", "kind", "given"]) (fun _ _ _ _ _ _ us hl => match us, hl with | [_, _, _], _ => rfl),
    g_law_folded := PySem.W.mg_of X G q_law_folded,
    a_law_differ := a_law_differ,
    d_law_differ := _,
    F_law_differ := fun_mk (st := s_law_differ) l_law_differ c_law_differ k_law_differ,
    b_law_differ := (fun_mk (st := s_law_differ) l_law_differ c_law_differ k_law_differ).binds (ps := ["rows", "a", "b"]) (fun _ _ _ _ _ _ us hl => match us, hl with | [_, _, _], _ => rfl),
    g_law_differ := PySem.W.mg_of X G q_law_differ,
    a_Gates_differ := a_Gates_differ,
    d_Gates_differ := _,
    F_Gates_differ := fun_mk (st := s_Gates_differ) l_Gates_differ c_Gates_differ k_Gates_differ,
    b_Gates_differ := (fun_mk (st := s_Gates_differ) l_Gates_differ c_Gates_differ k_Gates_differ).binds (ps := ["self", "a", "b"]) (fun _ _ _ _ _ _ us hl => match us, hl with | [_, _, _], _ => rfl),
    a_law_choose := a_law_choose,
    d_law_choose := _,
    F_law_choose := fun_mk (st := s_law_choose) l_law_choose c_law_choose k_law_choose,
    b_law_choose := (fun_mk (st := s_law_choose) l_law_choose c_law_choose k_law_choose).binds (ps := ["rows", "test", "a", "b"]) (fun _ _ _ _ _ _ us hl => match us, hl with | [_, _, _, _], _ => rfl),
    g_law_choose := PySem.W.mg_of X G q_law_choose,
    a_Gates_choose := a_Gates_choose,
    d_Gates_choose := _,
    F_Gates_choose := fun_mk (st := s_Gates_choose) l_Gates_choose c_Gates_choose k_Gates_choose,
    b_Gates_choose := (fun_mk (st := s_Gates_choose) l_Gates_choose c_Gates_choose k_Gates_choose).binds (ps := ["self", "test", "a", "b"]) (fun _ _ _ _ _ _ us hl => match us, hl with | [_, _, _, _], _ => rfl),
    a_law_call := a_law_call,
    d_law_call := _,
    F_law_call := fun_mk (st := s_law_call) l_law_call c_law_call k_law_call,
    b_law_call := (fun_mk (st := s_law_call) l_law_call c_law_call k_law_call).binds (ps := ["script", "source", "gates", "rows", "edges"]) (fun _ _ _ _ _ _ us hl => match us, hl with | [_, _, _, _, _], _ => rfl),
    g_law_call := PySem.W.mg_of X G q_law_call,
    a_law := fa,
    d_law := _,
    F_law := fun_mk (st := s_law) l_law c_law k_law,
    b_law := (fun_mk (st := s_law) l_law c_law k_law).binds (ps := ["script"]) (fun _ _ _ _ _ _ us hl => match us, hl with | [_], _ => rfl),
    g_law := PySem.W.mg_of X G q_law,
    a_Gates := a_Gates,
    cl_Gates := ⟨pg_Gates, hd_Gates, po_Gates, sa_Gates⟩,
    g_Gates := PySem.W.mg_of X G qc_Gates,
    n_Gates_rows := nf_Gates_rows,
    n_Gates_known := nf_Gates_known,
    mk_Gates := ⟨mk_Gates, q_Gates_init, i_Gates_init, kc_Gates⟩,
    h_Gates_edge_of := ⟨q_Gates_edge_of, i_Gates_edge_of, k_Gates_edge_of⟩,
    h_Gates_leaf := ⟨q_Gates_leaf, i_Gates_leaf, k_Gates_leaf⟩,
    h_Gates_both := ⟨q_Gates_both, i_Gates_both, k_Gates_both⟩,
    h_Gates_every := ⟨q_Gates_every, i_Gates_every, k_Gates_every⟩,
    h_Gates_either := ⟨q_Gates_either, i_Gates_either, k_Gates_either⟩,
    h_Gates_one_of := ⟨q_Gates_one_of, i_Gates_one_of, k_Gates_one_of⟩,
    h_Gates_differ := ⟨q_Gates_differ, i_Gates_differ, k_Gates_differ⟩,
    h_Gates_choose := ⟨q_Gates_choose, i_Gates_choose, k_Gates_choose⟩ }
  exact ⟨T.d_law, fun s v => .of_eq rfl, fun base _ _ => top_of T⟩
theorem walk {l : PySem.W.OpenLaw} {q : Program} {loose : List Str} {XP : (Str → Option Value) → Heap → Prop} {YP : World → Heap → Prop} {d : DefRec} {K : Params → PySem.W.Frag} (hn : l.most = some 63) (hdf : d.params.defaults = [])
    (hY : ∀ (w : World) (h : Heap), YP w h → (K w.params).In h)
    (F : ∀ (w : World) (mg : Str → Option Value) (fa : Addr) (h : Heap), (K w.params).In h → h.Ns mainGlobals mg → mg d.name = some (.ref fa) →
      ∃ fd : FuncData, (∀ (s : Shared) (u : Value), BindsTo s fd ⟨[u], []⟩ [("script", u)]) ∧ ∀ base : Heap, (K w.params).In base → base.Ns mainGlobals mg → FnOk l.prog w (K w.params) mg base CX0 6 fa fd ["script"] (spTop (K w.params))) :
    PySem.W.WalkO q loose XP YP l.row.toRowW d [] (fun f vs => PySem.call f vs) :=
  L2.walk_of (n := 63) (k := 6) (x := "script") (CX := fun _ => CX0) (sp := fun w => spTop (K w.params)) hn (by decide) hdf ⟨rfl, by decide, by decide⟩ hY F (fun _ _ a ns hl _ hS => ⟨a, ns, rfl, hS, hl, fun _ => rfl⟩) fun _ _ _ _ _ z => z
end G
open PySem PySem.W PyProof.Rows
set_option maxRecDepth 100000 in
set_option maxHeartbeats 0 in
theorem PySem.Challenge.cw_someandall_k86_gates_fold_and_share_holds : PySem.Challenge.rw_someandall_k86_gates_fold_and_share.Holds := by
  w_on; o_law; k_head; (case hw => w_witness2)
  k_fill
  refine G.walk (l := PySem.Challenge.rw_someandall_k86_gates_fold_and_share) rfl rfl (fun w h Y => PySem.W.kIn_of Y) ?F
  case F =>
    intro w mg fa h KX G0 hmg
    refine' G.all_mk KX G0 hmg ?qc_Gates ?q_law_seed ?l_law_seed ?c_law_seed ?k_law_seed ?q_Gates_init ?i_Gates_init ?l_Gates_init ?c_Gates_init ?k_Gates_init ?q_law_same_rows ?l_law_same_rows ?c_law_same_rows ?k_law_same_rows ?q_law_row ?l_law_row ?c_law_row ?k_law_row ?q_law_is_edge ?l_law_is_edge ?c_law_is_edge ?k_law_is_edge ?q_Gates_edge_of ?i_Gates_edge_of ?l_Gates_edge_of ?c_Gates_edge_of ?k_Gates_edge_of ?q_Gates_leaf ?i_Gates_leaf ?l_Gates_leaf ?c_Gates_leaf ?k_Gates_leaf ?q_law_take ?l_law_take ?c_law_take ?k_law_take ?q_law_letter ?l_law_letter ?c_law_letter ?k_law_letter ?q_law_edge ?l_law_edge ?c_law_edge ?k_law_edge ?q_opposite ?l_opposite ?c_opposite ?k_opposite ?q_Gates_both ?i_Gates_both ?l_Gates_both ?c_Gates_both ?k_Gates_both ?q_Gates_every ?i_Gates_every ?l_Gates_every ?c_Gates_every ?k_Gates_every ?q_Gates_either ?i_Gates_either ?l_Gates_either ?c_Gates_either ?k_Gates_either ?q_Gates_one_of ?i_Gates_one_of ?l_Gates_one_of ?c_Gates_one_of ?k_Gates_one_of ?q_law_opposite ?l_law_opposite ?c_law_opposite ?k_law_opposite ?q_law_both ?l_law_both ?c_law_both ?k_law_both ?q_law_either ?l_law_either ?c_law_either ?k_law_either ?q_law_folded ?l_law_folded ?c_law_folded ?k_law_folded ?q_law_differ ?l_law_differ ?c_law_differ ?k_law_differ ?q_Gates_differ ?i_Gates_differ ?l_Gates_differ ?c_Gates_differ ?k_Gates_differ ?q_law_choose ?l_law_choose ?c_law_choose ?k_law_choose ?q_Gates_choose ?i_Gates_choose ?l_Gates_choose ?c_Gates_choose ?k_Gates_choose ?q_law_call ?l_law_call ?c_law_call ?k_law_call ?q_law ?l_law ?c_law ?k_law ?pg_Gates ?hd_Gates ?po_Gates ?sa_Gates ?mk_Gates ?kc_Gates ?nf_Gates_rows ?nf_Gates_known ?zz_abs ?zz_bool ?zz_int ?zz_isinstance ?zz_len ?zz_list ?zz_max ?zz_min ?zz_range ?zz_tuple ?gc_NO ?gc_YES
    (case qc_Gates => k_is)
    (case q_law_seed => k_is)
    (case l_law_seed => k_is)
    (case c_law_seed => k_is)
    (case k_law_seed => k_is)
    (case q_Gates_init => k_is)
    (case i_Gates_init => k_is)
    (case l_Gates_init => k_is)
    (case c_Gates_init => k_is)
    (case k_Gates_init => k_is)
    (case q_law_same_rows => k_is)
    (case l_law_same_rows => k_is)
    (case c_law_same_rows => k_is)
    (case k_law_same_rows => k_is)
    (case q_law_row => k_is)
    (case l_law_row => k_is)
    (case c_law_row => k_is)
    (case k_law_row => k_is)
    (case q_law_is_edge => k_is)
    (case l_law_is_edge => k_is)
    (case c_law_is_edge => k_is)
    (case k_law_is_edge => k_is)
    (case q_Gates_edge_of => k_is)
    (case i_Gates_edge_of => k_is)
    (case l_Gates_edge_of => k_is)
    (case c_Gates_edge_of => k_is)
    (case k_Gates_edge_of => k_is)
    (case q_Gates_leaf => k_is)
    (case i_Gates_leaf => k_is)
    (case l_Gates_leaf => k_is)
    (case c_Gates_leaf => k_is)
    (case k_Gates_leaf => k_is)
    (case q_law_take => k_is)
    (case l_law_take => k_is)
    (case c_law_take => k_is)
    (case k_law_take => k_is)
    (case q_law_letter => k_is)
    (case l_law_letter => k_is)
    (case c_law_letter => k_is)
    (case k_law_letter => k_is)
    (case q_law_edge => k_is)
    (case l_law_edge => k_is)
    (case c_law_edge => k_is)
    (case k_law_edge => k_is)
    (case q_opposite => k_is)
    (case l_opposite => k_is)
    (case c_opposite => k_is)
    (case k_opposite => k_is)
    (case q_Gates_both => k_is)
    (case i_Gates_both => k_is)
    (case l_Gates_both => k_is)
    (case c_Gates_both => k_is)
    (case k_Gates_both => k_is)
    (case q_Gates_every => k_is)
    (case i_Gates_every => k_is)
    (case l_Gates_every => k_is)
    (case c_Gates_every => k_is)
    (case k_Gates_every => k_is)
    (case q_Gates_either => k_is)
    (case i_Gates_either => k_is)
    (case l_Gates_either => k_is)
    (case c_Gates_either => k_is)
    (case k_Gates_either => k_is)
    (case q_Gates_one_of => k_is)
    (case i_Gates_one_of => k_is)
    (case l_Gates_one_of => k_is)
    (case c_Gates_one_of => k_is)
    (case k_Gates_one_of => k_is)
    (case q_law_opposite => k_is)
    (case l_law_opposite => k_is)
    (case c_law_opposite => k_is)
    (case k_law_opposite => k_is)
    (case q_law_both => k_is)
    (case l_law_both => k_is)
    (case c_law_both => k_is)
    (case k_law_both => k_is)
    (case q_law_either => k_is)
    (case l_law_either => k_is)
    (case c_law_either => k_is)
    (case k_law_either => k_is)
    (case q_law_folded => k_is)
    (case l_law_folded => k_is)
    (case c_law_folded => k_is)
    (case k_law_folded => k_is)
    (case q_law_differ => k_is)
    (case l_law_differ => k_is)
    (case c_law_differ => k_is)
    (case k_law_differ => k_is)
    (case q_Gates_differ => k_is)
    (case i_Gates_differ => k_is)
    (case l_Gates_differ => k_is)
    (case c_Gates_differ => k_is)
    (case k_Gates_differ => k_is)
    (case q_law_choose => k_is)
    (case l_law_choose => k_is)
    (case c_law_choose => k_is)
    (case k_law_choose => k_is)
    (case q_Gates_choose => k_is)
    (case i_Gates_choose => k_is)
    (case l_Gates_choose => k_is)
    (case c_Gates_choose => k_is)
    (case k_Gates_choose => k_is)
    (case q_law_call => k_is)
    (case l_law_call => k_is)
    (case c_law_call => k_is)
    (case k_law_call => k_is)
    (case q_law => k_is)
    (case l_law => k_is)
    (case c_law => k_is)
    (case k_law => k_is)
    (case pg_Gates => k_is)
    (case hd_Gates => k_is)
    (case po_Gates => k_is)
    (case sa_Gates => k_is)
    (case mk_Gates => k_is)
    (case kc_Gates => k_is)
    (case nf_Gates_rows => k_is)
    (case nf_Gates_known => k_is)
    (case zz_abs => k_is)
    (case zz_bool => k_is)
    (case zz_int => k_is)
    (case zz_isinstance => k_is)
    (case zz_len => k_is)
    (case zz_list => k_is)
    (case zz_max => k_is)
    (case zz_min => k_is)
    (case zz_range => k_is)
    (case zz_tuple => k_is)
    (case gc_NO => k_is)
    (case gc_YES => k_is)
