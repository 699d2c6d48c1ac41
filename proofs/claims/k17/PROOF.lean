import PyProof.Rows.All
import Wide.All
import OpenK.AllK
import Wide.FinOn
import HandS.ForMost
import HandS.IsInst
import HandS.Codes
import HandS.More
import HandS.SortInts
import HandS.DictComp
import HandS.Conv
import HandS.Walk
import HandS.SetFor
import HandS.Strs
import HandS.Zip
import PySem.Challenge.RW_someandall_k17_clauses_say_gates
set_option Elab.async false
set_option linter.all false
set_option maxRecDepth 100000
set_option maxHeartbeats 8000000

/-! The own layer over the rules: a frozen heap F, owned cells, their frame; representations of data. -/
namespace G
open PySem PySem.Spec PyProof.Rows L2

abbrev Own := List (Addr × HO)
/-- the frozen heap with the cells over it -/
def ov (F : Hp) : Own → Hp
  | [] => F
  | (a, o) :: cs => upd (ov F cs) a o
/-- the state: frozen part F, owned cells cs, all within H -/
structure Sta (F : Hp) (cs : Own) (H : Hp) : Prop where
  sub : Same F H
  own : ∀ a o, (a, o) ∈ cs → H a = some o ∧ F a = none
  nd : (cs.map (·.1)).Nodup

theorem mem_fst {cs : Own} {a : Addr} {o : HO} (h : (a, o) ∈ cs) : a ∈ cs.map (·.1) := List.mem_map.mpr ⟨_, h, rfl⟩
theorem ov_or {F : Hp} : ∀ {cs : Own} {b : Addr} {o : HO}, ov F cs b = some o → (b, o) ∈ cs ∨ (F b = some o ∧ ∀ u, (b, u) ∉ cs)
  | [], _, _, h => .inr ⟨h, fun _ q => nomatch q⟩
  | (a, u) :: cs, b, o, h => by
    by_cases e : b = a
    · subst e
      have h' : upd (ov F cs) b u b = some o := h
      rw [upd_same] at h'
      cases h'
      exact .inl (.head _)
    · have h' : upd (ov F cs) a u b = some o := h
      rw [upd_ne e] at h'
      rcases ov_or h' with q | ⟨q, n⟩
      · exact .inl (.tail _ q)
      · refine .inr ⟨q, fun v m => ?_⟩
        cases m with
        | head => exact e rfl
        | tail _ m => exact n v m
theorem ov_mem {F : Hp} : ∀ {cs : Own} {b : Addr} {o : HO}, (cs.map (·.1)).Nodup → (b, o) ∈ cs → ov F cs b = some o
  | (a, u) :: cs, b, o, nd, m => by
    have nd' : a ∉ cs.map (·.1) ∧ (cs.map (·.1)).Nodup := List.nodup_cons.mp nd
    cases m with
    | head => exact upd_same
    | tail _ m =>
      have ne : b ≠ a := fun e => nd'.1 (e ▸ mem_fst m)
      show upd (ov F cs) a u b = some o
      rw [upd_ne ne]
      exact ov_mem nd'.2 m
theorem ov_F {F : Hp} : ∀ {cs : Own} {b : Addr} {o : HO}, F b = some o → (∀ a u, (a, u) ∈ cs → F a = none) → ov F cs b = some o
  | [], _, _, h, _ => h
  | (a, u) :: cs, b, o, h, n => by
    have ne : b ≠ a := fun e => by
      have q := n a u (.head _)
      rw [← e, h] at q
      cases q
    show upd (ov F cs) a u b = some o
    rw [upd_ne ne]
    exact ov_F h fun a u m => n a u (.tail _ m)

section
variable {F F0 F' : Hp} {cs R : Own} {H : Hp} {a p : Addr} {o : HO}
theorem Sta.mono0 (S : Sta F cs H) : Sta F cs H := S
/-- what a frame shows stands in the heap -/
theorem Sta.bor (S : Sta F cs H) (f : Same F0 F) (m : ∀ c ∈ R, c ∈ cs) : Same (ov F0 R) H := fun b o h => by
  rcases ov_or h with q | ⟨q, _⟩
  · exact (S.own _ _ (m _ q)).1
  · exact S.sub _ _ (f _ _ q)
/-- .. and in a greater frame -/
theorem Sta.ovR (S : Sta F cs H) (f : Same F0 F) (m : ∀ c ∈ R, c ∈ cs) : Same (ov F0 R) (ov F cs) := fun b o h => by
  rcases ov_or h with q | ⟨q, _⟩
  · exact ov_mem S.nd (m _ q)
  · exact ov_F (f _ _ q) fun a u m => (S.own a u m).2
theorem Sta.ovS (S : Sta F cs H) : Same F (ov F cs) := fun _ _ h => ov_F h fun a u m => (S.own a u m).2
theorem Sta.get (S : Sta F cs H) (i : Nat) (e : cs[i]? = some (a, o)) : H a = some o := (S.own a o (List.mem_of_getElem? e)).1
theorem Sta.getO (S : Sta F cs H) (i : Nat) (e : cs[i]? = some (a, o)) : ov F cs a = some o := ov_mem S.nd (List.mem_of_getElem? e)
theorem nd_set : ∀ {cs : Own} {i : Nat} {a : Addr} {o o' : HO}, cs[i]? = some (a, o) → (cs.set i (a, o')).map (·.1) = cs.map (·.1)
  | [], _, _, _, _, h => by simp at h
  | c :: cs, 0, a, o, o', h => by
    simp at h
    subst h
    rfl
  | c :: cs, i + 1, a, o, o', h => by
    have h' : cs[i]? = some (a, o) := by simpa using h
    show c.1 :: (cs.set i (a, o')).map (·.1) = c.1 :: cs.map (·.1)
    rw [nd_set h']
theorem mem_set : ∀ {cs : Own} {i : Nat} {a : Addr} {o o' : HO} {c : Addr × HO}, (cs.map (·.1)).Nodup → cs[i]? = some (a, o) → c ∈ cs.set i (a, o') → c = (a, o') ∨ (c ∈ cs ∧ c.1 ≠ a)
  | [], _, _, _, _, _, _, h, _ => by simp at h
  | d :: cs, 0, a, o, o', c, nd, h, m => by
    have nd' : d.1 ∉ cs.map (·.1) ∧ (cs.map (·.1)).Nodup := List.nodup_cons.mp nd
    simp at h
    subst h
    have m' : c ∈ (a, o') :: cs := m
    cases m' with
    | head => exact .inl rfl
    | tail _ q => exact .inr ⟨.tail _ q, fun e => nd'.1 (e ▸ mem_fst (o := c.2) q)⟩
  | d :: cs, i + 1, a, o, o', c, nd, h, m => by
    have nd' : d.1 ∉ cs.map (·.1) ∧ (cs.map (·.1)).Nodup := List.nodup_cons.mp nd
    have h' : cs[i]? = some (a, o) := by simpa using h
    have m' : c ∈ d :: cs.set i (a, o') := m
    cases m' with
    | head => exact .inr ⟨.head _, fun e => nd'.1 (e ▸ mem_fst (List.mem_of_getElem? h'))⟩
    | tail _ q =>
      rcases mem_set nd'.2 h' q with z | ⟨z, n⟩
      · exact .inl z
      · exact .inr ⟨.tail _ z, n⟩
theorem Sta.set (S : Sta F cs H) (i : Nat) (e : cs[i]? = some (a, o)) (o' : HO) : Sta F (cs.set i (a, o')) (upd H a o') where
  sub := fun b u h => by
    have ne : b ≠ a := fun q => by
      have z := (S.own a o (List.mem_of_getElem? e)).2
      rw [← q, h] at z
      cases z
    rw [upd_ne ne]
    exact S.sub b u h
  own := fun b u m => by
    rcases mem_set S.nd e m with z | ⟨z, n⟩
    · cases z
      exact ⟨upd_same, (S.own a o (List.mem_of_getElem? e)).2⟩
    · rw [upd_ne n]
      exact S.own b u z
  nd := by
    rw [nd_set e]
    exact S.nd
theorem Sta.noF (S : Sta F cs H) (h : H p = none) : F p = none := S.sub.free h
theorem Sta.noC (S : Sta F cs H) (h : H p = none) {u : HO} : (p, u) ∉ cs := fun m => by
  have z := (S.own p u m).1
  rw [h] at z
  cases z
/-- a new cell -/
theorem Sta.new (S : Sta F cs H) (h : H p = none) (o : HO) : Sta F ((p, o) :: cs) (upd H p o) where
  sub := fun b u q => by
    rw [upd_ne (ne_of_none (S.sub b u q) h)]
    exact S.sub b u q
  own := fun b u m => by
    cases m with
    | head => exact ⟨upd_same, S.noF h⟩
    | tail _ m =>
      rw [upd_ne (ne_of_none (S.own b u m).1 h)]
      exact S.own b u m
  nd := List.nodup_cons.mpr ⟨fun m => by
    obtain ⟨⟨b, u⟩, q, e⟩ := List.mem_map.mp m
    have e' : b = p := e
    subst e'
    exact S.noC h q, S.nd⟩
/-- a new object of the frozen part -/
theorem Sta.newF (S : Sta F cs H) (h : H p = none) (o : HO) : Sta (upd F p o) cs (upd H p o) where
  sub := fun b u q => by
    by_cases e : b = p
    · subst e
      rw [upd_same] at q ⊢
      exact q
    · rw [upd_ne e] at q ⊢
      exact S.sub b u q
  own := fun b u m => by
    have ne : b ≠ p := ne_of_none (S.own b u m).1 h
    rw [upd_ne ne, upd_ne ne]
    exact S.own b u m
  nd := S.nd
theorem Sta.sameF (S : Sta F cs H) (h : H p = none) (o : HO) : Same F (upd F p o) := fun b u q => by
  have ne : b ≠ p := fun e => by
    have z := S.noF h
    rw [← e, q] at z
    cases z
  rw [upd_ne ne]
  exact q
/-- a cell is frozen -/
theorem Sta.frz (S : Sta F ((p, o) :: cs) H) : Sta (upd F p o) cs H where
  sub := fun b u q => by
    by_cases e : b = p
    · subst e
      rw [upd_same] at q
      cases q
      exact (S.own _ _ (.head _)).1
    · rw [upd_ne e] at q
      exact S.sub b u q
  own := fun b u m => by
    have nd' : p ∉ cs.map (·.1) ∧ (cs.map (·.1)).Nodup := List.nodup_cons.mp S.nd
    have ne : b ≠ p := fun e => nd'.1 (e ▸ mem_fst m)
    rw [upd_ne ne]
    exact S.own b u (.tail _ m)
  nd := (List.nodup_cons.mp S.nd).2
theorem Sta.frzS (S : Sta F ((p, o) :: cs) H) : Same F (upd F p o) := fun b u q => by
  have ne : b ≠ p := fun e => by
    have z := (S.own p o (.head _)).2
    rw [← e, q] at z
    cases z
  rw [upd_ne ne]
  exact q
theorem Sta.tl {c : Addr × HO} (S : Sta F (c :: cs) H) : Sta F cs H := ⟨S.sub, fun a o m => S.own a o (.tail _ m), (List.nodup_cons.mp S.nd).2⟩
/-- other cells of the same frame, in another sequence -/
theorem Sta.sel (S : Sta F cs H) {cs' : Own} (nd : (cs'.map (·.1)).Nodup) (m : ∀ c ∈ cs', c ∈ cs) : Sta F cs' H :=
  ⟨S.sub, fun a o q => S.own a o (m _ q), nd⟩
theorem nodup_pick {α : Type} : ∀ {is : List Nat} {xs ys : List α}, xs.Nodup → is.Nodup → is.map (xs[·]?) = ys.map some → ys.Nodup
  | [], _, [], _, _, _ => List.nodup_nil
  | [], _, _ :: _, _, _, e => by simp at e
  | _ :: _, _, [], _, _, e => by simp at e
  | i :: is, xs, y :: ys, hx, hi, e => by
    have hi' := List.nodup_cons.mp hi
    simp at e
    obtain ⟨e1, e2⟩ := e
    refine List.nodup_cons.mpr ⟨fun m => ?_, nodup_pick hx hi'.2 (by simpa using e2)⟩
    have m2 : some y ∈ is.map (xs[·]?) := by
      rw [show is.map (xs[·]?) = ys.map some by simpa using e2]
      exact List.mem_map.mpr ⟨y, m, rfl⟩
    obtain ⟨j, hj, ej⟩ := List.mem_map.mp m2
    obtain ⟨l1, q1⟩ := List.getElem?_eq_some_iff.mp e1
    obtain ⟨l2, q2⟩ := List.getElem?_eq_some_iff.mp (show xs[j]? = some y from ej)
    have : i = j := (List.getElem_inj hx).mp (q1.trans q2.symm)
    exact hi'.1 (this ▸ hj)
/-- the cells at the places is, then the frame -/
theorem Sta.pick (S : Sta F (cs ++ R) H) {cs' : Own} (is : List Nat) (hi : is.Nodup) (e : is.map (cs[·]?) = cs'.map some) : Sta F (cs' ++ R) H := by
  have nd : (cs.map (·.1) ++ R.map (·.1)).Nodup := by
    rw [← List.map_append]
    exact S.nd
  obtain ⟨n1, n2, n3⟩ := List.nodup_append.mp nd
  have sub : ∀ c ∈ cs', c ∈ cs := fun c m => by
    have m2 : some c ∈ is.map (cs[·]?) := by
      rw [e]
      exact List.mem_map.mpr ⟨c, m, rfl⟩
    obtain ⟨j, _, ej⟩ := List.mem_map.mp m2
    exact List.mem_of_getElem? ej
  refine S.sel ?_ fun c m => ?_
  · rw [List.map_append]
    refine List.nodup_append.mpr ⟨nodup_pick (is := is) n1 hi ?_, n2, fun x hx y hy => n3 x ?_ y hy⟩
    · have e2 : (is.map (cs[·]?)).map (Option.map (·.1)) = (cs'.map some).map (Option.map (·.1)) := congrArg _ e
      simpa [List.map_map, Function.comp_def] using e2
    · obtain ⟨c, hc, ec⟩ := List.mem_map.mp hx
      exact List.mem_map.mpr ⟨c, sub c hc, ec⟩
  · rcases List.mem_append.mp m with q | q
    · exact List.mem_append_left _ (sub c q)
    · exact List.mem_append_right _ q
end

/-! ### representations -/
abbrev Rp (α : Type) := Hp → V → α → Prop
class MonoR {α : Type} (r : Rp α) : Prop where
  mono : ∀ {F F' : Hp} {v : V} {x : α}, Same F F' → r F v x → r F' v x
theorem SqL.mono {K : PySem.W.Frag} {H H' : Hp} {a : Addr} {xs : List V} (h : SqL K H a xs) (e : Same H H') : SqL K H' a xs := e.seq h
theorem SqT.mono {K : PySem.W.Frag} {H H' : Hp} {a : Addr} {xs : List V} (h : SqT K H a xs) (e : Same H H') : SqT K H' a xs := by
  rcases h with (h | ⟨o, h⟩) | h
  · exact .inl (.inl (e _ _ h))
  · exact .inl (.inr ⟨o, e _ _ h⟩)
  · exact .inr h
def LR {α : Type} (r : V → α → Prop) : List V → List α → Prop
  | [], [] => True
  | v :: vs, x :: xs => r v x ∧ LR r vs xs
  | _, _ => False
section
variable {α β : Type} {r : V → α → Prop}
theorem LR.length : ∀ {vs : List V} {xs : List α}, LR r vs xs → vs.length = xs.length
  | [], [], _ => rfl
  | _ :: _, _ :: _, h => congrArg (· + 1) (LR.length h.2)
  | [], _ :: _, h => h.elim
  | _ :: _, [], h => h.elim
theorem LR.get : ∀ {vs : List V} {xs : List α} {i : Nat} {x : α}, LR r vs xs → xs[i]? = some x → ∃ v, vs[i]? = some v ∧ r v x
  | [], [], _, _, _, e => by simp at e
  | v :: _, _ :: _, 0, _, h, e => by
    simp at e
    subst e
    exact ⟨v, rfl, h.1⟩
  | _ :: vs, _ :: xs, i + 1, x, h, e => by
    obtain ⟨v, q1, q2⟩ := LR.get (i := i) (x := x) h.2 (by simpa using e)
    exact ⟨v, by simpa using q1, q2⟩
  | [], _ :: _, _, _, h, _ => h.elim
  | _ :: _, [], _, _, h, _ => h.elim
theorem LR.getV : ∀ {vs : List V} {xs : List α} {i : Nat} {v : V}, LR r vs xs → vs[i]? = some v → ∃ x, xs[i]? = some x ∧ r v x
  | [], [], _, _, _, e => by simp at e
  | v :: _, x :: _, 0, _, h, e => by
    simp at e
    subst e
    exact ⟨x, rfl, h.1⟩
  | _ :: vs, _ :: xs, i + 1, v, h, e => by
    obtain ⟨x, q1, q2⟩ := LR.getV (i := i) (v := v) h.2 (by simpa using e)
    exact ⟨x, by simpa using q1, q2⟩
  | [], _ :: _, _, _, h, _ => h.elim
  | _ :: _, [], _, _, h, _ => h.elim
theorem LR.append : ∀ {vs ws : List V} {xs ys : List α}, LR r vs xs → LR r ws ys → LR r (vs ++ ws) (xs ++ ys)
  | [], _, [], _, _, h => h
  | _ :: _, _, _ :: _, _, g, h => ⟨g.1, LR.append g.2 h⟩
  | [], _, _ :: _, _, g, _ => g.elim
  | _ :: _, _, [], _, g, _ => g.elim
theorem LR.snoc {vs : List V} {v : V} {xs : List α} {x : α} (h : LR r vs xs) (g : r v x) : LR r (vs ++ [v]) (xs ++ [x]) := h.append ⟨g, trivial⟩
theorem LR.set : ∀ {vs : List V} {v : V} {xs : List α} {x : α} {i : Nat}, LR r vs xs → r v x → LR r (vs.set i v) (xs.set i x)
  | [], _, [], _, _, _, _ => trivial
  | _ :: _, _, _ :: _, _, 0, h, g => ⟨g, h.2⟩
  | _ :: _, _, _ :: _, _, i + 1, h, g => ⟨h.1, LR.set (i := i) h.2 g⟩
  | [], _, _ :: _, _, _, h, _ => h.elim
  | _ :: _, _, [], _, _, h, _ => h.elim
theorem LR.imp {s : V → α → Prop} (f : ∀ v x, r v x → s v x) : ∀ {vs : List V} {xs : List α}, LR r vs xs → LR s vs xs
  | [], [], _ => trivial
  | _ :: _, _ :: _, h => ⟨f _ _ h.1, LR.imp f h.2⟩
  | [], _ :: _, h => h.elim
  | _ :: _, [], h => h.elim
end
theorem LR.mono {α : Type} {r : Rp α} [m : MonoR r] {F F' : Hp} {vs : List V} {xs : List α} (h : LR (r F) vs xs) (e : Same F F') : LR (r F') vs xs := h.imp fun _ _ q => m.mono e q

def rInt : Rp Int := fun _ v x => v = .int x
def rBool : Rp Bool := fun _ v x => v = .bl x
def rStr : Rp Str := fun _ v x => v = .str x
def rNon : Rp Unit := fun _ v _ => v = .non
instance : MonoR rInt := ⟨fun _ h => h⟩
instance : MonoR rBool := ⟨fun _ h => h⟩
instance : MonoR rStr := ⟨fun _ h => h⟩
instance : MonoR rNon := ⟨fun _ h => h⟩
def rLst {α : Type} (K : PySem.W.Frag) (r : Rp α) : Rp (List α) := fun F v xs => ∃ a vs, v = .ref a ∧ SqL K F a vs ∧ LR (r F) vs xs
def rVT {α : Type} (K : PySem.W.Frag) (r : Rp α) : Rp (List α) := fun F v xs => ∃ a vs, v = .ref a ∧ SqT K F a vs ∧ LR (r F) vs xs
instance {α : Type} {K : PySem.W.Frag} {r : Rp α} [MonoR r] : MonoR (rLst K r) := ⟨fun e ⟨a, vs, h1, h2, h3⟩ => ⟨a, vs, h1, SqL.mono h2 e, h3.mono e⟩⟩
instance {α : Type} {K : PySem.W.Frag} {r : Rp α} [MonoR r] : MonoR (rVT K r) := ⟨fun e ⟨a, vs, h1, h2, h3⟩ => ⟨a, vs, h1, SqT.mono h2 e, h3.mono e⟩⟩
/-- tuples of two, of three -/
def rT2 {α β : Type} (K : PySem.W.Frag) (r : Rp α) (s : Rp β) : Rp (α × β) := fun F v x => ∃ a u w, v = .ref a ∧ SqT K F a [u, w] ∧ r F u x.1 ∧ s F w x.2
def rT3 {α β γ : Type} (K : PySem.W.Frag) (r : Rp α) (s : Rp β) (t : Rp γ) : Rp (α × β × γ) := fun F v x => ∃ a u w z, v = .ref a ∧ SqT K F a [u, w, z] ∧ r F u x.1 ∧ s F w x.2.1 ∧ t F z x.2.2
instance {α β : Type} {K : PySem.W.Frag} {r : Rp α} {s : Rp β} [m : MonoR r] [n : MonoR s] : MonoR (rT2 K r s) :=
  ⟨fun e ⟨a, u, w, h1, h2, h3, h4⟩ => ⟨a, u, w, h1, SqT.mono h2 e, m.mono e h3, n.mono e h4⟩⟩
instance {α β γ : Type} {K : PySem.W.Frag} {r : Rp α} {s : Rp β} {t : Rp γ} [m : MonoR r] [n : MonoR s] [l : MonoR t] : MonoR (rT3 K r s t) :=
  ⟨fun e ⟨a, u, w, z, h1, h2, h3, h4, h5⟩ => ⟨a, u, w, z, h1, SqT.mono h2 e, m.mono e h3, n.mono e h4, l.mono e h5⟩⟩
/-- a tracked tuple of ints and texts (may be a key) -/
def rKT : Rp (List Key) := fun F v ks => ∃ a, v = .ref a ∧ F a = some (.tup (ks.map kV))
instance : MonoR rKT := ⟨fun e ⟨a, h1, h2⟩ => ⟨a, h1, e _ _ h2⟩⟩

/-! ### the mirror's monad: Option; none: nothing is said -/
theorem bnd {α β : Type} {m : Option α} {f : α → Option β} {r : β} (h : m.bind f = some r) : ∃ x, m = some x ∧ f x = some r := by
  cases m with
  | none => cases h
  | some x => exact ⟨x, rfl, h⟩
def grd (b : Bool) : Option Unit := if b then some () else none
theorem grd_ok {b : Bool} {β : Type} {f : Unit → Option β} {r : β} (h : (grd b).bind f = some r) : b = true ∧ f () = some r := by
  cases b with
  | false => cases h
  | true => exact ⟨rfl, h⟩
theorem ifT {α : Type} {c : Bool} {x y : α} {r : α} (h : (if c = true then x else y) = r) (e : c = true) : x = r := by
  rw [if_pos e] at h
  exact h
theorem ifF {α : Type} {c : Bool} {x y : α} {r : α} (h : (if c = true then x else y) = r) (e : ¬ c = true) : y = r := by
  rw [if_neg e] at h
  exact h
theorem bndI {α β : Type} {m : Option α} {f : α → Option β} {r : β} {C : Prop} (k : ∀ x, m = some x → f x = some r → C) : m.bind f = some r → C := fun h => by
  obtain ⟨x, e, h⟩ := bnd h
  exact k x e h
theorem grdI {b : Bool} {β : Type} {f : Unit → Option β} {r : β} {C : Prop} (k : b = true → f () = some r → C) : (grd b).bind f = some r → C := fun h => k (grd_ok h).1 (grd_ok h).2
theorem ifTI {α : Type} {c : Bool} {x y : α} {r : α} {C : Prop} (e : c = true) (k : x = r → C) : (if c = true then x else y) = r → C := fun h => k (ifT h e)
theorem ifFI {α : Type} {c : Bool} {x y : α} {r : α} {C : Prop} (e : ¬ c = true) (k : y = r → C) : (if c = true then x else y) = r → C := fun h => k (ifF h e)
/-- the goals' if -/
theorem goT {c : Bool} {A B : Prop} (e : c = true) (h : A) : if c = true then A else B := by
  rw [if_pos e]
  exact h
theorem goF {c : Bool} {A B : Prop} (e : ¬ c = true) (h : B) : if c = true then A else B := by
  rw [if_neg e]
  exact h
/-- what follows a statement, as a letter -/
theorem seqI {t u : TS} {D : Ends} {σ : L2.St} {H : Hp} (k : ∀ N : L2.St → Hp → Prop, (∀ σ H, u D σ H → N σ H) → t { D with nx := N } σ H) : tSeq t u D σ H := k (u D) fun _ _ h => h
/-- how a loop's turns end -/
inductive Flw (S ρ : Type) where
  | done (s : S)
  | ret (r : ρ)
/-- the state that a caller reads off -/
def small24 : sizeLine = 16777216 := rfl

/-! ### operators by their kinds -/
section
variable {X : Cx}
theorem oI_eq : OpR X (compareOp .Eq) (rI0 fun i j => .bl (decide (i = j))) := by
  intro pins s σ H x y v u Q I rx ry h
  obtain ⟨i, j, rfl, rfl, q⟩ := h
  refine op_eq pins s σ H _ _ v u Q I rx ry ⟨rfl, ?_⟩
  rw [show decide ((V.int i) = V.int j) = decide (i = j) from by by_cases e : i = j <;> simp [e]]
  exact q
theorem oI_ne : OpR X (compareOp .NotEq) (rI0 fun i j => .bl (!decide (i = j))) := by
  intro pins s σ H x y v u Q I rx ry h
  obtain ⟨i, j, rfl, rfl, q⟩ := h
  refine op_ne pins s σ H _ _ v u Q I rx ry ⟨rfl, ?_⟩
  rw [show decide ((V.int i) = V.int j) = decide (i = j) from by by_cases e : i = j <;> simp [e]]
  exact q
def rS0 (g : Str → Str → V) : R2 := fun x y H Q => ∃ i j, x = .str i ∧ y = .str j ∧ Q (g i j) H
theorem oS_eq : OpR X (compareOp .Eq) (rS0 fun i j => .bl (decide (i = j))) := by
  intro pins s σ H x y v u Q I rx ry h
  obtain ⟨i, j, rfl, rfl, q⟩ := h
  refine op_eq pins s σ H _ _ v u Q I rx ry ⟨rfl, ?_⟩
  rw [show decide ((V.str i) = V.str j) = decide (i = j) from by by_cases e : i = j <;> simp [e]]
  exact q
theorem oS_ne : OpR X (compareOp .NotEq) (rS0 fun i j => .bl (!decide (i = j))) := by
  intro pins s σ H x y v u Q I rx ry h
  obtain ⟨i, j, rfl, rfl, q⟩ := h
  refine op_ne pins s σ H _ _ v u Q I rx ry ⟨rfl, ?_⟩
  rw [show decide ((V.str i) = V.str j) = decide (i = j) from by by_cases e : i = j <;> simp [e]]
  exact q
def rB0 (g : Bool → Bool → V) : R2 := fun x y H Q => ∃ i j, x = .bl i ∧ y = .bl j ∧ Q (g i j) H
theorem oB_eq : OpR X (compareOp .Eq) (rB0 fun i j => .bl (decide (i = j))) := by
  intro pins s σ H x y v u Q I rx ry h
  obtain ⟨i, j, rfl, rfl, q⟩ := h
  refine op_eq pins s σ H _ _ v u Q I rx ry ⟨rfl, ?_⟩
  rw [show decide ((V.bl i) = V.bl j) = decide (i = j) from by by_cases e : i = j <;> simp [e]]
  exact q
theorem oB_ne : OpR X (compareOp .NotEq) (rB0 fun i j => .bl (!decide (i = j))) := by
  intro pins s σ H x y v u Q I rx ry h
  obtain ⟨i, j, rfl, rfl, q⟩ := h
  refine op_ne pins s σ H _ _ v u Q I rx ry ⟨rfl, ?_⟩
  rw [show decide ((V.bl i) = V.bl j) = decide (i = j) from by by_cases e : i = j <;> simp [e]]
  exact q
/-- a word between a test (a value) and what follows it -/
theorem pt_cut {e : Expr} {t : TT} (h : PT X e t) : PT X e (fun σ H Q => ∃ P : Bool → Hp → Prop, t σ H P ∧ ∀ b H', P b H' → Q b H') := by
  refine ⟨fun pins s σ H Q I q => ?_⟩
  obtain ⟨P, h1, h2⟩ := q
  refine wpAny_mono (h.run pins s σ H P I h1) (fun b s' z => ?_) fun _ _ z => z
  obtain ⟨H', I', p⟩ := z
  exact ⟨H', I', h2 _ _ p⟩
theorem pe_cut {e : Expr} {t : TE} (h : PE X e t) : PE X e (fun σ H Q => ∃ P : VK, t σ H P ∧ ∀ v H', P v H' → Q v H') := by
  refine ⟨fun pins s σ H Q I q => ?_⟩
  obtain ⟨P, h1, h2⟩ := q
  refine wpAny_mono (h.run pins s σ H P I h1) (fun b s' z => ?_) fun _ _ z => z
  obtain ⟨v, H', I', r, p⟩ := z
  exact ⟨v, H', I', r, h2 _ _ p⟩
theorem pt_pure {e : Expr} {t : TT} (h : PT X e t) : PT X e (fun σ H Q => ∃ B : Bool, t σ H (fun b H' => b = B ∧ H' = H) ∧ Q B H) := by
  refine ⟨fun pins s σ H Q I q => ?_⟩
  obtain ⟨B, h1, h2⟩ := q
  exact (pt_cut h).run pins s σ H Q I ⟨_, h1, fun b H' z => by rw [z.1, z.2]; exact h2⟩
theorem pe_pure {e : Expr} {t : TE} (h : PE X e t) : PE X e (fun σ H Q => ∃ B : V, t σ H (fun b H' => b = B ∧ H' = H) ∧ Q B H) := by
  refine ⟨fun pins s σ H Q I q => ?_⟩
  obtain ⟨B, h1, h2⟩ := q
  exact (pe_cut h).run pins s σ H Q I ⟨_, h1, fun b H' z => by rw [z.1, z.2]; exact h2⟩
end
theorem rInt_e {F : Hp} {v : V} {x : Int} (h : rInt F v x) : v = .int x := h
theorem rBool_e {F : Hp} {v : V} {x : Bool} (h : rBool F v x) : v = .bl x := h
theorem rStr_e {F : Hp} {v : V} {x : Str} (h : rStr F v x) : v = .str x := h
theorem rNon_e {F : Hp} {v : V} {x : Unit} (h : rNon F v x) : v = .non := h
/-- None or not -/
def rOpt {α : Type} (r : Rp α) : Rp (Option α) := fun F v x => match x with
  | none => v = .non
  | some y => r F v y
instance {α : Type} {r : Rp α} [m : MonoR r] : MonoR (rOpt r) := ⟨fun {F F' v x} e h => by
  cases x with
  | none => exact h
  | some y => exact m.mono (x := y) e h⟩
theorem rOpt_un {α : Type} {r : Rp α} {F : Hp} {v : V} {x : Option α} {z : α} (e : x = some z) (h : rOpt r F v x) : r F v z := by subst e; exact h
theorem rOpt_some {α : Type} {r : Rp α} {F : Hp} {v : V} {x : α} (h : r F v x) : rOpt r F v (some x) := h

/-! ### checks of the mirror -/
def mulOk (i j : Int) : Bool := decide (-(2 ^ 64) < i ∧ i < 2 ^ 64) || decide (-(2 ^ 64) < j ∧ j < 2 ^ 64)
theorem mulOk_ok {i j : Int} (h : mulOk i j = true) : CMul i j := by
  unfold mulOk at h
  rw [Bool.or_eq_true] at h
  rcases h with h | h
  · exact .inl (of_decide_eq_true h)
  · exact .inr (of_decide_eq_true h)
def divOk (j : Int) : Bool := decide (0 < j ∧ j < 1073741824)
theorem divOk_fdiv {i j : Int} (h : divOk j = true) : CDiv i j := (of_decide_eq_true h : 0 < j ∧ j < 1073741824)
theorem divOk_mod {j : Int} (h : divOk j = true) : 0 < j := (of_decide_eq_true h).1
def rngOk (j : Int) : Bool := decide (-(2 ^ 62) ≤ j ∧ j < 2 ^ 62)
theorem rngOk_lo {j : Int} (h : rngOk j = true) : -(2 ^ 62) ≤ j := (of_decide_eq_true h).1
theorem rngOk_hi {j : Int} (h : rngOk j = true) : j < 2 ^ 62 := (of_decide_eq_true h).2
def rng2Ok (i j : Int) : Bool := decide (-(2 ^ 62) ≤ i ∧ i < 2 ^ 62 ∧ -(2 ^ 62) ≤ j ∧ j < 2 ^ 62)
theorem rng2Ok_ok {i j : Int} (h : rng2Ok i j = true) : -(2 ^ 62) ≤ i ∧ i < 2 ^ 62 ∧ -(2 ^ 62) ≤ j ∧ j < 2 ^ 62 := of_decide_eq_true h

/-! ### lists -/
section
variable {α : Type} {r : V → α → Prop}
theorem LR.isEmpty {vs : List V} {xs : List α} (h : LR r vs xs) : vs.isEmpty = xs.isEmpty := by
  have e := h.length
  cases vs <;> cases xs <;> simp_all
theorem LR.atI {vs : List V} {xs : List α} {i : Int} {x : α} (h : LR r vs xs) (e : atI xs i = some x) : ∃ v, L2.atI vs i = some v ∧ r v x := by
  unfold L2.atI at e ⊢
  rw [h.length]
  cases q : ixN xs.length i with
  | none => rw [q] at e; cases e
  | some j =>
    rw [q] at e
    exact h.get e
theorem LR.dropEnd {vs : List V} {xs : List α} (h : LR r vs xs) : xs.drop vs.length = [] := by rw [h.length, List.drop_length]
end
theorem drop_cons {α : Type} {xs : List α} {i : Nat} {x : α} (h : xs[i]? = some x) : xs.drop i = x :: xs.drop (i + 1) := by
  obtain ⟨l, e⟩ := List.getElem?_eq_some_iff.mp h
  rw [← e]
  exact List.drop_eq_getElem_cons l
def pyRange (lo : Int) (n : Nat) : List Int := (List.range n).map fun (i : Nat) => lo + (i : Int)
theorem pyRange_get {lo : Int} {n i : Nat} (h : i < n) : (pyRange lo n)[i]? = some (lo + (i : Int)) := by
  unfold pyRange
  rw [List.getElem?_map, List.getElem?_range h]
  rfl
theorem pyRange_len {lo : Int} {n : Nat} : (pyRange lo n).length = n := by simp [pyRange]
theorem drop_rng {lo : Int} {n : Nat} : (pyRange lo n).drop n = [] := List.drop_eq_nil_of_le (Nat.le_of_eq pyRange_len)
theorem for_rng {lo : Int} {n : Nat} {g : TG} {tb : TS} {D : Ends} {σ : L2.St} {H : Hp} (Pv : Nat → L2.St → Hp → Prop) (h0 : Pv 0 σ H)
    (hs : ∀ i x σ H, (pyRange lo n)[i]? = some x → Pv i σ H → g (.int x) σ H fun σ2 H2 => tb { D with nx := Pv (i + 1), ct := Pv (i + 1), bk := D.nx } σ2 H2) (hd : ∀ σ H, Pv n σ H → D.nx σ H) :
    ∃ W : Nat → Nat → L2.St → Hp → Prop, (∃ m, W 0 m σ H) ∧ ∀ i m σ H, W i m σ H →
      ((Itr lo n).stop i H ∧ D.nx σ H) ∨ ((Itr lo n).go i H ∧ ∃ N : L2.St → Hp → Prop, (∀ σ' H', N σ' H' → ∃ m', m' < m ∧ W (i + 1) m' σ' H') ∧ ∀ x H', (Itr lo n).yld i H x H' → g x σ H' fun σ2 H2 => tb { D with nx := N, ct := N, bk := D.nx } σ2 H2) :=
  for_range Pv h0 (fun i σ H hi p => hs i _ σ H (pyRange_get hi) p) hd
/-- for over a dict's keys -/
theorem for_keys {d : Addr} {od : Obj} {kvs : List (Key × V)} {g : TG} {tb : TS} {D : Ends} {σ : L2.St} {H : Hp} (Pv : Nat → L2.St → Hp → Prop) (h0 : Pv 0 σ H) (hl : ∀ i σ H, Pv i σ H → H d = some (.frz od (.dK kvs)))
    (hs : ∀ i x σ H, (kvs.map fun kv => kV kv.1)[i]? = some x → Pv i σ H → g x σ H fun σ2 H2 => tb { D with nx := Pv (i + 1), ct := Pv (i + 1), bk := D.nx } σ2 H2) (hd : ∀ σ H, Pv (kvs.map fun kv => kV kv.1).length σ H → D.nx σ H) :
    ∃ W : Nat → Nat → L2.St → Hp → Prop, (∃ m, W 0 m σ H) ∧ ∀ i m σ H, W i m σ H →
      ((Itk d od kvs).stop i H ∧ D.nx σ H) ∨ ((Itk d od kvs).go i H ∧ ∃ N : L2.St → Hp → Prop, (∀ σ' H', N σ' H' → ∃ m', m' < m ∧ W (i + 1) m' σ' H') ∧ ∀ x H', (Itk d od kvs).yld i H x H' → g x σ H' fun σ2 H2 => tb { D with nx := N, ct := N, bk := D.nx } σ2 H2) := by
  refine ⟨fun i m σ H => m = kvs.length - i ∧ i ≤ kvs.length ∧ Pv i σ H, ⟨kvs.length, by simp, Nat.zero_le _, h0⟩, ?_⟩
  rintro i m σ H ⟨rfl, hi, p⟩
  have q := hl i σ H p
  by_cases hlt : i < kvs.length
  · refine .inr ⟨⟨q, hlt⟩, Pv (i + 1), fun σ' H' p' => ⟨kvs.length - (i + 1), by omega, rfl, hlt, p'⟩, fun x H' y => ?_⟩
    obtain ⟨e, k, v, e1, e2⟩ := y
    subst e
    exact hs i x σ _ (by rw [List.getElem?_map, e1, e2]; rfl) p
  · have e : i = kvs.length := by omega
    subst e
    exact .inl ⟨⟨q, Nat.le_refl _⟩, hd σ H (by rw [List.length_map]; exact p)⟩
/-- range with any step -/
def pyRangeC (lo c : Int) (n : Nat) : List Int := (List.range n).map fun (i : Nat) => lo + (i : Int) * c
theorem pyRangeC_get {lo c : Int} {n i : Nat} (h : i < n) : (pyRangeC lo c n)[i]? = some (lo + (i : Int) * c) := by
  unfold pyRangeC
  rw [List.getElem?_map, List.getElem?_range h]
  rfl
theorem pyRangeC_len {lo c : Int} {n : Nat} : (pyRangeC lo c n).length = n := by simp [pyRangeC]
theorem drop_rngC {lo c : Int} {n : Nat} : (pyRangeC lo c n).drop n = [] := List.drop_eq_nil_of_le (Nat.le_of_eq pyRangeC_len)
theorem for_rngC {lo c : Int} {n : Nat} {g : TG} {tb : TS} {D : Ends} {σ : L2.St} {H : Hp} (Pv : Nat → L2.St → Hp → Prop) (h0 : Pv 0 σ H)
    (hs : ∀ i x σ H, (pyRangeC lo c n)[i]? = some x → Pv i σ H → g (.int x) σ H fun σ2 H2 => tb { D with nx := Pv (i + 1), ct := Pv (i + 1), bk := D.nx } σ2 H2) (hd : ∀ σ H, Pv n σ H → D.nx σ H) :
    ∃ W : Nat → Nat → L2.St → Hp → Prop, (∃ m, W 0 m σ H) ∧ ∀ i m σ H, W i m σ H →
      ((Itc lo c n).stop i H ∧ D.nx σ H) ∨ ((Itc lo c n).go i H ∧ ∃ N : L2.St → Hp → Prop, (∀ σ' H', N σ' H' → ∃ m', m' < m ∧ W (i + 1) m' σ' H') ∧ ∀ x H', (Itc lo c n).yld i H x H' → g x σ H' fun σ2 H2 => tb { D with nx := N, ct := N, bk := D.nx } σ2 H2) :=
  for_rangeC Pv h0 (fun i σ H hi p => hs i _ σ H (pyRangeC_get hi) p) hd
theorem rng2_neg {i j : Int} (h : rng2Ok i j = true) : RgC i j (-1) (i - j).toNat := RgC.neg (rng2Ok_ok h).1 (rng2Ok_ok h).2.1 (rng2Ok_ok h).2.2.1 (rng2Ok_ok h).2.2.2
/-- the turns that a while's mirror may take -/
@[irreducible] def fuel : Nat := 1000000000
/-- while, the mirror's fuel its measure -/
theorem while_fuel {c : TT} {tb : TS} {D : Ends} {σ : L2.St} {H : Hp} (Pv : Nat → L2.St → Hp → Prop) (n : Nat) (h0 : Pv n σ H)
    (hs : ∀ m σ H, Pv (m + 1) σ H → c σ H fun b H1 => if b = true then ∃ N : L2.St → Hp → Prop, (∀ σ' H', N σ' H' → ∃ m', m' < m + 1 ∧ Pv m' σ' H') ∧ tb { D with nx := N, ct := N, bk := D.nx } σ H1 else D.nx σ H1)
    (hz : ∀ σ H, Pv 0 σ H → False) : tWhile c tb D σ H := by
  refine ⟨Pv, ⟨n, h0⟩, fun m => ?_⟩
  cases m with
  | zero => exact fun σ H p => (hz σ H p).elim
  | succ m => exact hs m
theorem wh_in {Pv : Nat → L2.St → Hp → Prop} {m : Nat} {tb : TS} {D : Ends} {σ : L2.St} {H : Hp} (h : tb { D with nx := Pv m, ct := Pv m, bk := D.nx } σ H) :
    ∃ N : L2.St → Hp → Prop, (∀ σ' H', N σ' H' → ∃ m', m' < m + 1 ∧ Pv m' σ' H') ∧ tb { D with nx := N, ct := N, bk := D.nx } σ H :=
  ⟨Pv m, fun _ _ p => ⟨m, Nat.lt_succ_self m, p⟩, h⟩

/-! ### dicts: by pairs in order -/
section
variable {κ ν α : Type}
def KR (f : κ → ν) (r : V → α → Prop) : List (ν × V) → List (κ × α) → Prop
  | [], [] => True
  | p :: ps, q :: qs => (p.1 = f q.1 ∧ r p.2 q.2) ∧ KR f r ps qs
  | _, _ => False
def mget [DecidableEq κ] (xs : List (κ × α)) (k : κ) : Option α := (xs.find? fun p => decide (p.1 = k)).map (·.2)
def mput [DecidableEq κ] (xs : List (κ × α)) (k : κ) (x : α) : List (κ × α) :=
  if (xs.any fun p => decide (p.1 = k)) = true then xs.map (fun p => if p.1 = k then (p.1, x) else p) else xs ++ [(k, x)]
theorem kinj_K : ∀ a b : List Key, id a = id b → a = b := fun _ _ h => h
theorem kinj_int : ∀ a b : Int, (Sum.inl a : Key) = Sum.inl b → a = b := fun _ _ h => Sum.inl.inj h
theorem kinj_str : ∀ a b : Str, (Sum.inr a : Key) = Sum.inr b → a = b := fun _ _ h => Sum.inr.inj h
variable {f : κ → ν} {r : V → α → Prop}
theorem KR.nil : KR f r [] [] := trivial
theorem KR.cons {p : ν × V} {q : κ × α} {ps : List (ν × V)} {qs : List (κ × α)} (h1 : p.1 = f q.1) (h2 : r p.2 q.2) (h : KR f r ps qs) : KR f r (p :: ps) (q :: qs) := ⟨⟨h1, h2⟩, h⟩
theorem KR.length : ∀ {ps : List (ν × V)} {qs : List (κ × α)}, KR f r ps qs → ps.length = qs.length
  | [], [], _ => rfl
  | _ :: _, _ :: _, h => congrArg (· + 1) (KR.length h.2)
  | [], _ :: _, h => h.elim
  | _ :: _, [], h => h.elim
theorem KR.imp {s : V → α → Prop} (g : ∀ v x, r v x → s v x) : ∀ {ps : List (ν × V)} {qs : List (κ × α)}, KR f r ps qs → KR f s ps qs
  | [], [], _ => trivial
  | _ :: _, _ :: _, h => ⟨⟨h.1.1, g _ _ h.1.2⟩, KR.imp g h.2⟩
  | [], _ :: _, h => h.elim
  | _ :: _, [], h => h.elim
theorem KR.append : ∀ {ps ps' : List (ν × V)} {qs qs' : List (κ × α)}, KR f r ps qs → KR f r ps' qs' → KR f r (ps ++ ps') (qs ++ qs')
  | [], _, [], _, _, h => h
  | _ :: _, _, _ :: _, _, g, h => ⟨g.1, KR.append g.2 h⟩
  | [], _, _ :: _, _, g, _ => g.elim
  | _ :: _, _, [], _, g, _ => g.elim
variable [DecidableEq κ] [DecidableEq ν]
theorem KR.find (inj : ∀ a b, f a = f b → a = b) (k : κ) : ∀ {ps : List (ν × V)} {qs : List (κ × α)}, KR f r ps qs →
    (mget qs k = none ∧ valV ps (f k) = none) ∨ ∃ x v, mget qs k = some x ∧ valV ps (f k) = some v ∧ r v x
  | [], [], _ => .inl ⟨rfl, rfl⟩
  | p :: ps, q :: qs, h => by
    by_cases e : q.1 = k
    · refine .inr ⟨q.2, p.2, ?_, ?_, h.1.2⟩
      · simp [mget, List.find?_cons, e]
      · exact valV_pos (by rw [h.1.1, e])
    · have e2 : ¬ p.1 = f k := fun z => e (inj _ _ (h.1.1.symm.trans z))
      have e3 : mget (q :: qs) k = mget qs k := by simp [mget, List.find?_cons, e]
      rw [e3, valV_neg e2]
      exact KR.find inj k h.2
  | [], _ :: _, h => h.elim
  | _ :: _, [], h => h.elim
theorem KR.get {ps : List (ν × V)} {qs : List (κ × α)} {k : κ} {x : α} (h : KR f r ps qs) (inj : ∀ a b, f a = f b → a = b) (e : mget qs k = some x) : ∃ v, valV ps (f k) = some v ∧ r v x := by
  rcases h.find inj k with ⟨q, _⟩ | ⟨y, v, q, q2, q3⟩
  · rw [q] at e; cases e
  · rw [q] at e; cases e; exact ⟨v, q2, q3⟩
theorem KR.some_eq {ps : List (ν × V)} {qs : List (κ × α)} (h : KR f r ps qs) (inj : ∀ a b, f a = f b → a = b) (k : κ) : (valV ps (f k)).isSome = (mget qs k).isSome := by
  rcases h.find inj k with ⟨q, q2⟩ | ⟨y, v, q, q2, q3⟩
  · rw [q, q2]; rfl
  · rw [q, q2]; rfl
theorem KR.any (inj : ∀ a b, f a = f b → a = b) (k : κ) : ∀ {ps : List (ν × V)} {qs : List (κ × α)}, KR f r ps qs → (ps.any fun p => decide (p.1 = f k)) = (qs.any fun p => decide (p.1 = k))
  | [], [], _ => rfl
  | p :: ps, q :: qs, h => by
    have e : decide (p.1 = f k) = decide (q.1 = k) := by
      by_cases e : q.1 = k
      · rw [decide_eq_true e, decide_eq_true (by rw [h.1.1, e])]
      · rw [decide_eq_false e, decide_eq_false fun z => e (inj _ _ (h.1.1.symm.trans z))]
    simp only [List.any_cons, e, KR.any inj k h.2]
  | [], _ :: _, h => h.elim
  | _ :: _, [], h => h.elim
theorem KR.map (inj : ∀ a b, f a = f b → a = b) (k : κ) {v : V} {x : α} (g : r v x) : ∀ {ps : List (ν × V)} {qs : List (κ × α)}, KR f r ps qs →
    KR f r (ps.map fun kv => if kv.1 = f k then (kv.1, v) else kv) (qs.map fun p => if p.1 = k then (p.1, x) else p)
  | [], [], _ => trivial
  | p :: ps, q :: qs, h => by
    refine ⟨?_, KR.map inj k g h.2⟩
    dsimp only
    by_cases e : q.1 = k
    · rw [if_pos e, if_pos (show p.1 = f k by rw [h.1.1, e])]
      exact ⟨h.1.1, g⟩
    · rw [if_neg e, if_neg (show ¬ p.1 = f k from fun z => e (inj _ _ (h.1.1.symm.trans z)))]
      exact h.1
  | [], _ :: _, h => h.elim
  | _ :: _, [], h => h.elim
theorem KR.put {ps : List (ν × V)} {qs : List (κ × α)} {k : κ} {v : V} {x : α} (h : KR f r ps qs) (inj : ∀ a b, f a = f b → a = b) (g : r v x) : KR f r (putK ps (f k) v) (mput qs k x) := by
  unfold putK mput
  rw [h.any inj k]
  by_cases c : (qs.any fun p => decide (p.1 = k)) = true
  · rw [if_pos c, if_pos c]
    exact h.map inj k g
  · rw [if_neg c, if_neg c]
    exact h.append ⟨⟨rfl, g⟩, trivial⟩
end
theorem KR.mono {κ ν α : Type} {f : κ → ν} {r : Rp α} [m : MonoR r] {F F' : Hp} {ps : List (ν × V)} {qs : List (κ × α)} (h : KR f (r F) ps qs) (e : Same F F') : KR f (r F') ps qs := h.imp fun _ _ q => m.mono e q
theorem dget_of {H : Hp} {a : Addr} {y : V} {o o' : Option V} (h : DGet H a y o) (e : o = o') : DGet H a y o' := e ▸ h

/-! ### data of any depth, for == -/
class DOk (α : Type) where
  ok : α → Bool
instance : DOk Int := ⟨fun _ => true⟩
instance : DOk Bool := ⟨fun _ => true⟩
instance : DOk Unit := ⟨fun _ => true⟩
instance : DOk Str := ⟨fun x => PyData.strOk x⟩
instance : DOk Key := ⟨fun x => match x with | .inl _ => true | .inr y => PyData.strOk y⟩
instance {α : Type} [DOk α] : DOk (List α) := ⟨fun xs => xs.all DOk.ok⟩
instance {α β : Type} [DOk α] [DOk β] : DOk (α × β) := ⟨fun p => DOk.ok p.1 && DOk.ok p.2⟩
class DPl (α : Type) [DOk α] : Prop where
  pl : ∀ x : α, DOk.ok x = true
instance : DPl Int := ⟨fun _ => rfl⟩
instance : DPl Bool := ⟨fun _ => rfl⟩
instance {α : Type} [DOk α] [DPl α] : DPl (List α) := ⟨fun xs => List.all_eq_true.mpr fun x _ => DPl.pl x⟩
instance {α β : Type} [DOk α] [DOk β] [DPl α] [DPl β] : DPl (α × β) := ⟨fun p => Bool.and_eq_true_iff.mpr ⟨DPl.pl p.1, DPl.pl p.2⟩⟩
class DatR {α : Type} [DecidableEq α] [DOk α] (K : PySem.W.Frag) (r : Rp α) where
  d : α → PyData
  dp : ∀ {H : Hp} {v : V} {x : α}, r H v x → Dp K H v (d x)
  eqv : ∀ x y : α, PyData.eqv (d x) (d y) = decide (x = y)
  shp : ∀ x : α, DOk.ok x = true → (d x).canLay0 = true
  n : Nat
  dep : ∀ x : α, (d x).depth ≤ n
instance {K : PySem.W.Frag} : DatR K rInt := ⟨fun i => .int i, fun {H v x} h => by rw [rInt_e h]; exact .int x, fun x y => by simp [PyData.eqv, BEq.beq], fun _ _ => rfl, 1, fun _ => by simp [PyData.depth]⟩
instance {K : PySem.W.Frag} : DatR K rBool := ⟨fun i => .bool i, fun {H v x} h => by rw [rBool_e h]; exact .bl x, fun x y => by cases x <;> cases y <;> rfl, fun _ _ => rfl, 1, fun _ => by simp [PyData.depth]⟩
instance {K : PySem.W.Frag} : DatR K rStr := ⟨fun i => .str i, fun {H v x} h => by rw [rStr_e h]; exact .str x, fun x y => by
  by_cases e : x = y
  · subst e; simp [PyData.eqv]
  · simp [PyData.eqv, e], fun x h => by simp only [PyData.canLay0]; exact h, 1, fun _ => by simp [PyData.depth]⟩
section
variable {α : Type} [DecidableEq α] [DOk α] {K : PySem.W.Frag} {r : Rp α}
theorem dpAll [D : DatR K r] {H : Hp} : ∀ {vs : List V} {xs : List α}, LR (r H) vs xs → DpAll K H vs (xs.map D.d)
  | [], [], _ => .nil
  | _ :: _, _ :: _, h => .cons (D.dp h.1) (dpAll h.2)
  | [], _ :: _, h => h.elim
  | _ :: _, [], h => h.elim
theorem eqvAll [D : DatR K r] : ∀ xs ys : List α, PyData.eqvAll (xs.map D.d) (ys.map D.d) = decide (xs = ys)
  | [], [] => rfl
  | [], _ :: _ => rfl
  | _ :: _, [] => rfl
  | x :: xs, y :: ys => by
    show (PyData.eqv (D.d x) (D.d y) && PyData.eqvAll (xs.map D.d) (ys.map D.d)) = _
    rw [D.eqv, eqvAll xs ys]
    by_cases e : x = y <;> by_cases e2 : xs = ys <;> simp [e, e2]
theorem shpAll [D : DatR K r] : ∀ xs : List α, DOk.ok xs = true → PyData.canLayAll0 (xs.map D.d) = true
  | [], _ => rfl
  | x :: xs, h => by
    have h' := Bool.and_eq_true_iff.mp (show (DOk.ok x && xs.all DOk.ok) = true from h)
    show (PyData.canLay0 (D.d x) && PyData.canLayAll0 (xs.map D.d)) = true
    rw [D.shp x h'.1, shpAll xs h'.2]
    rfl
theorem depAll [D : DatR K r] : ∀ xs : List α, PyData.depthAll (xs.map D.d) ≤ D.n
  | [] => by simp [PyData.depthAll]
  | x :: xs => by
    have h1 := D.dep x
    have h2 := depAll xs
    simp only [List.map_cons, PyData.depthAll]
    omega
instance [D : DatR K r] : DatR K (rLst K r) := ⟨fun xs => .list (xs.map D.d), fun {H v x} ⟨a, vs, h1, h2, h3⟩ => by rw [h1]; exact .lst h2 (dpAll h3), fun x y => eqvAll x y, fun x h => shpAll x h, D.n + 1, fun x => by
  have := depAll (D := D) x
  simp only [PyData.depth]
  omega⟩
instance [D : DatR K r] : DatR K (rVT K r) := ⟨fun xs => .tuple (xs.map D.d), fun {H v x} ⟨a, vs, h1, h2, h3⟩ => by rw [h1]; exact .tup h2 (dpAll h3), fun x y => eqvAll x y, fun x h => shpAll x h, D.n + 1, fun x => by
  have := depAll (D := D) x
  simp only [PyData.depth]
  omega⟩
theorem dat_shaped [D : DatR K r] (hn : D.n ≤ 64) (x : α) (h : DOk.ok x = true) : SeqAt.shaped (D.d x) = true :=
  Bool.and_eq_true_iff.mpr ⟨D.shp x h, decide_eq_true (Nat.le_trans (D.dep x) hn)⟩
theorem dat_dp [D : DatR K r] {H : Hp} {v : V} {x : α} (h : r H v x) : Dp K H v (D.d x) := D.dp h
theorem dat_eqv [D : DatR K r] (x y : α) : PyData.eqv (D.d x) (D.d y) = decide (x = y) := D.eqv x y
end
instance {K : PySem.W.Frag} : DatR K rKT := ⟨fun ks => .tuple (ks.map fun k => match k with | .inl i => .int i | .inr x => .str x),
  fun {H v x} ⟨a, h1, h2⟩ => by
    rw [h1]
    refine .tup (xs := x.map kV) (.inl (.inl h2)) ?_
    have q : ∀ ks : List Key, DpAll K H (ks.map kV) (ks.map fun k => match k with | .inl i => .int i | .inr x => .str x) := by
      intro ks
      induction ks with
      | nil => exact .nil
      | cons k t ih => cases k with
        | inl i => exact .cons (.int i) ih
        | inr y => exact .cons (.str y) ih
    exact q x,
  fun x y => by
    show PyData.eqvAll _ _ = _
    induction x generalizing y with
    | nil => cases y <;> rfl
    | cons k t ih =>
      cases y with
      | nil => rfl
      | cons l u =>
        show (PyData.eqv _ _ && PyData.eqvAll _ _) = _
        rw [ih u]
        cases k <;> cases l
        · rename_i a b; by_cases e : a = b <;> by_cases e2 : t = u <;> simp [PyData.eqv, e, e2]
        · simp [PyData.eqv]
        · simp [PyData.eqv]
        · rename_i a b; by_cases e : a = b <;> by_cases e2 : t = u <;> simp [PyData.eqv, e, e2],
  fun x h => by
    show PyData.canLayAll0 _ = true
    induction x with
    | nil => rfl
    | cons k t ih =>
      have h' := Bool.and_eq_true_iff.mp (show (DOk.ok k && t.all DOk.ok) = true from h)
      show (PyData.canLay0 _ && PyData.canLayAll0 _) = true
      rw [ih h'.2]
      cases k with
      | inl i => rfl
      | inr y =>
        simp only [PyData.canLay0, Bool.and_true]
        exact h'.1,
  2, fun x => by
    have : ∀ ks : List Key, PyData.depthAll (ks.map fun k => match k with | .inl i => .int i | .inr x => .str x) ≤ 1 := by
      intro ks
      induction ks with
      | nil => simp [PyData.depthAll]
      | cons k t ih => cases k <;> simp [PyData.depthAll, PyData.depth] <;> exact ih
    have := this x
    simp only [PyData.depth]
    omega⟩
theorem tyx_list {K : PySem.W.Frag} {H : Hp} {a : Addr} {xs : List V} (h : SqL K H a xs) : TyX K H (.ref a) (.type "list") := by
  rcases h with (h | ⟨o, h⟩) | ⟨o, _, _, h1, h2, _⟩
  · exact .base (.lst h)
  · exact .base (.frz h)
  · exact .kList h1 h2
theorem tyx_tup {K : PySem.W.Frag} {H : Hp} {a : Addr} {xs : List V} (h : SqT K H a xs) : TyX K H (.ref a) (.type "tuple") := by
  rcases h with (h | ⟨o, h⟩) | ⟨o, _, _, h1, h2, _⟩
  · exact .base (.tup h)
  · exact .fTuple h
  · exact .kTuple h1 h2
/-! ### fields -/
theorem fewl {fs : List (Str × V)} {f : Str} {v : V} {n : Nat} (h : fs.length ≤ n) : (putF f v fs).length ≤ n + 1 := by
  have q : ∀ fs : List (Str × V), (putF f v fs).length ≤ fs.length + 1 := by
    intro fs
    induction fs with
    | nil => exact Nat.le_refl _
    | cons p t ih =>
      show (if p.1 = f then (p.1, v) :: t else p :: putF f v t).length ≤ _
      by_cases e : p.1 = f
      · rw [if_pos e]; exact Nat.le_succ _
      · rw [if_neg e]; exact Nat.succ_le_succ ih
  exact Nat.le_trans (q fs) (Nat.succ_le_succ h)
/-! ### the law's start -/
theorem lr_ints {F : Hp} : ∀ ns : List Int, LR (rInt F) (ns.map V.int) ns
  | [] => trivial
  | _ :: ns => ⟨rfl, lr_ints ns⟩
theorem sta0 (H : Hp) : Sta H ([] ++ ([] : Own)) H := ⟨Same.refl H, (fun _ _ m => nomatch m), List.nodup_nil⟩
section
variable {X : Cx}
/-- sorted(d), a dict with int keys, any number of them -/
def rSortD : List V → Hp → VK → Prop := fun xs H Q => ∃ (a : Addr) (kvs : List (Key × V)) (ks : List Int), xs = [.ref a] ∧ Rd H a (.dK kvs) ∧ kvs.map (·.1) = ks.map Sum.inl ∧
    ∀ (ys : List Int) (p : Addr), ys.Perm ks → ys.Pairwise (· ≤ ·) → H p = none → Q (.ref p) (upd H p (.lst (ys.map V.int)))
theorem call_sortD (hc : X.calm = true) : CallR X (.builtin "sorted") rSortD := by
  intro pins s σ H xs us Q I r ⟨a, kvs, ks, ex, hd, hks, q⟩
  subst ex
  obtain ⟨u, eu, rx⟩ := vals1 r; subst eu; cases rx
  obtain ⟨z, lo, vs, rel, dd⟩ := dk_rd I.hok hd
  obtain ⟨ep, hat⟩ := dd.dictAt
  have hkeys : vs.map (·.1) = ks.map Sum.inl := rel.keys.symm.trans hks
  have hl : vs.length = ks.length := by simpa using congrArg List.length hkeys
  have hkl : kvs.length = ks.length := by simpa using congrArg List.length hks
  have hz : ks.length ≤ sizeLine := by rw [← hkl]; exact z
  refine Calls.call_function_entry kind_sorted plain_sorted entry_sorted
    (args_sorted1 _) ?_
  unfold Builtin.«sorted»
  refine wpAny_bind (m := checkCount "sorted" 1 1 _)
    (wpAny_pure ?_)
  refine wpAny_bind (PySem.W.kdu_collect (A := X.A.in1) (PySem.W.kdl_dict (knd := mixKind X.prog X.w) (kvs := vs) (ep := ep) lo)
    (I.ok.hd hc) hat (by rw [hl]; exact hz) fun h' tk acc hk hacc => ?_)
  have hal : acc.toList.length = ks.length := by rw [Array.length_toList, hacc.1, hl]
  have hS : IntsAre acc.toList ks := by
    refine ints_each hal fun j v e => ?_
    obtain ⟨k, x, e1, e2⟩ := hacc.2 j v (by rw [← Array.getElem?_toList]; exact e)
    have e3 : (ks.map (Sum.inl : Int → Key))[j]? = some k := by rw [← hkeys, List.getElem?_map, e1]; rfl
    rw [List.getElem?_map] at e3
    cases e4 : ks[j]? with
    | none => rw [e4] at e3; cases e3
    | some y =>
      rw [e4] at e3
      cases e3
      rcases keyIs_shape (show keyIs (Sum.inl y) v = true from e2) with ⟨i, t, ek, ev⟩ | ⟨w', t, ek, ev⟩
      · cases ek; exact ⟨y, t, rfl, ev⟩
      · cases ek
  have I1 : Inv X pins σ H { s with heap := h', toks := tk } := I.kept hk
  refine wpAny_bind (wpAny_newList ?_ (by rw [hal]; exact hz))
  have hoL : (h'.push (seqObj "list" acc.toList.toArray 0)).get? h'.objs.size = some (seqObj "list" acc.toList.toArray 0) := Heap.get?_push_size _ rfl
  show wpAny _ _ _ _ _ { s with heap := h'.push (seqObj "list" acc.toList.toArray 0), toks := tk }
  refine wpAny_bind (wpAny_holding (wpAny_call_entry slot_list_sort ⟨_, hoL, rfl⟩ entry_list_sort
    (SrtO.list_sort_ord SrtO.swo_int hoL (by rw [hal]; exact hz) (fun h2 => SrtO.ints_sortable hS h2) fun out g1 g2 => ⟨_, rfl, ?_⟩) (args_list_sort _)))
  obtain ⟨k1, k2, k3⟩ := SrtO.ints_out hS g1 g2
  obtain ⟨e', he'⟩ := sortedHeap_at (vs := acc.toList) (out := out.toArray) hoL
  have hlen : ((out.map SrtO.iv).map V.int).length ≤ sizeLine := by rw [List.length_map, k2.length_eq]; exact hz
  refine wpAny_pure ⟨_, rfl, .ref h'.objs.size, upd H h'.objs.size (.lst ((out.map SrtO.iv).map V.int)), I1.laid (t' := tk) (fun b u e => ?_) (Nat.le_refl _)
    (show ObjOk X.prog X.w _ _ _ (.lst ((out.map SrtO.iv).map V.int)) from ⟨hlen, out, e', vals_of_ints k1, he'⟩), rfl, q _ _ k2 k3 (I1.hok.fresh (Nat.le_refl _))⟩
  have hb : b < h'.objs.size := Heap.lt_size e
  rw [sortedHeap_old (Nat.ne_of_lt hb) (by rw [size_push']; exact Nat.lt_succ_of_lt hb)]
  exact Heap.get?_push_of_some _ e
end
/-- sorted ints are one list -/
theorem sorted_uniq : ∀ {xs ys : List Int}, xs.Perm ys → xs.Pairwise (· ≤ ·) → ys.Pairwise (· ≤ ·) → xs = ys
  | [], ys, h, _, _ => (List.nil_perm.mp h).symm
  | x :: xs, [], h, _, _ => absurd h.length_eq (by simp)
  | x :: xs, y :: ys, h, hx, hy => by
    have h1 := List.pairwise_cons.mp hx
    have h2 := List.pairwise_cons.mp hy
    have e : x = y := by
      have m1 : x ∈ y :: ys := h.mem_iff.mp (.head _)
      have m2 : y ∈ x :: xs := h.mem_iff.mpr (.head _)
      have l1 : y ≤ x := by
        cases m1 with
        | head => exact Int.le_refl _
        | tail _ m => exact h2.1 x m
      have l2 : x ≤ y := by
        cases m2 with
        | head => exact Int.le_refl _
        | tail _ m => exact h1.1 y m
      exact Int.le_antisymm l2 l1
    subst e
    rw [sorted_uniq (List.Perm.cons_inv h) h1.2 h2.2]
def sortI (xs : List Int) : List Int := xs.mergeSort fun a b => decide (a ≤ b)
theorem sortI_perm (xs : List Int) : (sortI xs).Perm xs := List.mergeSort_perm _ _
theorem sortI_sorted (xs : List Int) : (sortI xs).Pairwise (· ≤ ·) := by
  have h := List.pairwise_mergeSort (le := fun (a b : Int) => decide (a ≤ b)) (fun a b c h1 h2 => by simp at *; omega) (fun a b => by simp; omega) xs
  exact h.imp fun h => by simpa using h
theorem sortI_eq {xs ys : List Int} (h : ys.Perm xs) (s : ys.Pairwise (· ≤ ·)) : ys = sortI xs := sorted_uniq (h.trans (sortI_perm xs).symm) s (sortI_sorted xs)
theorem lr_map {F : Hp} : ∀ {vs : List V} {xs : List Int}, LR (rInt F) vs xs → vs = xs.map V.int
  | [], [], _ => rfl
  | _ :: _, _ :: _, h => by rw [rInt_e h.1, lr_map h.2]; rfl
  | [], _ :: _, h => h.elim
  | _ :: _, [], h => h.elim
theorem LR.dropLast {α : Type} {r : V → α → Prop} : ∀ {vs : List V} {xs : List α}, LR r vs xs → LR r vs.dropLast xs.dropLast
  | [], [], _ => trivial
  | [_], [_], _ => trivial
  | _ :: _ :: _, _ :: _ :: _, h => ⟨h.1, LR.dropLast h.2⟩
  | [], _ :: _, h => h.elim
  | _ :: _, [], h => h.elim
  | [_], _ :: _ :: _, h => h.2.elim
  | _ :: _ :: _, [_], h => h.2.elim
theorem LR.last {α : Type} {r : V → α → Prop} {vs : List V} {xs : List α} {x : α} (h : LR r vs xs) (e : xs.getLast? = some x) : ∃ v, vs[vs.length - 1]? = some v ∧ r v x := by
  rw [List.getLast?_eq_getElem?] at e
  rw [h.length]
  exact h.get e
theorem LR.reverse {α : Type} {r : V → α → Prop} : ∀ {vs : List V} {xs : List α}, LR r vs xs → LR r vs.reverse xs.reverse
  | [], [], _ => trivial
  | _ :: _, _ :: _, h => by
    rw [List.reverse_cons, List.reverse_cons]
    exact (LR.reverse h.2).snoc h.1
  | [], _ :: _, h => h.elim
  | _ :: _, [], h => h.elim
theorem LR.take {α : Type} {r : V → α → Prop} : ∀ (n : Nat) {vs : List V} {xs : List α}, LR r vs xs → LR r (vs.take n) (xs.take n)
  | 0, _, _, _ => trivial
  | _ + 1, [], [], _ => trivial
  | n + 1, _ :: _, _ :: _, h => ⟨h.1, LR.take n h.2⟩
  | _ + 1, [], _ :: _, h => h.elim
  | _ + 1, _ :: _, [], h => h.elim
theorem LR.drop {α : Type} {r : V → α → Prop} : ∀ (n : Nat) {vs : List V} {xs : List α}, LR r vs xs → LR r (vs.drop n) (xs.drop n)
  | 0, _, _, h => h
  | _ + 1, [], [], _ => trivial
  | n + 1, _ :: _, _ :: _, h => LR.drop n h.2
  | _ + 1, [], _ :: _, h => h.elim
  | _ + 1, _ :: _, [], h => h.elim
/-- slices -/
def cutL {α : Type} (xs : List α) (lo hi : Option Int) : List α := (xs.drop (HT.sIx xs.length 0 lo)).take (HT.sIx xs.length xs.length hi - HT.sIx xs.length 0 lo)
theorem LR.cut {α : Type} {r : V → α → Prop} {vs : List V} {xs : List α} (h : LR r vs xs) (lo hi : Option Int) : LR r (cutV vs lo hi) (cutL xs lo hi) := by
  unfold cutV cutL
  rw [h.length]
  exact (h.drop _).take _
theorem KR.keysI {α : Type} {r : V → α → Prop} : ∀ {ps : List (Key × V)} {qs : List (Int × α)}, KR Sum.inl r ps qs → ps.map (·.1) = (qs.map (·.1)).map Sum.inl
  | [], [], _ => rfl
  | p :: ps, q :: qs, h => by
    show p.1 :: ps.map (·.1) = Sum.inl q.1 :: (qs.map (·.1)).map Sum.inl
    rw [h.1.1, KR.keysI h.2]
  | [], _ :: _, h => h.elim
  | _ :: _, [], h => h.elim
theorem KR.keysLI {α : Type} {r : V → α → Prop} {F : Hp} : ∀ {ps : List (Key × V)} {qs : List (Int × α)}, KR Sum.inl r ps qs → LR (rInt F) (ps.map fun kv => kV kv.1) (qs.map (·.1))
  | [], [], _ => trivial
  | p :: ps, q :: qs, h => ⟨by show kV p.1 = V.int q.1; rw [h.1.1]; rfl, KR.keysLI h.2⟩
  | [], _ :: _, h => h.elim
  | _ :: _, [], h => h.elim
/-! ### keys as rows: a text first, then numbers -/
def kStr (ks : List Key) (i : Int) : Option Str := (atI ks i).bind fun k => match k with | .inr s => some s | .inl _ => none
def kInt (ks : List Key) (i : Int) : Option Int := (atI ks i).bind fun k => match k with | .inl s => some s | .inr _ => none
theorem atI_map {α β : Type} {xs : List α} {i : Int} {x : α} (f : α → β) (h : atI xs i = some x) : atI (xs.map f) i = some (f x) := by
  unfold L2.atI at h ⊢
  rw [List.length_map]
  cases q : ixN xs.length i with
  | none => rw [q] at h; cases h
  | some j =>
    rw [q] at h
    show (xs.map f)[j]? = _
    rw [List.getElem?_map, show xs[j]? = some x from h]
    rfl
theorem kStr_at {ks : List Key} {i : Int} {s : Str} (h : kStr ks i = some s) : atI (ks.map kV) i = some (V.str s) := by
  obtain ⟨k, e, h⟩ := bnd h
  cases k with
  | inl _ => cases h
  | inr z => cases h; exact atI_map kV e
theorem kInt_at {ks : List Key} {i : Int} {s : Int} (h : kInt ks i = some s) : atI (ks.map kV) i = some (V.int s) := by
  obtain ⟨k, e, h⟩ := bnd h
  cases k with
  | inr _ => cases h
  | inl z => cases h; exact atI_map kV e
/-! ### list comprehensions -/
theorem tYesI {σ : L2.St} {H : Hp} {Q : Bool → Hp → Prop} (h : Q true H) : tYes σ H Q := h
theorem ifYes {A B : Prop} (h : A) : if true = true then A else B := by rw [if_pos rfl]; exact h
def lcO {α β : Type} (f : α → Option (Option β)) : List α → Option (List β)
  | [] => some []
  | x :: t => (f x).bind fun y => (lcO f t).bind fun r => some (match y with | none => r | some b => b :: r)
theorem lcI {α β : Type} {f : α → Option (Option β)} {x : α} {t : List α} {r : List β} {C : Prop} (k : ∀ y r', f x = some y → lcO f t = some r' → r = (match y with | none => r' | some b => b :: r') → C) : lcO f (x :: t) = some r → C := fun h => by
  obtain ⟨y, e1, h⟩ := bnd (show ((f x).bind fun y => (lcO f t).bind fun r => some (match y with | none => r | some b => b :: r)) = some r from h)
  obtain ⟨r', e2, h⟩ := bnd h
  exact k y r' e1 e2 (Option.some.inj h).symm
theorem lc_map {α β : Type} (f : α → β) : ∀ xs : List α, lcO (fun x => some (some (f x))) xs = some (xs.map f)
  | [] => rfl
  | x :: t => by
    show ((lcO (fun x => some (some (f x))) t).bind fun r => some (f x :: r)) = _
    rw [lc_map f t]; rfl
theorem lc_filter {α β : Type} (c : α → Bool) (f : α → β) : ∀ xs : List α, lcO (fun x => if c x = true then some (some (f x)) else some none) xs = some ((xs.filter c).map f)
  | [] => rfl
  | x :: t => by
    show ((if c x = true then some (some (f x)) else some none).bind fun y => (lcO (fun x => if c x = true then some (some (f x)) else some none) t).bind fun r => some (match y with | none => r | some b => b :: r)) = _
    rw [lc_filter c f t]
    by_cases h : c x = true
    · rw [if_pos h, List.filter_cons, if_pos h]; rfl
    · rw [if_neg h, List.filter_cons, if_neg h]; rfl
theorem lc_rng {lo : Int} {n : Nat} {g : TG} {tt : TT} {te : TE} {vs : List Nat} {σ : L2.St} {H1 : Hp} {D : Addr} {Qd : Hp → Prop} (Pv : Nat → Hp → Prop) (h0 : Pv 0 (upd H1 D (.lst [])))
    (hs : ∀ i x H, (pyRange lo n)[i]? = some x → Pv i H → g (.int x) (wipe σ vs) H fun σ2 H2 => wipe σ2 vs = wipe σ vs ∧ tt σ2 H2 fun b H3 =>
      if b = true then te σ2 H3 fun y H4 => ∃ acc, H4 D = some (.lst acc) ∧ acc.length < sizeLine ∧ Pv (i + 1) (upd H4 D (.lst (acc ++ [y]))) else Pv (i + 1) H3) (hd : ∀ H, Pv n H → Qd H) :
    ∃ W : Nat → Nat → Hp → Prop, (∃ m, W 0 m (upd H1 D (.lst []))) ∧ ∀ i m H, W i m H →
      ((Itr lo n).stop i H ∧ Qd H) ∨ ((Itr lo n).go i H ∧ ∃ Nx : Hp → Prop, (∀ H', Nx H' → ∃ m', m' < m ∧ W (i + 1) m' H') ∧ ∀ x H', (Itr lo n).yld i H x H' → g x (wipe σ vs) H' fun σ2 H2 => wipe σ2 vs = wipe σ vs ∧ tt σ2 H2 fun b H3 =>
        if b = true then te σ2 H3 fun y H4 => ∃ acc, H4 D = some (.lst acc) ∧ acc.length < sizeLine ∧ Nx (upd H4 D (.lst (acc ++ [y]))) else Nx H3) :=
  lc_range Pv h0 (fun i H hi p => hs i _ H (pyRange_get hi) p) hd
theorem KR.getD_int {κ : Type} [DecidableEq κ] {f : κ → Key} {F : Hp} {ps : List (Key × V)} {qs : List (κ × Int)} (h : KR f (rInt F) ps qs) (inj : ∀ a b, f a = f b → a = b) (k : κ) (x : Int) : (valV ps (f k)).getD (V.int x) = V.int ((mget qs k).getD x) := by
  rcases h.find inj k with ⟨q, q2⟩ | ⟨y, v, q, q2, q3⟩
  · rw [q, q2]; rfl
  · rw [q, q2, rInt_e q3]; rfl
theorem KR.getD_bool {κ : Type} [DecidableEq κ] {f : κ → Key} {F : Hp} {ps : List (Key × V)} {qs : List (κ × Bool)} (h : KR f (rBool F) ps qs) (inj : ∀ a b, f a = f b → a = b) (k : κ) (x : Bool) : (valV ps (f k)).getD (V.bl x) = V.bl ((mget qs k).getD x) := by
  rcases h.find inj k with ⟨q, q2⟩ | ⟨y, v, q, q2, q3⟩
  · rw [q, q2]; rfl
  · rw [q, q2, rBool_e q3]; rfl
/-! ### equal dicts of plain values -/
def dictEq {κ α : Type} [DecidableEq κ] [DecidableEq α] (x y : List (κ × α)) : Bool := decide (x.length = y.length) && x.all fun p => decide (mget y p.1 = some p.2)
theorem dictEq_int {F : Hp} {f : Int → Key} (inj : ∀ a b, f a = f b → a = b) {ps qs : List (Key × V)} {x y : List (Int × Int)} (h : KR f (rInt F) ps x) (g : KR f (rInt F) qs y) (e : dictEq x y = true) :
    ps.length = qs.length ∧ ∀ p ∈ ps, valV qs p.1 = some p.2 ∧ flatB p.2 = true := by
  have e' := Bool.and_eq_true_iff.mp e
  refine ⟨by rw [h.length, g.length]; exact of_decide_eq_true e'.1, ?_⟩
  have all := List.all_eq_true.mp e'.2
  clear e e'
  induction ps generalizing x with
  | nil => exact fun _ m => nomatch m
  | cons p ps ih =>
    cases x with
    | nil => exact h.elim
    | cons q x =>
      intro p' m
      cases m with
      | head =>
        obtain ⟨v, e1, e2⟩ := g.get inj (of_decide_eq_true (all q (.head _)))
        rw [h.1.1, e1, rInt_e h.1.2, rInt_e e2]
        exact ⟨rfl, rfl⟩
      | tail _ m => exact ih h.2 (fun z hz => all z (.tail _ hz)) p' m
theorem dictEq_bool {F : Hp} {f : Int → Key} (inj : ∀ a b, f a = f b → a = b) {ps qs : List (Key × V)} {x y : List (Int × Bool)} (h : KR f (rBool F) ps x) (g : KR f (rBool F) qs y) (e : dictEq x y = true) :
    ps.length = qs.length ∧ ∀ p ∈ ps, valV qs p.1 = some p.2 ∧ flatB p.2 = true := by
  have e' := Bool.and_eq_true_iff.mp e
  refine ⟨by rw [h.length, g.length]; exact of_decide_eq_true e'.1, ?_⟩
  have all := List.all_eq_true.mp e'.2
  clear e e'
  induction ps generalizing x with
  | nil => exact fun _ m => nomatch m
  | cons p ps ih =>
    cases x with
    | nil => exact h.elim
    | cons q x =>
      intro p' m
      cases m with
      | head =>
        obtain ⟨v, e1, e2⟩ := g.get inj (of_decide_eq_true (all q (.head _)))
        rw [h.1.1, e1, rBool_e h.1.2, rBool_e e2]
        exact ⟨rfl, rfl⟩
      | tail _ m => exact ih h.2 (fun z hz => all z (.tail _ hz)) p' m
/-! ### rules that name K (within comprehensions) -/
section
variable {X : Cx} {K : PySem.W.Frag}
theorem pe_fldK (K : PySem.W.Frag) {e : Expr} {f : Str} {ta : TE} {pos : Pos} (ho : PE X e ta) (hb : attributeBase e f X.env (eval e X.env) = eval e X.env) (hK : X.K = K := by rfl) : PE X (.Attribute e f pos) (tFld K ta f) := by
  subst hK
  exact pe_fld ho hb
theorem ix_listK (K : PySem.W.Frag) (hK : X.K = K := by rfl) : IxR X (rIxL K) := by
  subst hK
  exact ix_list
theorem ix_tupK (K : PySem.W.Frag) (hK : X.K = K := by rfl) : IxR X (rIxT K) := by
  subst hK
  exact ix_tup
theorem op_eqDK (K : PySem.W.Frag) (hu : X.A.units + 64 < cLine) (hK : X.K = K := by rfl) : OpR X (compareOp .Eq) (rEqD K) := by
  subst hK
  exact op_eqD hu
theorem op_neDK (K : PySem.W.Frag) (hu : X.A.units + 64 < cLine) (hK : X.K = K := by rfl) : OpR X (compareOp .NotEq) (rNeD K) := by
  subst hK
  exact op_neD hu
theorem len_seqK (K : PySem.W.Frag) (hK : X.K = K := by rfl) : CallR X (.builtin "len") (fun xs H Q => ∃ p ys, xs = [.ref p] ∧ (SqL K H p ys ∨ SqT K H p ys) ∧ Q (.int (ys.length : Nat)) H) := by
  subst hK
  exact call_len_seq
theorem list_ofK (K : PySem.W.Frag) (hK : X.K = K := by rfl) : CallR X (.type "list") (fun xs H Q => ∃ p ys, xs = [.ref p] ∧ (SqL K H p ys ∨ SqT K H p ys) ∧ ∀ l, H l = none → Q (.ref l) (upd H l (.lst ys))) := by
  subst hK
  exact call_list_of
theorem isiK (K : PySem.W.Frag) (hK : X.K = K := by rfl) : CallR X (.builtin "isinstance") (rIsi K) := by
  subst hK
  exact call_isi
theorem pi_listK (K : PySem.W.Frag) {tg l : Expr} {tl : TE} (hl : PE X l tl) (hK : X.K = K := by rfl) : PI X tg l (iList K tl) := by
  subst hK
  exact pi_list hl
end
theorem DGet.kf {H : Hp} {a : Addr} {od : _} {kvs : List (Key × V)} {k : Key} (e : H a = some (.frz od (.dK kvs))) : DGet H a (kV k) (valV kvs k) := .inl ⟨kvs, k, .inr ⟨_, e⟩, rfl, rfl⟩
theorem DGet.tf {H : Hp} {a b : Addr} {od : _} {kvs : List (List Key × V)} {k : List Key} (e : H a = some (.frz od (.dT kvs))) (eb : H b = some (.tup (k.map kV))) : DGet H a (.ref b) (valV kvs k) := .inr ⟨kvs, k, b, .inr ⟨_, e⟩, rfl, eb, rfl⟩
theorem _root_.L2.FnOk.or {P : Program} {w : World} {K : PySem.W.Frag} {mg : Str → Option Value} {base : Heap} {CX : CXT} {k : Nat} {f : Addr} {fd : FuncData} {ps : List Str} {s1 s2 : Sp}
    (F1 : FnOk P w K mg base CX k f fd ps s1) (F2 : FnOk P w K mg base CX k f fd ps s2) : FnOk P w K mg base CX k f fd ps (fun vs H Q E => s1 vs H Q E ∨ s2 vs H Q E) :=
  ⟨fun vs H Q E h => h.elim (F1.len vs H Q E) (F2.len vs H Q E), fun A outer s H args us vs Q E hr he hb hv h => h.elim (F1.run A outer s H args us vs Q E hr he hb hv) (F2.run A outer s H args us vs Q E hr he hb hv)⟩
theorem ints_in {F : Hp} (x : Int) : ∀ {vs : List V} {m : List Int}, LR (rInt F) vs m → inV (V.int x) vs = decide (x ∈ m) ∧ vs.all flatV = true
  | [], [], _ => ⟨by simp [inV], rfl⟩
  | v :: vs, y :: m, h => by
    obtain ⟨h1, h2⟩ := ints_in x h.2
    obtain rfl := rInt_e h.1
    refine ⟨?_, by simp only [List.all_cons, h2]; rfl⟩
    show (eqV (V.int y) (V.int x) || inV (V.int x) vs) = _
    rw [h1]
    show (decide (y = x) || _) = _
    by_cases c : y = x
    · simp [c]
    · have c2 : ¬ x = y := fun e => c e.symm
      simp [c, c2]
theorem strs_in {F : Hp} (x : Str) : ∀ {vs : List V} {m : List Str}, LR (rStr F) vs m → inV (V.str x) vs = decide (x ∈ m) ∧ vs.all flatV = true
  | [], [], _ => ⟨by simp [inV], rfl⟩
  | v :: vs, y :: m, h => by
    obtain ⟨h1, h2⟩ := strs_in x h.2
    obtain rfl := rStr_e h.1
    refine ⟨?_, by simp only [List.all_cons, h2]; rfl⟩
    show (eqV (V.str y) (V.str x) || inV (V.str x) vs) = _
    rw [h1]
    show (decide (y = x) || _) = _
    by_cases c : y = x
    · simp [c]
    · have c2 : ¬ x = y := fun e => c e.symm
      simp [c, c2]
theorem op_in_seqK {X : Cx} (K : PySem.W.Frag) (hK : X.K = K := by rfl) : OpR X (compareOp .In) (rIn K false) := by
  subst hK
  exact op_in_seq
theorem op_notIn_seqK {X : Cx} (K : PySem.W.Frag) (hK : X.K = K := by rfl) : OpR X (compareOp .NotIn) (rIn K true) := by
  subst hK
  exact op_notIn_seq
theorem LR.eraseIdx {α : Type} {r : V → α → Prop} : ∀ {vs : List V} {xs : List α} (j : Nat), LR r vs xs → LR r (vs.eraseIdx j) (xs.eraseIdx j)
  | [], [], _, _ => trivial
  | _ :: _, _ :: _, 0, h => h.2
  | _ :: _, _ :: _, j + 1, h => ⟨h.1, LR.eraseIdx j h.2⟩
theorem LR.insertIdx {α : Type} {r : V → α → Prop} {v : V} {x : α} (e : r v x) : ∀ {vs : List V} {xs : List α} (j : Nat), LR r vs xs → LR r (vs.take j ++ v :: vs.drop j) (xs.take j ++ x :: xs.drop j)
  | [], [], j, _ => by simp; exact ⟨e, trivial⟩
  | _ :: _, _ :: _, 0, h => ⟨e, h⟩
  | _ :: _, _ :: _, j + 1, h => ⟨h.1, LR.insertIdx e j h.2⟩
theorem pop_ix {α : Type} {r : V → α → Prop} {vs : List V} {xs : List α} {i : Int} {j : Nat} (h : LR r vs xs) (e : ixN xs.length i = some j) : seqIndex? i vs.length = some j := by
  rw [h.length]
  exact (ixN_seq e).1
theorem lr_rg {F : Hp} (a b : Int) : LR (rInt F) (rgV a b) (pyRange a (b - a).toNat) := by
  have e : rgV a b = (pyRange a (b - a).toNat).map V.int := by
    unfold rgV pyRange
    rw [List.map_map]
    rfl
  rw [e]
  exact lr_ints _
def rgOk (a b : Int) : Bool := decide (-(2 ^ 62) ≤ a ∧ a < 2 ^ 62 ∧ -(2 ^ 62) ≤ b ∧ b < 2 ^ 62 ∧ (b - a).toNat ≤ 2 ^ 24)
theorem rgOk_t {a b : Int} (h : rgOk a b = true) : RgOk a b := by unfold rgOk at h; unfold RgOk; exact of_decide_eq_true h
def mdrop {κ α : Type} [DecidableEq κ] (xs : List (κ × α)) (k : κ) : List (κ × α) := xs.filter fun p => decide (p.1 ≠ k)
theorem KR.drop {κ ν α : Type} [DecidableEq κ] [DecidableEq ν] {f : κ → ν} {r : V → α → Prop} (inj : ∀ a b, f a = f b → a = b) (k : κ) : ∀ {ps : List (ν × V)} {qs : List (κ × α)}, KR f r ps qs → KR f r (dropK ps (f k)) (mdrop qs k)
  | [], [], _ => trivial
  | p :: ps, q :: qs, h => by
    have ih := KR.drop inj k h.2
    unfold dropK mdrop at ih ⊢
    by_cases c : q.1 = k
    · have c2 : p.1 = f k := by rw [h.1.1, c]
      rw [List.filter_cons_of_neg (by simpa using c2), List.filter_cons_of_neg (by simpa using c)]
      exact ih
    · have c2 : ¬ p.1 = f k := by rw [h.1.1]; exact fun e => c (inj _ _ e)
      rw [List.filter_cons_of_pos (by simpa using c2), List.filter_cons_of_pos (by simpa using c)]
      exact ⟨h.1, ih⟩
theorem sl_listK {X : Cx} (K : PySem.W.Frag) (hK : X.K = K := by rfl) : SlR X (rSlL K) := by
  subst hK
  exact sl_list
theorem lc_keys {d : Addr} {od : Obj} {kvs : List (Key × V)} {g : TG} {tt : TT} {te : TE} {vs : List Nat} {σ : L2.St} {H1 : Hp} {D : Addr} {Qd : Hp → Prop} (Pv : Nat → Hp → Prop) (h0 : Pv 0 (upd H1 D (.lst [])))
    (hl : ∀ i H, i ≤ kvs.length → Pv i H → H d = some (.frz od (.dK kvs)))
    (hs : ∀ i x H, (kvs.map fun kv => kV kv.1)[i]? = some x → Pv i H → g x (wipe σ vs) H fun σ2 H2 => wipe σ2 vs = wipe σ vs ∧ tt σ2 H2 fun b H3 =>
      if b = true then te σ2 H3 fun y H4 => ∃ acc, H4 D = some (.lst acc) ∧ acc.length < sizeLine ∧ Pv (i + 1) (upd H4 D (.lst (acc ++ [y]))) else Pv (i + 1) H3) (hd : ∀ H, Pv (kvs.map fun kv => kV kv.1).length H → Qd H) :
    ∃ W : Nat → Nat → Hp → Prop, (∃ m, W 0 m (upd H1 D (.lst []))) ∧ ∀ i m H, W i m H →
      ((Itk d od kvs).stop i H ∧ Qd H) ∨ ((Itk d od kvs).go i H ∧ ∃ Nx : Hp → Prop, (∀ H', Nx H' → ∃ m', m' < m ∧ W (i + 1) m' H') ∧ ∀ x H', (Itk d od kvs).yld i H x H' → g x (wipe σ vs) H' fun σ2 H2 => wipe σ2 vs = wipe σ vs ∧ tt σ2 H2 fun b H3 =>
        if b = true then te σ2 H3 fun y H4 => ∃ acc, H4 D = some (.lst acc) ∧ acc.length < sizeLine ∧ Nx (upd H4 D (.lst (acc ++ [y]))) else Nx H3) :=
  lc_it walk_keys Pv h0 hl (fun i x H H' hi p y => by
    obtain ⟨rfl, k, v, e1, rfl⟩ := y
    exact hs i _ _ (by rw [List.getElem?_map, e1]; rfl) p) (fun H p => hd H (by rw [List.length_map]; exact p))
theorem rdMap {H H' : Hp} {a : Addr} {u : HO} (f : ∀ v, H a = some v → H' a = some v) (h : Rd H a u) : Rd H' a u := h.elim (fun e => .inl (f _ e)) fun ⟨o, e⟩ => .inr ⟨o, f _ e⟩
theorem DGet.rd {H : Hp} {a : Addr} {kvs : List (Key × V)} {k : Key} (e : Rd H a (.dK kvs)) : DGet H a (kV k) (valV kvs k) := .inl ⟨kvs, k, e, rfl, rfl⟩
def maxL : List Int → Int
  | [] => 0
  | [x] => x
  | x :: y :: t => if maxL (y :: t) > x then maxL (y :: t) else x
theorem maxL_mem : ∀ {ns : List Int}, 0 < ns.length → maxL ns ∈ ns
  | [x], _ => .head _
  | x :: y :: t, _ => by
    have ih := maxL_mem (ns := y :: t) (by simp)
    unfold maxL
    by_cases c : maxL (y :: t) > x
    · rw [if_pos c]; exact .tail _ ih
    · rw [if_neg c]; exact .head _
theorem maxL_ge : ∀ {ns : List Int} {z : Int}, z ∈ ns → z ≤ maxL ns
  | [x], z, h => by
    have := List.mem_singleton.mp h
    subst this
    exact Int.le_refl _
  | x :: y :: t, z, h => by
    unfold maxL
    rcases List.mem_cons.mp h with e | h
    · subst e; split <;> omega
    · have := maxL_ge (ns := y :: t) h
      split <;> omega
theorem maxL_eq {ns : List Int} {m : Int} (h : m ∈ ns) (g : ∀ y, y ∈ ns → y ≤ m) : m = maxL ns := by
  have h1 := maxL_ge h
  have h2 := g _ (maxL_mem (List.length_pos_of_mem h))
  omega
end G

namespace G
open PySem PySem.Spec PyProof.Rows L2

/-! ### set(list of ints) with its walk; sorted(set(list)) -/
abbrev obS (w : World) : Obj := { cls := .type "set", dict := none, data := .set #[] 0 (.fresh 0 0 (!w.params.followText "set-order")) }
section
variable {P : Program} {w : World} {A : Around} {E : Value → Shared → Prop} {s : Shared}
theorem intsLen {vs : List Value} {ns : List Int} (h : IntsAre vs ns) : vs.length = ns.length := IntsAre.length h
theorem itemAt {items : Array Value} {ns : List Int} (sz : items.size = ns.length) (hit : IntsAre items.toList ns) {i : Nat} {v : Value} (hv : items[i]? = some v) : ∃ k t, ns[i]? = some k ∧ v = .int k t := by
  have lt : i < ns.length := sz ▸ (Array.getElem?_eq_some_iff.mp hv).1
  obtain ⟨t, e⟩ := PyProof.Rows.IntsAre.int_at hit i v ((Array.getElem?_toList).trans hv)
  exact ⟨ns[i], t, List.getElem?_eq_getElem lt, by rw [e, List.getD_eq_getElem?_getD, List.getElem?_eq_getElem lt]; rfl⟩
/-- the loop of set.update over a list -/
theorem updList {A : Around} {l : Addr} {items : Array Value} {ns : List Int} {R : Result → Shared → Prop} (hd : A.in1.handled = none) (hl : s.heap.IsList l items) (sz : items.size = ns.length) (hit : IntsAre items.toList ns) (hb : ns.length + 1 < scanBound)
    (k : ∀ h' tk c, SetR w h' s.heap.objs.size (fun j => decide (j ∈ ns)) c → c ≤ ns.length → (∀ b o, s.heap.get? b = some o → h'.get? b = some o) → R (.ok (.ret .none)) { s with heap := h', toks := tk }) :
    codeAny (model P w) A (.builtin "set.update.loop" ⟨[.ref s.heap.objs.size, .ref (s.heap.push (obS w)).objs.size], []⟩) R
      { s with heap := (s.heap.push (obS w)).push { cls := .type "list_iterator", data := .fields #[.ref l, .int 0 0] } } := by
  obtain ⟨ol, hol, -⟩ := id hl
  have lS : l < s.heap.objs.size := Heap.lt_size hol
  have z1 : (s.heap.push (obS w)).objs.size = s.heap.objs.size + 1 := Heap.size_push ..
  have n1 : l ≠ (s.heap.push (obS w)).objs.size := by rw [z1]; exact Nat.ne_of_lt (Nat.lt_succ_of_lt lS)
  have n2 : s.heap.objs.size ∉ [(s.heap.push (obS w)).objs.size, l] := by
    rw [z1]; intro q
    rcases List.mem_cons.mp q with q | q
    · exact Nat.ne_of_lt (Nat.lt_succ_self _) q
    · exact Nat.ne_of_gt lS (List.mem_singleton.mp q)
  have l1 : (s.heap.push (obS w)).IsList l items := hl.push _
  refine set_update_ints ((Walks.list hd _ l n1 items).toS) s.heap.objs.size n2 ns sz hb (fun i v hv => itemAt sz hit hv) (items.size - 0) 0 _ (by omega) (Nat.zero_le _)
    ⟨⟨_, Heap.get?_push_size _ rfl, rfl, rfl⟩, l1.push _⟩ ⟨0, Nat.le_refl 0, setR_new_at (Heap.get?_push_of_some _ (Heap.get?_push_size _ rfl))⟩ ?_
  rintro ⟨h', g2, d', tk', os'⟩ c' hm hc' hS'
  obtain rfl : g2 = s.gens := hm.gens
  obtain rfl : d' = s.drawn := hm.drawn
  obtain rfl : os' = s.os := hm.os
  refine k h' tk' c' hS' (sz ▸ hc') fun b o e => ?_
  have b0 : b < s.heap.objs.size := Heap.lt_size e
  exact hm.heap b o (fun q => by
    rcases List.mem_cons.mp q with q | q
    · exact Nat.ne_of_lt b0 q
    · rw [z1] at q; exact Nat.ne_of_lt (Nat.lt_succ_of_lt b0) (List.mem_singleton.mp q)) (Heap.get?_push_of_some _ (Heap.get?_push_of_some _ e))
set_option maxRecDepth 100000 in
theorem setOfList {l : Addr} {items : Array Value} (ns : List Int) {Q : Value → Shared → Prop} (hh : A.handled = none) (hl : s.heap.IsList l items) (hit : IntsAre items.toList ns) (hb : ns.length + 1 < scanBound)
    (k : ∀ h' tk c, SetR w h' s.heap.objs.size (fun j => decide (j ∈ ns)) c → c ≤ ns.length → (∀ b o, s.heap.get? b = some o → h'.get? b = some o) → Q (.ref s.heap.objs.size) { s with heap := h', toks := tk }) :
    wpAny (model P w) A (call (.type "set") [.ref l]) Q E s := by
  have sz : items.size = ns.length := (Array.length_toList (xs := items)).symm.trans (intsLen hit)
  obtain ⟨cm, tm, mro⟩ := F.called_set.mro
  have mk := F.called_set.made
  have su := F.called_set.sub
  refine wpAny_call (codeAny_of_tree ?_)
  show wpAny _ _ (callAny (.type "set") _) _ _ _
  refine wpAny_pure ⟨Code.quiet_builtin _ (by decide +kernel), codeAny_builtin F.entry_type_call ?_⟩
  rw [Around.under_plain (weight_type_call_type "set" [.ref l] []) rfl]
  have nt := F.called_set.notType
  have cc := F.called_set.canCreate
  have ct := F.typeCall_set_1 (.ref l)
  repeat (any_goals (first | assumption | wp_step))
  refine codeAny_mono (code_set_led1 (.ref l) (E := E) (Q₁ := fun o s₁ => o = .ref s.heap.objs.size ∧ s₁ = { s with heap := s.heap.push (obS w) }) ⟨rfl, rfl⟩) fun r s₁ hr => ?_
  cases r with
  | error e => exact hr
  | ok fl =>
  obtain ⟨obj, rfl⟩ : ∃ obj, fl = .ret obj := by
    cases fl <;> first | exact ⟨_, rfl⟩ | exact hr.elim
  obtain ⟨rfl, rfl⟩ := hr
  have gS : (s.heap.push (obS w)).get? s.heap.objs.size = some (obS w) := Heap.get?_push_size _ rfl
  have tS : Shared.TypeIs { s with heap := s.heap.push (obS w) } (.ref s.heap.objs.size) "set" := ⟨_, gS, rfl⟩
  have il := F.called_set.init.lookup
  have ib := F.called_set.init.bind (.ref s.heap.objs.size)
  repeat (any_goals (first | assumption | wp_step))
  refine codeAny_mono (codeAny_call_builtin (R := wants (fun r s₂ => r = .none ∧ ∃ h' tk c, s₂ = { s with heap := h', toks := tk } ∧ SetR w h' s.heap.objs.size (fun j => decide (j ∈ ns)) c ∧ c ≤ ns.length ∧ ∀ b o, s.heap.get? b = some o → h'.get? b = some o) E)
    F.called_set.init.plain F.entry_set_init (check_set_init_1 tS ?_)) fun r₂ s₂ hr₂ => ?_
  · obtain ⟨⟨oc, od, oda, osl⟩, hol, hcl, nl, hdl⟩ := id hl
    simp only at hcl hdl
    subst hcl hdl
    have hol' : (s.heap.push (obS w)).get? l = some { cls := .type "list", dict := od, data := .seq items nl, slots := osl } := Heap.get?_push_of_some _ hol
    have s1 := F.sub_list_set
    have s2 := F.sub_list_frozenset
    have ne : (Value.type "list" == Value.type "dict") = false := by decide
    have hl1 : (s.heap.push (obS w)).IsList l items := ⟨_, hol', rfl, nl, rfl⟩
    unfold Builtin.«set.__init__» noKeywords Builtin.Frozenset.updateFrom
    generalize hPI : pyIter = PI
    wp_walk
    subst hPI
    refine wpAny_pyIter_list hl1 (wpAny_bind (wpAny_runValue ?_))
    have hd : A.in1.in1.in1.handled = none := by simp [hh]
    refine updList hd hl sz hit hb fun h' tk c hS hc hk => ?_
    show wpAny _ _ _ _ _ _
    refine wpAny_pure ?_
    show wpAny _ _ (ret Value.none) _ _ _
    exact wpAny_pure ⟨rfl, h', tk, c, rfl, hS, hc, hk⟩
  · cases r₂ with
    | error e => exact hr₂
    | ok f2 =>
    obtain ⟨v2, rfl⟩ : ∃ v, f2 = .ret v := by
      cases f2 <;> first | exact ⟨_, rfl⟩ | exact hr₂.elim
    obtain ⟨rfl, h', tk, c, rfl, hS, hc, hk⟩ := hr₂
    repeat (any_goals (first | assumption | wp_step))
    exact k h' tk c hS hc hk
/-- sorted(set(e)), e a list of fewer than 64 ints -/
def ddup : List Int → List Int
  | [] => []
  | x :: t => if x ∈ t then ddup t else x :: ddup t
theorem mem_ddup {x : Int} : ∀ {ns : List Int}, x ∈ ddup ns ↔ x ∈ ns
  | [] => Iff.rfl
  | y :: t => by
    unfold ddup
    by_cases c : y ∈ t
    · rw [if_pos c, mem_ddup (ns := t), List.mem_cons]
      exact ⟨.inr, fun h => h.elim (fun e => e ▸ c) id⟩
    · rw [if_neg c, List.mem_cons, List.mem_cons, mem_ddup (ns := t)]
theorem nodup_ddup : ∀ ns : List Int, (ddup ns).Nodup
  | [] => .nil
  | y :: t => by
    unfold ddup
    by_cases c : y ∈ t
    · rw [if_pos c]; exact nodup_ddup t
    · rw [if_neg c]; exact List.nodup_cons.mpr ⟨fun h => c (mem_ddup.mp h), nodup_ddup t⟩
def mset (ns : List Int) : List Int := sortI (ddup ns)
theorem mem_mset {x : Int} {ns : List Int} : x ∈ mset ns ↔ x ∈ ns := (sortI_perm _).mem_iff.trans mem_ddup
theorem mset_strict (ns : List Int) : (mset ns).Pairwise (· < ·) := by
  have nd : (mset ns).Nodup := (sortI_perm _).nodup_iff.mpr (nodup_ddup ns)
  exact (List.Pairwise.and (sortI_sorted (ddup ns)) nd).imp fun {a b} h => by have := h.1; have := h.2; omega
theorem mset_eq {ns ms : List Int} (h : ms.Pairwise (· < ·)) (m : ∀ k : Int, k ∈ ms ↔ k ∈ ns) : ms = mset ns :=
  sorted_uniq ((List.perm_ext_iff_of_nodup (h.imp fun {a b} q => by omega) ((mset_strict ns).imp fun {a b} q => by omega)).mpr fun k => (m k).trans mem_mset.symm) (h.imp fun {a b} q => by omega) ((mset_strict ns).imp fun {a b} q => by omega)
def tSortSet (K : PySem.W.Frag) (ta : TE) : TE := fun σ H Q => ta σ H fun x H1 => ∃ (l : Addr) (ns : List Int), x = .ref l ∧ SqL K H1 l (ns.map V.int) ∧ ns.length < 64 ∧
  ∀ (ms : List Int) (p : Addr), ms.Pairwise (· < ·) → (∀ k : Int, k ∈ ms ↔ k ∈ ns) → H1 p = none → Q (.ref p) (upd H1 p (.lst (ms.map V.int)))
theorem pe_sortSet {X : Cx} {a : Expr} {ta : TE} {p p2 q pos : Pos} (hg : Gl X "sorted") (hm : X.mg "sorted" = none) (hg2 : Gl X "set") (hm2 : X.mg "set" = none) (ha : PE X a ta) (hc : X.calm = true := by rfl)
    (na : starEach [a] X.env = (false, eval a X.env) :: starEach [] X.env := by rfl) : PE X (.Call (.Name "sorted" p) [.Call (.Name "set" p2) [a] [] q] [] pos) (tSortSet X.K ta) := by
  refine ⟨fun pins s σ H Q I h => ?_⟩
  refine Call_ (ld_blt I hg hm (show bootBuiltins "sorted" = some (.builtin "sorted") by decide +kernel) ?_)
  refine PyProof.Rows.callWith_builtin1 (PyProof.Rows.args_cons (Call_ (ld_blt I hg2 hm2 boot_set ?_)) rfl) rfl rfl
  refine PyProof.Rows.callWith_type1 (PyProof.Rows.args_cons (thn (ha.run pins s σ H _ I h) fun v s1 ⟨x, H1, I1, rx, q1⟩ => PyProof.Rows.args_nil ?_) na) na rfl
  obtain ⟨l, ns, rfl, hq, h64, k⟩ := q1
  cases rx
  obtain ⟨its, rv, pl, -⟩ := I1.list hq
  refine setOfList ns (I1.ok.hd hc) pl.isList (by simpa using RZ.intsAre_vals rv) (by unfold scanBound; omega) fun h' tk c hS hcn hk => PyProof.Rows.args_nil ?_
  have I2 : Inv X pins σ H1 { s1 with heap := h', toks := tk } := I1.kept (t' := tk) hk
  have hS2 : SetR X.w ({ s1 with heap := h', toks := tk } : Shared).heap s1.heap.objs.size (fun j => decide (j ∈ ns)) c := hS
  generalize ({ s1 with heap := h', toks := tk } : Shared) = s2 at I2 hS2 ⊢
  refine sorted_set hS2 (I2.ok.hd hc) (by omega) fun s' p out cc ms k1 g o hp hgt hi hs hm hl => ?_
  have hn : H1 p = none := I2.hok.fresh hp
  have J : Inv X pins σ (upd H1 p (.lst (ms.map V.int))) { s2 with heap := s'.heap, gens := s'.gens, drawn := s'.drawn, toks := s'.toks } :=
    I2.call (ch := []) (Un.laid k1 hp hn) (I2.hok.laid k1 hp ⟨by rw [List.length_map, hl, sizeLine_eq]; omega, out.toList, cc, vals_of_ints hi, hgt⟩) (by rw [g]; exact I2.bare) (fun _ z => nomatch z)
  have e : s' = { s2 with heap := s'.heap, gens := s'.gens, drawn := s'.drawn, toks := s'.toks } := by
    cases s'; cases s2; cases o; rfl
  rw [e]
  exact ⟨.ref p, _, J, rfl, k ms p hs (fun j => by simpa using hm j) hn⟩
end

end G

namespace G
open PySem PySem.Spec PyProof.Rows L2

structure M_Gates where
  rows : (List (List Key))
  known : (List ((List Key) × Int))

structure M_Encoding where
  letters : (List (Int × Int))
  clauses : (List (List Int))
  gates : M_Gates

def m_law_seed_l1 : List Int → Int → Option Int
  | [], st1 => some st1
  | x24 :: t, st1 =>
    m_law_seed_l1 t ((((st1 * (69621 : Int)) + (x24 % (2147483647 : Int))) + (7 : Int)) % (2147483647 : Int))
def m_law_seed (x_script0 : (List Int)) : Option Int :=
  (m_law_seed_l1 x_script0 (1 : Int)).bind fun st1 =>
  some st1

def m_law_take (x_script0 : (List Int)) (x_source0 : (List Int)) (x_size0 : Int) : Option (Int × (List Int)) :=
  (((atI x_source0 (0 : Int)).bind fun y10 =>
      if (decide (y10 = (0 : Int))) = true then ((atI x_source0 (1 : Int)).bind fun y16 =>
      some (decide (y16 < (x_script0.length : Int)))) else (some false)).bind fun b8 =>
    if b8 = true then
      ((atI x_source0 (1 : Int)).bind fun y24 =>
      (atI x_script0 y24).bind fun y29 =>
      (ixN x_source0.length (0 : Int)).bind fun j34 =>
      (atI (x_source0.set j34 (if y29 < 0 then -y29 else y29)) (1 : Int)).bind fun y38 =>
      (ixN (x_source0.set j34 (if y29 < 0 then -y29 else y29)).length (1 : Int)).bind fun j43 =>
      some ((x_source0.set j34 (if y29 < 0 then -y29 else y29)).set j43 (y38 + (1 : Int))))
    else
      (some x_source0)).bind fun y6 =>
  (atI y6 (0 : Int)).bind fun y49 =>
  if (decide (y49 > (0 : Int))) = true then
    ((atI y6 (0 : Int)).bind fun y57 =>
    (grd (divOk x_size0)).bind fun _ =>
    (atI y6 (0 : Int)).bind fun y65 =>
    (grd (divOk x_size0)).bind fun _ =>
    (ixN y6.length (0 : Int)).bind fun j71 =>
    some ((y57 % x_size0), (y6.set j71 (y65 / x_size0))))
  else
    ((atI y6 (2 : Int)).bind fun y77 =>
    (ixN y6.length (2 : Int)).bind fun j82 =>
    (atI (y6.set j82 (((y77 * (48271 : Int)) + (12345 : Int)) % (2147483647 : Int))) (2 : Int)).bind fun y86 =>
    (grd (divOk x_size0)).bind fun _ =>
    some (((y86 / (1009 : Int)) % x_size0), (y6.set j82 (((y77 * (48271 : Int)) + (12345 : Int)) % (2147483647 : Int)))))

def m_Gates_init  : M_Gates :=
  (M_Gates.mk ([([Sum.inr ("no" : Str)] : List Key)] : (List (List Key))) ([] : (List ((List Key) × Int))))

def m_law_letter (x_script0 : (List Int)) (x_source0 : (List Int)) : Option (Int × (List Int)) :=
  (m_law_take x_script0 x_source0 (8 : Int)).bind fun y3 =>
  if (decide (y3.1 = (7 : Int))) = true then
    ((m_law_take x_script0 y3.2 (50 : Int)).bind fun y13 =>
    some (((900 : Int) + y13.1), y13.2))
  else
    ((m_law_take x_script0 y3.2 (6 : Int)).bind fun y22 =>
    some (((1 : Int) + y22.1), y22.2))

def m_law_row_l1 (x_rows0 : (List (List Key))) (x_row0 : (List Key)) : List Int → Unit → Option (Flw Unit (Int × (List (List Key))))
  | [], st1 => some (.done st1)
  | x23 :: t, st1 =>
    (atI x_rows0 x23).bind fun y25 =>
    (grd (DOk.ok y25)).bind fun _ =>
    (grd (DOk.ok x_row0)).bind fun _ =>
    if (decide (y25 = x_row0)) = true then
      (some (.ret (((2 : Int) * x23), x_rows0)))
    else
      (m_law_row_l1 x_rows0 x_row0 t ())
def m_law_row (x_rows0 : (List (List Key))) (x_row0 : (List Key)) : Option (Int × (List (List Key))) :=
  (grd (rngOk (x_rows0.length : Int))).bind fun _ =>
  (m_law_row_l1 x_rows0 x_row0 (pyRange 0 (x_rows0.length : Int).toNat) ()).bind fun y3 =>
  match y3 with
  | .ret r => some r
  | .done st1 =>
  (grd (decide (x_rows0.length < 16777216))).bind fun _ =>
  some ((((2 : Int) * ((x_rows0 ++ [x_row0]).length : Int)) - (2 : Int)), (x_rows0 ++ [x_row0]))

def m_Gates_edge_of (x_self0 : M_Gates) (x_row0 : (List Key)) : Option (Int × M_Gates) :=
  (if (!(mget x_self0.known x_row0).isSome) = true then
      ((grd (decide (x_self0.known.length < 16777216))).bind fun _ =>
      (grd (decide (x_self0.rows.length < 16777216))).bind fun _ =>
      some (M_Gates.mk (x_self0.rows ++ [x_row0]) (mput x_self0.known x_row0 ((2 : Int) * (x_self0.rows.length : Int)))))
    else
      (some (M_Gates.mk x_self0.rows x_self0.known))).bind fun y10 =>
  (mget y10.known x_row0).bind fun y21 =>
  some (y21, (M_Gates.mk y10.rows y10.known))

def m_Gates_leaf (x_self0 : M_Gates) (x_letter0 : Int) : Option (Int × M_Gates) :=
  (m_Gates_edge_of (M_Gates.mk x_self0.rows x_self0.known) ([Sum.inr ("letter" : Str), Sum.inl x_letter0] : List Key)).bind fun y7 =>
  some (y7.1, (M_Gates.mk y7.2.rows y7.2.known))

def m_law_opposite (x_edge0 : Int) : Int :=
  if (decide ((x_edge0 % (2 : Int)) = (0 : Int))) = true then
    ((x_edge0 + (1 : Int)))
  else
    ((x_edge0 - (1 : Int)))

def m_law_both (x_rows0 : (List (List Key))) (x_a0 : Int) (x_b0 : Int) : Option (Int × (List (List Key))) :=
  if ((decide (x_a0 = (0 : Int))) || ((decide (x_b0 = (0 : Int))) || (decide (x_a0 = (m_law_opposite x_b0))))) = true then
    (some ((0 : Int), x_rows0))
  else
    (if (decide (x_a0 = (1 : Int))) = true then
      (some (x_b0, x_rows0))
    else
      (if ((decide (x_b0 = (1 : Int))) || (decide (x_a0 = x_b0))) = true then
        (some (x_a0, x_rows0))
      else
        ((m_law_row x_rows0 ([Sum.inr ("both" : Str), Sum.inl (if x_b0 < x_a0 then x_b0 else x_a0), Sum.inl (if x_b0 > x_a0 then x_b0 else x_a0)] : List Key)).bind fun y19 =>
        some (y19.1, y19.2))))

def m_opposite (x_edge0 : Int) : Int :=
  (Builtin.bitXor x_edge0 (1 : Int))

def m_Gates_both (x_self0 : M_Gates) (x_a0 : Int) (x_b0 : Int) : Option (Int × M_Gates) :=
  if ((decide ((if x_b0 < x_a0 then x_b0 else x_a0) = (0 : Int))) || (decide ((if x_b0 < x_a0 then x_b0 else x_a0) = (m_opposite (if x_b0 > x_a0 then x_b0 else x_a0))))) = true then
    (some ((0 : Int), (M_Gates.mk x_self0.rows x_self0.known)))
  else
    (if ((decide ((if x_b0 < x_a0 then x_b0 else x_a0) = (1 : Int))) || (decide ((if x_b0 < x_a0 then x_b0 else x_a0) = (if x_b0 > x_a0 then x_b0 else x_a0)))) = true then
      (some ((if x_b0 > x_a0 then x_b0 else x_a0), (M_Gates.mk x_self0.rows x_self0.known)))
    else
      ((m_Gates_edge_of (M_Gates.mk x_self0.rows x_self0.known) ([Sum.inr ("both" : Str), Sum.inl (if x_b0 < x_a0 then x_b0 else x_a0), Sum.inl (if x_b0 > x_a0 then x_b0 else x_a0)] : List Key)).bind fun y19 =>
      some (y19.1, (M_Gates.mk y19.2.rows y19.2.known))))

def m_law_build_l1 (x_script0 : (List Int)) : List Int → ((List Int) × (List Int) × M_Gates × (List (List Key))) → Option (Flw ((List Int) × (List Int) × M_Gates × (List (List Key))) ((List Int) × (List Int) × M_Gates × (List (List Key))))
  | [], st1 => some (.done st1)
  | x72 :: t, st1 =>
    (m_law_letter x_script0 st1.2.1).bind fun y77 =>
    (m_law_row st1.2.2.2 ([Sum.inr ("letter" : Str), Sum.inl y77.1] : List Key)).bind fun y95 =>
    (m_Gates_leaf (M_Gates.mk st1.2.2.1.rows st1.2.2.1.known) y77.1).bind fun y107 =>
    if (!decide (y107.1 = y95.1)) = true then
      (none)
    else
      ((grd (decide (st1.1.length < 16777216))).bind fun _ =>
      (grd (decide ((st1.1 ++ [y95.1]).length < 16777216))).bind fun _ =>
      m_law_build_l1 x_script0 t (((st1.1 ++ [y95.1]) ++ [(m_law_opposite y95.1)]), y77.2, (M_Gates.mk y107.2.rows y107.2.known), y95.2))
def m_law_build_l2 (x_script0 : (List Int)) : List Int → ((List Int) × (List Int) × M_Gates × (List (List Key))) → Option (Flw ((List Int) × (List Int) × M_Gates × (List (List Key))) ((List Int) × (List Int) × M_Gates × (List (List Key))))
  | [], st2 => some (.done st2)
  | x200 :: t, st2 =>
    (m_law_take x_script0 st2.2.1 (if (10 : Int) < (st2.1.length : Int) then (10 : Int) else (st2.1.length : Int))).bind fun y205 =>
    (atI st2.1 (((st2.1.length : Int) - (1 : Int)) - y205.1)).bind fun y214 =>
    (m_law_take x_script0 y205.2 (st2.1.length : Int)).bind fun y221 =>
    (atI st2.1 y221.1).bind fun y230 =>
    (m_law_both st2.2.2.2 y214 y230).bind fun y238 =>
    (m_Gates_both (M_Gates.mk st2.2.2.1.rows st2.2.2.1.known) y214 y230).bind fun y250 =>
    if (!decide (y250.1 = y238.1)) = true then
      (none)
    else
      ((grd (decide (st2.1.length < 16777216))).bind fun _ =>
      (grd (decide ((st2.1 ++ [y238.1]).length < 16777216))).bind fun _ =>
      m_law_build_l2 x_script0 t (((st2.1 ++ [y238.1]) ++ [(m_law_opposite y238.1)]), y221.2, (M_Gates.mk y250.2.rows y250.2.known), y238.2))
def m_law_build (x_script0 : (List Int)) (x_source0 : (List Int)) (x_gates0 : M_Gates) (x_rows0 : (List (List Key))) (x_count0 : Int) : Option ((List Int) × (List Int) × M_Gates × (List (List Key))) :=
  (m_law_build_l1 x_script0 (pyRange 0 (3 : Int).toNat) (([(0 : Int), (1 : Int)] : (List Int)), x_source0, (M_Gates.mk x_gates0.rows x_gates0.known), x_rows0)).bind fun y9 =>
  match y9 with
  | .ret r => some r
  | .done st1 =>
  (grd (rngOk x_count0)).bind fun _ =>
  (m_law_build_l2 x_script0 (pyRange 0 x_count0.toNat) (st1.1, st1.2.1, (M_Gates.mk st1.2.2.1.rows st1.2.2.1.known), st1.2.2.2)).bind fun y132 =>
  match y132 with
  | .ret r => some r
  | .done st2 =>
  some (st2.1, st2.2.1, (M_Gates.mk st2.2.2.1.rows st2.2.2.1.known), st2.2.2.2)

def m_Gates_cone_l1 (x_self0 : M_Gates) : Nat → ((List Int) × (List (Int × Bool))) → Option ((List Int) × (List (Int × Bool)))
  | 0, _ => none
  | t + 1, st1 =>
    if (!st1.1.isEmpty) = true then
      ((st1.1.getLast?).bind fun y50 =>
      if ((decide (y50 > (0 : Int))) && (!(mget st1.2 y50).isSome)) = true then
        ((grd (decide (st1.2.length < 16777216))).bind fun _ =>
        (atI x_self0.rows y50).bind fun y66 =>
        (kStr y66 (0 : Int)).bind fun y73 =>
        if (decide (y73 = ("both" : Str))) = true then
          ((kInt y66 (1 : Int)).bind fun y78 =>
          (grd (decide (st1.1.dropLast.length < 16777216))).bind fun _ =>
          (kInt y66 (2 : Int)).bind fun y83 =>
          (grd (decide ((st1.1.dropLast ++ [(y78 / (2 : Int))]).length < 16777216))).bind fun _ =>
          m_Gates_cone_l1 x_self0 t (((st1.1.dropLast ++ [(y78 / (2 : Int))]) ++ [(y83 / (2 : Int))]), (mput st1.2 y50 true)))
        else
          (m_Gates_cone_l1 x_self0 t (st1.1.dropLast, (mput st1.2 y50 true))))
      else
        (m_Gates_cone_l1 x_self0 t (st1.1.dropLast, st1.2)))
    else
      some (st1.1, st1.2)
def m_Gates_cone (x_self0 : M_Gates) (x_edges0 : (List Int)) : Option (List Int) :=
  (grd (decide (x_edges0.length < 16777216))).bind fun _ =>
  (m_Gates_cone_l1 x_self0 fuel ((x_edges0.map fun x13 => (x13 / (2 : Int))), ([] : (List (Int × Bool))))).bind fun st1 =>
  some (sortI (st1.2.map (·.1)))

def m_Gates_gate_rows (x_self0 : M_Gates) (x_edges0 : (List Int)) : Option (List Int) :=
  (m_Gates_cone x_self0 x_edges0).bind fun y1 =>
  (grd (decide (y1.length < 16777216))).bind fun _ =>
  (lcO (fun x15 => (atI x_self0.rows x15).bind fun y34 =>
        (kStr y34 (0 : Int)).bind fun y41 =>
        if (decide (y41 = ("both" : Str))) = true then (some (some x15)) else some none) y1).bind fun y45 =>
  some y45

def m_Encoding_literal (x_self0 : M_Encoding) (x_edge0 : Int) : Option Int :=
  (atI x_self0.gates.rows (x_edge0 / (2 : Int))).bind fun y5 =>
  (kInt y5 (1 : Int)).bind fun y14 =>
  ((kStr y5 (0 : Int)).bind fun y21 =>
    if (decide (y21 = ("both" : Str))) = true then
      ((mget x_self0.letters (x_edge0 / (2 : Int))).bind fun y24 =>
      some y24)
    else
      (some y14)).bind fun y19 =>
  if (decide ((Builtin.bitAnd x_edge0 (1 : Int)) = (1 : Int))) = true then
    (some (-y19))
  else
    (some y19)

def m_normal_clause_l1 (x_literals0 : (List Int)) : List Int → Unit → Option (Flw Unit (Option (List Int)))
  | [], st1 => some (.done st1)
  | x48 :: t, st1 =>
    if (decide ((-x48) ∈ (mset x_literals0))) = true then
      (some (.ret none))
    else
      (m_normal_clause_l1 x_literals0 t ())
def m_normal_clause (x_literals0 : (List Int)) : Option (Option (List Int)) :=
  (grd (decide (x_literals0.length < 64))).bind fun _ =>
  (if (!(mset x_literals0).isEmpty) = true then ((atI (mset x_literals0) (0 : Int)).bind fun y23 =>
    some (decide (y23 < (0 : Int)))) else (some false)).bind fun b20 =>
  if b20 = true then
    ((m_normal_clause_l1 x_literals0 (mset x_literals0) ()).bind fun y29 =>
    match y29 with
    | .ret r => some r
    | .done st1 =>
    some (some (mset x_literals0)))
  else
    (some (some (mset x_literals0)))

def m_Encoding_init_l1 (x_gates0 : M_Gates) (x_first0 : Int) : List Int → M_Encoding → Option M_Encoding
  | [], st1 => some st1
  | x81 :: t, st1 =>
    (atI x_gates0.rows x81).bind fun y87 =>
    (kInt y87 (1 : Int)).bind fun y96 =>
    (m_Encoding_literal (M_Encoding.mk st1.letters st1.clauses (M_Gates.mk x_gates0.rows x_gates0.known)) y96).bind fun y98 =>
    (kInt y87 (2 : Int)).bind fun y102 =>
    (m_Encoding_literal (M_Encoding.mk st1.letters st1.clauses (M_Gates.mk x_gates0.rows x_gates0.known)) y102).bind fun y104 =>
    (grd (decide (st1.letters.length < 16777216))).bind fun _ =>
    (m_normal_clause ([(-(x_first0 + (st1.letters.length : Int))), y98] : (List Int))).bind fun y119 =>
    (y119).bind fun z128 =>
    (grd (decide (st1.clauses.length < 16777216))).bind fun _ =>
    (m_normal_clause ([(-(x_first0 + (st1.letters.length : Int))), y104] : (List Int))).bind fun y139 =>
    (y139).bind fun z148 =>
    (grd (decide ((st1.clauses ++ [z128]).length < 16777216))).bind fun _ =>
    (m_normal_clause ([(x_first0 + (st1.letters.length : Int)), (-y98), (-y104)] : (List Int))).bind fun y157 =>
    (y157).bind fun z166 =>
    (grd (decide (((st1.clauses ++ [z128]) ++ [z148]).length < 16777216))).bind fun _ =>
    m_Encoding_init_l1 x_gates0 x_first0 t (M_Encoding.mk (mput st1.letters x81 (x_first0 + (st1.letters.length : Int))) (((st1.clauses ++ [z128]) ++ [z148]) ++ [z166]) (M_Gates.mk x_gates0.rows x_gates0.known))
def m_Encoding_init (x_gates0 : M_Gates) (x_edges0 : (List Int)) (x_first0 : Int) : Option M_Encoding :=
  (m_Gates_gate_rows (M_Gates.mk x_gates0.rows x_gates0.known) x_edges0).bind fun y21 =>
  (m_Encoding_init_l1 x_gates0 x_first0 y21 (M_Encoding.mk ([] : (List (Int × Int))) ([] : (List (List Int))) (M_Gates.mk x_gates0.rows x_gates0.known))).bind fun st1 =>
  some (M_Encoding.mk st1.letters st1.clauses (M_Gates.mk x_gates0.rows x_gates0.known))

def m_law_reached_l1 : List Int → (List Bool) → Option (List Bool)
  | [], st1 => some st1
  | x57 :: t, st1 =>
    (ixN st1.length (x57 / (2 : Int))).bind fun j61 =>
    m_law_reached_l1 t (st1.set j61 true)
def m_law_reached_l2 (x_rows0 : (List (List Key))) : List Int → (List Bool) → Option (List Bool)
  | [], st2 => some st2
  | x93 :: t, st2 =>
    ((atI st2 x93).bind fun y97 =>
      if y97 = true then ((atI x_rows0 x93).bind fun y103 =>
      (kStr y103 (0 : Int)).bind fun y110 =>
      some (decide (y110 = ("both" : Str)))) else (some false)).bind fun b95 =>
    if b95 = true then
      ((atI x_rows0 x93).bind fun y115 =>
      (kInt y115 (1 : Int)).bind fun y122 =>
      (ixN st2.length (y122 / (2 : Int))).bind fun j124 =>
      (atI x_rows0 x93).bind fun y128 =>
      (kInt y128 (2 : Int)).bind fun y135 =>
      (ixN (st2.set j124 true).length (y135 / (2 : Int))).bind fun j137 =>
      m_law_reached_l2 x_rows0 t ((st2.set j124 true).set j137 true))
    else
      (m_law_reached_l2 x_rows0 t st2)
def m_law_reached (x_rows0 : (List (List Key))) (x_edges0 : (List Int)) : Option (List Int) :=
  (grd (decide (x_rows0.length < 16777216))).bind fun _ =>
  (m_law_reached_l1 x_edges0 (x_rows0.map fun x7 => false)).bind fun st1 =>
  (grd (rng2Ok ((x_rows0.length : Int) - (1 : Int)) (0 : Int))).bind fun _ =>
  (m_law_reached_l2 x_rows0 (pyRangeC ((x_rows0.length : Int) - (1 : Int)) (-1) (((x_rows0.length : Int) - (1 : Int)) - (0 : Int)).toNat) st1).bind fun st2 =>
  (grd (rng2Ok (1 : Int) (x_rows0.length : Int))).bind fun _ =>
  (grd (decide ((pyRange (1 : Int) ((x_rows0.length : Int) - (1 : Int)).toNat).length < 16777216))).bind fun _ =>
  (lcO (fun x146 => (atI st2 x146).bind fun y165 =>
        if y165 = true then (some (some x146)) else some none) (pyRange (1 : Int) ((x_rows0.length : Int) - (1 : Int)).toNat)).bind fun y172 =>
  some y172

def m_law_letters_l1 (x_rows0 : (List (List Key))) (x_first0 : Int) : List Int → (List (Int × Int)) → Option (List (Int × Int))
  | [], st1 => some st1
  | x44 :: t, st1 =>
    (atI x_rows0 x44).bind fun y48 =>
    (kStr y48 (0 : Int)).bind fun y55 =>
    if (decide (y55 = ("both" : Str))) = true then
      ((grd (decide (st1.length < 16777216))).bind fun _ =>
      m_law_letters_l1 x_rows0 x_first0 t (mput st1 x44 (x_first0 + (st1.length : Int))))
    else
      (m_law_letters_l1 x_rows0 x_first0 t st1)
def m_law_letters (x_rows0 : (List (List Key))) (x_edges0 : (List Int)) (x_first0 : Int) : Option (List (Int × Int)) :=
  (m_law_reached x_rows0 x_edges0).bind fun y12 =>
  (m_law_letters_l1 x_rows0 x_first0 y12 ([] : (List (Int × Int)))).bind fun st1 =>
  some st1

def m_law_is_literal (x_actual0 : Int) (x_due0 : Int) : Bool :=
  (decide (x_actual0 = x_due0))

def m_law_literal (x_rows0 : (List (List Key))) (x_letters0 : (List (Int × Int))) (x_edge0 : Int) : Option Int :=
  (atI x_rows0 (x_edge0 / (2 : Int))).bind fun y5 =>
  (kInt y5 (1 : Int)).bind fun y12 =>
  ((atI x_rows0 (x_edge0 / (2 : Int))).bind fun y19 =>
    (kStr y19 (0 : Int)).bind fun y26 =>
    if (decide (y26 = ("both" : Str))) = true then
      ((mget x_letters0 (x_edge0 / (2 : Int))).bind fun y29 =>
      some y29)
    else
      (some y12)).bind fun y17 =>
  if (decide ((x_edge0 % (2 : Int)) = (1 : Int))) = true then
    (some ((0 : Int) - y17))
  else
    (some y17)

def m_law_same_l2 (x_actual0 : (List (List Int))) (x_due0 : (List (List Int))) (x30 : Int) : List Int → Unit → Option (Flw Unit Bool)
  | [], st2 => some (.done st2)
  | x93 :: t, st2 =>
    (atI x_actual0 x30).bind fun y95 =>
    (atI y95 x93).bind fun y104 =>
    (atI x_due0 x30).bind fun y109 =>
    (atI y109 x93).bind fun y118 =>
    if (!(m_law_is_literal y104 y118)) = true then
      (some (.ret false))
    else
      (m_law_same_l2 x_actual0 x_due0 x30 t ())
def m_law_same_l1 (x_actual0 : (List (List Int))) (x_due0 : (List (List Int))) : List Int → Unit → Option (Flw Unit Bool)
  | [], st1 => some (.done st1)
  | x30 :: t, st1 =>
    ((atI x_actual0 x30).bind fun y36 =>
      (atI x_actual0 x30).bind fun y45 =>
      (atI x_due0 x30).bind fun y54 =>
      some (!decide ((y45.length : Int) = (y54.length : Int)))).bind fun b34 =>
    if b34 = true then
      (some (.ret false))
    else
      ((atI x_due0 x30).bind fun y67 =>
      (grd (rngOk (y67.length : Int))).bind fun _ =>
      (m_law_same_l2 x_actual0 x_due0 x30 (pyRange 0 (y67.length : Int).toNat) ()).bind fun y64 =>
      match y64 with
      | .ret r => some (.ret r)
      | .done st2 =>
      m_law_same_l1 x_actual0 x_due0 t ())
def m_law_same (x_actual0 : (List (List Int))) (x_due0 : (List (List Int))) : Option Bool :=
  if (!decide ((x_actual0.length : Int) = (x_due0.length : Int))) = true then
    (some false)
  else
    ((grd (rngOk (x_due0.length : Int))).bind fun _ =>
    (m_law_same_l1 x_actual0 x_due0 (pyRange 0 (x_due0.length : Int).toNat) ()).bind fun y6 =>
    match y6 with
    | .ret r => some r
    | .done st1 =>
    some true)

def m_law_clauses_l1 (x_rows0 : (List (List Key))) (x_letters0 : (List (Int × Int))) : List Int → (List (List Int)) → Option (List (List Int))
  | [], st1 => some st1
  | x48 :: t, st1 =>
    (mget x_letters0 x48).bind fun y54 =>
    (atI x_rows0 x48).bind fun y61 =>
    (kInt y61 (1 : Int)).bind fun y68 =>
    (m_law_literal x_rows0 x_letters0 y68).bind fun y70 =>
    (atI x_rows0 x48).bind fun y74 =>
    (kInt y74 (2 : Int)).bind fun y81 =>
    (m_law_literal x_rows0 x_letters0 y81).bind fun y83 =>
    (grd (decide (st1.length < 16777216))).bind fun _ =>
    (grd (decide ((st1 ++ [(sortI ([((0 : Int) - y54), y70] : (List Int)))]).length < 16777216))).bind fun _ =>
    (grd (decide (((st1 ++ [(sortI ([((0 : Int) - y54), y70] : (List Int)))]) ++ [(sortI ([((0 : Int) - y54), y83] : (List Int)))]).length < 16777216))).bind fun _ =>
    m_law_clauses_l1 x_rows0 x_letters0 t (((st1 ++ [(sortI ([((0 : Int) - y54), y70] : (List Int)))]) ++ [(sortI ([((0 : Int) - y54), y83] : (List Int)))]) ++ [(sortI ([y54, ((0 : Int) - y70), ((0 : Int) - y83)] : (List Int)))])
def m_law_clauses (x_rows0 : (List (List Key))) (x_letters0 : (List (Int × Int))) : Option (List (List Int)) :=
  (m_law_clauses_l1 x_rows0 x_letters0 (x_letters0.map (·.1)) ([] : (List (List Int)))).bind fun st1 =>
  some st1

def m_law_is_encoding_l1 (x_encoded0 : M_Encoding) (x_letters0 : (List (Int × Int))) : List Int → Unit → Option (Flw Unit Bool)
  | [], st1 => some (.done st1)
  | x43 :: t, st1 =>
    (mget x_encoded0.letters x43).bind fun y47 =>
    (mget x_letters0 x43).bind fun y52 =>
    if (!(m_law_is_literal y47 y52)) = true then
      (some (.ret false))
    else
      (m_law_is_encoding_l1 x_encoded0 x_letters0 t ())
def m_law_is_encoding_l3 (x_encoded0 : M_Encoding) (x_rows0 : (List (List Key))) (x_letters0 : (List (Int × Int))) : List Int → Unit → Option (Flw Unit Bool)
  | [], st3 => some (.done st3)
  | x124 :: t, st3 =>
    (m_Encoding_literal x_encoded0 x124).bind fun y128 =>
    (m_law_literal x_rows0 x_letters0 x124).bind fun y130 =>
    if (!(m_law_is_literal y128 y130)) = true then
      (some (.ret false))
    else
      (m_law_is_encoding_l3 x_encoded0 x_rows0 x_letters0 t ())
def m_law_is_encoding_l2 (x_encoded0 : M_Encoding) (x_rows0 : (List (List Key))) (x_letters0 : (List (Int × Int))) : List Int → Unit → Option (Flw Unit Bool)
  | [], st2 => some (.done st2)
  | x86 :: t, st2 =>
    ((atI x_rows0 x86).bind fun y90 =>
      (kStr y90 (0 : Int)).bind fun y97 =>
      if (decide (y97 = ("letter" : Str))) = true then (some true) else (some ((mget x_letters0 x86).isSome))).bind fun b88 =>
    if b88 = true then
      ((m_law_is_encoding_l3 x_encoded0 x_rows0 x_letters0 ([((2 : Int) * x86), (((2 : Int) * x86) + (1 : Int))] : (List Int)) ()).bind fun y101 =>
      match y101 with
      | .ret r => some (.ret r)
      | .done st3 =>
      m_law_is_encoding_l2 x_encoded0 x_rows0 x_letters0 t ())
    else
      (m_law_is_encoding_l2 x_encoded0 x_rows0 x_letters0 t ())
def m_law_is_encoding (x_encoded0 : M_Encoding) (x_rows0 : (List (List Key))) (x_letters0 : (List (Int × Int))) : Option Bool :=
  (some (!decide ((x_encoded0.letters.map (·.1)) = (x_letters0.map (·.1))))).bind fun b3 =>
  if b3 = true then
    (some false)
  else
    ((m_law_is_encoding_l1 x_encoded0 x_letters0 (x_letters0.map (·.1)) ()).bind fun y22 =>
    match y22 with
    | .ret r => some r
    | .done st1 =>
    (grd (rng2Ok (1 : Int) (x_rows0.length : Int))).bind fun _ =>
    (m_law_is_encoding_l2 x_encoded0 x_rows0 x_letters0 (pyRange (1 : Int) ((x_rows0.length : Int) - (1 : Int)).toNat) ()).bind fun y62 =>
    match y62 with
    | .ret r => some r
    | .done st2 =>
    (m_law_clauses x_rows0 x_letters0).bind fun y135 =>
    (m_law_same x_encoded0.clauses y135).bind fun y145 =>
    some y145)

def m_law_value (x_truths0 : (List Bool)) (x_edge0 : Int) : Option Bool :=
  (atI x_truths0 (x_edge0 / (2 : Int))).bind fun y1 =>
  some (!decide (y1 = (decide ((x_edge0 % (2 : Int)) = (1 : Int)))))

def m_law_truths_l1 (x_rows0 : (List (List Key))) (x_choices0 : (List (Int × Bool))) : List Int → (List Bool) → Option (List Bool)
  | [], st1 => some st1
  | x39 :: t, st1 =>
    (atI x_rows0 x39).bind fun y43 =>
    (kStr y43 (0 : Int)).bind fun y50 =>
    if (decide (y50 = ("letter" : Str))) = true then
      ((kInt y43 (1 : Int)).bind fun y53 =>
      (mget x_choices0 y53).bind fun y55 =>
      (grd (decide (st1.length < 16777216))).bind fun _ =>
      m_law_truths_l1 x_rows0 x_choices0 t (st1 ++ [y55]))
    else
      (((kInt y43 (1 : Int)).bind fun y65 =>
        (m_law_value st1 y65).bind fun y67 =>
        if y67 = true then ((kInt y43 (2 : Int)).bind fun y70 =>
        (m_law_value st1 y70).bind fun y72 =>
        some y72) else (some false)).bind fun b63 =>
      (grd (decide (st1.length < 16777216))).bind fun _ =>
      m_law_truths_l1 x_rows0 x_choices0 t (st1 ++ [b63]))
def m_law_truths (x_rows0 : (List (List Key))) (x_choices0 : (List (Int × Bool))) : Option (List Bool) :=
  (grd (rng2Ok (1 : Int) (x_rows0.length : Int))).bind fun _ =>
  (m_law_truths_l1 x_rows0 x_choices0 (pyRange (1 : Int) ((x_rows0.length : Int) - (1 : Int)).toNat) ([false] : (List Bool))).bind fun st1 =>
  some st1

def m_law_full_l1 (x_truths0 : (List Bool)) (x_letters0 : (List (Int × Int))) : List Int → (List (Int × Bool)) → Option (List (Int × Bool))
  | [], st1 => some st1
  | x36 :: t, st1 =>
    (atI x_truths0 x36).bind fun y40 =>
    (mget x_letters0 x36).bind fun y45 =>
    (grd (decide (st1.length < 16777216))).bind fun _ =>
    m_law_full_l1 x_truths0 x_letters0 t (mput st1 y45 y40)
def m_law_full (x_truths0 : (List Bool)) (x_letters0 : (List (Int × Int))) (x_choices0 : (List (Int × Bool))) : Option (List (Int × Bool)) :=
  (m_law_full_l1 x_truths0 x_letters0 (x_letters0.map (·.1)) x_choices0).bind fun st1 =>
  some st1

def m_law_all_true_l1 (x_choices0 : (List (Int × Bool))) : List (List Int) → Unit → Option (Flw Unit Bool)
  | [], st1 => some (.done st1)
  | x30 :: t, st1 =>
    (grd (decide (x30.length < 16777216))).bind fun _ =>
    (lcO (fun x44 => (mget x_choices0 (if x44 < 0 then -x44 else x44)).bind fun y63 =>
          if (decide (y63 = (decide (x44 > (0 : Int))))) = true then (some (some x44)) else some none) x30).bind fun y70 =>
    if (decide (y70 = ([] : (List Int)))) = true then
      (some (.ret false))
    else
      (m_law_all_true_l1 x_choices0 t ())
def m_law_all_true (x_clauses0 : (List (List Int))) (x_choices0 : (List (Int × Bool))) : Option Bool :=
  (m_law_all_true_l1 x_choices0 x_clauses0 ()).bind fun y3 =>
  match y3 with
  | .ret r => some r
  | .done st1 =>
  some true

def m_law_means (x_clauses0 : (List (List Int))) (x_letters0 : (List (Int × Int))) (x_truths0 : (List Bool)) (x_choices0 : (List (Int × Bool))) (x_at0 : Int) : Option Bool :=
  (m_law_full x_truths0 x_letters0 x_choices0).bind fun y3 =>
  (m_law_all_true x_clauses0 y3).bind fun y15 =>
  if (!y15) = true then
    (some false)
  else
    (if (decide ((x_letters0.map (·.1)) = ([] : (List Int)))) = true then
      (some true)
    else
      ((grd (divOk ((x_letters0.map (·.1)).length : Int))).bind fun _ =>
      (atI (x_letters0.map (·.1)) (x_at0 % ((x_letters0.map (·.1)).length : Int))).bind fun y41 =>
      (mget x_letters0 y41).bind fun y46 =>
      (mget y3 y46).bind fun y53 =>
      (grd (decide (y3.length < 16777216))).bind fun _ =>
      (m_law_all_true x_clauses0 (mput y3 y46 (!y53))).bind fun y61 =>
      some (!y61)))

def m_truth_clauses (x_gates0 : M_Gates) (x_edge0 : Int) (x_first0 : Int) : Option (List (List Int)) :=
  if (decide (x_edge0 = (1 : Int))) = true then
    (some ([] : (List (List Int))))
  else
    (if (decide (x_edge0 = (0 : Int))) = true then
      (some ([([] : (List Int))] : (List (List Int))))
    else
      ((m_Encoding_init (M_Gates.mk x_gates0.rows x_gates0.known) ([x_edge0] : (List Int)) x_first0).bind fun y37 =>
      (m_Encoding_literal (M_Encoding.mk y37.letters y37.clauses (M_Gates.mk x_gates0.rows x_gates0.known)) x_edge0).bind fun y50 =>
      (grd (decide (y37.clauses.length + ([([y50] : (List Int))] : (List (List Int))).length ≤ 16777216))).bind fun _ =>
      some (y37.clauses ++ ([([y50] : (List Int))] : (List (List Int))))))

def m_law_truth (x_rows0 : (List (List Key))) (x_edge0 : Int) (x_first0 : Int) : Option (List (List Int)) :=
  if (decide (x_edge0 = (1 : Int))) = true then
    (some ([] : (List (List Int))))
  else
    (if (decide (x_edge0 = (0 : Int))) = true then
      (some ([([] : (List Int))] : (List (List Int))))
    else
      ((m_law_letters x_rows0 ([x_edge0] : (List Int)) x_first0).bind fun y28 =>
      (m_law_clauses x_rows0 y28).bind fun y40 =>
      (m_law_literal x_rows0 y28 x_edge0).bind fun y52 =>
      (grd (decide (y40.length < 16777216))).bind fun _ =>
      some (y40 ++ [([y52] : (List Int))])))

def m_law_l1 (x_script0 : (List Int)) (y73 : ((List Int) × (List Int) × M_Gates × (List (List Key)))) : List Int → ((List Int) × (List Int)) → Option ((List Int) × (List Int))
  | [], st1 => some st1
  | x208 :: t, st1 =>
    (m_law_take x_script0 st1.1 (y73.1.length : Int)).bind fun y210 =>
    (atI y73.1 (((y73.1.length : Int) - (1 : Int)) - y210.1)).bind fun y219 =>
    (grd (decide (st1.2.length < 16777216))).bind fun _ =>
    m_law_l1 x_script0 y73 t (y210.2, (st1.2 ++ [y219]))
def m_law_l2 (x_script0 : (List Int)) : List (List Key) → ((List (Int × Bool)) × (List Int)) → Option ((List (Int × Bool)) × (List Int))
  | [], st2 => some st2
  | x331 :: t, st2 =>
    (kStr x331 (0 : Int)).bind fun y337 =>
    if (decide (y337 = ("letter" : Str))) = true then
      ((m_law_take x_script0 st2.2 (2 : Int)).bind fun y341 =>
      (kInt x331 (1 : Int)).bind fun y350 =>
      (grd (decide (st2.1.length < 16777216))).bind fun _ =>
      m_law_l2 x_script0 t ((mput st2.1 y350 (decide (y341.1 = (1 : Int)))), y341.2))
    else
      (m_law_l2 x_script0 t (st2.1, st2.2))
def m_law_l3 (y73 : ((List Int) × (List Int) × M_Gates × (List (List Key)))) (y133 : (List Int)) (y153 : Int) (st2 : ((List (Int × Bool)) × (List Int))) (y358 : (List Bool)) : List Int → Unit → Option (Flw Unit Bool)
  | [], st3 => some (.done st3)
  | x444 :: t, st3 =>
    (m_truth_clauses (M_Gates.mk y73.2.2.1.rows y73.2.2.1.known) x444 ((maxL y133) + y153)).bind fun y451 =>
    (m_law_truth y73.2.2.2 x444 ((maxL y133) + y153)).bind fun y463 =>
    (m_law_same y451 y463).bind fun y473 =>
    if (!y473) = true then
      (none)
    else
      ((m_law_letters y73.2.2.2 ([x444] : (List Int)) ((maxL y133) + y153)).bind fun y482 =>
      (m_law_full y358 y482 st2.1).bind fun y492 =>
      (m_law_all_true y451 y492).bind fun y502 =>
      (m_law_value y358 x444).bind fun y509 =>
      if (!decide (y502 = y509)) = true then
        (none)
      else
        (m_law_l3 y73 y133 y153 st2 y358 t ()))
def m_law (x_script0 : (List Int)) : Option Bool :=
  (m_law_seed x_script0).bind fun y3 =>
  (m_law_take x_script0 ([(0 : Int), (0 : Int), y3] : (List Int)) (13 : Int)).bind fun y11 =>
  ((m_law_take x_script0 y11.2 (8 : Int)).bind fun y27 =>
    if (decide (y27.1 = (5 : Int))) = true then
      (some ((y11.1 + (40 : Int)), y27.2))
    else
      (some (y11.1, y27.2))).bind fun y25 =>
  (m_law_build x_script0 y25.2 (M_Gates.mk ((m_Gates_init).rows) ((m_Gates_init).known)) ([([Sum.inr ("no" : Str)] : List Key)] : (List (List Key))) y25.1).bind fun y73 =>
  if (decide (y73.1 = ([] : (List Int)))) = true then
    (none)
  else
    ((grd (decide (y73.2.2.2.length < 16777216))).bind fun _ =>
    (lcO (fun x106 => (kStr x106 (0 : Int)).bind fun y127 =>
          if (decide (y127 = ("letter" : Str))) = true then ((kInt x106 (1 : Int)).bind fun y130 =>
          some (some y130)) else some none) y73.2.2.2).bind fun y133 =>
    (grd (decide (0 < y133.length))).bind fun _ =>
    (m_law_take x_script0 y73.2.1 (4 : Int)).bind fun y144 =>
    (atI ([(1 : Int), (2 : Int), (4 : Int), (900001 : Int)] : (List Int)) y144.1).bind fun y153 =>
    (m_law_take x_script0 y144.2 (4 : Int)).bind fun y170 =>
    (grd (rngOk y170.1)).bind fun _ =>
    (m_law_l1 x_script0 y73 (pyRange 0 y170.1.toNat) (y170.2, ([] : (List Int)))).bind fun st1 =>
    (m_Encoding_init (M_Gates.mk y73.2.2.1.rows y73.2.2.1.known) st1.2 ((maxL y133) + y153)).bind fun y244 =>
    if (!decide (st1.2 = st1.2)) = true then
      (none)
    else
      ((atI y73.1 ((y73.1.length : Int) - (1 : Int))).bind fun y262 =>
      (grd (decide (st1.2.length < 16777216))).bind fun _ =>
      (m_law_letters y73.2.2.2 st1.2 ((maxL y133) + y153)).bind fun y272 =>
      (m_law_is_encoding (M_Encoding.mk y244.letters y244.clauses (M_Gates.mk y73.2.2.1.rows y73.2.2.1.known)) y73.2.2.2 y272).bind fun y284 =>
      if (!y284) = true then
        (none)
      else
        ((m_law_l2 x_script0 y73.2.2.2 (([] : (List (Int × Bool))), st1.1)).bind fun st2 =>
        (m_law_truths y73.2.2.2 st2.1).bind fun y358 =>
        (m_law_take x_script0 st2.2 (60 : Int)).bind fun y371 =>
        (m_law_means y244.clauses y272 y358 st2.1 y371.1).bind fun y381 =>
        if (!y381) = true then
          (none)
        else
          ((m_law_take x_script0 y371.2 (y73.1.length : Int)).bind fun y392 =>
          (atI y73.1 y392.1).bind fun y401 =>
          (atI y73.1 ((y73.1.length : Int) - (1 : Int))).bind fun y411 =>
          (m_law_l3 y73 y133 y153 st2 y358 ([(0 : Int), (1 : Int), y411, y401] : (List Int)) ()).bind fun y408 =>
          match y408 with
          | .ret r => some r
          | .done st3 =>
          ((grd (DOk.ok y73.2.2.1.rows)).bind fun _ =>
            (grd (DOk.ok y73.2.2.2)).bind fun _ =>
            if (decide (y73.2.2.1.rows = y73.2.2.2)) = true then ((m_law_is_encoding (M_Encoding.mk y244.letters y244.clauses (M_Gates.mk y73.2.2.1.rows y73.2.2.1.known)) y73.2.2.2 y272).bind fun y522 =>
            some y522) else (some false)).bind fun b513 =>
          some b513))))
end G

namespace G
open PySem PySem.Spec PyProof.Rows L2

/-! ## the draws -/
theorem seed_l1 : ∀ (ns : List Int) (s : Int), 0 ≤ s → ∃ y, m_law_seed_l1 ns s = some y ∧ 0 ≤ y
  | [], s, h => ⟨s, rfl, h⟩
  | n :: ns, s, h => by
    rw [m_law_seed_l1]
    exact seed_l1 ns _ (by omega)
theorem seed_ok (ns : List Int) : ∃ y, m_law_seed ns = some y ∧ 0 ≤ y := by
  obtain ⟨y, h1, h2⟩ := seed_l1 ns 1 (by decide)
  exact ⟨y, by simp [m_law_seed, h1], h2⟩
/-- the drawing state -/
def Src (l : List Int) : Prop := ∃ p q s : Int, l = [p, q, s] ∧ 0 ≤ p ∧ 0 ≤ q ∧ 0 ≤ s
theorem at0 (p q s : Int) : atI [p, q, s] 0 = some p := rfl
theorem at1 (p q s : Int) : atI [p, q, s] 1 = some q := rfl
theorem at2 (p q s : Int) : atI [p, q, s] 2 = some s := rfl
theorem ix0 (p q s : Int) : ixN [p, q, s].length 0 = some 0 := rfl
theorem ix1 (p q s : Int) : ixN [p, q, s].length 1 = some 1 := rfl
theorem ix2 (p q s : Int) : ixN [p, q, s].length 2 = some 2 := rfl
theorem atI_lt {α : Type} {xs : List α} {i : Int} (h0 : 0 ≤ i) (h1 : i < xs.length) : ∃ x, atI xs i = some x ∧ x ∈ xs ∧ xs[i.toNat]? = some x := by
  have hl : i.toNat < xs.length := by omega
  refine ⟨xs[i.toNat], ?_, List.getElem_mem hl, by simp [hl]⟩
  have e := atI_nat (xs := xs) (j := i.toNat) (v := xs[i.toNat]) (by simp [hl])
  have e2 : ((i.toNat : Nat) : Int) = i := by omega
  rw [e2] at e
  exact e
theorem grd_t {b : Bool} {β : Type} {f : Unit → Option β} (h : b = true) : (grd b).bind f = f () := by subst h; rfl
theorem bs {α β : Type} {m : Option α} {x : α} {f : α → Option β} (h : m = some x) : m.bind f = f x := by rw [h, Option.bind_some]
theorem divOk_t {j : Int} (h : 0 < j) (h2 : j < 1073741824) : divOk j = true := decide_eq_true ⟨h, h2⟩
theorem take_ok (ns src : List Int) (size : Int) (h : Src src) (h0 : 0 < size) (h1 : size < 1073741824) :
    ∃ d src', m_law_take ns src size = some (d, src') ∧ 0 ≤ d ∧ d < size ∧ Src src' := by
  obtain ⟨p, q, s, rfl, hp, hq, hs⟩ := h
  have last : ∀ p q s : Int, 0 ≤ p → 0 ≤ q → 0 ≤ s → ∃ d src', ((atI [p, q, s] (0 : Int)).bind fun y45 =>
      if (decide (y45 > (0 : Int))) = true then
        ((atI [p, q, s] (0 : Int)).bind fun y51 => (grd (divOk size)).bind fun _ => (atI [p, q, s] (0 : Int)).bind fun y57 =>
        (grd (divOk size)).bind fun _ => (ixN [p, q, s].length (0 : Int)).bind fun j63 => some ((y51 % size), ([p, q, s].set j63 (y57 / size))))
      else
        ((atI [p, q, s] (2 : Int)).bind fun y67 => (ixN [p, q, s].length (2 : Int)).bind fun j72 =>
        (atI ([p, q, s].set j72 (((y67 * (48271 : Int)) + (12345 : Int)) % (2147483647 : Int))) (2 : Int)).bind fun y76 =>
        (grd (divOk size)).bind fun _ => some (((y76 / (1009 : Int)) % size), ([p, q, s].set j72 (((y67 * (48271 : Int)) + (12345 : Int)) % (2147483647 : Int)))))) = some (d, src') ∧ 0 ≤ d ∧ d < size ∧ Src src' := by
    intro p q s hp hq hs
    rw [at0]
    simp only [Option.bind_some]
    by_cases c : p > 0
    · rw [if_pos (decide_eq_true c)]
      simp only [at0, ix0, Option.bind_some, grd_t (divOk_t h0 h1)]
      exact ⟨_, _, rfl, Int.emod_nonneg _ (by omega), Int.emod_lt_of_pos _ h0, p / size, q, s, rfl, Int.ediv_nonneg hp (by omega), hq, hs⟩
    · rw [if_neg (by simpa using c), at2, ix2]
      simp only [Option.bind_some]
      show ∃ d src', ((atI [p, q, (s * 48271 + 12345) % 2147483647] (2 : Int)).bind fun y76 => _) = _ ∧ _
      rw [at2]
      simp only [Option.bind_some, grd_t (divOk_t h0 h1)]
      exact ⟨_, _, rfl, Int.emod_nonneg _ (by omega), Int.emod_lt_of_pos _ h0, p, q, (s * 48271 + 12345) % 2147483647, rfl, hp, hq, by omega⟩
  unfold m_law_take
  rw [at0, at1]
  simp only [Option.bind_some]
  by_cases c : p = 0 ∧ q < ns.length
  · obtain ⟨c1, c2⟩ := c
    rw [if_pos (decide_eq_true c1)]
    simp only [Option.bind_some]
    rw [if_pos (decide_eq_true c2)]
    obtain ⟨x, hx, _⟩ := atI_lt hq c2
    rw [hx, ix0]
    simp only [Option.bind_some]
    show ∃ d src', ((((atI [if x < 0 then -x else x, q, s] (1 : Int)).bind fun y36 => (ixN [if x < 0 then -x else x, q, s].length (1 : Int)).bind fun j41 => some ([if x < 0 then -x else x, q, s].set j41 (y36 + (1 : Int)))).bind _)) = _ ∧ _
    rw [at1, ix1]
    simp only [Option.bind_some]
    exact last (if x < 0 then -x else x) (q + 1) s (by split <;> omega) (by omega) hs
  · by_cases c1 : p = 0
    · rw [if_pos (decide_eq_true c1)]
      simp only [Option.bind_some]
      rw [if_neg (by simp; omega)]
      exact last p q s hp hq hs
    · rw [if_neg (by simpa using c1)]
      simp only [Option.bind_some]
      rw [if_neg (by simp)]
      exact last p q s hp hq hs

end G

namespace G
open PySem PySem.Spec PyProof.Rows L2

/-! ## edges, rows -/
theorem opp_eq (e : Int) : m_opposite e = m_law_opposite e := by
  unfold m_opposite m_law_opposite
  rw [bitXor_and, bitAnd_m1]
  by_cases c : e % 2 = 0
  · rw [if_pos (decide_eq_true c)]; omega
  · rw [if_neg (by simpa using c)]; omega
theorem opp_nn {e : Int} (h : 0 ≤ e) : 0 ≤ m_law_opposite e := by
  unfold m_law_opposite
  by_cases c : e % 2 = 0
  · rw [if_pos (decide_eq_true c)]; omega
  · rw [if_neg (by simpa using c)]; omega
theorem opp_iff (a b : Int) : a = m_law_opposite b ↔ (b % 2 = 0 ∧ a = b + 1) ∨ (b % 2 = 1 ∧ a = b - 1) := by
  unfold m_law_opposite
  by_cases c : b % 2 = 0
  · rw [if_pos (decide_eq_true c)]; omega
  · rw [if_neg (by simpa using c)]; omega

/-- the place of a row -/
def fnd (row : List Key) : List (List Key) → Option Nat
  | [] => none
  | r :: rs => if r = row then some 0 else (fnd row rs).map (· + 1)
theorem fnd_lt {row : List Key} : ∀ {rs : List (List Key)} {k : Nat}, fnd row rs = some k → k < rs.length
  | r :: rs, k, h => by
    unfold fnd at h
    by_cases c : r = row
    · rw [if_pos c] at h; cases h; simp
    · rw [if_neg c] at h
      cases e : fnd row rs with
      | none => rw [e] at h; cases h
      | some j =>
        rw [e] at h
        cases h
        have := fnd_lt e
        simp; omega
theorem fnd_snoc {row x : List Key} : ∀ {rs : List (List Key)}, fnd row (rs ++ [x]) = match fnd row rs with
    | some k => some k
    | none => if x = row then some rs.length else none
  | [] => by
    show (if x = row then some 0 else none) = _
    rfl
  | r :: rs => by
    show (if r = row then some 0 else (fnd row (rs ++ [x])).map (· + 1)) = _
    rw [fnd_snoc (rs := rs)]
    show _ = match (if r = row then some 0 else (fnd row rs).map (· + 1)) with
      | some k => some k
      | none => if x = row then some (r :: rs).length else none
    by_cases c : r = row
    · simp [c]
    · rw [if_neg c, if_neg c]
      cases fnd row rs with
      | none =>
        by_cases c2 : x = row
        · simp [c2]
        · simp [c2]
      | some k => simp
def okRow (r : List Key) : Prop := DOk.ok r = true
/-- the linear search -/
theorem row_l1 (rows : List (List Key)) (row : List Key) (ho : ∀ r ∈ rows, okRow r) (hr : okRow row) : ∀ (n i : Nat), i + n = rows.length →
    m_law_row_l1 rows row ((List.range' i n).map fun (j : Nat) => (0 : Int) + (j : Int)) () = match fnd row (rows.drop i) with
      | some k => some (Flw.ret (2 * ((i + k : Nat) : Int), rows))
      | none => some (Flw.done ())
  | 0, i, h => by
    rw [List.drop_eq_nil_of_le (by omega)]
    rfl
  | n + 1, i, h => by
    have hl : i < rows.length := by omega
    rw [List.range'_succ, List.map_cons, m_law_row_l1]
    have e : atI rows ((0 : Int) + (i : Int)) = some rows[i] := by
      rw [Int.zero_add]
      exact atI_nat (by simp [hl])
    rw [e, List.drop_eq_getElem_cons hl]
    simp only [Option.bind_some]
    rw [grd_t (ho _ (List.getElem_mem hl)), grd_t hr]
    show _ = match (if rows[i] = row then some 0 else (fnd row (rows.drop (i + 1))).map (· + 1)) with
      | some k => some (Flw.ret (2 * ((i + k : Nat) : Int), rows))
      | none => some (Flw.done ())
    by_cases c : rows[i] = row
    · rw [if_pos (decide_eq_true c), if_pos c]
      simp
    · rw [if_neg (by simpa using c), if_neg c, row_l1 rows row ho hr n (i + 1) (by omega)]
      cases fnd row (rows.drop (i + 1)) with
      | none => rfl
      | some k =>
        show some (Flw.ret (2 * ((i + 1 + k : Nat) : Int), rows)) = some (Flw.ret (2 * ((i + (k + 1) : Nat) : Int), rows))
        rw [show i + 1 + k = i + (k + 1) by omega]
theorem rngOk_t {j : Int} (h0 : 0 ≤ j) (h1 : j < 16777216) : rngOk j = true := decide_eq_true ⟨by omega, by omega⟩
theorem rngOk_len {n : Nat} (h : n < 16777216) : rngOk (n : Int) = true := decide_eq_true ⟨by omega, by omega⟩
theorem law_row (rows : List (List Key)) (row : List Key) (ho : ∀ r ∈ rows, okRow r) (hr : okRow row) (hl : rows.length < 16777216) :
    m_law_row rows row = some (match fnd row rows with
      | some k => (2 * (k : Int), rows)
      | none => (2 * (rows.length : Int), rows ++ [row])) := by
  unfold m_law_row
  rw [grd_t (rngOk_len hl)]
  have e : pyRange 0 ((rows.length : Int)).toNat = (List.range' 0 rows.length).map fun (j : Nat) => (0 : Int) + (j : Int) := by
    unfold pyRange
    rw [List.range_eq_range']
    rfl
  rw [e, row_l1 rows row ho hr rows.length 0 (by omega), List.drop_zero]
  cases fnd row rows with
  | some k => simp
  | none =>
    simp only [Option.bind_some]
    rw [grd_t (decide_eq_true hl)]
    simp
    omega

/-! ## the two tables -/
/-- the program's table tells the same places as a search in the rows -/
structure Sim (G : M_Gates) (rows : List (List Key)) : Prop where
  eqr : G.rows = rows
  ok : ∀ r ∈ rows, okRow r
  first : ∃ rs, rows = [Sum.inr ("no" : Str)] :: rs
  len : G.known.length + 1 = rows.length
  look : ∀ row : List Key, row ≠ [Sum.inr ("no" : Str)] → mget G.known row = (fnd row rows).map fun k => 2 * (k : Int)
theorem mget_put_new {κ α : Type} [DecidableEq κ] {xs : List (κ × α)} {k : κ} {x : α} (h : mget xs k = none) : mput xs k x = xs ++ [(k, x)] := by
  unfold mput
  rw [if_neg]
  intro c
  obtain ⟨p, hp, e⟩ := List.any_eq_true.mp c
  unfold mget at h
  rw [Option.map_eq_none_iff, List.find?_eq_none] at h
  exact h p hp e
theorem mget_snoc {κ α : Type} [DecidableEq κ] {xs : List (κ × α)} {k j : κ} {x : α} : mget (xs ++ [(k, x)]) j = match mget xs j with
    | some y => some y
    | none => if k = j then some x else none := by
  unfold mget
  rw [List.find?_append]
  cases xs.find? fun p => decide (p.1 = j) with
  | some p => simp
  | none =>
    by_cases c : k = j
    · simp [List.find?_cons, c]
    · simp [List.find?_cons, c]
theorem edge_of_hit {G : M_Gates} {row : List Key} {e : Int} (q : mget G.known row = some e) : m_Gates_edge_of G row = some (e, G) := by
  unfold m_Gates_edge_of
  rw [q, if_neg (by simp)]
  simp only [Option.bind_some]
  rw [q]
  rfl
theorem edge_of {G : M_Gates} {rows : List (List Key)} (S : Sim G rows) (row : List Key) (hr : okRow row) (hn : row ≠ [Sum.inr ("no" : Str)]) (hl : rows.length < 16777216) :
    ∃ e rows' G', m_law_row rows row = some (e, rows') ∧ m_Gates_edge_of G row = some (e, G') ∧ Sim G' rows' ∧ 0 ≤ e ∧ rows.length ≤ rows'.length ∧ rows'.length ≤ rows.length + 1 ∧
      m_Gates_edge_of G' row = some (e, G') := by
  rw [law_row rows row S.ok hr hl]
  have q := S.look row hn
  cases c : fnd row rows with
  | some k =>
    rw [c] at q
    have e : m_Gates_edge_of G row = some (2 * (k : Int), G) := edge_of_hit q
    exact ⟨_, rows, G, rfl, e, S, by omega, Nat.le_refl _, Nat.le_succ _, e⟩
  | none =>
    rw [c] at q
    have q0 : mget G.known row = none := q
    have hk : G.known.length < 16777216 := by have := S.len; omega
    have hk2 : G.rows.length < 16777216 := by rw [S.eqr]; exact hl
    refine ⟨_, rows ++ [row], ⟨G.rows ++ [row], G.known ++ [(row, 2 * (G.rows.length : Int))]⟩, rfl, ?_, ?_, by omega, by simp, by simp, ?_⟩
    · unfold m_Gates_edge_of
      rw [q0]
      simp only [Option.isSome_none, Bool.not_false, if_pos]
      rw [grd_t (decide_eq_true hk), grd_t (decide_eq_true hk2), mget_put_new q0]
      simp only [Option.bind_some]
      rw [mget_snoc, q0]
      simp [S.eqr]
    · refine ⟨by simp [S.eqr], fun r h => ?_, ?_, by have := S.len; simp; omega, fun r hr2 => ?_⟩
      · rcases List.mem_append.mp h with h | h
        · exact S.ok r h
        · rw [List.mem_singleton.mp h]; exact hr
      · obtain ⟨rs, e⟩ := S.first
        exact ⟨rs ++ [row], by rw [e]; rfl⟩
      · show mget (G.known ++ [(row, 2 * (G.rows.length : Int))]) r = _
        rw [mget_snoc, S.look r hr2, fnd_snoc]
        cases fnd r rows with
        | some k => rfl
        | none =>
          by_cases c2 : row = r
          · simp [c2, S.eqr]
          · simp [c2]
    · refine edge_of_hit ?_
      show mget (G.known ++ [(row, 2 * (G.rows.length : Int))]) row = _
      rw [mget_snoc, q0]; simp [S.eqr]
theorem ok_letter (n : Int) : okRow [Sum.inr ("letter" : Str), Sum.inl n] := by
  show ([Sum.inr ("letter" : Str), Sum.inl n] : List Key).all DOk.ok = true
  simp only [List.all_cons, List.all_nil, Bool.and_true, Bool.and_eq_true]
  exact ⟨by decide +kernel, rfl⟩
theorem ok_both (a b : Int) : okRow [Sum.inr ("both" : Str), Sum.inl a, Sum.inl b] := by
  show ([Sum.inr ("both" : Str), Sum.inl a, Sum.inl b] : List Key).all DOk.ok = true
  simp only [List.all_cons, List.all_nil, Bool.and_true, Bool.and_eq_true]
  exact ⟨by decide +kernel, rfl, rfl⟩
theorem leaf_sim {G : M_Gates} {rows : List (List Key)} (S : Sim G rows) (n : Int) (hl : rows.length < 16777216) :
    ∃ e rows' G', m_law_row rows [Sum.inr ("letter" : Str), Sum.inl n] = some (e, rows') ∧ m_Gates_leaf G n = some (e, G') ∧ Sim G' rows' ∧ 0 ≤ e ∧ rows'.length ≤ rows.length + 1 := by
  obtain ⟨e, rows', G', h1, h2, h3, h4, _, h5, _⟩ := edge_of S [Sum.inr ("letter" : Str), Sum.inl n] (ok_letter n) (by intro h; cases h) hl
  refine ⟨e, rows', G', h1, ?_, h3, h4, h5⟩
  unfold m_Gates_leaf
  rw [h2]
  rfl
/-- what a call must show: the same edge from both, the tables stay alike -/
def Call (n : Nat) (rows : List (List Key)) (x : Option (Int × List (List Key))) (y : Option (Int × M_Gates)) : Prop :=
  ∃ e rows' G', x = some (e, rows') ∧ y = some (e, G') ∧ Sim G' rows' ∧ 0 ≤ e ∧ rows'.length ≤ rows.length + n
theorem gboth {G : M_Gates} {a b lo hi : Int} (hlo : (if b < a then b else a) = lo) (hhi : (if b > a then b else a) = hi) :
    m_Gates_both G a b = if lo = 0 ∨ lo = m_law_opposite hi then some (0, G) else if lo = 1 ∨ lo = hi then some (hi, G) else m_Gates_edge_of G [Sum.inr ("both" : Str), Sum.inl lo, Sum.inl hi] := by
  unfold m_Gates_both
  rw [hlo, hhi, opp_eq]
  by_cases c : lo = 0 ∨ lo = m_law_opposite hi
  · rw [if_pos c, if_pos (by simpa using c)]
  · rw [if_neg c, if_neg (by simpa using c)]
    by_cases d : lo = 1 ∨ lo = hi
    · rw [if_pos d, if_pos (by simpa using d)]
    · rw [if_neg d, if_neg (by simpa using d)]
      show (m_Gates_edge_of G _).bind _ = _
      cases m_Gates_edge_of G [Sum.inr ("both" : Str), Sum.inl lo, Sum.inl hi] <;> rfl
theorem both_comm (G : M_Gates) (a b : Int) : m_Gates_both G b a = m_Gates_both G a b := by
  rw [gboth (G := G) (a := a) (b := b) rfl rfl, gboth (G := G) (a := b) (b := a) (lo := if b < a then b else a) (hi := if b > a then b else a)]
  · split <;> split <;> omega
  · split <;> split <;> omega
theorem both_sim {G : M_Gates} {rows : List (List Key)} (S : Sim G rows) {a b : Int} (ha : 0 ≤ a) (hb : 0 ≤ b) (hl : rows.length < 16777216) :
    ∃ e rows' G', m_law_both rows a b = some (e, rows') ∧ m_Gates_both G a b = some (e, G') ∧ Sim G' rows' ∧ 0 ≤ e ∧ rows'.length ≤ rows.length + 1 ∧ m_Gates_both G' b a = some (e, G') := by
  generalize hlo : (if b < a then b else a) = lo
  generalize hhi : (if b > a then b else a) = hi
  have hlo' : lo = if b < a then b else a := hlo.symm
  have hhi' : hi = if b > a then b else a := hhi.symm
  have k0 : (a = 0 ∨ b = 0 ∨ a = m_law_opposite b) ↔ (lo = 0 ∨ lo = m_law_opposite hi) := by
    rw [opp_iff, opp_iff, hlo', hhi']
    split <;> split <;> omega
  by_cases c : a = 0 ∨ b = 0 ∨ a = m_law_opposite b
  · have e1 : m_Gates_both G a b = some (0, G) := by rw [gboth hlo hhi, if_pos (k0.mp c)]
    refine ⟨0, rows, G, ?_, e1, S, by omega, Nat.le_succ _, (both_comm G a b).trans e1⟩
    unfold m_law_both
    rw [if_pos (by simpa using c)]
  · have c2 := fun h => c (k0.mpr h)
    have h0 : ¬ a = 0 := fun h => c (.inl h)
    have h1 : ¬ b = 0 := fun h => c (.inr (.inl h))
    have k1 : (a = 1 ∨ b = 1 ∨ a = b) ↔ (lo = 1 ∨ lo = hi) := by
      rw [hlo', hhi']
      split <;> split <;> omega
    by_cases d : a = 1 ∨ b = 1 ∨ a = b
    · have e1 : m_Gates_both G a b = some (hi, G) := by rw [gboth hlo hhi, if_neg c2, if_pos (k1.mp d)]
      refine ⟨hi, rows, G, ?_, e1, S, by rw [hhi']; split <;> omega, Nat.le_succ _, (both_comm G a b).trans e1⟩
      unfold m_law_both
      rw [if_neg (by simpa using c)]
      by_cases d3 : a = 1
      · rw [if_pos (decide_eq_true d3)]
        have e : b = hi := by rw [hhi']; split <;> omega
        rw [← e]
      · rw [if_neg (by simpa using d3), if_pos (by simp; omega)]
        have e : a = hi := by rw [hhi']; split <;> omega
        rw [← e]
    · have d2 := fun h => d (k1.mpr h)
      obtain ⟨e, rows', G', h1, h2, h3, h4, _, h5, h6⟩ := edge_of S [Sum.inr ("both" : Str), Sum.inl lo, Sum.inl hi] (ok_both lo hi) (by intro h; cases h) hl
      refine ⟨e, rows', G', ?_, by rw [gboth hlo hhi, if_neg c2, if_neg d2, h2], h3, h4, h5, by rw [both_comm, gboth hlo hhi, if_neg c2, if_neg d2, h6]⟩
      unfold m_law_both
      rw [if_neg (by simpa using c), if_neg (by simp; omega), if_neg (by simp; omega)]
      have e1 : (if a < b then a else b) = lo := by rw [hlo']; split <;> split <;> omega
      have e2 : (if a > b then a else b) = hi := by rw [hhi']; split <;> split <;> omega
      rw [hlo, hhi, h1]
      rfl
theorem both_call {G : M_Gates} {rows : List (List Key)} (S : Sim G rows) {a b : Int} (ha : 0 ≤ a) (hb : 0 ≤ b) (hl : rows.length < 16777216) :
    Call 1 rows (m_law_both rows a b) (m_Gates_both G a b) := by
  obtain ⟨e, rows', G', h1, h2, h3, h4, h5, _⟩ := both_sim S ha hb hl
  exact ⟨e, rows', G', h1, h2, h3, h4, h5⟩
theorem ok_no : okRow [Sum.inr ("no" : Str)] := by
  show ([Sum.inr ("no" : Str)] : List Key).all DOk.ok = true
  simp only [List.all_cons, List.all_nil, Bool.and_true]
  decide +kernel
theorem sim_init : Sim m_Gates_init [[Sum.inr ("no" : Str)]] where
  eqr := rfl
  ok := fun r h => by rw [List.mem_singleton.mp h]; exact ok_no
  first := ⟨[], rfl⟩
  len := rfl
  look := fun row h => by
    show (none : Option Int) = _
    unfold fnd
    rw [if_neg (fun q => h q.symm)]
    rfl
end G

namespace G
open PySem PySem.Spec PyProof.Rows L2

/-! ## lists, dicts: plain facts -/
theorem nodup_sub : ∀ {l r : List Int}, l.Nodup → (∀ x ∈ l, x ∈ r) → l.length ≤ r.length
  | [], r, _, _ => Nat.zero_le _
  | x :: l, r, h, s => by
    have hx := s x (.head _)
    have h2 := nodup_sub (l := l) (r := r.erase x) (List.nodup_cons.mp h).2 fun y hy =>
      (List.mem_erase_of_ne (by rintro rfl; exact (List.nodup_cons.mp h).1 hy)).mpr (s y (.tail _ hy))
    rw [List.length_erase_of_mem hx] at h2
    have := List.length_pos_of_mem hx
    simp; omega
theorem strict_nodup {xs : List Int} (h : xs.Pairwise (· < ·)) : xs.Nodup := h.imp fun {a b} h => by omega
theorem strict_uniq {xs ys : List Int} (h1 : xs.Pairwise (· < ·)) (h2 : ys.Pairwise (· < ·)) (h : ∀ x, x ∈ xs ↔ x ∈ ys) : xs = ys :=
  sorted_uniq ((List.perm_ext_iff_of_nodup (strict_nodup h1) (strict_nodup h2)).mpr h) (h1.imp fun {a b} h => by omega) (h2.imp fun {a b} h => by omega)
theorem sortI_strict {xs : List Int} (h : xs.Nodup) : (sortI xs).Pairwise (· < ·) := by
  have h1 := sortI_sorted xs
  have h2 : (sortI xs).Nodup := (sortI_perm xs).nodup_iff.mpr h
  exact (List.Pairwise.and h1 h2).imp fun {a b} h => by have := h.1; have := h.2; omega
theorem mem_sortI {xs : List Int} {x : Int} : x ∈ sortI xs ↔ x ∈ xs := (sortI_perm xs).mem_iff
theorem atI_mem {α : Type} {xs : List α} {i : Int} {x : α} (h : atI xs i = some x) : x ∈ xs := by
  unfold atI at h
  cases e : ixN xs.length i with
  | none => rw [e] at h; cases h
  | some j =>
    rw [e] at h
    exact List.mem_of_getElem? h
theorem atI_of {α : Type} {xs : List α} {i : Int} (h0 : 0 ≤ i) : atI xs i = xs[i.toNat]? := by
  unfold atI ixN
  rw [if_pos h0]
  by_cases c : i < xs.length
  · rw [if_pos c]; rfl
  · rw [if_neg c, List.getElem?_eq_none (by omega)]; rfl
theorem atI_app {α : Type} {xs ys : List α} {i : Int} (h0 : 0 ≤ i) (h1 : i < xs.length) : atI (xs ++ ys) i = atI xs i := by
  rw [atI_of h0, atI_of h0, List.getElem?_append_left (by omega)]
theorem atI_last {α : Type} {xs : List α} {x : α} : atI (xs ++ [x]) (xs.length : Int) = some x := by
  rw [atI_of (by omega)]
  simp
theorem atI_bound {α : Type} {xs : List α} {i : Int} {x : α} (h0 : 0 ≤ i) (h : atI xs i = some x) : i < xs.length := by
  rw [atI_of h0] at h
  have := (List.getElem?_eq_some_iff.mp h).1
  omega
theorem ixN_of {n : Nat} {i : Int} (h0 : 0 ≤ i) (h1 : i < n) : ixN n i = some i.toNat := by unfold ixN; rw [if_pos h0, if_pos h1]
theorem atI_set {α : Type} {xs : List α} {i j : Int} {x : α} (h0 : 0 ≤ i) (h1 : i < xs.length) (hj : 0 ≤ j) : atI (xs.set i.toNat x) j = if i = j then some x else atI xs j := by
  rw [atI_of hj, atI_of hj, List.getElem?_set]
  by_cases c : i = j
  · subst c; rw [if_pos rfl, if_pos rfl, if_pos (by omega)]
  · rw [if_neg (by omega), if_neg c]
theorem mem_pyRange {lo : Int} {n : Nat} {x : Int} : x ∈ pyRange lo n ↔ lo ≤ x ∧ x < lo + n := by
  unfold pyRange
  rw [List.mem_map]
  constructor
  · rintro ⟨i, hi, rfl⟩
    have := List.mem_range.mp hi
    omega
  · rintro ⟨h1, h2⟩
    exact ⟨(x - lo).toNat, List.mem_range.mpr (by omega), by omega⟩
theorem pyRange_strict {lo : Int} {n : Nat} : (pyRange lo n).Pairwise (· < ·) := by
  unfold pyRange
  rw [List.pairwise_map]
  exact List.pairwise_lt_range.imp fun {a b} h => by omega
/-! dicts -/
section
variable {κ α : Type} [DecidableEq κ]
theorem mget_cons (p : κ × α) (xs : List (κ × α)) (k : κ) : mget (p :: xs) k = if p.1 = k then some p.2 else mget xs k := by
  unfold mget
  by_cases c : p.1 = k
  · rw [List.find?_cons_of_pos (by simpa using c), if_pos c]; rfl
  · rw [List.find?_cons_of_neg (by simpa using c), if_neg c]
theorem mget_map {xs : List (κ × α)} {k j : κ} {x : α} : mget (xs.map fun p => if p.1 = k then (p.1, x) else p) j = if k = j then (mget xs j).map (fun _ => x) else mget xs j := by
  induction xs with
  | nil => by_cases c : k = j <;> simp [c, mget]
  | cons p xs ih =>
    rw [List.map_cons, mget_cons, mget_cons, ih]
    by_cases c1 : p.1 = k
    · by_cases c : k = j
      · subst c; simp [c1]
      · have : ¬ p.1 = j := fun h => c (c1.symm.trans h)
        simp [c1, c]
    · by_cases c : k = j
      · subst c; simp [c1]
      · simp [c1, c]
theorem mget_none {xs : List (κ × α)} {k : κ} : mget xs k = none ↔ k ∉ xs.map (·.1) := by
  induction xs with
  | nil => simp [mget]
  | cons p xs ih =>
    rw [mget_cons]
    by_cases c : p.1 = k
    · simp [c]
    · rw [if_neg c, ih]
      simp only [List.map_cons, List.mem_cons, not_or]
      exact ⟨fun h => ⟨fun e => c e.symm, h⟩, fun h => h.2⟩
theorem mget_put {xs : List (κ × α)} {k j : κ} {x : α} : mget (mput xs k x) j = if k = j then some x else mget xs j := by
  cases e : mget xs k with
  | none =>
    rw [mget_put_new e, mget_snoc]
    by_cases c : k = j
    · subst c; simp [e]
    · rw [if_neg c, if_neg c]
      cases mget xs j <;> rfl
  | some y =>
    have hm : k ∈ xs.map (·.1) := Classical.byContradiction fun h => by rw [mget_none.mpr h] at e; cases e
    obtain ⟨p, hp, e2⟩ := List.mem_map.mp hm
    unfold mput
    rw [if_pos (List.any_eq_true.mpr ⟨p, hp, decide_eq_true e2⟩), mget_map]
    by_cases c : k = j
    · subst c; rw [if_pos rfl, if_pos rfl, e]; rfl
    · rw [if_neg c, if_neg c]
theorem mput_len {xs : List (κ × α)} {k : κ} {x : α} : (mput xs k x).length ≤ xs.length + 1 := by
  unfold mput
  split <;> simp
theorem mput_len_ge {xs : List (κ × α)} {k : κ} {x : α} : xs.length ≤ (mput xs k x).length := by
  unfold mput
  split <;> simp
end
theorem lcO_congr {α β : Type} {f g : α → Option (Option β)} : ∀ {xs : List α}, (∀ x ∈ xs, f x = g x) → lcO f xs = lcO g xs
  | [], _ => rfl
  | x :: t, h => by
    show ((f x).bind fun y => (lcO f t).bind fun r => some (match y with | none => r | some b => b :: r)) = _
    rw [h x (.head _), lcO_congr fun y hy => h y (.tail _ hy)]
    rfl
end G

namespace G
open PySem PySem.Spec PyProof.Rows L2

/-! ## rows of gates -/
abbrev lrow (n : Int) : List Key := [Sum.inr ("letter" : Str), Sum.inl n]
abbrev brow (a b : Int) : List Key := [Sum.inr ("both" : Str), Sum.inl a, Sum.inl b]
theorem l_ne_b : decide (("letter" : Str) = ("both" : Str)) = false := by decide +kernel
theorem b_ne_l : decide (("both" : Str) = ("letter" : Str)) = false := by decide +kernel
theorem lrow0 (n : Int) : kStr (lrow n) 0 = some ("letter" : Str) := rfl
theorem lrow1 (n : Int) : kInt (lrow n) 1 = some n := rfl
theorem brow0 (a b : Int) : kStr (brow a b) 0 = some ("both" : Str) := rfl
theorem brow1 (a b : Int) : kInt (brow a b) 1 = some a := rfl
theorem brow2 (a b : Int) : kInt (brow a b) 2 = some b := rfl
theorem brow_inj {a b c d : Int} (h : brow a b = brow c d) : a = c ∧ b = d := by
  have h1 := congrArg (fun r => kInt r 1) h
  have h2 := congrArg (fun r => kInt r 2) h
  exact ⟨Option.some.inj h1, Option.some.inj h2⟩
theorem l_not_b {n a b : Int} (h : lrow n = brow a b) : False := by
  have := congrArg List.length h
  simp at this
/-- every row behind the first is a letter or a gate of earlier rows -/
def RowAt (P : Int → Prop) (k : Int) (r : List Key) : Prop := (∃ n, P n ∧ r = lrow n) ∨ ∃ a b, 0 ≤ a ∧ 0 ≤ b ∧ a / 2 < k ∧ b / 2 < k ∧ r = brow a b
structure Wf (P : Int → Prop) (rows : List (List Key)) : Prop where
  pos : 0 < rows.length
  at_ : ∀ k : Int, 0 < k → k < rows.length → ∃ r, atI rows k = some r ∧ RowAt P k r
/-- reached from the roots -/
inductive Rch (rows : List (List Key)) (roots : List Int) : Int → Prop
  | root {e : Int} : e ∈ roots → Rch rows roots (e / 2)
  | lo {k a b : Int} : Rch rows roots k → 0 < k → atI rows k = some (brow a b) → Rch rows roots (a / 2)
  | hi {k a b : Int} : Rch rows roots k → 0 < k → atI rows k = some (brow a b) → Rch rows roots (b / 2)
def Edge (rows : List (List Key)) (e : Int) : Prop := 0 ≤ e ∧ e / 2 < rows.length
section
variable {P : Int → Prop} {rows : List (List Key)} {roots : List Int}
theorem Wf.both (w : Wf P rows) {k a b : Int} (h0 : 0 < k) (h : atI rows k = some (brow a b)) : 0 ≤ a ∧ 0 ≤ b ∧ a / 2 < k ∧ b / 2 < k := by
  obtain ⟨r, h1, h2⟩ := w.at_ k h0 (atI_bound (by omega) h)
  rw [h] at h1
  obtain rfl := Option.some.inj h1
  rcases h2 with ⟨n, _, e⟩ | ⟨c, d, g1, g2, g3, g4, e⟩
  · exact (l_not_b e.symm).elim
  · obtain ⟨rfl, rfl⟩ := brow_inj e
    exact ⟨g1, g2, g3, g4⟩
theorem Rch.bound (w : Wf P rows) (hr : ∀ e ∈ roots, Edge rows e) {k : Int} (h : Rch rows roots k) : 0 ≤ k ∧ k < rows.length := by
  induction h with
  | root h => have := hr _ h; exact ⟨Int.ediv_nonneg this.1 (by omega), this.2⟩
  | lo h h0 e ih => have := w.both h0 e; omega
  | hi h h0 e ih => have := w.both h0 e; omega
/-- the cone's word: ascending, the reached rows but the first -/
def IsCone (rows : List (List Key)) (roots : List Int) (c : List Int) : Prop := c.Pairwise (· < ·) ∧ ∀ x, x ∈ c ↔ Rch rows roots x ∧ 0 < x
theorem IsCone.uniq {c d : List Int} (h : IsCone rows roots c) (g : IsCone rows roots d) : c = d := strict_uniq h.1 g.1 fun x => (h.2 x).trans (g.2 x).symm
theorem IsCone.lo {c : List Int} (w : Wf P rows) (h : IsCone rows roots c) {k a b : Int} (hk : k ∈ c) (e : atI rows k = some (brow a b)) : (a / 2 = 0 ∨ a / 2 ∈ c) ∧ (b / 2 = 0 ∨ b / 2 ∈ c) ∧ a / 2 < k ∧ b / 2 < k ∧ 0 ≤ a ∧ 0 ≤ b := by
  have h1 := (h.2 k).mp hk
  have h2 := w.both h1.2 e
  refine ⟨?_, ?_, h2.2.2.1, h2.2.2.2, h2.1, h2.2.1⟩
  · by_cases c0 : a / 2 = 0
    · exact .inl c0
    · exact .inr ((h.2 _).mpr ⟨.lo h1.1 h1.2 e, by omega⟩)
  · by_cases c0 : b / 2 = 0
    · exact .inl c0
    · exact .inr ((h.2 _).mpr ⟨.hi h1.1 h1.2 e, by omega⟩)
theorem IsCone.root {c : List Int} (hr : ∀ e ∈ roots, Edge rows e) (h : IsCone rows roots c) {e : Int} (he : e ∈ roots) : e / 2 = 0 ∨ e / 2 ∈ c := by
  by_cases c0 : e / 2 = 0
  · exact .inl c0
  · exact .inr ((h.2 _).mpr ⟨.root he, by have := (hr e he).1; omega⟩)
theorem IsCone.row {c : List Int} (w : Wf P rows) (hr : ∀ e ∈ roots, Edge rows e) (h : IsCone rows roots c) {k : Int} (hk : k ∈ c) : 0 < k ∧ k < rows.length ∧ ∃ r, atI rows k = some r ∧ RowAt P k r := by
  have h1 := (h.2 k).mp hk
  have h2 := h1.1.bound w hr
  exact ⟨h1.2, h2.2, w.at_ k h1.2 h2.2⟩
theorem IsCone.len {c : List Int} (w : Wf P rows) (hr : ∀ e ∈ roots, Edge rows e) (h : IsCone rows roots c) : c.length < rows.length := by
  have := nodup_sub (r := pyRange 1 (rows.length - 1)) (strict_nodup h.1) fun x hx => by
    have := IsCone.row w hr h hx
    exact mem_pyRange.mpr (by omega)
  rw [pyRange_len] at this
  have := w.pos
  omega
/-- where an edge's row stands while the stack is worked off -/
def Good (todo : List Int) (seen : List (Int × Bool)) (x : Int) : Prop := x = 0 ∨ x ∈ seen.map (·.1) ∨ x ∈ todo
structure DInv (rows : List (List Key)) (roots : List Int) (todo : List Int) (seen : List (Int × Bool)) : Prop where
  t : ∀ x ∈ todo, Rch rows roots x
  s : ∀ x ∈ seen.map (·.1), Rch rows roots x ∧ 0 < x
  n : (seen.map (·.1)).Nodup
  r : ∀ e ∈ roots, Good todo seen (e / 2)
  c : ∀ k ∈ seen.map (·.1), ∀ a b, atI rows k = some (brow a b) → Good todo seen (a / 2) ∧ Good todo seen (b / 2)
theorem DInv.len (w : Wf P rows) (hr : ∀ e ∈ roots, Edge rows e) {todo : List Int} {seen : List (Int × Bool)} (I : DInv rows roots todo seen) : seen.length < rows.length := by
  have := nodup_sub (r := pyRange 1 (rows.length - 1)) I.n fun x hx => by
    have h := I.s x hx
    have := h.1.bound w hr
    exact mem_pyRange.mpr (by omega)
  rw [pyRange_len, List.length_map] at this
  have := w.pos
  omega
theorem cone_l1 (G : M_Gates) (w : Wf P G.rows) (hr : ∀ e ∈ roots, Edge G.rows e) (M : Nat) (hM : M < 16777216) (hn : G.rows.length < 16777216) : ∀ (fl : Nat) (todo : List Int) (seen : List (Int × Bool)),
    DInv G.rows roots todo seen → todo.length + 2 * (G.rows.length - seen.length) ≤ M → todo.length + 2 * (G.rows.length - seen.length) < fl →
    ∃ seen', m_Gates_cone_l1 G fl (todo, seen) = some ([], seen') ∧ DInv G.rows roots [] seen'
  | 0, todo, seen, I, h1, h2 => absurd h2 (Nat.not_lt_zero _)
  | fl + 1, todo, seen, I, h1, h2 => by
    rw [m_Gates_cone_l1]
    rcases List.eq_nil_or_concat todo with rfl | ⟨td, k, rfl⟩
    · exact ⟨seen, rfl, I⟩
    · rw [List.concat_eq_append] at *
      dsimp only
      have hsl := I.len w hr
      rw [if_pos (by simp), bs (x := k) (List.getLast?_concat ..), List.dropLast_concat]
      have hk := I.t k (by simp)
      have hkb := hk.bound w hr
      have hl : (td ++ [k]).length = td.length + 1 := by simp
      by_cases c : k > 0 ∧ mget seen k = none
      · obtain ⟨c1, c2⟩ := c
        rw [if_pos (by simp [c1, c2]), grd_t (decide_eq_true (by have := w.pos; omega)), mget_put_new c2]
        obtain ⟨row, e1, e2⟩ := w.at_ k c1 hkb.2
        rw [bs e1]
        have hk0 := mget_none.mp c2
        have keep : ∀ (more : List Int) x, Good (td ++ [k]) seen x → Good (td ++ more) (seen ++ [(k, true)]) x := by
          intro more x hx
          rcases hx with h | h | h
          · exact .inl h
          · exact .inr (.inl (by simp only [List.map_append, List.mem_append]; exact .inl h))
          · rcases List.mem_append.mp h with h | h
            · exact .inr (.inr (List.mem_append.mpr (.inl h)))
            · exact .inr (.inl (by simp only [List.map_append, List.mem_append]; exact .inr (by simpa using h)))
        have nd : ((seen ++ [(k, true)]).map (·.1)).Nodup := by
          rw [List.map_append]
          refine List.nodup_append.mpr ⟨I.n, by simp, fun a ha b hb => ?_⟩
          have : b = k := by simpa using hb
          subst this
          rintro rfl
          exact hk0 ha
        have sR : ∀ x ∈ (seen ++ [(k, true)]).map (·.1), Rch G.rows roots x ∧ 0 < x := by
          intro x hx
          rw [List.map_append] at hx
          rcases List.mem_append.mp hx with h | h
          · exact I.s x h
          · have : x = k := by simpa using h
            subst this
            exact ⟨hk, c1⟩
        rcases e2 with ⟨n, _, rfl⟩ | ⟨a, b, _, _, _, _, rfl⟩
        · rw [bs (lrow0 n), if_neg (by rw [l_ne_b]; simp)]
          have kp := keep []
          rw [List.append_nil] at kp
          refine cone_l1 G w hr M hM hn fl td (seen ++ [(k, true)]) ⟨fun x hx => I.t x (by simp [hx]), sR, nd, fun e he => kp _ (I.r e he), ?_⟩ (by simp; omega) (by simp; omega)
          intro k' hk' a b e
          rw [List.map_append] at hk'
          rcases List.mem_append.mp hk' with h | h
          · have := I.c k' h a b e
            exact ⟨kp _ this.1, kp _ this.2⟩
          · have : k' = k := by simpa using h
            subst this
            rw [e1] at e
            exact (l_not_b (Option.some.inj e)).elim
        · rw [bs (brow0 a b), if_pos (by simp), bs (brow1 a b), grd_t (decide_eq_true (by omega)), bs (brow2 a b), grd_t (decide_eq_true (by simp; omega)), List.append_assoc]
          have kp := keep ([a / 2] ++ [b / 2])
          refine cone_l1 G w hr M hM hn fl _ (seen ++ [(k, true)]) ⟨?_, sR, nd, fun e he => kp _ (I.r e he), ?_⟩ (by simp; omega) (by simp; omega)
          · intro x hx
            rcases List.mem_append.mp hx with h | h
            · exact I.t x (by simp [h])
            · have : x = a / 2 ∨ x = b / 2 := by simpa using h
              rcases this with rfl | rfl
              · exact .lo hk c1 e1
              · exact .hi hk c1 e1
          · intro k' hk' a' b' e
            rw [List.map_append] at hk'
            rcases List.mem_append.mp hk' with h | h
            · have := I.c k' h a' b' e
              exact ⟨kp _ this.1, kp _ this.2⟩
            · have : k' = k := by simpa using h
              subst this
              rw [e1] at e
              obtain ⟨rfl, rfl⟩ := brow_inj (Option.some.inj e)
              exact ⟨.inr (.inr (by simp)), .inr (.inr (by simp))⟩
      · have kz : k = 0 ∨ k ∈ seen.map (·.1) := by
          by_cases c0 : k = 0
          · exact .inl c0
          · refine .inr (Classical.byContradiction fun h => c ⟨by omega, mget_none.mpr h⟩)
        rw [if_neg (by
          intro h
          simp only [Bool.and_eq_true, decide_eq_true_eq, Bool.not_eq_true', Option.isSome_eq_false_iff, Option.isNone_iff_eq_none] at h
          exact c h)]
        have kp : ∀ x, Good (td ++ [k]) seen x → Good td seen x := by
          intro x hx
          rcases hx with h | h | h
          · exact .inl h
          · exact .inr (.inl h)
          · rcases List.mem_append.mp h with h | h
            · exact .inr (.inr h)
            · have : x = k := by simpa using h
              subst this
              exact kz.elim .inl fun h => .inr (.inl h)
        exact cone_l1 G w hr M hM hn fl td seen ⟨fun x hx => I.t x (by simp [hx]), I.s, I.n, fun e he => kp _ (I.r e he), fun k' hk' a b e => ⟨kp _ (I.c k' hk' a b e).1, kp _ (I.c k' hk' a b e).2⟩⟩ (by omega) (by omega)
theorem cone_ok (G : M_Gates) (w : Wf P G.rows) (hr : ∀ e ∈ roots, Edge G.rows e) (hl : roots.length + 2 * G.rows.length < 16777216) : ∃ c, m_Gates_cone G roots = some c ∧ IsCone G.rows roots c := by
  unfold m_Gates_cone
  rw [grd_t (decide_eq_true (by omega))]
  have I0 : DInv G.rows roots (roots.map fun x => x / 2) [] := ⟨fun x hx => by obtain ⟨e, he, rfl⟩ := List.mem_map.mp hx; exact .root he, by simp, by simp, fun e he => .inr (.inr (List.mem_map.mpr ⟨e, he, rfl⟩)), by simp⟩
  obtain ⟨seen, h1, I⟩ := cone_l1 G w hr (roots.length + 2 * G.rows.length) hl (by omega) fuel _ _ I0 (by simp) (by simp [fuel]; omega)
  · rw [bs h1]
    refine ⟨_, rfl, sortI_strict I.n, fun x => mem_sortI.trans ⟨I.s x, ?_⟩⟩
    have all : ∀ y, Rch G.rows roots y → y = 0 ∨ y ∈ seen.map (·.1) := by
      intro y hy
      induction hy with
      | root h => exact (I.r _ h).elim .inl fun h => h.elim .inr fun h => by cases h
      | lo h h0 e ih => exact (I.c _ (ih.resolve_left (by omega)) _ _ e).1.elim .inl fun h => h.elim .inr fun h => by cases h
      | hi h h0 e ih => exact (I.c _ (ih.resolve_left (by omega)) _ _ e).2.elim .inl fun h => h.elim .inr fun h => by cases h
    rintro ⟨h, h0⟩
    exact (all x h).resolve_left (by omega)
end
end G

namespace G
open PySem PySem.Spec PyProof.Rows L2

/-! ## the backward sweep -/
theorem pyRangeC_succ (lo c : Int) (n : Nat) : pyRangeC lo c (n + 1) = lo :: pyRangeC (lo + c) c n := by
  unfold pyRangeC
  rw [List.range_succ_eq_map, List.map_cons, List.map_map]
  congr 1
  · simp
  · apply List.map_congr_left
    intro i _
    simp only [Function.comp]
    rw [Nat.succ_eq_add_one, Int.natCast_add, Int.add_mul, Int.add_assoc, Int.add_comm ((i : Int) * c)]
    simp
section
variable {P : Int → Prop} {rows : List (List Key)} {roots : List Int}
theorem reached_l1 (n : Nat) : ∀ (es : List Int) (F : List Bool), F.length = n → (∀ e ∈ es, 0 ≤ e ∧ e / 2 < n) →
    ∃ F', m_law_reached_l1 es F = some F' ∧ F'.length = n ∧ ∀ j : Int, 0 ≤ j → (atI F' j = some true ↔ atI F j = some true ∨ ∃ e ∈ es, e / 2 = j)
  | [], F, h, _ => ⟨F, rfl, h, fun j _ => by simp⟩
  | e :: es, F, h, he => by
    have h0 := he e (.head _)
    have hd : 0 ≤ e / 2 := Int.ediv_nonneg h0.1 (by omega)
    rw [m_law_reached_l1, bs (ixN_of hd (by omega))]
    obtain ⟨F', g1, g2, g3⟩ := reached_l1 n es (F.set (e / 2).toNat true) (by simp [h]) fun x hx => he x (.tail _ hx)
    refine ⟨F', g1, g2, fun j hj => (g3 j hj).trans ?_⟩
    rw [atI_set hd (by omega) hj]
    by_cases c : e / 2 = j
    · simp [c]
    · rw [if_neg c]
      simp [c]
structure RInv (rows : List (List Key)) (roots : List Int) (m : Int) (F : List Bool) : Prop where
  n : F.length = rows.length
  a : ∀ j : Int, 0 ≤ j → atI F j = some true → Rch rows roots j
  b : ∀ e ∈ roots, atI F (e / 2) = some true
  c : ∀ k : Int, m < k → 0 < k → atI F k = some true → ∀ a b, atI rows k = some (brow a b) → atI F (a / 2) = some true ∧ atI F (b / 2) = some true
theorem reached_l2 (w : Wf P rows) (hr : ∀ e ∈ roots, Edge rows e) : ∀ (m : Nat) (F : List Bool), m < rows.length → RInv rows roots m F →
    ∃ F', m_law_reached_l2 rows (pyRangeC (m : Int) (-1) m) F = some F' ∧ RInv rows roots 0 F'
  | 0, F, _, I => ⟨F, rfl, I⟩
  | m + 1, F, hm, I => by
    rw [pyRangeC_succ, m_law_reached_l2]
    have e0 : ((m + 1 : Nat) : Int) + -1 = (m : Int) := by omega
    rw [e0]
    have hF := I.n
    obtain ⟨f, hf⟩ : ∃ f, atI F ((m + 1 : Nat) : Int) = some f := by
      obtain ⟨x, h, _⟩ := atI_lt (xs := F) (i := ((m + 1 : Nat) : Int)) (by omega) (by omega)
      exact ⟨x, h⟩
    obtain ⟨row, e1, e2⟩ := w.at_ ((m + 1 : Nat) : Int) (by omega) (by omega)
    have down : ∀ F, (∀ k : Int, ((m + 1 : Nat) : Int) < k → 0 < k → atI F k = some true → ∀ a b, atI rows k = some (brow a b) → atI F (a / 2) = some true ∧ atI F (b / 2) = some true) →
        (atI F ((m + 1 : Nat) : Int) = some true → ∀ a b, atI rows ((m + 1 : Nat) : Int) = some (brow a b) → atI F (a / 2) = some true ∧ atI F (b / 2) = some true) →
        ∀ k : Int, (m : Int) < k → 0 < k → atI F k = some true → ∀ a b, atI rows k = some (brow a b) → atI F (a / 2) = some true ∧ atI F (b / 2) = some true := by
      intro F h1 h2 k hk h0 hv a b e
      by_cases c : k = ((m + 1 : Nat) : Int)
      · subst c; exact h2 hv a b e
      · exact h1 k (by omega) h0 hv a b e
    cases f with
    | false =>
      rw [bs (x := false) (by rw [bs hf, if_neg (by simp)]), if_neg (by simp)]
      exact reached_l2 w hr m F (by omega) ⟨I.n, I.a, I.b, down F I.c (by rw [hf]; intro h; cases h)⟩
    | true =>
      rcases e2 with ⟨n, _, rfl⟩ | ⟨a, b, ha, hb, hak, hbk, rfl⟩
      · rw [bs (x := false) (by rw [bs hf, if_pos rfl, bs e1, bs (lrow0 n), l_ne_b]), if_neg (by simp)]
        exact reached_l2 w hr m F (by omega) ⟨I.n, I.a, I.b, down F I.c (by rw [e1]; intro _ a b h; exact (l_not_b (Option.some.inj h)).elim)⟩
      · have ha2 : 0 ≤ a / 2 := Int.ediv_nonneg ha (by omega)
        have hb2 : 0 ≤ b / 2 := Int.ediv_nonneg hb (by omega)
        rw [bs (x := true) (by rw [bs hf, if_pos rfl, bs e1, bs (brow0 a b)]; simp), if_pos rfl, bs e1, bs (brow1 a b), bs (ixN_of ha2 (by omega)), bs e1, bs (brow2 a b), bs (ixN_of hb2 (by simp; omega))]
        have at2 : ∀ j : Int, 0 ≤ j → atI ((F.set (a / 2).toNat true).set (b / 2).toNat true) j = if b / 2 = j then some true else if a / 2 = j then some true else atI F j := by
          intro j hj
          rw [atI_set hb2 (by simp; omega) hj, atI_set ha2 (by omega) hj]
        have mono : ∀ j : Int, 0 ≤ j → atI F j = some true → atI ((F.set (a / 2).toNat true).set (b / 2).toNat true) j = some true := by
          intro j hj h
          rw [at2 j hj]
          split
          · rfl
          · split
            · rfl
            · exact h
        have hR := I.a _ (by omega) hf
        refine reached_l2 w hr m _ (by omega) ⟨by simp [I.n], ?_, ?_, down _ ?_ ?_⟩
        · intro j hj h
          rw [at2 j hj] at h
          by_cases c1 : b / 2 = j
          · subst c1; exact .hi hR (by omega) e1
          · rw [if_neg c1] at h
            by_cases c2 : a / 2 = j
            · subst c2; exact .lo hR (by omega) e1
            · rw [if_neg c2] at h
              exact I.a j hj h
        · intro e he
          exact mono _ (Int.ediv_nonneg (hr e he).1 (by omega)) (I.b e he)
        · intro k hk h0 hv a' b' e
          rw [at2 k (by omega), if_neg (by omega), if_neg (by omega)] at hv
          have := I.c k hk h0 hv a' b' e
          have wb := w.both h0 e
          exact ⟨mono _ (Int.ediv_nonneg wb.1 (by omega)) this.1, mono _ (Int.ediv_nonneg wb.2.1 (by omega)) this.2⟩
        · intro _ a' b' e
          rw [e1] at e
          obtain ⟨rfl, rfl⟩ := brow_inj (Option.some.inj e)
          rw [at2 _ ha2, at2 _ hb2]
          exact ⟨by split <;> simp, by simp⟩
theorem rng2Ok_t {i j : Int} (h1 : -16777216 < i) (h2 : i < 16777216) (h3 : -16777216 < j) (h4 : j < 16777216) : rng2Ok i j = true := by
  unfold rng2Ok
  simp
  omega
theorem reached_ok (w : Wf P rows) (hr : ∀ e ∈ roots, Edge rows e) (hl : rows.length < 16777216) : ∃ c, m_law_reached rows roots = some c ∧ IsCone rows roots c := by
  have hp := w.pos
  unfold m_law_reached
  rw [grd_t (decide_eq_true hl)]
  obtain ⟨F, f1, f2, f3⟩ := reached_l1 rows.length roots (rows.map fun _ => false) (by simp) hr
  have fz : ∀ j : Int, 0 ≤ j → ¬ atI (rows.map fun _ => false) j = some true := by
    intro j hj h
    have := atI_mem h
    simp at this
  rw [bs f1, grd_t (rng2Ok_t (by omega) (by omega) (by omega) (by omega))]
  have e : ((rows.length : Int) - 1 - 0).toNat = rows.length - 1 := by omega
  have e2 : (rows.length : Int) - 1 = ((rows.length - 1 : Nat) : Int) := by omega
  rw [e, e2]
  have I0 : RInv rows roots ((rows.length - 1 : Nat) : Int) F := ⟨f2, fun j hj h => ((f3 j hj).mp h).elim (fun h => (fz j hj h).elim) fun ⟨e, he, h⟩ => h ▸ .root he,
    fun e he => (f3 _ (Int.ediv_nonneg (hr e he).1 (by omega))).mpr (.inr ⟨e, he, rfl⟩), fun k h1 h2 h => fun a b e => by have := atI_bound (by omega) h; omega⟩
  obtain ⟨F2, g1, I⟩ := reached_l2 w hr (rows.length - 1) F (by omega) I0
  rw [bs g1, grd_t (rng2Ok_t (by omega) (by omega) (by omega) (by omega))]
  have e3 : (((rows.length - 1 : Nat) : Int)).toNat = rows.length - 1 := by omega
  rw [e3, grd_t (decide_eq_true (by rw [pyRange_len]; omega))]
  have hx : lcO (fun x => (atI F2 x).bind fun y => if y = true then (some (some x)) else some none) (pyRange (1 : Int) (rows.length - 1)) =
      some (((pyRange (1 : Int) (rows.length - 1)).filter fun x => atI F2 x == some true).map fun x => x) := by
    rw [← lc_filter]
    refine lcO_congr fun x hx => ?_
    have := mem_pyRange.mp hx
    obtain ⟨y, hy, _⟩ := atI_lt (xs := F2) (i := x) (by omega) (by rw [I.n]; omega)
    rw [bs hy, hy]
    cases y <;> rfl
  rw [bs hx]
  refine ⟨_, rfl, ?_, fun x => ?_⟩
  · rw [List.map_id']
    exact pyRange_strict.filter _
  · rw [List.map_id', List.mem_filter, mem_pyRange]
    have all : ∀ y, Rch rows roots y → atI F2 y = some true := by
      intro y hy
      induction hy with
      | root h => exact I.b _ h
      | lo h h0 e ih => exact (I.c _ h0 h0 ih _ _ e).1
      | hi h h0 e ih => exact (I.c _ h0 h0 ih _ _ e).2
    constructor
    · rintro ⟨h1, h2⟩
      exact ⟨I.a x (by omega) (by simpa using h2), by omega⟩
    · rintro ⟨h1, h2⟩
      have := h1.bound w hr
      exact ⟨by omega, by simpa using all x h1⟩
end
end G

namespace G
open PySem PySem.Spec PyProof.Rows L2

/-! ## what edges are worth -/
theorem and1 (e : Int) : Builtin.bitAnd e 1 = e % 2 := bitAnd_m1 e
def vl (tr : List Bool) (e : Int) : Bool := !decide (tr.getD (e / 2).toNat false = decide (e % 2 = 1))
def stp (ch : Int → Bool) (tr : List Bool) (r : List Key) : Bool :=
  match r with
  | [_, .inl n] => ch n
  | [_, .inl a, .inl b] => vl tr a && vl tr b
  | _ => false
def evs (ch : Int → Bool) : List (List Key) → List Bool → List Bool
  | [], tr => tr
  | r :: rs, tr => evs ch rs (tr ++ [stp ch tr r])
/-- the worths of the rows -/
def ev (ch : Int → Bool) (rows : List (List Key)) : List Bool := evs ch rows.tail [false]
/-- the worth of an edge -/
def vE (ch : Int → Bool) (rows : List (List Key)) (e : Int) : Bool := vl (ev ch rows) e
theorem evs_len (ch : Int → Bool) : ∀ (rs : List (List Key)) (tr : List Bool), (evs ch rs tr).length = tr.length + rs.length
  | [], tr => rfl
  | r :: rs, tr => by rw [evs, evs_len ch rs]; simp; omega
theorem evs_app (ch : Int → Bool) : ∀ (rs qs : List (List Key)) (tr : List Bool), evs ch (rs ++ qs) tr = evs ch qs (evs ch rs tr)
  | [], _, _ => rfl
  | r :: rs, qs, tr => by rw [List.cons_append, evs, evs, evs_app ch rs]
theorem evs_pre (ch : Int → Bool) : ∀ (rs : List (List Key)) (tr : List Bool), ∃ s, evs ch rs tr = tr ++ s
  | [], tr => ⟨[], by simp [evs]⟩
  | r :: rs, tr => by
    obtain ⟨s, e⟩ := evs_pre ch rs (tr ++ [stp ch tr r])
    exact ⟨[stp ch tr r] ++ s, by rw [evs, e, List.append_assoc]⟩
theorem vl_app {tr s : List Bool} {e : Int} (h0 : 0 ≤ e) (h : e / 2 < tr.length) : vl (tr ++ s) e = vl tr e := by
  unfold vl
  have : 0 ≤ e / 2 := Int.ediv_nonneg h0 (by omega)
  have e1 : (tr ++ s).getD (e / 2).toNat false = tr.getD (e / 2).toNat false := by
    rw [List.getD_eq_getElem?_getD, List.getD_eq_getElem?_getD, List.getElem?_append_left (by omega)]
  rw [e1]
section
variable {P : Int → Prop} {rows : List (List Key)} {roots : List Int} {ch : Int → Bool}
theorem ev_len (h : 0 < rows.length) : (ev ch rows).length = rows.length := by
  unfold ev
  rw [evs_len]
  simp; omega
/-- rows grow at their end -/
def Ext (r s : List (List Key)) : Prop := ∃ q, s = r ++ q
theorem Ext.refl (r : List (List Key)) : Ext r r := ⟨[], by simp⟩
theorem Ext.one (r : List (List Key)) (x : List Key) : Ext r (r ++ [x]) := ⟨[x], rfl⟩
theorem Ext.trans {r s t : List (List Key)} (h : Ext r s) (g : Ext s t) : Ext r t := by
  obtain ⟨q, rfl⟩ := h
  obtain ⟨q2, rfl⟩ := g
  exact ⟨q ++ q2, by rw [List.append_assoc]⟩
theorem Ext.len {r s : List (List Key)} (h : Ext r s) : r.length ≤ s.length := by obtain ⟨q, rfl⟩ := h; simp
theorem Ext.at_ {r s : List (List Key)} (h : Ext r s) {k : Int} (h0 : 0 ≤ k) (h1 : k < r.length) : atI s k = atI r k := by
  obtain ⟨q, rfl⟩ := h
  exact atI_app h0 h1
theorem Ext.edge {r s : List (List Key)} (h : Ext r s) {e : Int} (g : Edge r e) : Edge s e := ⟨g.1, by have := h.len; have := g.2; omega⟩
theorem ev_ext {r s : List (List Key)} (h : Ext r s) (hp : 0 < r.length) : ∃ t, ev ch s = ev ch r ++ t := by
  obtain ⟨q, rfl⟩ := h
  unfold ev
  rw [List.tail_append_of_ne_nil (by intro e; rw [e] at hp; cases hp), evs_app]
  exact evs_pre ch q _
theorem V_ext {r s : List (List Key)} (h : Ext r s) (hp : 0 < r.length) {e : Int} (g : Edge r e) : vE ch s e = vE ch r e := by
  obtain ⟨t, e1⟩ := ev_ext (ch := ch) h hp
  unfold vE
  rw [e1]
  exact vl_app g.1 (by rw [ev_len hp]; exact g.2)
/-- a row's worth, by its row -/
theorem ev_row (hp : 0 < rows.length) {k : Nat} (h0 : 0 < k) (hk : k < rows.length) : (ev ch rows)[k]? = some (stp ch (ev ch (rows.take k)) rows[k]) := by
  obtain ⟨r0, rs, rfl⟩ : ∃ r0 rs, rows = r0 :: rs := by
    cases rows with
    | nil => cases hp
    | cons r0 rs => exact ⟨r0, rs, rfl⟩
  obtain ⟨j, rfl⟩ : ∃ j, k = j + 1 := ⟨k - 1, by omega⟩
  have hj : j < rs.length := by simpa using hk
  unfold ev
  rw [List.take_succ_cons, List.tail_cons, List.tail_cons, List.getElem_cons_succ]
  have e : rs = rs.take j ++ rs[j] :: rs.drop (j + 1) := by rw [← List.drop_eq_getElem_cons hj, List.take_append_drop]
  have e2 : evs ch rs [false] = evs ch (rs.drop (j + 1)) (evs ch (rs.take j) [false] ++ [stp ch (evs ch (rs.take j) [false]) rs[j]]) := by
    conv => lhs; rw [e]
    rw [evs_app, evs]
  obtain ⟨s, e3⟩ := evs_pre ch (rs.drop (j + 1)) (evs ch (rs.take j) [false] ++ [stp ch (evs ch (rs.take j) [false]) rs[j]])
  rw [e2, e3]
  have hl : (evs ch (rs.take j) [false]).length = j + 1 := by rw [evs_len]; simp; omega
  rw [List.append_assoc, List.getElem?_append_right (by omega), hl]
  simp
theorem ev_get {k : Int} (h0 : 0 ≤ k) (hk : k < rows.length) : atI (ev ch rows) k = some (vE ch rows (2 * k)) := by
  rw [atI_of h0]
  unfold vE vl
  have e1 : 2 * k / 2 = k := by omega
  have e2 : ¬ (2 * k) % 2 = 1 := by omega
  have hl : (ev ch rows).length = rows.length := ev_len (by omega)
  rw [e1, decide_eq_false e2, List.getD_eq_getElem?_getD, List.getElem?_eq_getElem (by omega)]
  cases (ev ch rows)[k.toNat] <;> rfl
theorem vl_flip {tr : List Bool} {e : Int} : vl tr e = !decide (vl tr (2 * (e / 2)) = decide (e % 2 = 1)) := by
  unfold vl
  have e1 : 2 * (e / 2) / 2 = e / 2 := by omega
  have e2 : ¬ (2 * (e / 2)) % 2 = 1 := by omega
  rw [e1, decide_eq_false e2]
  cases tr.getD (e / 2).toNat false <;> cases decide (e % 2 = 1) <;> rfl
theorem V_letter (hp : 0 < rows.length) {k n : Int} (h0 : 0 < k) (h : atI rows k = some (lrow n)) : vE ch rows (2 * k) = ch n := by
  have hb := atI_bound (by omega) h
  have h1 := ev_get (ch := ch) (rows := rows) (k := k) (by omega) hb
  rw [atI_of (by omega), ev_row hp (k := k.toNat) (by omega) (by omega)] at h1
  rw [atI_of (by omega), List.getElem?_eq_getElem (by omega)] at h
  rw [Option.some.inj h] at h1
  exact (Option.some.inj h1).symm
theorem V_both (w : Wf P rows) {k a b : Int} (h0 : 0 < k) (h : atI rows k = some (brow a b)) : vE ch rows (2 * k) = (vE ch rows a && vE ch rows b) := by
  have wb := w.both h0 h
  have hb := atI_bound (by omega) h
  have h1 := ev_get (ch := ch) (rows := rows) (k := k) (by omega) hb
  have hx : Ext (rows.take k.toNat) rows := ⟨rows.drop k.toNat, (List.take_append_drop ..).symm⟩
  have hl : (rows.take k.toNat).length = k.toNat := by rw [List.length_take]; omega
  rw [V_ext hx (by omega) ⟨wb.1, by omega⟩, V_ext hx (by omega) ⟨wb.2.1, by omega⟩]
  rw [atI_of (by omega), ev_row w.pos (k := k.toNat) (by omega) (by omega)] at h1
  rw [atI_of (by omega), List.getElem?_eq_getElem (by omega)] at h
  rw [Option.some.inj h] at h1
  exact (Option.some.inj h1).symm
theorem V_first (h : 0 < rows.length) : vE ch rows 0 = false := by
  unfold vE ev vl
  obtain ⟨s, e⟩ := evs_pre ch rows.tail [false]
  rw [e]
  rfl
theorem V_opp {e : Int} (h0 : 0 ≤ e) : vE ch rows (m_law_opposite e) = !vE ch rows e := by
  unfold vE
  rw [vl_flip (e := m_law_opposite e), vl_flip (e := e)]
  have h1 : m_law_opposite e / 2 = e / 2 ∧ m_law_opposite e % 2 = 1 - e % 2 := by
    rcases (opp_iff (m_law_opposite e) e).mp rfl with ⟨a, b⟩ | ⟨a, b⟩ <;> omega
  rw [h1.1, h1.2]
  by_cases c : e % 2 = 1
  · rw [c]
    cases vl (ev ch rows) (2 * (e / 2)) <;> decide
  · have : e % 2 = 0 := by omega
    rw [this]
    cases vl (ev ch rows) (2 * (e / 2)) <;> decide
theorem opp_half {e : Int} : m_law_opposite e / 2 = e / 2 := by
  rcases (opp_iff (m_law_opposite e) e).mp rfl with ⟨a, b⟩ | ⟨a, b⟩ <;> omega
theorem V_edge {e : Int} : vE ch rows e = !decide (vE ch rows (2 * (e / 2)) = decide (e % 2 = 1)) := vl_flip
/-! the law's own sweep -/
theorem value_ok {e : Int} (g : Edge rows e) (hp : 0 < rows.length) : m_law_value (ev ch rows) e = some (vE ch rows e) := by
  unfold m_law_value
  have h0 : 0 ≤ e / 2 := Int.ediv_nonneg g.1 (by omega)
  rw [bs (ev_get h0 g.2), V_edge (e := e)]
theorem value_pre {tr : List Bool} {e : Int} (h0 : 0 ≤ e) (h : e / 2 < tr.length) : m_law_value tr e = some (vl tr e) := by
  unfold m_law_value vl
  have h1 : 0 ≤ e / 2 := Int.ediv_nonneg h0 (by omega)
  have e1 : atI tr (e / 2) = some (tr.getD (e / 2).toNat false) := by
    rw [atI_of h1, List.getD_eq_getElem?_getD, List.getElem?_eq_getElem (by omega)]
    rfl
  rw [bs e1]
theorem truths_l1 (w : Wf P rows) (choices : List (Int × Bool)) (hc : ∀ n, P n → mget choices n = some (ch n)) (hl : rows.length < 16777216) : ∀ (n i : Nat) (tr : List Bool), i + 1 + n = rows.length → tr.length = i + 1 →
    m_law_truths_l1 rows choices ((List.range' i n).map fun (j : Nat) => (1 : Int) + (j : Int)) tr = some (evs ch (rows.drop (i + 1)) tr)
  | 0, i, tr, h, _ => by
    rw [List.drop_eq_nil_of_le (by omega)]
    rfl
  | n + 1, i, tr, h, ht => by
    rw [List.range'_succ, List.map_cons, m_law_truths_l1, List.drop_eq_getElem_cons (by omega), evs]
    have e0 : (1 : Int) + (i : Int) = ((i + 1 : Nat) : Int) := by omega
    obtain ⟨r, e1, e2⟩ := w.at_ ((1 : Int) + (i : Int)) (by omega) (by omega)
    rw [bs e1]
    have e3 : rows[i + 1] = r := by
      rw [e0, atI_of (by omega)] at e1
      simpa [show i + 1 < rows.length by omega] using e1
    rw [e3]
    rcases e2 with ⟨m, hm, rfl⟩ | ⟨a, b, ha, hb, hak, hbk, rfl⟩
    · rw [bs (lrow0 m), if_pos (by simp), bs (lrow1 m), bs (hc m hm), grd_t (decide_eq_true (by omega))]
      exact truths_l1 w choices hc hl n (i + 1) _ (by omega) (by simp [ht])
    · rw [bs (brow0 a b), if_neg (by rw [b_ne_l]; simp)]
      have eb : ((kInt (brow a b) (1 : Int)).bind fun y65 =>
        (m_law_value tr y65).bind fun y67 =>
        if y67 = true then ((kInt (brow a b) (2 : Int)).bind fun y70 =>
        (m_law_value tr y70).bind fun y72 =>
        some y72) else (some false)) = some (stp ch tr (brow a b)) := by
        rw [bs (brow1 a b), bs (value_pre ha (by omega))]
        show _ = some (vl tr a && vl tr b)
        cases vl tr a with
        | false => rfl
        | true => rw [if_pos rfl, bs (brow2 a b), bs (value_pre hb (by omega))]; rfl
      rw [bs eb, grd_t (decide_eq_true (by omega))]
      exact truths_l1 w choices hc hl n (i + 1) _ (by omega) (by simp [ht])
theorem truths_ok (w : Wf P rows) (choices : List (Int × Bool)) (hc : ∀ n, P n → mget choices n = some (ch n)) (hl : rows.length < 16777216) : m_law_truths rows choices = some (ev ch rows) := by
  have hp := w.pos
  unfold m_law_truths
  rw [grd_t (rng2Ok_t (by omega) (by omega) (by omega) (by omega))]
  have e : pyRange 1 ((rows.length : Int) - 1).toNat = (List.range' 0 (rows.length - 1)).map fun (j : Nat) => (1 : Int) + (j : Int) := by
    unfold pyRange
    rw [List.range_eq_range', show ((rows.length : Int) - 1).toNat = rows.length - 1 by omega]
  rw [e, bs (truths_l1 w choices hc hl (rows.length - 1) 0 [false] (by omega) rfl)]
  rw [ev, List.drop_one]
end
end G

namespace G
open PySem PySem.Spec PyProof.Rows L2

/-! ## what the row calls do to the worths -/
theorem fnd_get {row : List Key} : ∀ {rs : List (List Key)} {k : Nat}, fnd row rs = some k → rs[k]? = some row
  | r :: rs, k, h => by
    unfold fnd at h
    by_cases c : r = row
    · rw [if_pos c] at h; cases h; simp [c]
    · rw [if_neg c] at h
      cases e : fnd row rs with
      | none => rw [e] at h; cases h
      | some j =>
        rw [e] at h
        cases h
        simpa using fnd_get e
section
variable {P : Int → Prop} {rows : List (List Key)} {ch : Int → Bool}
theorem Wf.snoc (w : Wf P rows) {r : List Key} (h : RowAt P rows.length r) : Wf P (rows ++ [r]) where
  pos := by simp
  at_ := fun k h0 hk => by
    by_cases c : k < rows.length
    · obtain ⟨x, e1, e2⟩ := w.at_ k h0 c
      exact ⟨x, by rw [atI_app (by omega) c]; exact e1, e2⟩
    · have : k = rows.length := by simp at hk; omega
      subst this
      exact ⟨r, atI_last, h⟩
/-- a row call's outcome -/
structure RowOut (P : Int → Prop) (rows : List (List Key)) (row : List Key) (e : Int) (rows' : List (List Key)) : Prop where
  wf : Wf P rows'
  ext : Ext rows rows'
  edge : Edge rows' e
  at_ : ∃ k : Int, 0 < k ∧ e = 2 * k ∧ atI rows' k = some row
theorem row_out {G : M_Gates} (S : Sim G rows) (w : Wf P rows) {row : List Key} (hr : okRow row) (hn : row ≠ [Sum.inr ("no" : Str)]) (hl : rows.length < 16777216) (h : RowAt P rows.length row)
    {e : Int} {rows' : List (List Key)} (he : m_law_row rows row = some (e, rows')) : RowOut P rows row e rows' := by
  rw [law_row rows row S.ok hr hl] at he
  cases c : fnd row rows with
  | some k =>
    rw [c] at he
    obtain ⟨rfl, rfl⟩ := Prod.mk.inj (Option.some.inj he)
    have hk := fnd_lt c
    have hg := fnd_get c
    have h0 : 0 < k := by
      rcases Nat.eq_zero_or_pos k with rfl | h
      · obtain ⟨rs, e⟩ := S.first
        rw [e] at hg
        exact absurd (Option.some.inj hg).symm hn
      · exact h
    exact ⟨w, .refl _, ⟨by omega, by omega⟩, (k : Int), by omega, rfl, by rw [atI_of (by omega)]; exact hg⟩
  | none =>
    rw [c] at he
    obtain ⟨rfl, rfl⟩ := Prod.mk.inj (Option.some.inj he)
    have hp := w.pos
    exact ⟨w.snoc h, .one _ _, ⟨by omega, by simp; omega⟩, (rows.length : Int), by omega, rfl, atI_last⟩
theorem leaf_val {G : M_Gates} (S : Sim G rows) (w : Wf P rows) {n : Int} (hn : P n) (hl : rows.length < 16777216) {e : Int} {rows' : List (List Key)} (he : m_law_row rows (lrow n) = some (e, rows')) :
    Wf P rows' ∧ Ext rows rows' ∧ Edge rows' e ∧ ∀ ch, vE ch rows' e = ch n := by
  have o := row_out S w (ok_letter n) (by intro h; cases h) hl (.inl ⟨n, hn, rfl⟩) he
  obtain ⟨k, h0, rfl, h1⟩ := o.at_
  exact ⟨o.wf, o.ext, o.edge, fun ch => V_letter o.wf.pos h0 h1⟩
theorem V_yes (hp : 0 < rows.length) : vE ch rows 1 = true := by
  rw [V_edge]
  show (!decide (vE ch rows 0 = true)) = true
  rw [V_first hp]
  rfl
theorem both_val {G : M_Gates} (S : Sim G rows) (w : Wf P rows) {a b : Int} (ha : Edge rows a) (hb : Edge rows b) (hl : rows.length < 16777216) {e : Int} {rows' : List (List Key)} (he : m_law_both rows a b = some (e, rows')) :
    Wf P rows' ∧ Ext rows rows' ∧ Edge rows' e ∧ ∀ ch, vE ch rows' e = (vE ch rows a && vE ch rows b) := by
  have hp := w.pos
  unfold m_law_both at he
  by_cases c : a = 0 ∨ b = 0 ∨ a = m_law_opposite b
  · rw [if_pos (by simpa using c)] at he
    obtain ⟨rfl, rfl⟩ := Prod.mk.inj (Option.some.inj he)
    refine ⟨w, .refl _, ⟨by omega, by omega⟩, fun ch => ?_⟩
    rw [V_first hp]
    rcases c with rfl | rfl | rfl
    · rw [V_first hp]; rfl
    · rw [V_first hp, Bool.and_false]
    · rw [V_opp hb.1]; cases vE ch rows b <;> rfl
  · rw [if_neg (by simpa using c)] at he
    by_cases d1 : a = 1
    · subst d1
      rw [if_pos (by simp)] at he
      obtain ⟨rfl, rfl⟩ := Prod.mk.inj (Option.some.inj he)
      exact ⟨w, .refl _, hb, fun ch => by rw [V_yes hp, Bool.true_and]⟩
    · rw [if_neg (by simpa using d1)] at he
      by_cases d2 : b = 1 ∨ a = b
      · rw [if_pos (by simpa using d2)] at he
        obtain ⟨rfl, rfl⟩ := Prod.mk.inj (Option.some.inj he)
        refine ⟨w, .refl _, ha, fun ch => ?_⟩
        rcases d2 with rfl | rfl
        · rw [V_yes hp, Bool.and_true]
        · rw [Bool.and_self]
      · rw [if_neg (by simpa using d2)] at he
        obtain ⟨y, e1, e2⟩ := bnd he
        obtain ⟨rfl, rfl⟩ := Prod.mk.inj (Option.some.inj e2)
        have o := row_out S w (ok_both _ _) (by intro h; cases h) hl (.inr ⟨_, _, by split; exact hb.1; exact ha.1, by split; exact hb.1; exact ha.1, by split; exact hb.2; exact ha.2, by split; exact hb.2; exact ha.2, rfl⟩) (show m_law_row rows _ = some (y.1, y.2) from e1)
        obtain ⟨k, h0, hk, h1⟩ := o.at_
        refine ⟨o.wf, o.ext, o.edge, fun ch => ?_⟩
        rw [hk, V_both o.wf h0 h1, ← V_ext o.ext hp ha, ← V_ext o.ext hp hb]
        by_cases c2 : b < a
        · rw [if_pos c2, if_neg (by omega), Bool.and_comm]
        · rw [if_neg c2]
          by_cases c3 : b > a
          · rw [if_pos c3]
          · have : a = b := by omega
            exact (d2 (.inr this)).elim
end
end G

namespace G
open PySem PySem.Spec PyProof.Rows L2

/-! ## gates rest on two different rows behind the first -/
def Gat (rows : List (List Key)) : Prop := ∀ k a b : Int, 0 < k → atI rows k = some (brow a b) → 2 ≤ a ∧ a < b ∧ a / 2 ≠ b / 2
section
variable {P : Int → Prop} {rows : List (List Key)}
theorem Gat.snoc (g : Gat rows) {r : List Key} (h : ∀ a b, r = brow a b → 2 ≤ a ∧ a < b ∧ a / 2 ≠ b / 2) : Gat (rows ++ [r]) := by
  intro k a b h0 e
  have hb := atI_bound (by omega) e
  by_cases c : k < rows.length
  · exact g k a b h0 (by rw [← e, atI_app (by omega) c])
  · have : k = rows.length := by simp at hb; omega
    subst this
    rw [atI_last] at e
    exact h a b (Option.some.inj e)
theorem gat_row {G : M_Gates} (S : Sim G rows) (g : Gat rows) {row : List Key} (hr : okRow row) (hl : rows.length < 16777216) (h : ∀ a b, row = brow a b → 2 ≤ a ∧ a < b ∧ a / 2 ≠ b / 2)
    {e : Int} {rows' : List (List Key)} (he : m_law_row rows row = some (e, rows')) : Gat rows' := by
  rw [law_row rows row S.ok hr hl] at he
  cases c : fnd row rows with
  | some k =>
    rw [c] at he
    obtain ⟨-, rfl⟩ := Prod.mk.inj (Option.some.inj he)
    exact g
  | none =>
    rw [c] at he
    obtain ⟨-, rfl⟩ := Prod.mk.inj (Option.some.inj he)
    exact g.snoc h
theorem gat_leaf {G : M_Gates} (S : Sim G rows) (g : Gat rows) {n : Int} (hl : rows.length < 16777216) {e : Int} {rows' : List (List Key)} (he : m_law_row rows (lrow n) = some (e, rows')) : Gat rows' :=
  gat_row S g (ok_letter n) hl (fun a b h => (l_not_b h).elim) he
theorem gat_both {G : M_Gates} (S : Sim G rows) (g : Gat rows) {a b : Int} (ha : 0 ≤ a) (hb : 0 ≤ b) (hl : rows.length < 16777216) {e : Int} {rows' : List (List Key)} (he : m_law_both rows a b = some (e, rows')) : Gat rows' := by
  unfold m_law_both at he
  by_cases c : a = 0 ∨ b = 0 ∨ a = m_law_opposite b
  · rw [if_pos (by simpa using c)] at he
    obtain ⟨-, rfl⟩ := Prod.mk.inj (Option.some.inj he)
    exact g
  · rw [if_neg (by simpa using c)] at he
    by_cases d1 : a = 1
    · rw [if_pos (by simpa using d1)] at he
      obtain ⟨-, rfl⟩ := Prod.mk.inj (Option.some.inj he)
      exact g
    · rw [if_neg (by simpa using d1)] at he
      by_cases d2 : b = 1 ∨ a = b
      · rw [if_pos (by simpa using d2)] at he
        obtain ⟨-, rfl⟩ := Prod.mk.inj (Option.some.inj he)
        exact g
      · rw [if_neg (by simpa using d2)] at he
        obtain ⟨y, e1, e2⟩ := bnd he
        obtain ⟨-, rfl⟩ := Prod.mk.inj (Option.some.inj e2)
        refine gat_row S g (ok_both _ _) hl (fun x y h => ?_) (show m_law_row rows _ = some (y.1, y.2) from e1)
        obtain ⟨rfl, rfl⟩ := brow_inj h
        rw [opp_iff] at c
        split <;> split <;> omega
end
end G

namespace G
open PySem PySem.Spec PyProof.Rows L2

/-! ## rows are all different -/
theorem fnd_none {row : List Key} : ∀ {rs : List (List Key)}, fnd row rs = none → row ∉ rs
  | [], _ => by simp
  | r :: rs, h => by
    unfold fnd at h
    by_cases c : r = row
    · rw [if_pos c] at h; cases h
    · rw [if_neg c] at h
      have h2 : fnd row rs = none := by
        cases e : fnd row rs with
        | none => rfl
        | some k => rw [e] at h; cases h
      have := fnd_none h2
      simp only [List.mem_cons, not_or]
      exact ⟨fun e => c e.symm, this⟩
section
variable {P : Int → Prop} {rows : List (List Key)}
theorem nod_row {G : M_Gates} (S : Sim G rows) (g : rows.Nodup) {row : List Key} (hr : okRow row) (hl : rows.length < 16777216) {e : Int} {rows' : List (List Key)} (he : m_law_row rows row = some (e, rows')) : rows'.Nodup := by
  rw [law_row rows row S.ok hr hl] at he
  cases c : fnd row rows with
  | some k =>
    rw [c] at he
    obtain ⟨-, rfl⟩ := Prod.mk.inj (Option.some.inj he)
    exact g
  | none =>
    rw [c] at he
    obtain ⟨-, rfl⟩ := Prod.mk.inj (Option.some.inj he)
    refine List.nodup_append.mpr ⟨g, by simp, fun a ha b hb => ?_⟩
    have : b = row := by simpa using hb
    subst this
    rintro rfl
    exact fnd_none c ha
theorem nod_leaf {G : M_Gates} (S : Sim G rows) (g : rows.Nodup) {n : Int} (hl : rows.length < 16777216) {e : Int} {rows' : List (List Key)} (he : m_law_row rows (lrow n) = some (e, rows')) : rows'.Nodup := nod_row S g (ok_letter n) hl he
theorem nod_both {G : M_Gates} (S : Sim G rows) (g : rows.Nodup) {a b : Int} (hl : rows.length < 16777216) {e : Int} {rows' : List (List Key)} (he : m_law_both rows a b = some (e, rows')) : rows'.Nodup := by
  unfold m_law_both at he
  split at he
  · obtain ⟨-, rfl⟩ := Prod.mk.inj (Option.some.inj he); exact g
  · split at he
    · obtain ⟨-, rfl⟩ := Prod.mk.inj (Option.some.inj he); exact g
    · split at he
      · obtain ⟨-, rfl⟩ := Prod.mk.inj (Option.some.inj he); exact g
      · obtain ⟨y, e1, e2⟩ := bnd he
        obtain ⟨-, rfl⟩ := Prod.mk.inj (Option.some.inj e2)
        exact nod_row S g (ok_both _ _) hl (show m_law_row rows _ = some (y.1, y.2) from e1)

/-! ## which rows are gates -/
def isB (rows : List (List Key)) (k : Int) : Bool := decide ((atI rows k).bind (fun r => kStr r 0) = some ("both" : Str))
theorem isB_l {k n : Int} (h : atI rows k = some (lrow n)) : isB rows k = false := by
  unfold isB
  rw [h, Option.bind_some, lrow0]
  exact decide_eq_false fun q => absurd (Option.some.inj q) (of_decide_eq_false l_ne_b)
theorem isB_b {k a b : Int} (h : atI rows k = some (brow a b)) : isB rows k = true := by
  unfold isB
  rw [h, Option.bind_some, brow0]
  exact decide_eq_true rfl
theorem gates_filter {c : List Int} (h : ∀ k ∈ c, ∃ r, atI rows k = some r ∧ RowAt P k r) : (lcO (fun x => (atI rows x).bind fun y => (kStr y (0 : Int)).bind fun z => if (decide (z = ("both" : Str))) = true then (some (some x)) else some none) c) = some (c.filter (isB rows)) := by
  have e : lcO (fun x => (atI rows x).bind fun y => (kStr y (0 : Int)).bind fun z => if (decide (z = ("both" : Str))) = true then (some (some x)) else some none) c = lcO (fun x => if isB rows x = true then some (some x) else some none) c := by
    refine lcO_congr fun x hx => ?_
    obtain ⟨r, h1, h2⟩ := h x hx
    rcases h2 with ⟨n, _, rfl⟩ | ⟨a, b, _, _, _, _, rfl⟩
    · rw [bs h1, bs (lrow0 n), isB_l h1, l_ne_b]
    · rw [bs h1, bs (brow0 a b), isB_b h1]; simp
  rw [e, lc_filter (isB rows) fun x => x, List.map_id']

/-! ## the table of gate letters -/
def tab (L : Int) : List Int → List (Int × Int)
  | [] => []
  | k :: ks => (k, L) :: tab (L + 1) ks
theorem tab_len : ∀ (L : Int) (ks : List Int), (tab L ks).length = ks.length
  | _, [] => rfl
  | L, k :: ks => congrArg (· + 1) (tab_len (L + 1) ks)
theorem tab_keys : ∀ (L : Int) (ks : List Int), (tab L ks).map (·.1) = ks
  | _, [] => rfl
  | L, k :: ks => congrArg (k :: ·) (tab_keys (L + 1) ks)
theorem tab_app : ∀ (L : Int) (xs ys : List Int), tab L (xs ++ ys) = tab L xs ++ tab (L + xs.length) ys
  | L, [], ys => by simp [tab]
  | L, x :: xs, ys => by
    show (x, L) :: tab (L + 1) (xs ++ ys) = (x, L) :: (tab (L + 1) xs ++ tab (L + ((xs.length + 1 : Nat) : Int)) ys)
    rw [tab_app (L + 1) xs ys, show L + 1 + (xs.length : Int) = L + ((xs.length + 1 : Nat) : Int) by omega]
theorem mget_app {κ α : Type} [DecidableEq κ] {xs ys : List (κ × α)} {k : κ} : mget (xs ++ ys) k = match mget xs k with | some y => some y | none => mget ys k := by
  unfold mget
  rw [List.find?_append]
  cases xs.find? fun p => decide (p.1 = k) <;> simp
theorem mget_tab_none {L : Int} {ks : List Int} {k : Int} (h : k ∉ ks) : mget (tab L ks) k = none := mget_none.mpr (by rw [tab_keys]; exact h)
theorem mget_tab : ∀ {ks : List Int} {L k : Int}, k ∈ ks → ∃ v, mget (tab L ks) k = some v ∧ L ≤ v ∧ v < L + ks.length
  | j :: ks, L, k, h => by
    show ∃ v, mget ((j, L) :: tab (L + 1) ks) k = _ ∧ _
    rw [mget_cons]
    by_cases c : j = k
    · rw [if_pos c]; exact ⟨L, rfl, by omega, by simp; omega⟩
    · rw [if_neg c]
      obtain ⟨v, h1, h2, h3⟩ := mget_tab (L := L + 1) ((List.mem_cons.mp h).resolve_left fun e => c e.symm)
      exact ⟨v, h1, by omega, by simp; omega⟩
theorem mget_tab_lt : ∀ {ks : List Int} {L k j u v : Int}, ks.Pairwise (· < ·) → mget (tab L ks) k = some u → mget (tab L ks) j = some v → k < j → u < v
  | [], _, _, _, _, _, _, h, _, _ => by cases h
  | i :: ks, L, k, j, u, v, hs, h1, h2, hl => by
    have hs2 := List.pairwise_cons.mp hs
    have h1' : mget ((i, L) :: tab (L + 1) ks) k = some u := h1
    have h2' : mget ((i, L) :: tab (L + 1) ks) j = some v := h2
    rw [mget_cons] at h1' h2'
    have hk : ∀ {x y}, mget (tab (L + 1) ks) x = some y → x ∈ ks := fun {x y} e => Classical.byContradiction fun n => by rw [mget_tab_none n] at e; cases e
    by_cases c1 : i = k
    · rw [if_pos c1] at h1'
      cases h1'
      rw [if_neg (by show ¬ i = j; omega)] at h2'
      obtain ⟨w, g1, g2, _⟩ := mget_tab (L := L + 1) (hk h2')
      rw [h2'] at g1; cases g1; omega
    · rw [if_neg c1] at h1'
      by_cases c2 : i = j
      · have := hs2.1 k (hk h1'); omega
      · rw [if_neg c2] at h2'
        exact mget_tab_lt hs2.2 h1' h2' hl
theorem letters_l1 (first : Int) : ∀ (c : List Int) (st : List (Int × Int)), (∀ k ∈ c, ∃ r, atI rows k = some r ∧ RowAt P k r) → c.Nodup → (∀ k ∈ c, k ∉ st.map (·.1)) → st.length + c.length < 16777216 →
    m_law_letters_l1 rows first c st = some (st ++ tab (first + st.length) (c.filter (isB rows)))
  | [], st, _, _, _, _ => by simp [m_law_letters_l1, tab]
  | k :: c, st, h, nd, hn, hl => by
    have nd2 := List.nodup_cons.mp nd
    obtain ⟨r, h1, h2⟩ := h k (.head _)
    have hl' : st.length + (c.length + 1) < 16777216 := hl
    rw [m_law_letters_l1, bs h1]
    rcases h2 with ⟨n, _, rfl⟩ | ⟨a, b, _, _, _, _, rfl⟩
    · rw [bs (lrow0 n), if_neg (by rw [l_ne_b]; simp), letters_l1 first c st (fun j hj => h j (.tail _ hj)) nd2.2 (fun j hj => hn j (.tail _ hj)) (by omega), List.filter_cons_of_neg (by rw [isB_l h1]; simp)]
    · rw [bs (brow0 a b), if_pos (by simp), grd_t (decide_eq_true (by omega)), mget_put_new (mget_none.mpr (hn k (.head _)))]
      rw [letters_l1 first c _ (fun j hj => h j (.tail _ hj)) nd2.2 (fun j hj => by
        rw [List.map_append]
        intro hm
        rcases List.mem_append.mp hm with q | q
        · exact hn j (.tail _ hj) q
        · have : j = k := by simpa using q
          subst this
          exact nd2.1 hj) (by simp; omega), List.filter_cons_of_pos (by rw [isB_b h1]), List.append_assoc]
      show _ = some (st ++ (k, first + (st.length : Int)) :: tab (first + (st.length : Int) + 1) (c.filter (isB rows)))
      simp [Int.add_assoc]

/-! ## literals -/
def base (rows : List (List Key)) (tb : List (Int × Int)) (k : Int) : Int := if isB rows k = true then (mget tb k).getD 0 else ((atI rows k).bind fun r => kInt r 1).getD 0
def sgn (e x : Int) : Int := if e % 2 = 1 then -x else x
def lit (rows : List (List Key)) (tb : List (Int × Int)) (e : Int) : Int := sgn e (base rows tb (e / 2))
theorem base_l {tb : List (Int × Int)} {k n : Int} (h : atI rows k = some (lrow n)) : base rows tb k = n := by
  unfold base; rw [isB_l h, if_neg (by simp), h]; rfl
theorem base_b {tb : List (Int × Int)} {k a b v : Int} (h : atI rows k = some (brow a b)) (g : mget tb k = some v) : base rows tb k = v := by
  unfold base; rw [isB_b h, if_pos rfl, g]; rfl
theorem lit_ok (w : Wf P rows) {tb : List (Int × Int)} {e : Int} (h0 : 2 ≤ e) (h1 : e / 2 < rows.length) (hT : ∀ a b, atI rows (e / 2) = some (brow a b) → ∃ v, mget tb (e / 2) = some v) (cl : List (List Int)) (kn : List (List Key × Int)) :
    m_law_literal rows tb e = some (lit rows tb e) ∧ m_Encoding_literal (M_Encoding.mk tb cl (M_Gates.mk rows kn)) e = some (lit rows tb e) := by
  obtain ⟨r, e1, e2⟩ := w.at_ (e / 2) (by omega) h1
  have fin1 : ∀ x, (if (decide ((e % (2 : Int)) = (1 : Int))) = true then (some ((0 : Int) - x)) else (some x)) = some (sgn e x) := by
    intro x
    unfold sgn
    by_cases c : e % 2 = 1
    · rw [if_pos (decide_eq_true c), if_pos c, Int.zero_sub]
    · rw [if_neg (by simpa using c), if_neg c]
  have fin2 : ∀ x, (if (decide ((Builtin.bitAnd e (1 : Int)) = (1 : Int))) = true then (some (-x)) else (some x)) = some (sgn e x) := by
    intro x
    rw [and1]
    unfold sgn
    by_cases c : e % 2 = 1
    · rw [if_pos (decide_eq_true c), if_pos c]
    · rw [if_neg (by simpa using c), if_neg c]
  unfold m_law_literal m_Encoding_literal lit
  rcases e2 with ⟨n, _, rfl⟩ | ⟨a, b, _, _, _, _, rfl⟩
  · rw [base_l e1]
    constructor
    · rw [bs e1, bs (lrow1 n), bs (x := n) (by rw [bs e1, bs (lrow0 n), if_neg (by rw [l_ne_b]; simp)])]
      exact fin1 n
    · show ((atI rows (e / 2)).bind _) = _
      rw [bs e1, bs (lrow1 n), bs (x := n) (by rw [bs (lrow0 n), if_neg (by rw [l_ne_b]; simp)])]
      exact fin2 n
  · obtain ⟨v, hv⟩ := hT a b e1
    rw [base_b e1 hv]
    constructor
    · rw [bs e1, bs (brow1 a b), bs (x := v) (by rw [bs e1, bs (brow0 a b), if_pos (by simp), bs hv])]
      exact fin1 v
    · show ((atI rows (e / 2)).bind _) = _
      rw [bs e1, bs (brow1 a b), bs (x := v) (by rw [bs (brow0 a b), if_pos (by simp)]; show ((mget tb (e / 2)).bind _) = _; rw [bs hv])]
      exact fin2 v

/-! ## the normal form of clauses without doubles -/
theorem ddup_nodup : ∀ {ns : List Int}, ns.Nodup → ddup ns = ns
  | [], _ => rfl
  | n :: ns, h => by
    have h2 := List.nodup_cons.mp h
    unfold ddup
    rw [ddup_nodup h2.2]
    simp [h2.1]
theorem mset_nodup {ns : List Int} (h : ns.Nodup) : mset ns = sortI ns := by unfold mset; rw [ddup_nodup h]
theorem normal_l1 (ns : List Int) : ∀ xs : List Int, (∀ x ∈ xs, -x ∉ ns) → m_normal_clause_l1 ns xs () = some (.done ())
  | [], _ => rfl
  | x :: xs, h => by
    rw [m_normal_clause_l1, if_neg (by
      intro c
      exact h x (.head _) (mem_mset.mp (of_decide_eq_true c)))]
    exact normal_l1 ns xs fun y hy => h y (.tail _ hy)
theorem normal_ok {ns : List Int} (hl : ns.length < 64) (nd : ns.Nodup) (no : ∀ x ∈ ns, -x ∉ ns) : m_normal_clause ns = some (some (sortI ns)) := by
  unfold m_normal_clause
  rw [grd_t (decide_eq_true hl)]
  have e : ∃ b, (if (!(mset ns).isEmpty) = true then ((atI (mset ns) (0 : Int)).bind fun y23 => some (decide (y23 < (0 : Int)))) else (some false)) = some b := by
    cases c : mset ns with
    | nil => exact ⟨false, rfl⟩
    | cons x t =>
      refine ⟨decide (x < 0), ?_⟩
      rw [if_pos (by rfl), bs (x := x) (by rw [atI_of (by omega)]; rfl)]
  obtain ⟨b, e⟩ := e
  rw [bs e, mset_nodup nd]
  cases b with
  | false => rfl
  | true =>
    rw [if_pos rfl, bs (normal_l1 ns (sortI ns) fun x hx => no x (mem_sortI.mp hx))]

/-! ## a set of gates with letters -/
structure Enc (P : Int → Prop) (first : Int) (rows : List (List Key)) (gs : List Int) : Prop where
  wf : Wf P rows
  hp : ∀ n, P n → 1 ≤ n ∧ n < first
  gat : Gat rows
  nod : rows.Nodup
  srt : gs.Pairwise (· < ·)
  mem : ∀ k ∈ gs, 0 < k ∧ ∃ a b, atI rows k = some (brow a b)
  cl : ∀ k ∈ gs, ∀ a b, atI rows k = some (brow a b) → ∀ j, j = a / 2 ∨ j = b / 2 → ∀ a' b', atI rows j = some (brow a' b') → j ∈ gs
/-- an edge with a literal -/
structure Ve (rows : List (List Key)) (gs : List Int) (e : Int) : Prop where
  lo : 2 ≤ e
  hi : e / 2 < rows.length
  g : ∀ a b, atI rows (e / 2) = some (brow a b) → e / 2 ∈ gs
section
variable {first : Int} {gs : List Int}
theorem base_of (E : Enc P first rows gs) {j : Int} (h0 : 0 < j) (h1 : j < rows.length) (g : ∀ a b, atI rows j = some (brow a b) → j ∈ gs) :
    (∃ n, atI rows j = some (lrow n) ∧ 1 ≤ n ∧ n < first ∧ base rows (tab first gs) j = n) ∨ (∃ a b v, atI rows j = some (brow a b) ∧ j ∈ gs ∧ mget (tab first gs) j = some v ∧ first ≤ v ∧ base rows (tab first gs) j = v) := by
  obtain ⟨r, e1, e2⟩ := E.wf.at_ j h0 h1
  rcases e2 with ⟨n, hn, rfl⟩ | ⟨a, b, _, _, _, _, rfl⟩
  · exact .inl ⟨n, e1, (E.hp n hn).1, (E.hp n hn).2, base_l e1⟩
  · obtain ⟨v, g1, g2, _⟩ := mget_tab (L := first) (g a b e1)
    exact .inr ⟨a, b, v, e1, g a b e1, g1, g2, base_b e1 g1⟩
theorem at_inj (nd : rows.Nodup) {i j : Int} {r : List Key} (hi : 0 ≤ i) (hj : 0 ≤ j) (h1 : atI rows i = some r) (h2 : atI rows j = some r) : i = j := by
  rw [atI_of hi] at h1
  rw [atI_of hj] at h2
  obtain ⟨l1, q1⟩ := List.getElem?_eq_some_iff.mp h1
  obtain ⟨l2, q2⟩ := List.getElem?_eq_some_iff.mp h2
  have := (List.getElem_inj nd).mp (q1.trans q2.symm)
  omega
theorem first_pos (E : Enc P first rows gs) {j : Int} (h0 : 0 < j) (h1 : j < rows.length) (g : ∀ a b, atI rows j = some (brow a b) → j ∈ gs) (hf : 1 ≤ first) : 1 ≤ base rows (tab first gs) j := by
  rcases base_of E h0 h1 g with ⟨n, _, h, _, e⟩ | ⟨_, _, v, _, _, _, h, e⟩ <;> omega
/-- a gate's letter, its two edges -/
theorem gate_facts (E : Enc P first rows gs) (hf : 1 ≤ first) {k : Int} (hk : k ∈ gs) : ∃ a b L, atI rows k = some (brow a b) ∧ mget (tab first gs) k = some L ∧ first ≤ L ∧ a / 2 < k ∧ b / 2 < k ∧ Ve rows gs a ∧ Ve rows gs b ∧
    1 ≤ base rows (tab first gs) (a / 2) ∧ base rows (tab first gs) (a / 2) < L ∧ 1 ≤ base rows (tab first gs) (b / 2) ∧ base rows (tab first gs) (b / 2) < L ∧ base rows (tab first gs) (a / 2) ≠ base rows (tab first gs) (b / 2) := by
  obtain ⟨h0, a, b, e1⟩ := E.mem k hk
  obtain ⟨L, g1, g2, _⟩ := mget_tab (L := first) hk
  have hg := E.gat k a b h0 e1
  have hw := E.wf.both h0 e1
  have hb := atI_bound (by omega) e1
  have va : Ve rows gs a := ⟨by omega, by omega, fun a' b' q => E.cl k hk a b e1 _ (.inl rfl) a' b' q⟩
  have vb : Ve rows gs b := ⟨by omega, by omega, fun a' b' q => E.cl k hk a b e1 _ (.inr rfl) a' b' q⟩
  have up : ∀ j, 0 < j → j < k → (∀ a b, atI rows j = some (brow a b) → j ∈ gs) → base rows (tab first gs) j < L := by
    intro j j0 jk g
    rcases base_of E j0 (by omega) g with ⟨n, _, _, h, e⟩ | ⟨_, _, v, _, _, q, _, e⟩
    · omega
    · have := mget_tab_lt E.srt q g1 jk
      omega
  refine ⟨a, b, L, e1, g1, g2, hw.2.2.1, hw.2.2.2, va, vb, first_pos E (by omega) va.hi va.g hf, up _ (by omega) hw.2.2.1 va.g, first_pos E (by omega) vb.hi vb.g hf, up _ (by omega) hw.2.2.2 vb.g, ?_⟩
  rcases base_of E (j := a / 2) (by omega) va.hi va.g with ⟨n, q1, _, q2, q3⟩ | ⟨_, _, v, _, _, q1, q2, q3⟩
  · rcases base_of E (j := b / 2) (by omega) vb.hi vb.g with ⟨m, p1, _, p2, p3⟩ | ⟨_, _, u, _, _, p1, p2, p3⟩
    · rw [q3, p3]
      rintro rfl
      exact hg.2.2 (at_inj E.nod (by omega) (by omega) q1 p1)
    · omega
  · rcases base_of E (j := b / 2) (by omega) vb.hi vb.g with ⟨m, p1, _, p2, p3⟩ | ⟨_, _, u, _, _, p1, p2, p3⟩
    · omega
    · rcases Int.lt_or_gt_of_ne hg.2.2 with c | c
      · have := mget_tab_lt E.srt q1 p1 c; omega
      · have := mget_tab_lt E.srt p1 q1 c; omega
theorem lit_or (tb : List (Int × Int)) (e : Int) : lit rows tb e = base rows tb (e / 2) ∨ lit rows tb e = -base rows tb (e / 2) := by
  unfold lit sgn
  split
  · exact .inr rfl
  · exact .inl rfl
theorem Ve.ok (E : Enc P first rows gs) {e : Int} (h : Ve rows gs e) (cl : List (List Int)) (kn : List (List Key × Int)) :
    m_law_literal rows (tab first gs) e = some (lit rows (tab first gs) e) ∧ m_Encoding_literal (M_Encoding.mk (tab first gs) cl (M_Gates.mk rows kn)) e = some (lit rows (tab first gs) e) :=
  lit_ok E.wf h.lo h.hi (fun a b q => by obtain ⟨v, g, _⟩ := mget_tab (L := first) (h.g a b q); exact ⟨v, g⟩) cl kn

/-! ## the clauses -/
def cl3 (L x y : Int) : List (List Int) := [sortI [-L, x], sortI [-L, y], sortI [L, -x, -y]]
def gA (rows : List (List Key)) (k : Int) : Int := ((atI rows k).bind fun r => kInt r 1).getD 0
def gB (rows : List (List Key)) (k : Int) : Int := ((atI rows k).bind fun r => kInt r 2).getD 0
def clk (rows : List (List Key)) (tb : List (Int × Int)) (k : Int) : List (List Int) := cl3 ((mget tb k).getD 0) (lit rows tb (gA rows k)) (lit rows tb (gB rows k))
def cls (rows : List (List Key)) (tb : List (Int × Int)) (ks : List Int) : List (List Int) := ks.flatMap (clk rows tb)
theorem clk_eq {tb : List (Int × Int)} {k a b L : Int} (h : atI rows k = some (brow a b)) (g : mget tb k = some L) : clk rows tb k = cl3 L (lit rows tb a) (lit rows tb b) := by
  unfold clk gA gB
  rw [g, h]
  rfl
theorem cls_len (tb : List (Int × Int)) : ∀ ks : List Int, (cls rows tb ks).length = 3 * ks.length
  | [] => rfl
  | k :: ks => by
    show (clk rows tb k ++ cls rows tb ks).length = _
    rw [List.length_append, cls_len tb ks]
    show 3 + _ = 3 * (ks.length + 1)
    omega
theorem clauses_l1 (E : Enc P first rows gs) (hf : 1 ≤ first) : ∀ (ks : List Int) (st : List (List Int)), (∀ k ∈ ks, k ∈ gs) → st.length + 3 * ks.length < 16777216 →
    m_law_clauses_l1 rows (tab first gs) ks st = some (st ++ cls rows (tab first gs) ks)
  | [], st, _, _ => by simp [m_law_clauses_l1, cls]
  | k :: ks, st, h, hl => by
    have hl' : st.length + 3 * (ks.length + 1) < 16777216 := hl
    obtain ⟨a, b, L, e1, g1, _, _, _, va, vb, _⟩ := gate_facts E hf (h k (.head _))
    rw [m_law_clauses_l1, bs g1, bs e1, bs (brow1 a b), bs (va.ok E [] []).1, bs e1, bs (brow2 a b), bs (vb.ok E [] []).1, grd_t (decide_eq_true (by omega)), grd_t (decide_eq_true (by simp; omega)), grd_t (decide_eq_true (by simp; omega))]
    rw [clauses_l1 E hf ks _ (fun j hj => h j (.tail _ hj)) (by simp; omega)]
    show _ = some (st ++ (clk rows (tab first gs) k ++ cls rows (tab first gs) ks))
    rw [clk_eq e1 g1]
    unfold cl3
    simp only [Int.zero_sub, List.append_assoc, List.cons_append, List.nil_append]
theorem law_clauses_ok (E : Enc P first rows gs) (hf : 1 ≤ first) (hl : 3 * gs.length < 16777216) : m_law_clauses rows (tab first gs) = some (cls rows (tab first gs) gs) := by
  unfold m_law_clauses
  rw [tab_keys, bs (clauses_l1 E hf gs [] (fun _ h => h) (by simpa using hl))]
  rfl
theorem init_l1 (E : Enc P first rows gs) (hf : 1 ≤ first) (G : M_Gates) (hG : G.rows = rows) : ∀ (ks pre : List Int) (cl : List (List Int)), gs = pre ++ ks → cl.length + 4 * ks.length + pre.length < 16777216 →
    m_Encoding_init_l1 G first ks (M_Encoding.mk (tab first pre) cl G) = some (M_Encoding.mk (tab first gs) (cl ++ cls rows (tab first gs) ks) G)
  | [], pre, cl, h, _ => by
    rw [h, List.append_nil]
    simp [m_Encoding_init_l1, cls]
  | k :: ks, pre, cl, h, hl => by
    have hl' : cl.length + 4 * (ks.length + 1) + pre.length < 16777216 := hl
    have hk : k ∈ gs := by rw [h]; simp
    obtain ⟨a, b, L, e1, g1, gl, ak, bk, va, vb, a1, a2, b1, b2, ab⟩ := gate_facts E hf hk
    have hs : (pre ++ k :: ks).Pairwise (· < ·) := h ▸ E.srt
    have hp := List.pairwise_append.mp hs
    have knew : k ∉ pre := fun m => by have := hp.2.2 k m k (.head _); omega
    have hT : tab first gs = tab first pre ++ tab (first + pre.length) (k :: ks) := by rw [h, tab_app]
    have hL : L = first + (pre.length : Int) := by
      rw [hT, mget_app, mget_tab_none knew] at g1
      have g1' : mget ((k, first + (pre.length : Int)) :: tab (first + pre.length + 1) ks) k = some L := g1
      rw [mget_cons, if_pos rfl] at g1'
      exact (Option.some.inj g1').symm
    have inpre : ∀ j, j ∈ gs → j < k → j ∈ pre := by
      intro j hj hjk
      rw [h] at hj
      rcases List.mem_append.mp hj with q | q
      · exact q
      · rcases List.mem_cons.mp q with rfl | q
        · omega
        · have := (List.pairwise_cons.mp hp.2.1).1 j q; omega
    have same : ∀ j, j ∈ pre → mget (tab first pre) j = mget (tab first gs) j := by
      intro j hj
      obtain ⟨v, q, _⟩ := mget_tab (L := first) hj
      rw [hT, mget_app, q]
    have litE : ∀ e, Ve rows gs e → e / 2 < k → lit rows (tab first pre) e = lit rows (tab first gs) e ∧ m_Encoding_literal (M_Encoding.mk (tab first pre) cl (M_Gates.mk G.rows G.known)) e = some (lit rows (tab first gs) e) := by
      intro e ve ek
      have eq : lit rows (tab first pre) e = lit rows (tab first gs) e := by
        unfold lit base
        by_cases c : isB rows (e / 2) = true
        · rw [if_pos c, if_pos c]
          obtain ⟨r, q1, q2⟩ := E.wf.at_ (e / 2) (by have := ve.lo; omega) ve.hi
          rcases q2 with ⟨n, _, rfl⟩ | ⟨a, b, _, _, _, _, rfl⟩
          · rw [isB_l q1] at c; cases c
          · rw [same _ (inpre _ (ve.g a b q1) ek)]
        · rw [if_neg c, if_neg c]
      refine ⟨eq, ?_⟩
      rw [← eq, hG]
      exact (lit_ok E.wf ve.lo ve.hi (fun a b q => by
        obtain ⟨v, g, _⟩ := mget_tab (L := first) (inpre _ (ve.g a b q) ek)
        exact ⟨v, g⟩) cl G.known).2
    obtain ⟨xa, sa⟩ := litE a va ak
    obtain ⟨xb, sb⟩ := litE b vb bk
    have oa := lit_or (rows := rows) (tab first gs) a
    have ob := lit_or (rows := rows) (tab first gs) b
    have n1 : m_normal_clause [-L, lit rows (tab first gs) a] = some (some (sortI [-L, lit rows (tab first gs) a])) := normal_ok (by simp) (by simp; omega) (by simp; omega)
    have n2 : m_normal_clause [-L, lit rows (tab first gs) b] = some (some (sortI [-L, lit rows (tab first gs) b])) := normal_ok (by simp) (by simp; omega) (by simp; omega)
    have n3 : m_normal_clause [L, -lit rows (tab first gs) a, -lit rows (tab first gs) b] = some (some (sortI [L, -lit rows (tab first gs) a, -lit rows (tab first gs) b])) := normal_ok (by simp) (by simp; omega) (by simp; omega)
    have e1' : atI G.rows k = some (brow a b) := by rw [hG]; exact e1
    rw [m_Encoding_init_l1, bs e1', bs (brow1 a b), bs sa, bs (brow2 a b), bs sb, tab_len, ← hL, grd_t (decide_eq_true (by omega)), bs n1]
    rw [Option.bind_some, grd_t (decide_eq_true (by show cl.length < _; omega)), bs n2, Option.bind_some, grd_t (decide_eq_true (by show (cl ++ _).length < _; simp; omega)), bs n3, Option.bind_some, grd_t (decide_eq_true (by show ((cl ++ _) ++ _).length < _; simp; omega))]
    have hput : mput (tab first pre) k L = tab first (pre ++ [k]) := by
      rw [mget_put_new (mget_tab_none knew), tab_app, hL]; rfl
    generalize hx : lit rows (tab first gs) a = x
    generalize hy : lit rows (tab first gs) b = y
    show m_Encoding_init_l1 G first ks (M_Encoding.mk (mput (tab first pre) k L) (((cl ++ [sortI [-L, x]]) ++ [sortI [-L, y]]) ++ [sortI [L, -x, -y]]) G) = _
    rw [hput]
    refine (init_l1 E hf G hG ks (pre ++ [k]) (((cl ++ [sortI [-L, x]]) ++ [sortI [-L, y]]) ++ [sortI [L, -x, -y]]) (by rw [h]; simp) (by simp only [List.length_append, List.length_cons, List.length_nil]; omega)).trans ?_
    show _ = some (M_Encoding.mk _ (cl ++ (clk rows (tab first gs) k ++ cls rows (tab first gs) ks)) G)
    rw [clk_eq e1 g1, hx, hy]
    unfold cl3
    simp only [List.append_assoc, List.cons_append, List.nil_append]
end
/-- the gates that edges reach -/
theorem Enc.of {first : Int} {roots c : List Int} (w : Wf P rows) (hp : ∀ n, P n → 1 ≤ n ∧ n < first) (g : Gat rows) (nd : rows.Nodup) (hr : ∀ e ∈ roots, Edge rows e) (hc : IsCone rows roots c) : Enc P first rows (c.filter (isB rows)) where
  wf := w
  hp := hp
  gat := g
  nod := nd
  srt := hc.1.filter _
  mem := fun k hk => by
    obtain ⟨h1, h2⟩ := List.mem_filter.mp hk
    obtain ⟨h0, _, r, e1, e2⟩ := IsCone.row w hr hc h1
    rcases e2 with ⟨n, _, rfl⟩ | ⟨a, b, _, _, _, _, rfl⟩
    · rw [isB_l e1] at h2; cases h2
    · exact ⟨h0, a, b, e1⟩
  cl := fun k hk a b e1 j hj a' b' e2 => by
    obtain ⟨h1, h2⟩ := List.mem_filter.mp hk
    have h0 := ((hc.2 k).mp h1).2
    have hl := IsCone.lo w hc h1 e1
    have hg := g k a b h0 e1
    refine List.mem_filter.mpr ⟨?_, isB_b e2⟩
    rcases hj with rfl | rfl
    · exact hl.1.resolve_left (by omega)
    · exact hl.2.1.resolve_left (by omega)
end
end G

namespace G
open PySem PySem.Spec PyProof.Rows L2

/-! ## what the clauses say -/
def hd (F : List (Int × Bool)) (x : Int) : Bool := decide (mget F (if x < 0 then -x else x) = some (decide (x > 0)))
def dfd (F : List (Int × Bool)) (x : Int) : Prop := ∃ v, mget F (if x < 0 then -x else x) = some v
theorem held_ok (F : List (Int × Bool)) {cl : List Int} (h : ∀ x ∈ cl, dfd F x) :
    lcO (fun x44 => (mget F (if x44 < 0 then -x44 else x44)).bind fun y63 => if (decide (y63 = (decide (x44 > (0 : Int))))) = true then (some (some x44)) else some none) cl = some (cl.filter (hd F)) := by
  have e : lcO (fun x44 => (mget F (if x44 < 0 then -x44 else x44)).bind fun y63 => if (decide (y63 = (decide (x44 > (0 : Int))))) = true then (some (some x44)) else some none) cl = lcO (fun x => if hd F x = true then some (some x) else some none) cl := by
    refine lcO_congr fun x hx => ?_
    obtain ⟨v, hv⟩ := h x hx
    unfold hd
    rw [bs hv, hv]
    by_cases c : v = decide (x > 0)
    · rw [if_pos (decide_eq_true c), if_pos (decide_eq_true (by rw [c]))]
    · rw [if_neg (by simpa using c), if_neg (by simpa using c)]
  rw [e, lc_filter (hd F) fun x => x, List.map_id']
theorem all_true_l1 (F : List (Int × Bool)) : ∀ cs : List (List Int), (∀ c ∈ cs, c.length < 16777216 ∧ ∀ x ∈ c, dfd F x) → m_law_all_true_l1 F cs () = some (if (cs.all fun c => c.any (hd F)) = true then .done () else .ret false)
  | [], _ => rfl
  | c :: cs, h => by
    have hc := h c (.head _)
    rw [m_law_all_true_l1, grd_t (decide_eq_true hc.1), bs (held_ok F hc.2)]
    by_cases q : c.any (hd F) = true
    · rw [if_neg (by
        intro z
        obtain ⟨x, hx, hh⟩ := List.any_eq_true.mp q
        exact List.filter_eq_nil_iff.mp (of_decide_eq_true z) x hx hh), all_true_l1 F cs fun y hy => h y (.tail _ hy), List.all_cons, q, Bool.true_and]
    · rw [if_pos (decide_eq_true (List.filter_eq_nil_iff.mpr fun x hx hh => q (List.any_eq_true.mpr ⟨x, hx, hh⟩))), List.all_cons, show c.any (hd F) = false by simpa using q, Bool.false_and, if_neg (by simp)]
theorem all_true_ok (F : List (Int × Bool)) (cs : List (List Int)) (h : ∀ c ∈ cs, c.length < 16777216 ∧ ∀ x ∈ c, dfd F x) : m_law_all_true cs F = some (cs.all fun c => c.any (hd F)) := by
  unfold m_law_all_true
  rw [bs (all_true_l1 F cs h)]
  cases cs.all fun c => c.any (hd F) <;> rfl
theorem any_sortI (p : Int → Bool) (xs : List Int) : (sortI xs).any p = xs.any p := by
  rw [Bool.eq_iff_iff]
  simp only [List.any_eq_true, mem_sortI]
theorem hd_pos {F : List (Int × Bool)} {p : Int} {v : Bool} (hp : 1 ≤ p) (h : mget F p = some v) : hd F p = v ∧ hd F (-p) = (!v) ∧ dfd F p ∧ dfd F (-p) := by
  unfold hd dfd
  rw [if_neg (by omega), if_pos (by omega), Int.neg_neg, h, decide_eq_true (show p > 0 by omega), decide_eq_false (show ¬ -p > 0 by omega)]
  refine ⟨?_, ?_, ⟨v, rfl⟩, ⟨v, rfl⟩⟩ <;> cases v <;> rfl
section
variable {P : Int → Prop} {rows : List (List Key)} {ch : Int → Bool} {first : Int} {gs : List Int}
theorem hd_lit {F : List (Int × Bool)} {tb : List (Int × Int)} {e : Int} (hp : 1 ≤ base rows tb (e / 2)) (h : mget F (base rows tb (e / 2)) = some (vE ch rows (2 * (e / 2)))) :
    hd F (lit rows tb e) = vE ch rows e ∧ hd F (-lit rows tb e) = (!vE ch rows e) ∧ dfd F (lit rows tb e) ∧ dfd F (-lit rows tb e) := by
  obtain ⟨h1, h2, h3, h4⟩ := hd_pos hp h
  rw [V_edge (e := e)]
  unfold lit sgn
  by_cases c : e % 2 = 1
  · rw [if_pos c, Int.neg_neg, h1, h2, decide_eq_true c]
    refine ⟨?_, ?_, h4, h3⟩ <;> cases vE ch rows (2 * (e / 2)) <;> rfl
  · rw [if_neg c, h1, h2, decide_eq_false c]
    refine ⟨?_, ?_, h3, h4⟩ <;> cases vE ch rows (2 * (e / 2)) <;> rfl
/-- the full table -/
theorem full_l1 (w : Wf P rows) (tb : List (Int × Int)) : ∀ (ks : List Int) (F : List (Int × Bool)), ks.Nodup → (∀ k ∈ ks, 0 ≤ k ∧ k < rows.length ∧ ∃ n, mget tb k = some n) →
    (∀ k ∈ ks, ∀ j ∈ ks, ∀ n, mget tb k = some n → mget tb j = some n → k = j) → F.length + ks.length < 16777216 →
    ∃ F', m_law_full_l1 (ev ch rows) tb ks F = some F' ∧ (∀ n, (∀ k ∈ ks, mget tb k ≠ some n) → mget F' n = mget F n) ∧ (∀ k ∈ ks, ∀ n, mget tb k = some n → mget F' n = some (vE ch rows (2 * k))) ∧ F'.length ≤ F.length + ks.length
  | [], F, _, _, _, _ => ⟨F, rfl, fun _ _ => rfl, fun _ h => (List.not_mem_nil h).elim, Nat.le_refl _⟩
  | k :: ks, F, nd, h, inj, hl => by
    have hl' : F.length + (ks.length + 1) < 16777216 := hl
    have nd2 := List.nodup_cons.mp nd
    obtain ⟨h0, h1, L, hL⟩ := h k (.head _)
    have hm := mput_len (xs := F) (k := L) (x := vE ch rows (2 * k))
    obtain ⟨F', g1, g2, g3, g4⟩ := full_l1 w tb ks (mput F L (vE ch rows (2 * k))) nd2.2 (fun j hj => h j (.tail _ hj)) (fun a ha b hb => inj a (.tail _ ha) b (.tail _ hb)) (by omega)
    refine ⟨F', ?_, ?_, ?_, by simp; omega⟩
    · rw [m_law_full_l1, bs (ev_get h0 h1), bs hL, grd_t (decide_eq_true (by omega))]
      exact g1
    · intro n hn
      rw [g2 n fun j hj => hn j (.tail _ hj), mget_put, if_neg (by rintro rfl; exact hn k (.head _) hL)]
    · intro j hj n hn
      rcases List.mem_cons.mp hj with rfl | hj
      · rw [hL] at hn
        cases hn
        rw [g2 L fun i hi q => nd2.1 (inj _ (.head _) i (.tail _ hi) L hL q ▸ hi), mget_put, if_pos rfl]
      · exact g3 j hj n hn
structure Full (F : List (Int × Bool)) (ch : Int → Bool) (rows : List (List Key)) (first : Int) (gs : List Int) : Prop where
  val : ∀ j : Int, 0 < j → j < rows.length → (∀ a b, atI rows j = some (brow a b) → j ∈ gs) → mget F (base rows (tab first gs) j) = some (vE ch rows (2 * j))
theorem full_ok (E : Enc P first rows gs) (choices : List (Int × Bool)) (hc : ∀ n, P n → mget choices n = some (ch n)) (hl : choices.length + gs.length < 16777216) :
    ∃ F, m_law_full (ev ch rows) (tab first gs) choices = some F ∧ Full F ch rows first gs ∧ F.length ≤ choices.length + gs.length := by
  have hk : ∀ k ∈ gs, 0 ≤ k ∧ k < rows.length ∧ ∃ n, mget (tab first gs) k = some n := by
    intro k hk
    obtain ⟨h0, a, b, e⟩ := E.mem k hk
    obtain ⟨v, h1, _⟩ := mget_tab (L := first) hk
    exact ⟨by omega, atI_bound (by omega) e, v, h1⟩
  obtain ⟨F, g1, g2, g3, g4⟩ := full_l1 (ch := ch) E.wf (tab first gs) gs choices (strict_nodup E.srt) hk (fun k hk j hj n h1 h2 => by
    rcases Int.lt_trichotomy k j with c | c | c
    · have := mget_tab_lt E.srt h1 h2 c; omega
    · exact c
    · have := mget_tab_lt E.srt h2 h1 c; omega) hl
  refine ⟨F, ?_, ⟨fun j h0 h1 g => ?_⟩, g4⟩
  · unfold m_law_full
    rw [tab_keys, bs g1]
  · obtain ⟨r, e1, e2⟩ := E.wf.at_ j h0 h1
    rcases e2 with ⟨n, hn, rfl⟩ | ⟨a, b, _, _, _, _, rfl⟩
    · have hp := E.hp n hn
      rw [base_l e1, g2 n fun k hk q => by
        obtain ⟨v, z1, z2, _⟩ := mget_tab (L := first) hk
        rw [z1] at q
        cases q
        omega, hc n hn, V_letter E.wf.pos h0 e1]
    · obtain ⟨v, z1, z2, _⟩ := mget_tab (L := first) (g a b e1)
      rw [base_b e1 z1]
      exact g3 j (g a b e1) v z1
theorem mem_cl3 {L x y z : Int} {c : List Int} (h : c ∈ cl3 L x y) (hz : z ∈ c) : (z = L ∨ z = -L) ∨ (z = x ∨ z = -x) ∨ (z = y ∨ z = -y) := by
  unfold cl3 at h
  simp only [List.mem_cons, List.not_mem_nil, or_false] at h
  rcases h with rfl | rfl | rfl <;> rw [mem_sortI] at hz <;> simp only [List.mem_cons, List.not_mem_nil, or_false] at hz <;> omega
theorem cl3_len {L x y : Int} {c : List Int} (h : c ∈ cl3 L x y) : c.length ≤ 3 := by
  unfold cl3 at h
  simp only [List.mem_cons, List.not_mem_nil, or_false] at h
  rcases h with rfl | rfl | rfl <;> rw [(sortI_perm _).length_eq] <;> simp
theorem cl3_all {F : List (Int × Bool)} {L x y : Int} : ((cl3 L x y).all fun c => c.any (hd F)) = ((hd F (-L) || hd F x) && ((hd F (-L) || hd F y) && (hd F L || (hd F (-x) || hd F (-y))))) := by
  unfold cl3
  simp only [List.all_cons, List.all_nil, any_sortI, List.any_cons, List.any_nil, Bool.or_false, Bool.and_true]
theorem mem_cls {tb : List (Int × Int)} {ks : List Int} {c : List Int} (h : c ∈ cls rows tb ks) : ∃ k ∈ ks, c ∈ clk rows tb k := by
  unfold cls at h
  exact List.mem_flatMap.mp h
theorem clause_dfd (E : Enc P first rows gs) (hf : 1 ≤ first) {F : List (Int × Bool)} (fu : Full F ch rows first gs) : ∀ c ∈ cls rows (tab first gs) gs, c.length < 16777216 ∧ ∀ x ∈ c, dfd F x := by
  intro c hc
  obtain ⟨k, hk, hc⟩ := mem_cls hc
  obtain ⟨a, b, L, e1, g1, gl, ak, bk, va, vb, a1, a2, b1, b2, ab⟩ := gate_facts E hf hk
  rw [clk_eq e1 g1] at hc
  refine ⟨Nat.lt_of_le_of_lt (cl3_len hc) (by decide), fun x hx => ?_⟩
  have fl := fu.val k (E.mem k hk).1 (atI_bound (by have := (E.mem k hk).1; omega) e1) fun _ _ _ => hk
  rw [base_b e1 g1] at fl
  have hL := hd_pos (by omega) fl
  have ha := hd_lit a1 (fu.val _ (by have := va.lo; omega) va.hi va.g)
  have hb := hd_lit b1 (fu.val _ (by have := vb.lo; omega) vb.hi vb.g)
  rcases mem_cl3 hc hx with (rfl | rfl) | (rfl | rfl) | (rfl | rfl)
  · exact hL.2.2.1
  · exact hL.2.2.2
  · exact ha.2.2.1
  · exact ha.2.2.2
  · exact hb.2.2.1
  · exact hb.2.2.2
theorem clauses_true (E : Enc P first rows gs) (hf : 1 ≤ first) {F : List (Int × Bool)} (fu : Full F ch rows first gs) : ((cls rows (tab first gs) gs).all fun c => c.any (hd F)) = true := by
  rw [List.all_eq_true]
  intro c hc
  obtain ⟨k, hk, hc⟩ := mem_cls hc
  obtain ⟨a, b, L, e1, g1, gl, ak, bk, va, vb, a1, a2, b1, b2, ab⟩ := gate_facts E hf hk
  rw [clk_eq e1 g1] at hc
  have fl := fu.val k (E.mem k hk).1 (atI_bound (by have := (E.mem k hk).1; omega) e1) fun _ _ _ => hk
  rw [base_b e1 g1] at fl
  have hL := hd_pos (by omega) fl
  have ha := hd_lit a1 (fu.val _ (by have := va.lo; omega) va.hi va.g)
  have hb := hd_lit b1 (fu.val _ (by have := vb.lo; omega) vb.hi vb.g)
  have all : ((cl3 L (lit rows (tab first gs) a) (lit rows (tab first gs) b)).all fun c => c.any (hd F)) = true := by
    rw [cl3_all, hL.1, hL.2.1, ha.1, ha.2.1, hb.1, hb.2.1, V_both E.wf (E.mem k hk).1 e1]
    cases vE ch rows a <;> cases vE ch rows b <;> rfl
  exact List.all_eq_true.mp all c hc
/-- a gate letter flipped -/
theorem clauses_false (E : Enc P first rows gs) (hf : 1 ≤ first) {F : List (Int × Bool)} (fu : Full F ch rows first gs) {k L : Int} (hk : k ∈ gs) (g0 : mget (tab first gs) k = some L) :
    ∃ v, mget F L = some v ∧ (∀ c ∈ cls rows (tab first gs) gs, c.length < 16777216 ∧ ∀ x ∈ c, dfd (mput F L (!v)) x) ∧ ((cls rows (tab first gs) gs).all fun c => c.any (hd (mput F L (!v)))) = false := by
  obtain ⟨a, b, L', e1, g1, gl, ak, bk, va, vb, a1, a2, b1, b2, ab⟩ := gate_facts E hf hk
  rw [g0] at g1
  cases g1
  have fl := fu.val k (E.mem k hk).1 (atI_bound (by have := (E.mem k hk).1; omega) e1) fun _ _ _ => hk
  rw [base_b e1 g0] at fl
  refine ⟨_, fl, fun c hc => ⟨(clause_dfd E hf fu c hc).1, fun x hx => ?_⟩, ?_⟩
  · obtain ⟨v, hv⟩ := (clause_dfd E hf fu c hc).2 x hx
    unfold dfd
    rw [mget_put]
    by_cases c : L = (if x < 0 then -x else x)
    · rw [if_pos c]; exact ⟨_, rfl⟩
    · rw [if_neg c]; exact ⟨v, hv⟩
  · have hL := hd_pos (F := mput F L (!vE ch rows (2 * k))) (p := L) (v := !vE ch rows (2 * k)) (by omega) (by rw [mget_put, if_pos rfl])
    have ha := hd_lit (F := mput F L (!vE ch rows (2 * k))) a1 (by rw [mget_put, if_neg (by omega)]; exact fu.val _ (by have := va.lo; omega) va.hi va.g)
    have hb := hd_lit (F := mput F L (!vE ch rows (2 * k))) b1 (by rw [mget_put, if_neg (by omega)]; exact fu.val _ (by have := vb.lo; omega) vb.hi vb.g)
    have one : ((clk rows (tab first gs) k).all fun c => c.any (hd (mput F L (!vE ch rows (2 * k))))) = false := by
      rw [clk_eq e1 g0, cl3_all, hL.1, hL.2.1, ha.1, ha.2.1, hb.1, hb.2.1, V_both E.wf (E.mem k hk).1 e1]
      cases vE ch rows a <;> cases vE ch rows b <;> rfl
    rw [Bool.eq_false_iff]
    intro h
    rw [Bool.eq_false_iff] at one
    exact one (List.all_eq_true.mpr fun c hc => List.all_eq_true.mp h c (List.mem_flatMap.mpr ⟨k, hk, hc⟩))
theorem means_ok (E : Enc P first rows gs) (hf : 1 ≤ first) (choices : List (Int × Bool)) (hc : ∀ n, P n → mget choices n = some (ch n)) (hl : choices.length + gs.length < 16000000) {at_ : Int} (h0 : 0 ≤ at_) :
    m_law_means (cls rows (tab first gs) gs) (tab first gs) (ev ch rows) choices at_ = some true := by
  obtain ⟨F, f1, f2, f3⟩ := full_ok E choices hc (by omega)
  unfold m_law_means
  rw [bs f1, bs (all_true_ok F _ (clause_dfd E hf f2)), clauses_true E hf f2, if_neg (by simp), tab_keys]
  by_cases c : gs = []
  · rw [if_pos (decide_eq_true c)]
  · have hpos : 0 < gs.length := List.length_pos_iff.mpr c
    rw [if_neg (by simpa using c), grd_t (divOk_t (by omega) (by omega))]
    obtain ⟨k, k1, k2, _⟩ := atI_lt (xs := gs) (i := at_ % (gs.length : Int)) (Int.emod_nonneg _ (by omega)) (Int.emod_lt_of_pos _ (by omega))
    obtain ⟨L, g1, _⟩ := mget_tab (L := first) k2
    obtain ⟨v, v1, v2, v3⟩ := clauses_false E hf f2 k2 g1
    rw [bs k1, bs g1, bs v1, grd_t (decide_eq_true (by omega)), bs (all_true_ok _ _ v2), v3]
    rfl
end
end G

namespace G
open PySem PySem.Spec PyProof.Rows L2

/-! ## building -/
def Lt (n : Int) : Prop := 1 ≤ n ∧ n ≤ 949
structure Bld (edges src : List Int) (G : M_Gates) (rows : List (List Key)) : Prop where
  src : Src src
  sim : Sim G rows
  wf : Wf Lt rows
  gat : Gat rows
  nod : rows.Nodup
  ed : ∀ e ∈ edges, Edge rows e
theorem Edge.opp {rows : List (List Key)} {e : Int} (h : Edge rows e) : Edge rows (m_law_opposite e) := ⟨opp_nn h.1, by rw [opp_half]; exact h.2⟩
theorem Bld.grow {edges src src' : List Int} {G G' : M_Gates} {rows rows' : List (List Key)} {e : Int} (b : Bld edges src G rows) (s : Src src') (m : Sim G' rows') (w : Wf Lt rows') (g : Gat rows') (nd : rows'.Nodup) (x : Ext rows rows') (he : Edge rows' e) :
    Bld ((edges ++ [e]) ++ [m_law_opposite e]) src' G' rows' where
  src := s
  sim := m
  wf := w
  gat := g
  nod := nd
  ed := fun y hy => by
    simp only [List.mem_append, List.mem_singleton] at hy
    rcases hy with (h | rfl) | rfl
    · exact x.edge (b.ed y h)
    · exact he
    · exact he.opp
theorem letter_ok (ns src : List Int) (h : Src src) : ∃ n src', m_law_letter ns src = some (n, src') ∧ Lt n ∧ Src src' := by
  obtain ⟨d, src1, t1, t2, t3, t4⟩ := take_ok ns src 8 h (by decide) (by decide)
  unfold m_law_letter
  rw [bs t1]
  by_cases c : d = 7
  · rw [if_pos (decide_eq_true c)]
    obtain ⟨d, src2, u1, u2, u3, u4⟩ := take_ok ns src1 50 t4 (by decide) (by decide)
    rw [bs u1]
    exact ⟨_, _, rfl, ⟨by show 1 ≤ 900 + d; omega, by show 900 + d ≤ 949; omega⟩, u4⟩
  · rw [if_neg (by simpa using c)]
    obtain ⟨d, src2, u1, u2, u3, u4⟩ := take_ok ns src1 6 t4 (by decide) (by decide)
    rw [bs u1]
    exact ⟨_, _, rfl, ⟨by show 1 ≤ 1 + d; omega, by show 1 + d ≤ 949; omega⟩, u4⟩
theorem Ext.mem {r s : List (List Key)} (h : Ext r s) {x : List Key} (m : x ∈ r) : x ∈ s := by
  obtain ⟨q, rfl⟩ := h
  exact List.mem_append_left _ m
theorem build_l1 (ns : List Int) : ∀ (ks edges src : List Int) (G : M_Gates) (rows : List (List Key)), Bld edges src G rows → edges.length + 2 * ks.length < 1000 → rows.length + ks.length < 1000 →
    ∃ edges' src' G' rows', m_law_build_l1 ns ks (edges, src, G, rows) = some (.done (edges', src', G', rows')) ∧ Bld edges' src' G' rows' ∧ edges'.length = edges.length + 2 * ks.length ∧ rows'.length ≤ rows.length + ks.length ∧ Ext rows rows' ∧ (0 < ks.length → ∃ n, lrow n ∈ rows')
  | [], edges, src, G, rows, b, _, _ => ⟨edges, src, G, rows, rfl, b, rfl, Nat.le_refl _, .refl _, fun h => by cases h⟩
  | k :: ks, edges, src, G, rows, b, h1, h2 => by
    have h1' : edges.length + 2 * (ks.length + 1) < 1000 := h1
    have h2' : rows.length + (ks.length + 1) < 1000 := h2
    obtain ⟨n, src1, t1, t3, t4⟩ := letter_ok ns src b.src
    obtain ⟨e, r1, G1, f1, f2, f3, f4, f5⟩ := leaf_sim b.sim n (by omega)
    obtain ⟨l1, l2, l3, _⟩ := leaf_val (P := Lt) b.sim b.wf t3 (by omega) f1
    obtain ⟨_, _, _, ko, k0, _, k1⟩ := row_out b.sim b.wf (ok_letter n) (by intro h; cases h) (by omega) (.inl ⟨n, t3, rfl⟩) f1
    obtain ⟨edges', src', G', rows', g1, g2, g3, g4, g5, _⟩ := build_l1 ns ks _ src1 G1 r1 (b.grow t4 f3 l1 (gat_leaf b.sim b.gat (by omega) f1) (nod_leaf b.sim b.nod (by omega) f1) l2 l3) (by simp; omega) (by omega)
    refine ⟨edges', src', G', rows', ?_, g2, by rw [g3]; simp; omega, by simp; omega, l2.trans g5, fun _ => ⟨n, g5.mem (atI_mem k1)⟩⟩
    rw [m_law_build_l1, bs t1, bs f1, bs f2, if_neg (by simp), grd_t (decide_eq_true (by show edges.length < _; omega)), grd_t (decide_eq_true (by simp; omega))]
    exact g1
theorem build_l2 (ns : List Int) : ∀ (ks edges src : List Int) (G : M_Gates) (rows : List (List Key)), Bld edges src G rows → 0 < edges.length → edges.length + 2 * ks.length < 1000 → rows.length + ks.length < 1000 →
    ∃ edges' src' G' rows', m_law_build_l2 ns ks (edges, src, G, rows) = some (.done (edges', src', G', rows')) ∧ Bld edges' src' G' rows' ∧ edges'.length = edges.length + 2 * ks.length ∧ rows'.length ≤ rows.length + ks.length ∧ Ext rows rows'
  | [], edges, src, G, rows, b, _, _, _ => ⟨edges, src, G, rows, rfl, b, rfl, Nat.le_refl _, .refl _⟩
  | k :: ks, edges, src, G, rows, b, h0, h1, h2 => by
    have h1' : edges.length + 2 * (ks.length + 1) < 1000 := h1
    have h2' : rows.length + (ks.length + 1) < 1000 := h2
    obtain ⟨d, src1, t1, t2, t3, t4⟩ := take_ok ns src (if (10 : Int) < (edges.length : Int) then (10 : Int) else (edges.length : Int)) b.src (by split <;> omega) (by split <;> omega)
    have t3' : d < edges.length := by split at t3 <;> omega
    obtain ⟨a, a1, a2, _⟩ := atI_lt (xs := edges) (i := ((edges.length : Int) - 1) - d) (by omega) (by omega)
    obtain ⟨d2, src2, u1, u2, u3, u4⟩ := take_ok ns src1 (edges.length : Int) t4 (by omega) (by omega)
    obtain ⟨c, c1, c2, _⟩ := atI_lt (xs := edges) u2 u3
    have ha := b.ed a a2
    have hc := b.ed c c2
    obtain ⟨e, r1, G1, f1, f2, f3, f4, f5, _⟩ := both_sim b.sim ha.1 hc.1 (by omega)
    obtain ⟨l1, l2, l3, _⟩ := both_val (P := Lt) b.sim b.wf ha hc (by omega) f1
    obtain ⟨edges', src', G', rows', g1, g2, g3, g4, g5⟩ := build_l2 ns ks _ src2 G1 r1 (b.grow u4 f3 l1 (gat_both b.sim b.gat ha.1 hc.1 (by omega) f1) (nod_both b.sim b.nod (by omega) f1) l2 l3) (by simp) (by simp; omega) (by omega)
    refine ⟨edges', src', G', rows', ?_, g2, by rw [g3]; simp; omega, by simp; omega, l2.trans g5⟩
    rw [m_law_build_l2, bs t1, bs a1, bs u1, bs c1, bs f1, bs f2, if_neg (by simp), grd_t (decide_eq_true (by show edges.length < _; omega)), grd_t (decide_eq_true (by simp; omega))]
    exact g1
theorem row0 {r : List Key} {k a : Int} (h : atI [r] k = some (brow a a)) : True := trivial
theorem at_one {r x : List Key} {k : Int} (h0 : 0 < k) (h : atI [r] k = some x) : False := by
  have := atI_bound (by omega) h
  simp at this
  omega
theorem build_ok (ns src : List Int) (count : Int) (h : Src src) (h0 : 0 ≤ count) (h1 : count < 100) :
    ∃ edges src' G rows, m_law_build ns src (M_Gates.mk m_Gates_init.rows m_Gates_init.known) [[Sum.inr ("no" : Str)]] count = some (edges, src', G, rows) ∧ Bld edges src' G rows ∧ 8 ≤ edges.length ∧ edges.length < 1000 ∧ rows.length < 1000 ∧ ∃ n, lrow n ∈ rows := by
  have b0 : Bld [0, 1] src m_Gates_init [[Sum.inr ("no" : Str)]] := ⟨h, sim_init, ⟨by simp, fun k h0 h1 => by simp at h1; omega⟩, fun k a b h0 e => (at_one h0 e).elim, by simp, fun e he => by
    simp at he
    rcases he with rfl | rfl <;> exact ⟨by omega, by simp⟩⟩
  obtain ⟨e1, s1, G1, r1, f1, f2, f3, f4, f5, f6'⟩ := build_l1 ns (pyRange 0 (3 : Int).toNat) [0, 1] src m_Gates_init [[Sum.inr ("no" : Str)]] b0 (by decide) (by decide)
  obtain ⟨n, f6⟩ := f6' (by decide)
  have f3' : e1.length = 8 := f3
  have f4' : r1.length ≤ 4 := f4
  have hl : (pyRange 0 count.toNat).length < 100 := by rw [pyRange_len]; omega
  obtain ⟨e2, s2, G2, r2, g1, g2, g3, g4, g5⟩ := build_l2 ns (pyRange 0 count.toNat) e1 s1 G1 r1 f2 (by omega) (by omega) (by omega)
  refine ⟨e2, s2, G2, r2, ?_, g2, by omega, by omega, by omega, n, g5.mem f6⟩
  unfold m_law_build
  rw [bs f1]
  dsimp only
  rw [grd_t (b := rngOk count) (decide_eq_true ⟨by omega, by omega⟩), bs g1]

/-! ## the rows' letters -/
def RK (r : List Key) : Prop := r = [Sum.inr ("no" : Str)] ∨ (∃ n, Lt n ∧ r = lrow n) ∨ ∃ a b, r = brow a b
theorem n_ne_l : decide (("no" : Str) = ("letter" : Str)) = false := by decide +kernel
theorem Bld.rk {edges src : List Int} {G : M_Gates} {rows : List (List Key)} (b : Bld edges src G rows) : ∀ r ∈ rows, RK r := by
  intro r hr
  obtain ⟨k, hk, rfl⟩ := List.mem_iff_getElem.mp hr
  rcases Nat.eq_zero_or_pos k with rfl | h
  · obtain ⟨rs, e⟩ := b.sim.first
    left
    simp [e]
  · obtain ⟨x, e1, e2⟩ := b.wf.at_ (k : Int) (by omega) (by omega)
    rw [atI_of (by omega)] at e1
    have : rows[k] = x := by simpa [hk] using e1
    rw [this]
    rcases e2 with ⟨n, hn, rfl⟩ | ⟨a, b, _, _, _, _, rfl⟩
    · exact .inr (.inl ⟨n, hn, rfl⟩)
    · exact .inr (.inr ⟨a, b, rfl⟩)
theorem letters_of : ∀ rows : List (List Key), (∀ r ∈ rows, RK r) → ∃ ls, lcO (fun x106 => (kStr x106 (0 : Int)).bind fun y127 =>
          if (decide (y127 = ("letter" : Str))) = true then ((kInt x106 (1 : Int)).bind fun y130 =>
          some (some y130)) else some none) rows = some ls ∧ (∀ n, n ∈ ls ↔ lrow n ∈ rows) ∧ ls.length ≤ rows.length
  | [], _ => ⟨[], rfl, by simp, by simp⟩
  | r :: rs, h => by
    obtain ⟨ls, g1, g2, g3⟩ := letters_of rs fun x hx => h x (.tail _ hx)
    rcases h r (.head _) with rfl | ⟨n, _, rfl⟩ | ⟨a, b, rfl⟩
    · refine ⟨ls, ?_, fun n => ?_, by simp; omega⟩
      · unfold lcO
        rw [g1, bs (x := ("no" : Str)) (by rfl), n_ne_l]
        rfl
      · rw [g2 n, List.mem_cons]
        exact ⟨.inr, fun h => h.resolve_left (by intro e; cases e)⟩
    · refine ⟨n :: ls, ?_, fun m => ?_, by simp; omega⟩
      · unfold lcO
        rw [g1, bs (lrow0 n), if_pos (by simp), bs (lrow1 n)]
        rfl
      · rw [List.mem_cons, List.mem_cons, g2 m]
        constructor
        · rintro (rfl | h)
          · exact .inl rfl
          · exact .inr h
        · rintro (h | h)
          · exact .inl (by have := congrArg (fun r => kInt r 1) h; exact Option.some.inj this)
          · exact .inr h
    · refine ⟨ls, ?_, fun n => ?_, by simp; omega⟩
      · unfold lcO
        rw [g1, bs (brow0 a b), b_ne_l]
        rfl
      · rw [g2 n, List.mem_cons]
        exact ⟨.inr, fun h => h.resolve_left (by intro e; exact l_not_b e)⟩
theorem choices_l2 (ns : List Int) : ∀ (rows : List (List Key)) (t : List (Int × Bool)) (src : List Int), (∀ r ∈ rows, RK r) → Src src → t.length + rows.length < 10000 →
    ∃ t' src', m_law_l2 ns rows (t, src) = some (t', src') ∧ Src src' ∧ t'.length ≤ t.length + rows.length ∧ (∀ n, lrow n ∈ rows → (mget t' n).isSome = true) ∧ ∀ k, (mget t k).isSome = true → (mget t' k).isSome = true
  | [], t, src, _, hs, _ => ⟨t, src, rfl, hs, Nat.le_refl _, by simp, fun _ h => h⟩
  | r :: rows, t, src, hr, hs, h => by
    have h' : t.length + (rows.length + 1) < 10000 := h
    have skip : ∀ s, kStr r 0 = some s → decide (s = ("letter" : Str)) = false → (∀ n, r ≠ lrow n) → ∃ t' src', m_law_l2 ns (r :: rows) (t, src) = some (t', src') ∧ Src src' ∧ t'.length ≤ t.length + (rows.length + 1) ∧ (∀ n, lrow n ∈ r :: rows → (mget t' n).isSome = true) ∧ ∀ k, (mget t k).isSome = true → (mget t' k).isSome = true := by
      intro s e1 e2 e3
      obtain ⟨t', src', g1, g2, g3, g4, g5⟩ := choices_l2 ns rows t src (fun x hx => hr x (.tail _ hx)) hs (by omega)
      refine ⟨t', src', ?_, g2, by omega, fun n hn => g4 n ((List.mem_cons.mp hn).resolve_left fun e => e3 n e.symm), g5⟩
      rw [m_law_l2, bs e1, e2, if_neg (by simp)]
      exact g1
    rcases hr r (.head _) with rfl | ⟨n, _, rfl⟩ | ⟨a, b, rfl⟩
    · exact skip ("no" : Str) rfl n_ne_l (by intro n e; cases e)
    · obtain ⟨d, src1, t1, t2, t3, t4⟩ := take_ok ns src 2 hs (by decide) (by decide)
      have := mput_len (xs := t) (k := n) (x := decide (d = 1))
      obtain ⟨t', src', g1, g2, g3, g4, g5⟩ := choices_l2 ns rows (mput t n (decide (d = 1))) src1 (fun x hx => hr x (.tail _ hx)) t4 (by omega)
      refine ⟨t', src', ?_, g2, by simp; omega, ?_, ?_⟩
      · rw [m_law_l2, bs (lrow0 n), if_pos (by simp), bs t1, bs (lrow1 n), grd_t (decide_eq_true (by show t.length < _; omega))]
        exact g1
      · intro j hj
        rcases List.mem_cons.mp hj with e | hj
        · have e2 : j = n := by have := congrArg (fun r => kInt r 1) e; exact Option.some.inj this
          subst e2
          exact g5 _ (by rw [mget_put, if_pos rfl]; rfl)
        · exact g4 j hj
      · intro j hj
        refine g5 j ?_
        rw [mget_put]
        split
        · rfl
        · exact hj
    · exact skip ("both" : Str) rfl b_ne_l (fun n e => l_not_b e.symm)
theorem picked_l1 (ns : List Int) (bd : List Int × List Int × M_Gates × List (List Key)) (h0 : 0 < bd.1.length) (h1 : bd.1.length < 1000) : ∀ (ks src acc : List Int), Src src → (∀ e ∈ acc, e ∈ bd.1) → acc.length + ks.length < 1000 →
    ∃ src' acc', m_law_l1 ns bd ks (src, acc) = some (src', acc') ∧ Src src' ∧ (∀ e ∈ acc', e ∈ bd.1) ∧ acc'.length = acc.length + ks.length
  | [], src, acc, hs, ha, _ => ⟨src, acc, rfl, hs, ha, rfl⟩
  | k :: ks, src, acc, hs, ha, hl => by
    have hl' : acc.length + (ks.length + 1) < 1000 := hl
    obtain ⟨d, src1, t1, t2, t3, t4⟩ := take_ok ns src (bd.1.length : Int) hs (by omega) (by omega)
    obtain ⟨x, e1, e2, _⟩ := atI_lt (xs := bd.1) (i := ((bd.1.length : Int) - 1) - d) (by omega) (by omega)
    obtain ⟨src', acc', g1, g2, g3, g4⟩ := picked_l1 ns bd h0 h1 ks src1 (acc ++ [x]) t4 (fun e he => by
      rcases List.mem_append.mp he with h | h
      · exact ha e h
      · rw [List.mem_singleton.mp h]; exact e2) (by simp; omega)
    refine ⟨src', acc', ?_, g2, g3, by rw [g4]; simp; omega⟩
    rw [m_law_l1, bs t1, bs e1, grd_t (decide_eq_true (by show acc.length < _; omega))]
    exact g1

/-! ## the comparisons -/
theorem same_l2 (xs ys : List (List Int)) (i : Int) {c : List Int} (hx : atI xs i = some c) (hy : atI ys i = some c) : ∀ ks : List Int, (∀ k ∈ ks, 0 ≤ k ∧ k < c.length) → m_law_same_l2 xs ys i ks () = some (.done ())
  | [], _ => rfl
  | k :: ks, h => by
    have hk := h k (.head _)
    obtain ⟨x, e, _, _⟩ := atI_lt hk.1 hk.2
    rw [m_law_same_l2, bs hx, bs e, bs hy, bs e, if_neg (by simp [m_law_is_literal])]
    exact same_l2 xs ys i hx hy ks fun y hy => h y (.tail _ hy)
theorem same_l1 (xs : List (List Int)) (hs : ∀ c ∈ xs, c.length < 16777216) : ∀ ks : List Int, (∀ k ∈ ks, 0 ≤ k ∧ k < xs.length) → m_law_same_l1 xs xs ks () = some (.done ())
  | [], _ => rfl
  | k :: ks, h => by
    have hk := h k (.head _)
    obtain ⟨c, e, m, _⟩ := atI_lt hk.1 hk.2
    rw [m_law_same_l1, bs (x := false) (by rw [bs e, bs e, bs e]; simp), if_neg (by simp), bs e, grd_t (rngOk_len (hs c m)), bs (same_l2 xs xs k e e _ fun j hj => by have := mem_pyRange.mp hj; omega)]
    exact same_l1 xs hs ks fun y hy => h y (.tail _ hy)
theorem same_refl (xs : List (List Int)) (hs : ∀ c ∈ xs, c.length < 16777216) (hl : xs.length < 16777216) : m_law_same xs xs = some true := by
  unfold m_law_same
  rw [if_neg (by simp), grd_t (rngOk_len hl), bs (same_l1 xs hs _ fun k hk => by have := mem_pyRange.mp hk; omega)]
section
variable {P : Int → Prop} {rows : List (List Key)} {ch : Int → Bool} {first : Int} {gs : List Int}
theorem is_l1 (en : M_Encoding) (tb : List (Int × Int)) (he : en.letters = tb) : ∀ ks : List Int, (∀ k ∈ ks, ∃ v, mget tb k = some v) → m_law_is_encoding_l1 en tb ks () = some (.done ())
  | [], _ => rfl
  | k :: ks, h => by
    obtain ⟨v, hv⟩ := h k (.head _)
    rw [m_law_is_encoding_l1, he, bs hv, bs hv, if_neg (by simp [m_law_is_literal])]
    exact is_l1 en tb he ks fun y hy => h y (.tail _ hy)
theorem is_l3 (E : Enc P first rows gs) (cl : List (List Int)) (kn : List (List Key × Int)) : ∀ es : List Int, (∀ e ∈ es, Ve rows gs e) → m_law_is_encoding_l3 (M_Encoding.mk (tab first gs) cl (M_Gates.mk rows kn)) rows (tab first gs) es () = some (.done ())
  | [], _ => rfl
  | e :: es, h => by
    have ve := (h e (.head _)).ok E cl kn
    rw [m_law_is_encoding_l3, bs ve.2, bs ve.1, if_neg (by simp [m_law_is_literal])]
    exact is_l3 E cl kn es fun y hy => h y (.tail _ hy)
theorem is_l2 (E : Enc P first rows gs) (cl : List (List Int)) (kn : List (List Key × Int)) : ∀ ks : List Int, (∀ k ∈ ks, 0 < k ∧ k < rows.length) → m_law_is_encoding_l2 (M_Encoding.mk (tab first gs) cl (M_Gates.mk rows kn)) rows (tab first gs) ks () = some (.done ())
  | [], _ => rfl
  | k :: ks, h => by
    have hk := h k (.head _)
    have go := is_l2 E cl kn ks fun y hy => h y (.tail _ hy)
    obtain ⟨r, e1, e2⟩ := E.wf.at_ k hk.1 hk.2
    have test : ∃ b, ((atI rows k).bind fun y90 => (kStr y90 (0 : Int)).bind fun y97 => if (decide (y97 = ("letter" : Str))) = true then (some true) else (some ((mget (tab first gs) k).isSome))) = some b ∧ (b = true → ∀ a c, r = brow a c → k ∈ gs) := by
      rcases e2 with ⟨n, _, rfl⟩ | ⟨a, b, _, _, _, _, rfl⟩
      · exact ⟨true, by rw [bs e1, bs (lrow0 n), if_pos (by simp)], fun _ a c q => (l_not_b q).elim⟩
      · refine ⟨_, by rw [bs e1, bs (brow0 a b), if_neg (by rw [b_ne_l]; simp)], fun q _ _ _ => ?_⟩
        exact Classical.byContradiction fun n => by rw [mget_tab_none n] at q; cases q
    obtain ⟨b, t1, t2⟩ := test
    rw [m_law_is_encoding_l2, bs t1]
    cases b with
    | false => rw [if_neg (by simp)]; exact go
    | true =>
      have ve : ∀ e, e / 2 = k → 2 ≤ e → Ve rows gs e := fun e q q2 => ⟨q2, by omega, fun a b z => by
        rw [q] at z ⊢
        rw [e1] at z
        exact t2 rfl a b (Option.some.inj z)⟩
      rw [if_pos rfl, bs (is_l3 E cl kn _ fun e he => by
        simp only [List.mem_cons, List.not_mem_nil, or_false] at he
        rcases he with rfl | rfl
        · exact ve _ (by omega) (by omega)
        · exact ve _ (by omega) (by omega))]
      exact go
theorem cls_small (E : Enc P first rows gs) (hf : 1 ≤ first) : ∀ c ∈ cls rows (tab first gs) gs, c.length < 16777216 := by
  intro c hc
  obtain ⟨k, hk, hc⟩ := mem_cls hc
  exact Nat.lt_of_le_of_lt (cl3_len hc) (by decide)
theorem is_ok (E : Enc P first rows gs) (hf : 1 ≤ first) (kn : List (List Key × Int)) (hg : gs.length < 1000) (hr : rows.length < 1000) :
    m_law_is_encoding (M_Encoding.mk (tab first gs) (cls rows (tab first gs) gs) (M_Gates.mk rows kn)) rows (tab first gs) = some true := by
  have hp := E.wf.pos
  have hl := cls_len (rows := rows) (tab first gs) gs
  unfold m_law_is_encoding
  rw [bs (x := false) (by simp), if_neg (by simp), bs (is_l1 _ _ rfl _ fun k hk => by
    rw [tab_keys] at hk
    obtain ⟨v, h, _⟩ := mget_tab (L := first) hk
    exact ⟨v, h⟩)]
  dsimp only
  rw [grd_t (rng2Ok_t (by omega) (by omega) (by omega) (by omega)), bs (is_l2 E _ kn _ fun k hk => by have := mem_pyRange.mp hk; omega)]
  dsimp only
  rw [bs (law_clauses_ok E hf (by omega)), bs (same_refl _ (cls_small E hf) (by omega))]

/-! ## the encoding of some edges -/
theorem encode_ok (w : Wf P rows) (hP : ∀ n, P n → 1 ≤ n ∧ n < first) (hf : 1 ≤ first) (g : Gat rows) (nd : rows.Nodup) (G : M_Gates) (hG : G.rows = rows) {roots : List Int} (hr : ∀ e ∈ roots, Edge rows e) (hl : rows.length < 1000) (hl2 : roots.length < 1000) :
    ∃ gs, Enc P first rows gs ∧ gs.length < 1000 ∧ m_Encoding_init (M_Gates.mk G.rows G.known) roots first = some (M_Encoding.mk (tab first gs) (cls rows (tab first gs) gs) (M_Gates.mk rows G.known)) ∧ m_law_letters rows roots first = some (tab first gs) ∧
      (∀ e ∈ roots, 2 ≤ e → Ve rows gs e) := by
  have w' : Wf P G.rows := by rw [hG]; exact w
  have hr' : ∀ e ∈ roots, Edge G.rows e := by rw [hG]; exact hr
  obtain ⟨c, c1, c2⟩ := cone_ok G w' hr' (by rw [hG]; omega)
  rw [hG] at c2
  obtain ⟨c', d1, d2⟩ := reached_ok w hr (by omega)
  obtain rfl := IsCone.uniq c2 d2
  have E := Enc.of w hP g nd hr c2
  have hcl := c2.len w hr
  have hrow : ∀ k ∈ c, ∃ r, atI rows k = some r ∧ RowAt P k r := fun k hk => (IsCone.row w hr c2 hk).2.2
  have hg : (c.filter (isB rows)).length ≤ c.length := List.length_filter_le _ _
  refine ⟨c.filter (isB rows), E, by omega, ?_, ?_, ?_⟩
  · unfold m_Encoding_init
    have e1 : m_Gates_gate_rows (M_Gates.mk G.rows G.known) roots = some (c.filter (isB rows)) := by
      unfold m_Gates_gate_rows
      rw [bs (show m_Gates_cone (M_Gates.mk G.rows G.known) roots = some c from c1), grd_t (decide_eq_true (by omega))]
      show ((lcO (fun x => (atI G.rows x).bind fun y => (kStr y (0 : Int)).bind fun z => if (decide (z = ("both" : Str))) = true then (some (some x)) else some none) c).bind _) = _
      rw [hG, bs (gates_filter hrow)]
    have e2 := init_l1 E hf (M_Gates.mk G.rows G.known) hG (c.filter (isB rows)) [] [] rfl (by simp; omega)
    rw [bs e1]
    rw [bs (show m_Encoding_init_l1 (M_Gates.mk G.rows G.known) first (c.filter (isB rows)) (M_Encoding.mk [] [] (M_Gates.mk G.rows G.known)) = _ from e2)]
    show some (M_Encoding.mk _ _ (M_Gates.mk G.rows G.known)) = _
    rw [hG]
    rfl
  · unfold m_law_letters
    rw [bs d1, bs (letters_l1 first c [] hrow (strict_nodup c2.1) (by simp) (by simp; omega))]
    simp
  · intro e he h2
    have hE := hr e he
    refine ⟨h2, hE.2, fun a b q => List.mem_filter.mpr ⟨?_, isB_b q⟩⟩
    exact (c2.root hr he).resolve_left (by omega)
theorem truth_ok (w : Wf P rows) (hP : ∀ n, P n → 1 ≤ n ∧ n < first) (hf : 1 ≤ first) (g : Gat rows) (nd : rows.Nodup) (G : M_Gates) (hG : G.rows = rows) {e : Int} (he : Edge rows e) (hl : rows.length < 1000) (choices : List (Int × Bool)) (hc : ∀ n, P n → mget choices n = some (ch n)) (hcl : choices.length < 100000) :
    ∃ cs tb F, m_truth_clauses (M_Gates.mk G.rows G.known) e first = some cs ∧ m_law_truth rows e first = some cs ∧ m_law_same cs cs = some true ∧ m_law_letters rows [e] first = some tb ∧ m_law_full (ev ch rows) tb choices = some F ∧ m_law_all_true cs F = some (vE ch rows e) := by
  obtain ⟨gs, E, hgs, i1, i2, i3⟩ := encode_ok w hP hf g nd G hG (roots := [e]) (by simpa using he) hl (by simp)
  obtain ⟨F, f1, f2, f3⟩ := full_ok E choices hc (by omega)
  by_cases c1 : e = 1
  · subst c1
    refine ⟨[], _, F, ?_, ?_, by rfl, i2, f1, ?_⟩
    · unfold m_truth_clauses; rw [if_pos (by simp)]
    · unfold m_law_truth; rw [if_pos (by simp)]
    · rw [V_yes w.pos]; rfl
  · by_cases c0 : e = 0
    · subst c0
      refine ⟨[[]], _, F, ?_, ?_, same_refl _ (by simp) (by simp), i2, f1, ?_⟩
      · unfold m_truth_clauses; rw [if_neg (by simp), if_pos (by simp)]
      · unfold m_law_truth; rw [if_neg (by simp), if_pos (by simp)]
      · rw [V_first w.pos, all_true_ok F [[]] (by simp)]; rfl
    · have h2 : 2 ≤ e := by have := he.1; omega
      have ve := i3 e (by simp) h2
      have hlen := cls_len (rows := rows) (tab first gs) gs
      refine ⟨cls rows (tab first gs) gs ++ [[lit rows (tab first gs) e]], _, F, ?_, ?_, same_refl _ ?_ (by simp; omega), i2, f1, ?_⟩
      · unfold m_truth_clauses
        rw [if_neg (by simpa using c1), if_neg (by simpa using c0), bs i1]
        rw [hG, bs (show m_Encoding_literal (M_Encoding.mk (tab first gs) (cls rows (tab first gs) gs) (M_Gates.mk rows G.known)) e = _ from (ve.ok E _ _).2), grd_t (decide_eq_true (by simp; omega))]
      · unfold m_law_truth
        rw [if_neg (by simpa using c1), if_neg (by simpa using c0), bs i2, bs (law_clauses_ok E hf (by omega)), bs (ve.ok E [] []).1, grd_t (decide_eq_true (by omega))]
      · intro c hc
        rcases List.mem_append.mp hc with h | h
        · exact cls_small E hf c h
        · rw [List.mem_singleton.mp h]; simp
      · have hb := first_pos E (j := e / 2) (by omega) ve.hi ve.g hf
        have hlit := hd_lit hb (f2.val _ (by omega) ve.hi ve.g)
        rw [all_true_ok F _ fun c hc => by
          rcases List.mem_append.mp hc with h | h
          · exact clause_dfd E hf f2 c h
          · rw [List.mem_singleton.mp h]
            refine ⟨by simp, fun x hx => ?_⟩
            rw [List.mem_singleton.mp hx]
            exact hlit.2.2.1, List.all_append, clauses_true E hf f2, List.all_cons, List.all_nil, List.any_cons, List.any_nil, hlit.1]
        simp
end

/-! ## the law -/
theorem law_true (ns : List Int) (h : ns.length ≤ 63) : m_law ns = some true := by
  obtain ⟨s, s1, s2⟩ := seed_ok ns
  obtain ⟨d, src, t1, t2, t3, t4⟩ := take_ok ns [0, 0, s] 13 ⟨0, 0, s, rfl, by omega, by omega, s2⟩ (by decide) (by decide)
  obtain ⟨d2, src2, u1, u2, u3, u4⟩ := take_ok ns src 8 t4 (by decide) (by decide)
  obtain ⟨count, hcnt, q1, q2⟩ : ∃ count, ((m_law_take ns src (8 : Int)).bind fun y27 => if (decide (y27.1 = (5 : Int))) = true then (some ((d + (40 : Int)), y27.2)) else (some (d, y27.2))) = some (count, src2) ∧ 0 ≤ count ∧ count < 100 := by
    rw [bs u1]
    by_cases c : d2 = 5
    · rw [if_pos (decide_eq_true c)]; exact ⟨_, rfl, by omega, by omega⟩
    · rw [if_neg (by simpa using c)]; exact ⟨_, rfl, by omega, by omega⟩
  obtain ⟨edges, src3, G, rows, b1, b2, b3, b4, b5, n0, b6⟩ := build_ok ns src2 count u4 q1 q2
  have hG : G.rows = rows := b2.sim.eqr
  unfold m_law
  rw [bs s1, bs t1, bs hcnt, bs b1, if_neg (by
    intro h
    have : edges = [] := by simpa using h
    rw [this] at b3
    simp at b3), grd_t (decide_eq_true (by show rows.length < _; omega))]
  obtain ⟨ls, l1, l2, l3⟩ := letters_of rows b2.rk
  have hpos : 0 < ls.length := List.length_pos_of_mem ((l2 n0).mpr b6)
  rw [bs l1, grd_t (decide_eq_true hpos)]
  obtain ⟨d3, src4, v1, v2, v3, v4⟩ := take_ok ns src3 4 b2.src (by decide) (by decide)
  obtain ⟨df, w1, w2, _⟩ := atI_lt (xs := ([(1 : Int), (2 : Int), (4 : Int), (900001 : Int)] : (List Int))) (i := d3) v2 (by simpa using v3)
  have hdf : 1 ≤ df := by
    simp only [List.mem_cons, List.not_mem_nil, or_false] at w2
    omega
  rw [bs v1, bs w1]
  obtain ⟨d4, src5, x1, x2, x3, x4⟩ := take_ok ns src4 4 v4 (by decide) (by decide)
  rw [bs x1, grd_t (b := rngOk d4) (decide_eq_true ⟨by omega, by omega⟩)]
  obtain ⟨src6, picked, p1, p2, p3, p4⟩ := picked_l1 ns (edges, src3, G, rows) (by show 0 < edges.length; omega) b4 (pyRange 0 d4.toNat) src5 [] x4 (by simp) (by rw [pyRange_len]; simp; omega)
  rw [bs p1]
  rw [pyRange_len] at p4
  generalize hfirst : maxL ls + df = first
  have hmx : ∀ n, lrow n ∈ rows → 1 ≤ n ∧ n < first := by
    intro n hn
    have h1 := maxL_ge ((l2 n).mpr hn)
    refine ⟨?_, by omega⟩
    rcases b2.rk _ hn with e | ⟨m, hm, e⟩ | ⟨a, b, e⟩
    · cases e
    · have : n = m := by have := congrArg (fun r => kInt r 1) e; exact Option.some.inj this
      subst this
      exact hm.1
    · exact (l_not_b e).elim
  have hf : 1 ≤ first := by have := hmx n0 b6; omega
  have w : Wf (fun n => lrow n ∈ rows) rows := ⟨b2.wf.pos, fun k h0 h1 => by
    obtain ⟨r, e1, e2⟩ := b2.wf.at_ k h0 h1
    refine ⟨r, e1, ?_⟩
    rcases e2 with ⟨n, _, rfl⟩ | h
    · exact .inl ⟨n, atI_mem e1, rfl⟩
    · exact .inr h⟩
  obtain ⟨gs, E, g1, g2, g3, _⟩ := encode_ok w hmx hf b2.gat b2.nod G hG (roots := picked) (fun e he => b2.ed e (p3 e he)) b5 (by simp at p4; omega)
  rw [bs (show m_Encoding_init (M_Gates.mk G.rows G.known) picked first = _ from g2), if_neg (by simp)]
  obtain ⟨last, y1, y2, _⟩ := atI_lt (xs := edges) (i := (edges.length : Int) - 1) (by omega) (by omega)
  rw [bs y1, grd_t (decide_eq_true (by show picked.length < _; simp at p4; omega)), bs g3]
  have isok := is_ok E hf G.known g1 b5
  rw [bs (show m_law_is_encoding (M_Encoding.mk (tab first gs) (cls rows (tab first gs) gs) (M_Gates.mk G.rows G.known)) rows (tab first gs) = _ by rw [hG]; exact isok), if_neg (by simp)]
  obtain ⟨choices, src7, c1, c2, c3, c4, _⟩ := choices_l2 ns rows [] src6 b2.rk p2 (by simp; omega)
  rw [bs c1]
  generalize hchd : (fun n => (mget choices n).getD false) = ch
  have hc : ∀ n, lrow n ∈ rows → mget choices n = some (ch n) := by
    intro n hn
    rw [← hchd]
    obtain ⟨b, hb⟩ := Option.isSome_iff_exists.mp (c4 n hn)
    show _ = some ((mget choices n).getD false)
    rw [hb]; rfl
  have c3' : choices.length ≤ rows.length := by simpa using c3
  rw [bs (truths_ok w choices hc (by omega))]
  obtain ⟨d5, src8, z1, z2, z3, z4⟩ := take_ok ns src7 60 c2 (by decide) (by decide)
  rw [bs z1, bs (show m_law_means (cls rows (tab first gs) gs) (tab first gs) (ev ch rows) choices d5 = _ from means_ok E hf choices hc (by omega) z2), if_neg (by simp)]
  obtain ⟨d6, src9, a1, a2, a3, a4⟩ := take_ok ns src8 (edges.length : Int) z4 (by omega) (by omega)
  obtain ⟨more, m1, m2, _⟩ := atI_lt (xs := edges) a2 a3
  rw [bs a1, bs m1, bs y1]
  have loop : ∀ es : List Int, (∀ e ∈ es, Edge rows e) → m_law_l3 (edges, src3, G, rows) ls df (choices, src7) (ev ch rows) es () = some (.done ()) := by
    intro es
    induction es with
    | nil => intro _; rfl
    | cons e es ih =>
      intro he
      obtain ⟨cs, tb, F, k1, k2, k3, k4, k5, k6⟩ := truth_ok w hmx hf b2.gat b2.nod G hG (he e (.head _)) b5 choices hc (by omega)
      rw [m_law_l3, hfirst, bs k1, bs k2, bs k3, if_neg (by simp), bs k4, bs k5, bs k6, bs (value_ok (he e (.head _)) w.pos), if_neg (by simp)]
      exact ih fun x hx => he x (.tail _ hx)
  rw [bs (loop _ fun e he => by
    simp only [List.mem_cons, List.not_mem_nil, or_false] at he
    rcases he with rfl | rfl | rfl | rfl
    · exact ⟨by omega, by have := w.pos; omega⟩
    · exact ⟨by omega, by have := w.pos; omega⟩
    · exact b2.ed _ y2
    · exact b2.ed _ m2)]
  have okr : DOk.ok rows = true := List.all_eq_true.mpr b2.sim.ok
  rw [bs (x := true) (by
    show ((grd (DOk.ok G.rows)).bind _) = _
    rw [hG, grd_t okr, grd_t okr, if_pos (by simp), bs (show m_law_is_encoding (M_Encoding.mk (tab first gs) (cls rows (tab first gs) gs) (M_Gates.mk rows G.known)) rows (tab first gs) = _ from isok)])]
end G

namespace G
open PySem PySem.Spec PyProof.Rows L2

def top (i : Nat) : Stmt := PySem.Challenge.pw_someandall_k17_clauses_say_gates.main.body.getD i (.Pass ⟨0, 0, 0, 0⟩)

abbrev s_law_seed : Stmt := top 12

abbrev s_law_take : Stmt := top 13

abbrev s_Gates_init : Stmt := inClass (top 5) 0

abbrev s_law_letter : Stmt := top 17

abbrev s_law_row : Stmt := top 15

abbrev s_Gates_edge_of : Stmt := inClass (top 5) 1

abbrev s_Gates_leaf : Stmt := inClass (top 5) 2

abbrev s_law_opposite : Stmt := top 14

abbrev s_law_both : Stmt := top 16

abbrev s_opposite : Stmt := top 4

abbrev s_Gates_both : Stmt := inClass (top 5) 3

abbrev s_law_build : Stmt := top 18

abbrev s_Gates_cone : Stmt := inClass (top 5) 9

abbrev s_Gates_gate_rows : Stmt := inClass (top 5) 10

abbrev s_Encoding_literal : Stmt := inClass (top 9) 1

abbrev s_normal_clause : Stmt := top 7

abbrev s_Encoding_init : Stmt := inClass (top 9) 0

abbrev s_law_reached : Stmt := top 19

abbrev s_law_letters : Stmt := top 20

abbrev s_law_is_literal : Stmt := top 24

abbrev s_law_literal : Stmt := top 21

abbrev s_law_same : Stmt := top 25

abbrev s_law_clauses : Stmt := top 22

abbrev s_law_is_encoding : Stmt := top 26

abbrev s_law_value : Stmt := top 27

abbrev s_law_truths : Stmt := top 28

abbrev s_law_full : Stmt := top 29

abbrev s_law_all_true : Stmt := top 30

abbrev s_law_means : Stmt := top 31

abbrev s_truth_clauses : Stmt := top 10

abbrev s_law_truth : Stmt := top 23

abbrev s_law : Stmt := top 32

def fl_Gates (v0 v1 : V) : List (Str × V) := putF "_known" v1 (putF "rows" v0 ([]))
theorem fl_Gates_few {v0 v1 : V} : (fl_Gates v0 v1).length < 1000 := Nat.lt_of_le_of_lt (fewl (fewl (Nat.le_refl 0))) (by decide)
theorem fn_Gates_rows_known : ¬ (("rows" : Str) = "_known") := by decide +kernel
theorem fn_Gates_known_rows : ¬ (("_known" : Str) = "rows") := by decide +kernel
theorem fl_Gates_rows {v0 v1 : V} : (fl_Gates v0 v1).lookup ("rows" : Str) = some v0 := by
  unfold fl_Gates
  rw [lookup_putF, if_neg fn_Gates_rows_known, lookup_putF, if_pos rfl]
theorem fl_Gates_known {v0 v1 : V} : (fl_Gates v0 v1).lookup ("_known" : Str) = some v1 := by
  unfold fl_Gates
  rw [lookup_putF, if_pos rfl]
theorem fl_Gates_no_edge_of {v0 v1 : V} : (fl_Gates v0 v1).lookup ("_edge_of" : Str) = none := by
  unfold fl_Gates
  rw [lookup_putF, if_neg (show ¬ (("_edge_of" : Str) = "_known") by decide +kernel), lookup_putF, if_neg (show ¬ (("_edge_of" : Str) = "rows") by decide +kernel)]
  rfl
theorem fl_Gates_no_both {v0 v1 : V} : (fl_Gates v0 v1).lookup ("both" : Str) = none := by
  unfold fl_Gates
  rw [lookup_putF, if_neg (show ¬ (("both" : Str) = "_known") by decide +kernel), lookup_putF, if_neg (show ¬ (("both" : Str) = "rows") by decide +kernel)]
  rfl
theorem fl_Gates_no_cone {v0 v1 : V} : (fl_Gates v0 v1).lookup ("cone" : Str) = none := by
  unfold fl_Gates
  rw [lookup_putF, if_neg (show ¬ (("cone" : Str) = "_known") by decide +kernel), lookup_putF, if_neg (show ¬ (("cone" : Str) = "rows") by decide +kernel)]
  rfl
theorem fl_Gates_no_gate_rows {v0 v1 : V} : (fl_Gates v0 v1).lookup ("gate_rows" : Str) = none := by
  unfold fl_Gates
  rw [lookup_putF, if_neg (show ¬ (("gate_rows" : Str) = "_known") by decide +kernel), lookup_putF, if_neg (show ¬ (("gate_rows" : Str) = "rows") by decide +kernel)]
  rfl
theorem fl_Gates_no_leaf {v0 v1 : V} : (fl_Gates v0 v1).lookup ("leaf" : Str) = none := by
  unfold fl_Gates
  rw [lookup_putF, if_neg (show ¬ (("leaf" : Str) = "_known") by decide +kernel), lookup_putF, if_neg (show ¬ (("leaf" : Str) = "rows") by decide +kernel)]
  rfl

def fl_Encoding (v0 v1 v2 : V) : List (Str × V) := putF "_gates" v2 (putF "clauses" v1 (putF "letters" v0 ([])))
theorem fl_Encoding_few {v0 v1 v2 : V} : (fl_Encoding v0 v1 v2).length < 1000 := Nat.lt_of_le_of_lt (fewl (fewl (fewl (Nat.le_refl 0)))) (by decide)
theorem fn_Encoding_letters_clauses : ¬ (("letters" : Str) = "clauses") := by decide +kernel
theorem fn_Encoding_letters_gates : ¬ (("letters" : Str) = "_gates") := by decide +kernel
theorem fn_Encoding_clauses_letters : ¬ (("clauses" : Str) = "letters") := by decide +kernel
theorem fn_Encoding_clauses_gates : ¬ (("clauses" : Str) = "_gates") := by decide +kernel
theorem fn_Encoding_gates_letters : ¬ (("_gates" : Str) = "letters") := by decide +kernel
theorem fn_Encoding_gates_clauses : ¬ (("_gates" : Str) = "clauses") := by decide +kernel
theorem fl_Encoding_letters {v0 v1 v2 : V} : (fl_Encoding v0 v1 v2).lookup ("letters" : Str) = some v0 := by
  unfold fl_Encoding
  rw [lookup_putF, if_neg fn_Encoding_letters_gates, lookup_putF, if_neg fn_Encoding_letters_clauses, lookup_putF, if_pos rfl]
theorem fl_Encoding_clauses {v0 v1 v2 : V} : (fl_Encoding v0 v1 v2).lookup ("clauses" : Str) = some v1 := by
  unfold fl_Encoding
  rw [lookup_putF, if_neg fn_Encoding_clauses_gates, lookup_putF, if_pos rfl]
theorem fl_Encoding_gates {v0 v1 v2 : V} : (fl_Encoding v0 v1 v2).lookup ("_gates" : Str) = some v2 := by
  unfold fl_Encoding
  rw [lookup_putF, if_pos rfl]
theorem fl_Encoding_no_literal {v0 v1 v2 : V} : (fl_Encoding v0 v1 v2).lookup ("literal" : Str) = none := by
  unfold fl_Encoding
  rw [lookup_putF, if_neg (show ¬ (("literal" : Str) = "_gates") by decide +kernel), lookup_putF, if_neg (show ¬ (("literal" : Str) = "clauses") by decide +kernel), lookup_putF, if_neg (show ¬ (("literal" : Str) = "letters") by decide +kernel)]
  rfl

structure Txt (K : PySem.W.Frag) (mg : Str → Option Value) where
  z_abs : mg "abs" = none
  z_bool : mg "bool" = none
  z_dict : mg "dict" = none
  z_int : mg "int" = none
  z_isinstance : mg "isinstance" = none
  z_len : mg "len" = none
  z_list : mg "list" = none
  z_max : mg "max" = none
  z_min : mg "min" = none
  z_range : mg "range" = none
  z_set : mg "set" = none
  z_sorted : mg "sorted" = none
  z_tuple : mg "tuple" = none
  t_NO : Tok
  g_NO : mg "NO" = some (.int 0 t_NO)
  t_YES : Tok
  g_YES : mg "YES" = some (.int 1 t_YES)
  a_law_seed : Addr
  d_law_seed : FuncData
  F_law_seed : Fun K "_law_seed" "_law_seed" s_law_seed a_law_seed d_law_seed
  b_law_seed : Binds K d_law_seed ["script"] []
  g_law_seed : mg "_law_seed" = some (.ref a_law_seed)
  a_law_take : Addr
  d_law_take : FuncData
  F_law_take : Fun K "_law_take" "_law_take" s_law_take a_law_take d_law_take
  b_law_take : Binds K d_law_take ["script", "source", "size"] []
  g_law_take : mg "_law_take" = some (.ref a_law_take)
  a_Gates_init : Addr
  d_Gates_init : FuncData
  F_Gates_init : Fun K "__init__" "Gates.__init__" s_Gates_init a_Gates_init d_Gates_init
  b_Gates_init : Binds K d_Gates_init ["self"] []
  a_law_letter : Addr
  d_law_letter : FuncData
  F_law_letter : Fun K "_law_letter" "_law_letter" s_law_letter a_law_letter d_law_letter
  b_law_letter : Binds K d_law_letter ["script", "source"] []
  g_law_letter : mg "_law_letter" = some (.ref a_law_letter)
  a_law_row : Addr
  d_law_row : FuncData
  F_law_row : Fun K "_law_row" "_law_row" s_law_row a_law_row d_law_row
  b_law_row : Binds K d_law_row ["rows", "row"] []
  g_law_row : mg "_law_row" = some (.ref a_law_row)
  a_Gates_edge_of : Addr
  d_Gates_edge_of : FuncData
  F_Gates_edge_of : Fun K "_edge_of" "Gates._edge_of" s_Gates_edge_of a_Gates_edge_of d_Gates_edge_of
  b_Gates_edge_of : Binds K d_Gates_edge_of ["self", "row"] []
  a_Gates_leaf : Addr
  d_Gates_leaf : FuncData
  F_Gates_leaf : Fun K "leaf" "Gates.leaf" s_Gates_leaf a_Gates_leaf d_Gates_leaf
  b_Gates_leaf : Binds K d_Gates_leaf ["self", "letter"] []
  a_law_opposite : Addr
  d_law_opposite : FuncData
  F_law_opposite : Fun K "_law_opposite" "_law_opposite" s_law_opposite a_law_opposite d_law_opposite
  b_law_opposite : Binds K d_law_opposite ["edge"] []
  g_law_opposite : mg "_law_opposite" = some (.ref a_law_opposite)
  a_law_both : Addr
  d_law_both : FuncData
  F_law_both : Fun K "_law_both" "_law_both" s_law_both a_law_both d_law_both
  b_law_both : Binds K d_law_both ["rows", "a", "b"] []
  g_law_both : mg "_law_both" = some (.ref a_law_both)
  a_opposite : Addr
  d_opposite : FuncData
  F_opposite : Fun K "opposite" "opposite" s_opposite a_opposite d_opposite
  b_opposite : Binds K d_opposite ["edge"] []
  g_opposite : mg "opposite" = some (.ref a_opposite)
  a_Gates_both : Addr
  d_Gates_both : FuncData
  F_Gates_both : Fun K "both" "Gates.both" s_Gates_both a_Gates_both d_Gates_both
  b_Gates_both : Binds K d_Gates_both ["self", "a", "b"] []
  a_law_build : Addr
  d_law_build : FuncData
  F_law_build : Fun K "_law_build" "_law_build" s_law_build a_law_build d_law_build
  b_law_build : Binds K d_law_build ["script", "source", "gates", "rows", "count"] []
  g_law_build : mg "_law_build" = some (.ref a_law_build)
  a_Gates_cone : Addr
  d_Gates_cone : FuncData
  F_Gates_cone : Fun K "cone" "Gates.cone" s_Gates_cone a_Gates_cone d_Gates_cone
  b_Gates_cone : Binds K d_Gates_cone ["self", "edges"] []
  a_Gates_gate_rows : Addr
  d_Gates_gate_rows : FuncData
  F_Gates_gate_rows : Fun K "gate_rows" "Gates.gate_rows" s_Gates_gate_rows a_Gates_gate_rows d_Gates_gate_rows
  b_Gates_gate_rows : Binds K d_Gates_gate_rows ["self", "edges"] []
  a_Encoding_literal : Addr
  d_Encoding_literal : FuncData
  F_Encoding_literal : Fun K "literal" "Encoding.literal" s_Encoding_literal a_Encoding_literal d_Encoding_literal
  b_Encoding_literal : Binds K d_Encoding_literal ["self", "edge"] []
  a_normal_clause : Addr
  d_normal_clause : FuncData
  F_normal_clause : Fun K "normal_clause" "normal_clause" s_normal_clause a_normal_clause d_normal_clause
  b_normal_clause : Binds K d_normal_clause ["literals"] []
  g_normal_clause : mg "normal_clause" = some (.ref a_normal_clause)
  a_Encoding_init : Addr
  d_Encoding_init : FuncData
  F_Encoding_init : Fun K "__init__" "Encoding.__init__" s_Encoding_init a_Encoding_init d_Encoding_init
  b_Encoding_init : Binds K d_Encoding_init ["self", "gates", "edges", "first"] []
  a_law_reached : Addr
  d_law_reached : FuncData
  F_law_reached : Fun K "_law_reached" "_law_reached" s_law_reached a_law_reached d_law_reached
  b_law_reached : Binds K d_law_reached ["rows", "edges"] []
  g_law_reached : mg "_law_reached" = some (.ref a_law_reached)
  a_law_letters : Addr
  d_law_letters : FuncData
  F_law_letters : Fun K "_law_letters" "_law_letters" s_law_letters a_law_letters d_law_letters
  b_law_letters : Binds K d_law_letters ["rows", "edges", "first"] []
  g_law_letters : mg "_law_letters" = some (.ref a_law_letters)
  a_law_is_literal : Addr
  d_law_is_literal : FuncData
  F_law_is_literal : Fun K "_law_is_literal" "_law_is_literal" s_law_is_literal a_law_is_literal d_law_is_literal
  b_law_is_literal : Binds K d_law_is_literal ["actual", "due"] []
  g_law_is_literal : mg "_law_is_literal" = some (.ref a_law_is_literal)
  a_law_literal : Addr
  d_law_literal : FuncData
  F_law_literal : Fun K "_law_literal" "_law_literal" s_law_literal a_law_literal d_law_literal
  b_law_literal : Binds K d_law_literal ["rows", "letters", "edge"] []
  g_law_literal : mg "_law_literal" = some (.ref a_law_literal)
  a_law_same : Addr
  d_law_same : FuncData
  F_law_same : Fun K "_law_same" "_law_same" s_law_same a_law_same d_law_same
  b_law_same : Binds K d_law_same ["actual", "due"] []
  g_law_same : mg "_law_same" = some (.ref a_law_same)
  a_law_clauses : Addr
  d_law_clauses : FuncData
  F_law_clauses : Fun K "_law_clauses" "_law_clauses" s_law_clauses a_law_clauses d_law_clauses
  b_law_clauses : Binds K d_law_clauses ["rows", "letters"] []
  g_law_clauses : mg "_law_clauses" = some (.ref a_law_clauses)
  a_law_is_encoding : Addr
  d_law_is_encoding : FuncData
  F_law_is_encoding : Fun K "_law_is_encoding" "_law_is_encoding" s_law_is_encoding a_law_is_encoding d_law_is_encoding
  b_law_is_encoding : Binds K d_law_is_encoding ["encoded", "rows", "letters"] []
  g_law_is_encoding : mg "_law_is_encoding" = some (.ref a_law_is_encoding)
  a_law_value : Addr
  d_law_value : FuncData
  F_law_value : Fun K "_law_value" "_law_value" s_law_value a_law_value d_law_value
  b_law_value : Binds K d_law_value ["truths", "edge"] []
  g_law_value : mg "_law_value" = some (.ref a_law_value)
  a_law_truths : Addr
  d_law_truths : FuncData
  F_law_truths : Fun K "_law_truths" "_law_truths" s_law_truths a_law_truths d_law_truths
  b_law_truths : Binds K d_law_truths ["rows", "choices"] []
  g_law_truths : mg "_law_truths" = some (.ref a_law_truths)
  a_law_full : Addr
  d_law_full : FuncData
  F_law_full : Fun K "_law_full" "_law_full" s_law_full a_law_full d_law_full
  b_law_full : Binds K d_law_full ["truths", "letters", "choices"] []
  g_law_full : mg "_law_full" = some (.ref a_law_full)
  a_law_all_true : Addr
  d_law_all_true : FuncData
  F_law_all_true : Fun K "_law_all_true" "_law_all_true" s_law_all_true a_law_all_true d_law_all_true
  b_law_all_true : Binds K d_law_all_true ["clauses", "choices"] []
  g_law_all_true : mg "_law_all_true" = some (.ref a_law_all_true)
  a_law_means : Addr
  d_law_means : FuncData
  F_law_means : Fun K "_law_means" "_law_means" s_law_means a_law_means d_law_means
  b_law_means : Binds K d_law_means ["clauses", "letters", "truths", "choices", "at"] []
  g_law_means : mg "_law_means" = some (.ref a_law_means)
  a_truth_clauses : Addr
  d_truth_clauses : FuncData
  F_truth_clauses : Fun K "truth_clauses" "truth_clauses" s_truth_clauses a_truth_clauses d_truth_clauses
  b_truth_clauses : Binds K d_truth_clauses ["gates", "edge", "first"] []
  g_truth_clauses : mg "truth_clauses" = some (.ref a_truth_clauses)
  a_law_truth : Addr
  d_law_truth : FuncData
  F_law_truth : Fun K "_law_truth" "_law_truth" s_law_truth a_law_truth d_law_truth
  b_law_truth : Binds K d_law_truth ["rows", "edge", "first"] []
  g_law_truth : mg "_law_truth" = some (.ref a_law_truth)
  a_law : Addr
  d_law : FuncData
  F_law : Fun K "law" "law" s_law a_law d_law
  b_law : Binds K d_law ["script"] []
  g_law : mg "law" = some (.ref a_law)
  a_Gates : Addr
  cl_Gates : Cls K a_Gates
  g_Gates : mg "Gates" = some (.ref a_Gates)
  n_Gates_rows : NoAttr K a_Gates "rows"
  n_Gates_known : NoAttr K a_Gates "_known"
  mk_Gates : Mk K a_Gates a_Gates_init
  h_Gates_edge_of : Meth K a_Gates "_edge_of" a_Gates_edge_of
  h_Gates_leaf : Meth K a_Gates "leaf" a_Gates_leaf
  h_Gates_both : Meth K a_Gates "both" a_Gates_both
  h_Gates_cone : Meth K a_Gates "cone" a_Gates_cone
  h_Gates_gate_rows : Meth K a_Gates "gate_rows" a_Gates_gate_rows
  a_Encoding : Addr
  cl_Encoding : Cls K a_Encoding
  g_Encoding : mg "Encoding" = some (.ref a_Encoding)
  n_Encoding_letters : NoAttr K a_Encoding "letters"
  n_Encoding_clauses : NoAttr K a_Encoding "clauses"
  n_Encoding_gates : NoAttr K a_Encoding "_gates"
  h_Encoding_literal : Meth K a_Encoding "literal" a_Encoding_literal
  mk_Encoding : Mk K a_Encoding a_Encoding_init

section
variable {P : Program} {w : World} {K : PySem.W.Frag} {mg : Str → Option Value} {base : Heap}

theorem sc_law_seed : FnScope ["script", "seed", "cell"] ["script"] (defScope s_law_seed) := ⟨rfl, rfl, rfl, by decide +kernel, rfl, by decide +kernel, by decide +kernel⟩

theorem sc_law_take : FnScope ["script", "source", "size", "digit"] ["script", "source", "size"] (defScope s_law_take) := ⟨rfl, rfl, rfl, by decide +kernel, rfl, by decide +kernel, by decide +kernel⟩

theorem sc_Gates_init : FnScope ["self"] ["self"] (defScope s_Gates_init) := ⟨rfl, rfl, rfl, by decide +kernel, rfl, by decide +kernel, by decide +kernel⟩

theorem sc_law_letter : FnScope ["script", "source"] ["script", "source"] (defScope s_law_letter) := ⟨rfl, rfl, rfl, by decide +kernel, rfl, by decide +kernel, by decide +kernel⟩

theorem sc_law_row : FnScope ["rows", "row", "k"] ["rows", "row"] (defScope s_law_row) := ⟨rfl, rfl, rfl, by decide +kernel, rfl, by decide +kernel, by decide +kernel⟩

theorem sc_Gates_edge_of : FnScope ["self", "row"] ["self", "row"] (defScope s_Gates_edge_of) := ⟨rfl, rfl, rfl, by decide +kernel, rfl, by decide +kernel, by decide +kernel⟩

theorem sc_Gates_leaf : FnScope ["self", "letter"] ["self", "letter"] (defScope s_Gates_leaf) := ⟨rfl, rfl, rfl, by decide +kernel, rfl, by decide +kernel, by decide +kernel⟩

theorem sc_law_opposite : FnScope ["edge"] ["edge"] (defScope s_law_opposite) := ⟨rfl, rfl, rfl, by decide +kernel, rfl, by decide +kernel, by decide +kernel⟩

theorem sc_law_both : FnScope ["rows", "a", "b"] ["rows", "a", "b"] (defScope s_law_both) := ⟨rfl, rfl, rfl, by decide +kernel, rfl, by decide +kernel, by decide +kernel⟩

theorem sc_opposite : FnScope ["edge"] ["edge"] (defScope s_opposite) := ⟨rfl, rfl, rfl, by decide +kernel, rfl, by decide +kernel, by decide +kernel⟩

theorem sc_Gates_both : FnScope ["self", "a", "b", "low", "high"] ["self", "a", "b"] (defScope s_Gates_both) := ⟨rfl, rfl, rfl, by decide +kernel, rfl, by decide +kernel, by decide +kernel⟩

theorem sc_law_build : FnScope ["script", "source", "gates", "rows", "count", "edges", "k", "letter", "due", "a", "b"] ["script", "source", "gates", "rows", "count"] (defScope s_law_build) := ⟨rfl, rfl, rfl, by decide +kernel, rfl, by decide +kernel, by decide +kernel⟩

theorem sc_Gates_cone : FnScope ["self", "edges", "seen", "todo", "k", "row", "edge"] ["self", "edges"] (defScope s_Gates_cone) := ⟨rfl, rfl, rfl, by decide +kernel, rfl, by decide +kernel, by decide +kernel⟩

theorem sc_Gates_gate_rows : FnScope ["self", "edges", "k"] ["self", "edges"] (defScope s_Gates_gate_rows) := ⟨rfl, rfl, rfl, by decide +kernel, rfl, by decide +kernel, by decide +kernel⟩

theorem sc_Encoding_literal : FnScope ["self", "edge", "k", "row", "letter"] ["self", "edge"] (defScope s_Encoding_literal) := ⟨rfl, rfl, rfl, by decide +kernel, rfl, by decide +kernel, by decide +kernel⟩

theorem sc_normal_clause : FnScope ["literals", "clause", "literal"] ["literals"] (defScope s_normal_clause) := ⟨rfl, rfl, rfl, by decide +kernel, rfl, by decide +kernel, by decide +kernel⟩

theorem sc_Encoding_init : FnScope ["self", "gates", "edges", "first", "k", "row", "left", "right", "letter"] ["self", "gates", "edges", "first"] (defScope s_Encoding_init) := ⟨rfl, rfl, rfl, by decide +kernel, rfl, by decide +kernel, by decide +kernel⟩

theorem sc_law_reached : FnScope ["rows", "edges", "flags", "edge", "k", "row"] ["rows", "edges"] (defScope s_law_reached) := ⟨rfl, rfl, rfl, by decide +kernel, rfl, by decide +kernel, by decide +kernel⟩

theorem sc_law_letters : FnScope ["rows", "edges", "first", "letters", "k"] ["rows", "edges", "first"] (defScope s_law_letters) := ⟨rfl, rfl, rfl, by decide +kernel, rfl, by decide +kernel, by decide +kernel⟩

theorem sc_law_is_literal : FnScope ["actual", "due"] ["actual", "due"] (defScope s_law_is_literal) := ⟨rfl, rfl, rfl, by decide +kernel, rfl, by decide +kernel, by decide +kernel⟩

theorem sc_law_literal : FnScope ["rows", "letters", "edge", "k", "letter"] ["rows", "letters", "edge"] (defScope s_law_literal) := ⟨rfl, rfl, rfl, by decide +kernel, rfl, by decide +kernel, by decide +kernel⟩

theorem sc_law_same : FnScope ["actual", "due", "k", "j"] ["actual", "due"] (defScope s_law_same) := ⟨rfl, rfl, rfl, by decide +kernel, rfl, by decide +kernel, by decide +kernel⟩

theorem sc_law_clauses : FnScope ["rows", "letters", "clauses", "k", "letter", "left", "right"] ["rows", "letters"] (defScope s_law_clauses) := ⟨rfl, rfl, rfl, by decide +kernel, rfl, by decide +kernel, by decide +kernel⟩

theorem sc_law_is_encoding : FnScope ["encoded", "rows", "letters", "k", "edge"] ["encoded", "rows", "letters"] (defScope s_law_is_encoding) := ⟨rfl, rfl, rfl, by decide +kernel, rfl, by decide +kernel, by decide +kernel⟩

theorem sc_law_value : FnScope ["truths", "edge"] ["truths", "edge"] (defScope s_law_value) := ⟨rfl, rfl, rfl, by decide +kernel, rfl, by decide +kernel, by decide +kernel⟩

theorem sc_law_truths : FnScope ["rows", "choices", "truths", "k", "row"] ["rows", "choices"] (defScope s_law_truths) := ⟨rfl, rfl, rfl, by decide +kernel, rfl, by decide +kernel, by decide +kernel⟩

theorem sc_law_full : FnScope ["truths", "letters", "choices", "full", "k"] ["truths", "letters", "choices"] (defScope s_law_full) := ⟨rfl, rfl, rfl, by decide +kernel, rfl, by decide +kernel, by decide +kernel⟩

theorem sc_law_all_true : FnScope ["clauses", "choices", "clause", "held", "literal"] ["clauses", "choices"] (defScope s_law_all_true) := ⟨rfl, rfl, rfl, by decide +kernel, rfl, by decide +kernel, by decide +kernel⟩

theorem sc_law_means : FnScope ["clauses", "letters", "truths", "choices", "at", "full", "places", "letter"] ["clauses", "letters", "truths", "choices", "at"] (defScope s_law_means) := ⟨rfl, rfl, rfl, by decide +kernel, rfl, by decide +kernel, by decide +kernel⟩

theorem sc_truth_clauses : FnScope ["gates", "edge", "first", "encoded"] ["gates", "edge", "first"] (defScope s_truth_clauses) := ⟨rfl, rfl, rfl, by decide +kernel, rfl, by decide +kernel, by decide +kernel⟩

theorem sc_law_truth : FnScope ["rows", "edge", "first", "letters", "clauses"] ["rows", "edge", "first"] (defScope s_law_truth) := ⟨rfl, rfl, rfl, by decide +kernel, rfl, by decide +kernel, by decide +kernel⟩

theorem sc_law : FnScope ["script", "source", "count", "gates", "rows", "edges", "row", "first", "picked", "k", "handed", "encoded", "letters", "choices", "truths", "more", "edge", "got", "full"] ["script"] (defScope s_law) := ⟨rfl, rfl, rfl, by decide +kernel, rfl, by decide +kernel, by decide +kernel⟩

def sp_law_seed (T : Txt K mg) : Sp := fun vs H Q _ => ∃ (F0 : Hp) (R : Own) (a_script0 : Addr) (v_script0 : List V) (x_script0 : (List Int)) (r : Int),
  vs = [V.ref a_script0] ∧ SqL K F0 a_script0 v_script0 ∧ LR (rInt F0) v_script0 x_script0 ∧ Sta F0 ([] ++ R) H ∧ m_law_seed x_script0 = some r ∧ Q (V.int r) H

theorem ok_law_seed (T : Txt K mg) : FnOk P w K mg base CX0 1 T.a_law_seed T.d_law_seed ["script"] (sp_law_seed T) := by
  refine T.F_law_seed.ok sc_law_seed (fun vs H Q E h => ?_) (fun cdv A outer s H vs Q E hr h => ?_)
  · obtain ⟨_, _, _, _, _, _, rfl, _⟩ := h
    rfl
  · obtain ⟨F0, R, a_script0, v_script0, x_script0, r, rfl, hs_script0, hl_script0, S0, hm, kk⟩ := h
    have hu := hu_of hr
    unfold m_law_seed at hm
    refine ⟨_, (pss_cons (ps_set (i := 1) sc_law_seed.nd rfl (Or.inl rfl) pe_int) (pss_cons (ps_for PassesOwn.never rfl (pi_list (pv 0)) (pg_name (i := 2) sc_law_seed.nd rfl (Or.inl rfl)) (pss_one (ps_set (i := 1) sc_law_seed.nd rfl (Or.inl rfl) (pe_op op_mod (pe_op op_add (pe_op op_add (pe_op op_mul (pv 1) pe_int) (pe_op op_mod (pe_callTy call_int1 (by rfl) T.z_int (by decide +kernel) (pa_cons (pv 2) pa_nil)) pe_int)) pe_int) pe_int)))) (pss_one (ps_ret (pv 1))))), ?_⟩
    refine seqI fun N1 hN2 => ?_
    refine hN2 _ _ ?_
    refine seqI fun N3 hN4 => ?_
    revert hm; refine bndI fun y5 e6 hm7 => ?_
    refine ⟨_, rfl, _, rfl, ⟨_, (SqL.mono hs_script0 ((Same.refl _).trans S0.sub))⟩, for_list (K := K) (a := a_script0) (xs := v_script0) (fun i σ H2 => ∃ (st1 : Int) (F20 : Hp) (o23 : Option V), σ = [some (V.ref a_script0), some (V.int st1), o23] ∧ H = H2 ∧ Same F0 F20 ∧ Sta F20 ([] ++ R) H2 ∧ m_law_seed_l1 (List.drop i x_script0) st1 = some y5) ⟨(1 : Int), F0, _, rfl, rfl, (Same.refl _), S0, e6⟩ (by rintro i σ H2 _ ⟨st1, F20, o23, rfl, rfl, s21, S22, _⟩; exact (SqL.mono hs_script0 (s21.trans S22.sub))) ?_ ?_⟩
    · rintro i v25 σ H2 hi ⟨st1, F20, o23, rfl, rfl, s21, S22, hm⟩
      obtain ⟨x24, hx26, rx27⟩ := LR.getV hl_script0 hi
      rw [drop_cons hx26, m_law_seed_l1] at hm
      obtain rfl := rInt_e rx27
      refine ⟨_, rfl, _, _, rfl, rfl, .inr ⟨by decide, by decide⟩, _, rfl, ?_⟩
      refine .inl ⟨_, rfl, ?_⟩
      refine ⟨_, _, rfl, rfl, (by show (0 : Int) < 2147483647; decide), _, _, rfl, rfl, _, _, rfl, rfl, _, _, rfl, rfl, (by show (0 : Int) < 2147483647; decide), ?_⟩
      exact ⟨((((st1 * (69621 : Int)) + (x24 % (2147483647 : Int))) + (7 : Int)) % (2147483647 : Int)), F20, _, rfl, rfl, s21, S22, hm⟩
    · rintro σ H2 ⟨st1, F20, o23, rfl, rfl, s21, S22, hm⟩
      rw [LR.dropEnd hl_script0, m_law_seed_l1] at hm
      obtain rfl := Option.some.inj hm
      have hm := hm7
      refine hN4 _ _ ?_
      refine ⟨_, rfl, ?_⟩
      obtain rfl := Option.some.inj hm
      exact kk

def sp_law_take (T : Txt K mg) : Sp := fun vs H Q _ => ∃ (F0 : Hp) (R : Own) (a_script0 : Addr) (v_script0 : List V) (x_script0 : (List Int)) (a_source0 : Addr) (v_source0 : List V) (x_source0 : (List Int)) (x_size0 : Int) (r : (Int × (List Int))),
  vs = [V.ref a_script0, V.ref a_source0, V.int x_size0] ∧ SqL K F0 a_script0 v_script0 ∧ LR (rInt F0) v_script0 x_script0 ∧ LR (rInt F0) v_source0 x_source0 ∧ Sta F0 ([(a_source0, HO.lst v_source0)] ++ R) H ∧ m_law_take x_script0 x_source0 x_size0 = some r ∧ ∀ (F1 : Hp) (H1 : Hp) (v_source0p : List V), Same F0 F1 → Sta F1 ([(a_source0, HO.lst v_source0p)] ++ R) H1 → LR (rInt F1) v_source0p r.2 → Q (V.int r.1) H1

theorem ok_law_take (T : Txt K mg) : FnOk P w K mg base CX0 1 T.a_law_take T.d_law_take ["script", "source", "size"] (sp_law_take T) := by
  refine T.F_law_take.ok sc_law_take (fun vs H Q E h => ?_) (fun cdv A outer s H vs Q E hr h => ?_)
  · obtain ⟨_, _, _, _, _, _, _, _, _, _, rfl, _⟩ := h
    rfl
  · obtain ⟨F0, R, a_script0, v_script0, x_script0, a_source0, v_source0, x_source0, x_size0, r, rfl, hs_script0, hl_script0, hl_source0, S0, hm, kk⟩ := h
    have hu := hu_of hr
    unfold m_law_take at hm
    refine ⟨_, (C8.pss_cut (ps_if (pt_pure (PW.pt (pw_and (pt_cmpR oI_eq (pe_ix ix_list (pv 1) pe_int (fun _ _ => rfl)) pe_int (nomark _)) (pw_and1 (pt_cmpR op_lt (pe_ix ix_list (pv 1) pe_int (fun _ _ => rfl)) (pe_callB call_len_seq (by rfl) T.z_len PySem.boot_len (pa_cons (pv 0) pa_nil)) (nomark _)))))) (pss_cons (ps_asg (pe_callB call_abs (by rfl) T.z_abs (by decide +kernel) (pa_cons (pe_ix ix_list (pv 0) (pe_ix ix_list (pv 1) pe_int (fun _ _ => rfl)) (fun _ _ => rfl)) pa_nil)) (pg_sub (pv 1) pe_int set_list)) (pss_one (ps_asg (pe_op op_add (pe_ix ix_list (pv 1) pe_int (fun _ _ => rfl)) pe_int) (pg_sub (pv 1) pe_int set_list)))) pss_nil) (pss_cons (ps_if (pt_cmpR op_gt (pe_ix ix_list (pv 1) pe_int (fun _ _ => rfl)) pe_int (nomark _)) (pss_cons (ps_set (i := 3) sc_law_take.nd rfl (Or.inl rfl) (pe_op op_mod (pe_callTy call_int1 (by rfl) T.z_int (by decide +kernel) (pa_cons (pe_ix ix_list (pv 1) pe_int (fun _ _ => rfl)) pa_nil)) (pv 2))) (pss_cons (ps_asg (pe_op op_fdiv (pe_ix ix_list (pv 1) pe_int (fun _ _ => rfl)) (pv 2)) (pg_sub (pv 1) pe_int set_list)) (pss_one (ps_ret (pv 3))))) pss_nil) (pss_cons (ps_asg (pe_op op_mod (pe_op op_add (pe_op op_mul (pe_ix ix_list (pv 1) pe_int (fun _ _ => rfl)) pe_int) pe_int) pe_int) (pg_sub (pv 1) pe_int set_list)) (pss_one (ps_ret (pe_op op_mod (pe_op op_fdiv (pe_ix ix_list (pv 1) pe_int (fun _ _ => rfl)) pe_int) (pv 2))))))), ?_⟩
    revert hm; refine bndI fun y6 e7 hm => ?_
    refine ⟨fun σ H2 => ∃ (F1 : Hp) (v4 : List V), σ = [some (V.ref a_script0), some (V.ref a_source0), some (V.int x_size0), none] ∧ Same F0 F1 ∧ Sta F1 ([(a_source0, HO.lst v4)] ++ R) H2 ∧ LR (rInt F1) v4 y6, ?_, ?_⟩
    · clear hm; have hm := e7; clear e7
      revert hm; refine bndI fun b8 e9 hm => ?_
      refine ⟨b8, ?_, ?_⟩
      · clear hm
        have hm := e9
        clear e9
        revert hm; refine bndI fun y10 e11 hm => ?_
        obtain ⟨v12, ev13, rv14⟩ := LR.atI hl_source0 e11
        obtain rfl := rInt_e rv14
        refine ⟨_, rfl, _, _, _, _, rfl, rfl, (SqL.of (S0.get 0 rfl)), ev13, _, _, rfl, rfl, _, rfl, ?_⟩
        by_cases c15 : (decide (y10 = (0 : Int))) = true
        · revert hm; refine ifTI c15 fun hm => ?_
          refine goT c15 ?_
          revert hm; refine bndI fun y16 e17 hm => ?_
          obtain ⟨v18, ev19, rv20⟩ := LR.atI hl_source0 e17
          obtain rfl := rInt_e rv20
          refine ⟨_, rfl, _, _, _, _, rfl, rfl, (SqL.of (S0.get 0 rfl)), ev19, _, rfl, _, _, rfl, .inl (SqL.mono hs_script0 ((Same.refl _).trans S0.sub)), ?_⟩
          rw [LR.length hl_script0]
          refine ⟨_, _, rfl, rfl, _, rfl, ?_⟩
          exact ⟨Option.some.inj hm, rfl⟩
        · revert hm; refine ifFI c15 fun hm => ?_
          exact goF c15 ⟨Option.some.inj hm, rfl⟩
      by_cases c21 : b8 = true
      · revert hm; refine ifTI c21 fun hm => ?_
        refine goT c21 ?_
        refine seqI fun N22 hN23 => ?_
        revert hm; refine bndI fun y24 e25 hm => ?_
        obtain ⟨v26, ev27, rv28⟩ := LR.atI hl_source0 e25
        obtain rfl := rInt_e rv28
        revert hm; refine bndI fun y29 e30 hm => ?_
        obtain ⟨v31, ev32, rv33⟩ := LR.atI hl_script0 e30
        obtain rfl := rInt_e rv33
        revert hm; refine bndI fun j34 e35 hm => ?_
        refine ⟨_, rfl, _, rfl, _, _, _, _, rfl, rfl, (SqL.of (S0.get 0 rfl)), ev27, _, _, _, _, rfl, rfl, (SqL.mono hs_script0 ((Same.refl _).trans S0.sub)), ev32, _, rfl, _, rfl, _, _, _, _, rfl, rfl, (S0.get 0 rfl), (by rw [LR.length hl_source0]; exact e35), ?_⟩
        have hl36 : LR (rInt F0) (v_source0.set j34 (V.int (if y29 < 0 then -y29 else y29))) (x_source0.set j34 (if y29 < 0 then -y29 else y29)) := LR.set hl_source0 rfl
        have S37 : Sta F0 ([(a_source0, HO.lst (v_source0.set j34 (V.int (if y29 < 0 then -y29 else y29))))] ++ R) _ := S0.set 0 rfl _
        refine hN23 _ _ ?_
        revert hm; refine bndI fun y38 e39 hm => ?_
        obtain ⟨v40, ev41, rv42⟩ := LR.atI hl36 e39
        obtain rfl := rInt_e rv42
        revert hm; refine bndI fun j43 e44 hm => ?_
        refine ⟨_, rfl, _, _, _, _, rfl, rfl, (SqL.of (S37.get 0 rfl)), ev41, _, _, rfl, rfl, _, rfl, _, _, _, _, rfl, rfl, (S37.get 0 rfl), (by rw [LR.length hl36]; exact e44), ?_⟩
        clear S0
        have hl45 : LR (rInt F0) ((v_source0.set j34 (V.int (if y29 < 0 then -y29 else y29))).set j43 (V.int (y38 + (1 : Int)))) ((x_source0.set j34 (if y29 < 0 then -y29 else y29)).set j43 (y38 + (1 : Int))) := LR.set hl36 rfl
        have S46 : Sta F0 ([(a_source0, HO.lst ((v_source0.set j34 (V.int (if y29 < 0 then -y29 else y29))).set j43 (V.int (y38 + (1 : Int)))))] ++ R) _ := S37.set 0 rfl _
        obtain rfl := Option.some.inj hm
        exact ⟨F0, ((v_source0.set j34 (V.int (if y29 < 0 then -y29 else y29))).set j43 (V.int (y38 + (1 : Int)))), rfl, (Same.refl _), S46, hl45⟩
      · revert hm; refine ifFI c21 fun hm => ?_
        refine goF c21 ?_
        obtain rfl := Option.some.inj hm
        exact ⟨F0, v_source0, rfl, (Same.refl _), S0, hl_source0⟩
    · rintro σ H2 ⟨F1, v4, rfl, s2, S3, hl5⟩
      refine seqI fun N47 hN48 => ?_
      revert hm; refine bndI fun y49 e50 hm => ?_
      obtain ⟨v51, ev52, rv53⟩ := LR.atI hl5 e50
      obtain rfl := rInt_e rv53
      refine ⟨_, rfl, _, _, _, _, rfl, rfl, (SqL.of (S3.get 0 rfl)), ev52, _, _, rfl, rfl, _, rfl, ?_⟩
      by_cases c54 : (decide (y49 > (0 : Int))) = true
      · revert hm; refine ifTI c54 fun hm => ?_
        refine goT c54 ?_
        refine seqI fun N55 hN56 => ?_
        revert hm; refine bndI fun y57 e58 hm => ?_
        obtain ⟨v59, ev60, rv61⟩ := LR.atI hl5 e58
        obtain rfl := rInt_e rv61
        refine ⟨_, rfl, _, _, _, _, rfl, rfl, (SqL.of (S3.get 0 rfl)), ev60, ?_⟩
        refine .inl ⟨_, rfl, ?_⟩
        revert hm; refine grdI fun g62 hm => ?_
        refine ⟨_, rfl, _, _, rfl, rfl, divOk_mod g62, ?_⟩
        refine hN56 _ _ ?_
        refine seqI fun N63 hN64 => ?_
        revert hm; refine bndI fun y65 e66 hm => ?_
        obtain ⟨v67, ev68, rv69⟩ := LR.atI hl5 e66
        obtain rfl := rInt_e rv69
        revert hm; refine grdI fun g70 hm => ?_
        revert hm; refine bndI fun j71 e72 hm => ?_
        refine ⟨_, rfl, _, _, _, _, rfl, rfl, (SqL.of (S3.get 0 rfl)), ev68, _, rfl, _, _, rfl, rfl, divOk_fdiv g70, _, rfl, _, _, _, _, rfl, rfl, (S3.get 0 rfl), (by rw [LR.length hl5]; exact e72), ?_⟩
        have hl73 : LR (rInt F1) (v4.set j71 (V.int (y65 / x_size0))) (y6.set j71 (y65 / x_size0)) := LR.set hl5 rfl
        have S74 : Sta F1 ([(a_source0, HO.lst (v4.set j71 (V.int (y65 / x_size0))))] ++ R) _ := S3.set 0 rfl _
        refine hN64 _ _ ?_
        refine ⟨_, rfl, ?_⟩
        clear S3
        obtain rfl := Option.some.inj hm
        exact kk _ _ (v4.set j71 (V.int (y65 / x_size0))) s2 S74 hl73
      · revert hm; refine ifFI c54 fun hm => ?_
        refine goF c54 ?_
        refine hN48 _ _ ?_
        refine seqI fun N75 hN76 => ?_
        revert hm; refine bndI fun y77 e78 hm => ?_
        obtain ⟨v79, ev80, rv81⟩ := LR.atI hl5 e78
        obtain rfl := rInt_e rv81
        revert hm; refine bndI fun j82 e83 hm => ?_
        refine ⟨_, rfl, _, _, _, _, rfl, rfl, (SqL.of (S3.get 0 rfl)), ev80, _, _, rfl, rfl, .inr ⟨by decide, by decide⟩, _, _, rfl, rfl, _, _, rfl, rfl, (by show (0 : Int) < 2147483647; decide), _, rfl, _, _, _, _, rfl, rfl, (S3.get 0 rfl), (by rw [LR.length hl5]; exact e83), ?_⟩
        have hl84 : LR (rInt F1) (v4.set j82 (V.int (((y77 * (48271 : Int)) + (12345 : Int)) % (2147483647 : Int)))) (y6.set j82 (((y77 * (48271 : Int)) + (12345 : Int)) % (2147483647 : Int))) := LR.set hl5 rfl
        have S85 : Sta F1 ([(a_source0, HO.lst (v4.set j82 (V.int (((y77 * (48271 : Int)) + (12345 : Int)) % (2147483647 : Int)))))] ++ R) _ := S3.set 0 rfl _
        refine hN76 _ _ ?_
        revert hm; refine bndI fun y86 e87 hm => ?_
        obtain ⟨v88, ev89, rv90⟩ := LR.atI hl84 e87
        obtain rfl := rInt_e rv90
        revert hm; refine grdI fun g91 hm => ?_
        refine ⟨_, rfl, _, _, _, _, rfl, rfl, (SqL.of (S85.get 0 rfl)), ev89, _, _, rfl, rfl, ⟨by decide, by decide⟩, _, rfl, _, _, rfl, rfl, divOk_mod g91, ?_⟩
        clear S3
        obtain rfl := Option.some.inj hm
        exact kk _ _ (v4.set j82 (V.int (((y77 * (48271 : Int)) + (12345 : Int)) % (2147483647 : Int)))) s2 S85 hl84

def sp_Gates_init (T : Txt K mg) : Sp := fun vs H Q _ => ∃ (F0 : Hp) (R : Own) (a_self0 : Addr) (dx_self0 : Addr) (r : M_Gates),
  vs = [V.ref a_self0] ∧ Sta F0 ([(a_self0, HO.ins T.a_Gates dx_self0 ([]))] ++ R) H ∧ m_Gates_init = r ∧ ∀ (F1 : Hp) (H1 : Hp) (a_self0p_rows0 : Addr) (v_self0p_rows0 : List V) (a_self0p_known0 : Addr) (v_self0p_known0 : List (List Key × V)), Same F0 F1 → Sta F1 ([(a_self0, HO.ins T.a_Gates dx_self0 (fl_Gates (V.ref a_self0p_rows0) (V.ref a_self0p_known0))), (a_self0p_rows0, HO.lst v_self0p_rows0), (a_self0p_known0, HO.dT v_self0p_known0)] ++ R) H1 → LR (rKT F1) v_self0p_rows0 r.rows → KR id (rInt F1) v_self0p_known0 r.known → Q (V.non) H1

theorem ok_Gates_init (T : Txt K mg) : FnOk P w K mg base CX0 1 T.a_Gates_init T.d_Gates_init ["self"] (sp_Gates_init T) := by
  refine T.F_Gates_init.ok sc_Gates_init (fun vs H Q E h => ?_) (fun cdv A outer s H vs Q E hr h => ?_)
  · obtain ⟨_, _, _, _, _, rfl, _⟩ := h
    rfl
  · obtain ⟨F0, R, a_self0, dx_self0, r, rfl, S0, hm, kk⟩ := h
    have hu := hu_of hr
    unfold m_Gates_init at hm
    refine ⟨_, (pss_cons (ps_fld (pv 0) (pe_lst (pa_cons (pe_tup (pa_cons pe_str pa_nil)) pa_nil)) rfl) (pss_one (ps_fld (pv 0) pe_dnewT rfl))), ?_⟩
    refine seqI fun N1 hN2 => ?_
    refine ⟨(by show 1 ≤ sizeLine; decide), ?_⟩
    intro a3 np4
    obtain ⟨F5, s6, S7, h8⟩ : ∃ F', Same F0 F' ∧ Sta F' ([(a_self0, HO.ins T.a_Gates dx_self0 ([]))] ++ R) _ ∧ F' a3 = some (HO.tup (([Sum.inr ("no" : Str)] : List Key).map kV)) := ⟨_, S0.sameF np4 _, S0.newF np4 _, upd_same⟩
    refine ⟨(by show 1 ≤ sizeLine; decide), ?_⟩
    intro a9 np10
    have hl11 : LR (rKT F5) [V.ref a3] ([([Sum.inr ("no" : Str)] : List Key)] : (List (List Key))) := ⟨⟨_, rfl, (Same.refl _) _ _ h8⟩, trivial⟩
    have S12 : Sta F5 ([(a9, HO.lst [V.ref a3]), (a_self0, HO.ins T.a_Gates dx_self0 ([]))] ++ R) _ := S7.new np10 _
    refine ⟨_, rfl, _, _, _, _, rfl, (S12.get 1 rfl), T.cl_Gates, T.n_Gates_rows, (Nat.lt_of_le_of_lt (Nat.le_refl 0) (by decide)), ?_⟩
    clear S7
    have S13 : Sta F5 ([(a9, HO.lst [V.ref a3]), (a_self0, HO.ins T.a_Gates dx_self0 (putF "rows" (V.ref a9) ([])))] ++ R) _ := S12.set 1 rfl _
    refine hN2 _ _ ?_
    clear S12
    intro a14 np15
    have hl16 : KR id (rInt F5) ([] : List (List Key × V)) ([] : (List ((List Key) × Int))) := trivial
    have S17 : Sta F5 ([(a14, HO.dT []), (a9, HO.lst [V.ref a3]), (a_self0, HO.ins T.a_Gates dx_self0 (putF "rows" (V.ref a9) ([])))] ++ R) _ := S13.new np15 _
    refine ⟨_, rfl, _, _, _, _, rfl, (S17.get 2 rfl), T.cl_Gates, T.n_Gates_known, (Nat.lt_of_le_of_lt (fewl (Nat.le_refl 0)) (by decide)), ?_⟩
    clear S13
    have S18 : Sta F5 ([(a14, HO.dT []), (a9, HO.lst [V.ref a3]), (a_self0, HO.ins T.a_Gates dx_self0 (fl_Gates (V.ref a9) (V.ref a14)))] ++ R) _ := S17.set 2 rfl _
    obtain rfl := hm
    have S19 : Sta F5 ([(a_self0, HO.ins T.a_Gates dx_self0 (fl_Gates (V.ref a9) (V.ref a14))), (a9, HO.lst [V.ref a3]), (a14, HO.dT [])] ++ R) _ := S18.pick [2, 1, 0] (by decide) rfl
    exact kk _ _ a9 [V.ref a3] a14 [] s6 S19 hl11 hl16

def sp_law_letter (T : Txt K mg) : Sp := fun vs H Q _ => ∃ (F0 : Hp) (R : Own) (a_script0 : Addr) (v_script0 : List V) (x_script0 : (List Int)) (a_source0 : Addr) (v_source0 : List V) (x_source0 : (List Int)) (r : (Int × (List Int))),
  vs = [V.ref a_script0, V.ref a_source0] ∧ SqL K F0 a_script0 v_script0 ∧ LR (rInt F0) v_script0 x_script0 ∧ LR (rInt F0) v_source0 x_source0 ∧ Sta F0 ([(a_source0, HO.lst v_source0)] ++ R) H ∧ m_law_letter x_script0 x_source0 = some r ∧ ∀ (F1 : Hp) (H1 : Hp) (v_source0p : List V), Same F0 F1 → Sta F1 ([(a_source0, HO.lst v_source0p)] ++ R) H1 → LR (rInt F1) v_source0p r.2 → Q (V.int r.1) H1

theorem ok_law_letter (T : Txt K mg) : FnOk P w K mg base CX0 2 T.a_law_letter T.d_law_letter ["script", "source"] (sp_law_letter T) := by
  refine T.F_law_letter.ok sc_law_letter (fun vs H Q E h => ?_) (fun cdv A outer s H vs Q E hr h => ?_)
  · obtain ⟨_, _, _, _, _, _, _, _, _, rfl, _⟩ := h
    rfl
  · obtain ⟨F0, R, a_script0, v_script0, x_script0, a_source0, v_source0, x_source0, r, rfl, hs_script0, hl_script0, hl_source0, S0, hm, kk⟩ := h
    have hu := hu_of hr
    unfold m_law_letter at hm
    refine ⟨_, (pss_cons (ps_if (pt_cmpR oI_eq (pe_call (ok_law_take T) (hr.mono (by decide)) rfl T.g_law_take T.F_law_take.kp T.b_law_take .nil pass0 (pa_cons (pv 0) (pa_cons (pv 1) (pa_cons pe_int pa_nil)))) pe_int (nomark _)) (pss_one (ps_ret (pe_op op_add pe_int (pe_call (ok_law_take T) (hr.mono (by decide)) rfl T.g_law_take T.F_law_take.kp T.b_law_take .nil pass0 (pa_cons (pv 0) (pa_cons (pv 1) (pa_cons pe_int pa_nil))))))) pss_nil) (pss_one (ps_ret (pe_op op_add pe_int (pe_call (ok_law_take T) (hr.mono (by decide)) rfl T.g_law_take T.F_law_take.kp T.b_law_take .nil pass0 (pa_cons (pv 0) (pa_cons (pv 1) (pa_cons pe_int pa_nil)))))))), ?_⟩
    refine seqI fun N1 hN2 => ?_
    revert hm; refine bndI fun y3 e4 hm => ?_
    refine ⟨_, rfl, _, rfl, F0, ([] ++ R), a_script0, v_script0, x_script0, a_source0, v_source0, x_source0, (8 : Int), _, rfl, (SqL.mono hs_script0 (Same.refl _)), (hl_script0), hl_source0, S0, e4, fun F5 H6 v9 s7 S8 hl10 => ?_⟩
    have S11 : Sta F5 ([(a_source0, HO.lst v9)] ++ R) _ := S8
    refine ⟨_, _, rfl, rfl, _, rfl, ?_⟩
    clear S8
    by_cases c12 : (decide (y3.1 = (7 : Int))) = true
    · revert hm; refine ifTI c12 fun hm => ?_
      refine goT c12 ?_
      revert hm; refine bndI fun y13 e14 hm => ?_
      refine ⟨_, rfl, _, rfl, F5, ([] ++ R), a_script0, v_script0, x_script0, a_source0, v9, y3.2, (50 : Int), _, rfl, (SqL.mono hs_script0 s7), ((hl_script0.mono s7)), hl10, S11, e14, fun F15 H16 v19 s17 S18 hl20 => ?_⟩
      have S21 : Sta F15 ([(a_source0, HO.lst v19)] ++ R) _ := S18
      refine ⟨_, _, rfl, rfl, ?_⟩
      clear S18
      obtain rfl := Option.some.inj hm
      exact kk _ _ v19 (s7.trans s17) S21 hl20
    · revert hm; refine ifFI c12 fun hm => ?_
      refine goF c12 ?_
      refine hN2 _ _ ?_
      revert hm; refine bndI fun y22 e23 hm => ?_
      refine ⟨_, rfl, _, rfl, F5, ([] ++ R), a_script0, v_script0, x_script0, a_source0, v9, y3.2, (6 : Int), _, rfl, (SqL.mono hs_script0 s7), ((hl_script0.mono s7)), hl10, S11, e23, fun F24 H25 v28 s26 S27 hl29 => ?_⟩
      have S30 : Sta F24 ([(a_source0, HO.lst v28)] ++ R) _ := S27
      refine ⟨_, _, rfl, rfl, ?_⟩
      clear S27
      obtain rfl := Option.some.inj hm
      exact kk _ _ v28 (s7.trans s26) S30 hl29

def sp_law_row (T : Txt K mg) : Sp := fun vs H Q _ => ∃ (F0 : Hp) (R : Own) (a_rows0 : Addr) (v_rows0 : List V) (x_rows0 : (List (List Key))) (a_row0 : Addr) (x_row0 : (List Key)) (r : (Int × (List (List Key)))),
  vs = [V.ref a_rows0, V.ref a_row0] ∧ LR (rKT F0) v_rows0 x_rows0 ∧ F0 a_row0 = some (HO.tup (x_row0.map kV)) ∧ Sta F0 ([(a_rows0, HO.lst v_rows0)] ++ R) H ∧ m_law_row x_rows0 x_row0 = some r ∧ ∀ (F1 : Hp) (H1 : Hp) (v_rows0p : List V), Same F0 F1 → Sta F1 ([(a_rows0, HO.lst v_rows0p)] ++ R) H1 → LR (rKT F1) v_rows0p r.2 → Q (V.int r.1) H1

theorem ok_law_row (T : Txt K mg) : FnOk P w K mg base CX0 1 T.a_law_row T.d_law_row ["rows", "row"] (sp_law_row T) := by
  refine T.F_law_row.ok sc_law_row (fun vs H Q E h => ?_) (fun cdv A outer s H vs Q E hr h => ?_)
  · obtain ⟨_, _, _, _, _, _, _, _, rfl, _⟩ := h
    rfl
  · obtain ⟨F0, R, a_rows0, v_rows0, x_rows0, a_row0, x_row0, r, rfl, hl_rows0, hs_row0, S0, hm, kk⟩ := h
    have hu := hu_of hr
    unfold m_law_row at hm
    refine ⟨_, (pss_cons (ps_for PassesOwn.never rfl (pi_range1 rfl T.z_range (pa_cons (pe_callB call_len_seq (by rfl) T.z_len PySem.boot_len (pa_cons (pv 0) pa_nil)) pa_nil)) (pg_name (i := 2) sc_law_row.nd rfl (Or.inl rfl)) (pss_one (ps_if (pt_cmpR (op_eqD hr.units) (pe_ix ix_list (pv 0) (pv 2) (fun _ _ => rfl)) (pv 1) (nomark _)) (pss_one (ps_ret (pe_op op_mul pe_int (pv 2)))) pss_nil))) (pss_cons (ps_expr (pe_bm PySem.F.plainAttrs_list PySem.F.slot_list_append PySem.F.type_list_append mt_append (pv 0) (pa_cons (pv 1) pa_nil))) (pss_one (ps_ret (pe_op op_sub (pe_op op_mul pe_int (pe_callB call_len_seq (by rfl) T.z_len PySem.boot_len (pa_cons (pv 0) pa_nil))) pe_int))))), ?_⟩
    refine seqI fun N1 hN2 => ?_
    refine ⟨_, rfl, _, _, rfl, .inl (SqL.of (S0.get 0 rfl)), ?_⟩
    rw [LR.length hl_rows0]
    revert hm; refine grdI fun g6 hm => ?_
    revert hm; refine bndI fun y3 e4 hm5 => ?_
    refine ⟨_, rfl, (rngOk_lo g6), (rngOk_hi g6), for_rng (lo := 0) (n := (x_rows0.length : Int).toNat) (fun i σ H2 => ∃ (st1 : Unit) (F19 : Hp) (o22 : Option V), σ = [some (V.ref a_rows0), some (V.ref a_row0), o22] ∧ Same F0 F19 ∧ Sta F19 ([(a_rows0, HO.lst v_rows0)] ++ R) H2 ∧ m_law_row_l1 x_rows0 x_row0 (List.drop i (pyRange 0 (x_rows0.length : Int).toNat)) st1 = some y3) ⟨(), F0, _, rfl, (Same.refl _), S0, e4⟩ ?_ ?_⟩
    · rintro i x23 σ H2 hi ⟨st1, F19, o22, rfl, s20, S21, hm⟩
      rw [drop_cons hi, m_law_row_l1] at hm
      revert hm; refine bndI fun y25 e26 hm => ?_
      obtain ⟨v27, ev28, rv29⟩ := LR.atI hl_rows0 e26
      obtain ⟨a30, rfl, h31⟩ := rv29
      revert hm; refine grdI fun g32 hm => ?_
      revert hm; refine grdI fun g33 hm => ?_
      refine ⟨_, rfl, _, rfl, _, _, _, _, rfl, rfl, (SqL.of (S21.get 0 rfl)), ev28, _, rfl, _, _, (dat_dp (K := K) (r := rKT) (MonoR.mono (r := rKT) S21.sub ⟨_, rfl, s20 _ _ h31⟩)), (dat_dp (K := K) (r := rKT) (MonoR.mono (r := rKT) S21.sub ⟨_, rfl, s20 _ _ hs_row0⟩)), (dat_shaped (K := K) (r := rKT) (Nat.le_of_ble_eq_true rfl) _ g32), (dat_shaped (K := K) (r := rKT) (Nat.le_of_ble_eq_true rfl) _ g33), ?_⟩
      rw [dat_eqv (K := K) (r := rKT) y25 x_row0]
      refine ⟨_, rfl, ?_⟩
      by_cases c34 : (decide (y25 = x_row0)) = true
      · revert hm; refine ifTI c34 fun hm => ?_
        refine goT c34 ?_
        refine ⟨_, rfl, _, _, rfl, rfl, .inl ⟨by decide, by decide⟩, ?_⟩
        obtain rfl := Option.some.inj hm
        have hm := hm5
        obtain rfl := Option.some.inj hm
        exact kk _ _ v_rows0 s20 S21 (hl_rows0.mono s20)
      · revert hm; refine ifFI c34 fun hm => ?_
        refine goF c34 ?_
        exact ⟨(), F19, _, rfl, s20, S21, hm⟩
    · rintro σ H2 ⟨st1, F19, o22, rfl, s20, S21, hm⟩
      rw [drop_rng, m_law_row_l1] at hm
      obtain rfl := Option.some.inj hm
      have hm := hm5
      refine hN2 _ _ ?_
      refine seqI fun N35 hN36 => ?_
      revert hm; refine grdI fun g37 hm => ?_
      refine ⟨_, rfl, .inl ⟨rfl, _, (SqL.of (S21.get 0 rfl))⟩, _, rfl, _, _, _, rfl, rfl, (S21.get 0 rfl), (by rw [LR.length (hl_rows0.mono s20)]; exact of_decide_eq_true g37), ?_⟩
      have hl38 : LR (rKT F19) (v_rows0 ++ [V.ref a_row0]) (x_rows0 ++ [x_row0]) := LR.snoc (hl_rows0.mono s20) ⟨_, rfl, s20 _ _ hs_row0⟩
      have S39 : Sta F19 ([(a_rows0, HO.lst (v_rows0 ++ [V.ref a_row0]))] ++ R) _ := S21.set 0 rfl _
      refine hN36 _ _ ?_
      refine ⟨_, rfl, _, _, rfl, .inl (SqL.of (S39.get 0 rfl)), ?_⟩
      clear S21
      rw [LR.length hl38]
      refine ⟨_, _, rfl, rfl, .inl ⟨by decide, by decide⟩, _, _, rfl, rfl, ?_⟩
      obtain rfl := Option.some.inj hm
      exact kk _ _ (v_rows0 ++ [V.ref a_row0]) s20 S39 hl38

def sp_Gates_edge_of (T : Txt K mg) : Sp := fun vs H Q _ => ∃ (F0 : Hp) (R : Own) (a_self0 : Addr) (dx_self0 : Addr) (x_self0 : M_Gates) (a_self0_rows0 : Addr) (v_self0_rows0 : List V) (a_self0_known0 : Addr) (v_self0_known0 : List (List Key × V)) (a_row0 : Addr) (x_row0 : (List Key)) (r : (Int × M_Gates)),
  vs = [V.ref a_self0, V.ref a_row0] ∧ LR (rKT F0) v_self0_rows0 x_self0.rows ∧ KR id (rInt F0) v_self0_known0 x_self0.known ∧ F0 a_row0 = some (HO.tup (x_row0.map kV)) ∧ Sta F0 ([(a_self0, HO.ins T.a_Gates dx_self0 (fl_Gates (V.ref a_self0_rows0) (V.ref a_self0_known0))), (a_self0_rows0, HO.lst v_self0_rows0), (a_self0_known0, HO.dT v_self0_known0)] ++ R) H ∧ m_Gates_edge_of x_self0 x_row0 = some r ∧ ∀ (F1 : Hp) (H1 : Hp) (a_self0p_rows0 : Addr) (v_self0p_rows0 : List V) (a_self0p_known0 : Addr) (v_self0p_known0 : List (List Key × V)), Same F0 F1 → Sta F1 ([(a_self0, HO.ins T.a_Gates dx_self0 (fl_Gates (V.ref a_self0p_rows0) (V.ref a_self0p_known0))), (a_self0p_rows0, HO.lst v_self0p_rows0), (a_self0p_known0, HO.dT v_self0p_known0)] ++ R) H1 → LR (rKT F1) v_self0p_rows0 r.2.rows → KR id (rInt F1) v_self0p_known0 r.2.known → Q (V.int r.1) H1

theorem ok_Gates_edge_of (T : Txt K mg) : FnOk P w K mg base CX0 1 T.a_Gates_edge_of T.d_Gates_edge_of ["self", "row"] (sp_Gates_edge_of T) := by
  refine T.F_Gates_edge_of.ok sc_Gates_edge_of (fun vs H Q E h => ?_) (fun cdv A outer s H vs Q E hr h => ?_)
  · obtain ⟨_, _, _, _, _, _, _, _, _, _, _, _, rfl, _⟩ := h
    rfl
  · obtain ⟨F0, R, a_self0, dx_self0, x_self0, a_self0_rows0, v_self0_rows0, a_self0_known0, v_self0_known0, a_row0, x_row0, r, rfl, hl_self0_rows0, hl_self0_known0, hs_row0, S0, hm, kk⟩ := h
    have hu := hu_of hr
    unfold m_Gates_edge_of at hm
    refine ⟨_, (C8.pss_cut (ps_if (pt_cmp (pc_dnotin hu (pv 1) (pe_fld (pv 0) rfl))) (pss_cons (ps_dput hu (pe_fld (pv 0) rfl) (pv 1) (pe_op op_mul pe_int (pe_callB call_len_seq (by rfl) T.z_len PySem.boot_len (pa_cons (pe_fld (pv 0) rfl) pa_nil))) rfl) (pss_one (ps_expr (pe_bm PySem.F.plainAttrs_list PySem.F.slot_list_append PySem.F.type_list_append mt_append (pe_fld (pv 0) rfl) (pa_cons (pv 1) pa_nil))))) pss_nil) (pss_one (ps_ret (pe_dget hu (pe_fld (pv 0) rfl) (pv 1) (fun _ _ => rfl))))), ?_⟩
    revert hm; refine bndI fun y10 e11 hm => ?_
    refine ⟨fun σ H2 => ∃ (F1 : Hp) (a4 : Addr) (v5 : List V) (a7 : Addr) (v8 : List (List Key × V)), σ = [some (V.ref a_self0), some (V.ref a_row0)] ∧ Same F0 F1 ∧ Sta F1 ([(a_self0, HO.ins T.a_Gates dx_self0 (fl_Gates (V.ref a4) (V.ref a7))), (a4, HO.lst v5), (a7, HO.dT v8)] ++ R) H2 ∧ LR (rKT F1) v5 y10.rows ∧ KR id (rInt F1) v8 y10.known, ?_, ?_⟩
    · clear hm; have hm := e11; clear e11
      refine ⟨_, rfl, _, rfl, _, _, _, _, _, rfl, (S0.get 0 rfl), T.cl_Gates, T.n_Gates_known, fl_Gates_known, _, _, rfl, (DGet.t (k := id x_row0) (S0.get 2 rfl) (S0.sub _ _ ((Same.refl _) _ _ hs_row0))), ?_⟩
      rw [show _ = (!(mget x_self0.known x_row0).isSome) from (congrArg (!·) (KR.some_eq hl_self0_known0 (kinj_K) x_row0))]
      refine ⟨_, rfl, ?_⟩
      by_cases c12 : (!(mget x_self0.known x_row0).isSome) = true
      · revert hm; refine ifTI c12 fun hm => ?_
        refine goT c12 ?_
        refine seqI fun N13 hN14 => ?_
        refine ⟨_, rfl, _, _, _, _, _, rfl, (S0.get 0 rfl), T.cl_Gates, T.n_Gates_rows, fl_Gates_rows, _, _, rfl, .inl (SqL.of (S0.get 1 rfl)), ?_⟩
        rw [LR.length hl_self0_rows0]
        revert hm; refine grdI fun g15 hm => ?_
        refine ⟨_, _, rfl, rfl, .inl ⟨by decide, by decide⟩, _, rfl, _, _, _, _, _, rfl, (S0.get 0 rfl), T.cl_Gates, T.n_Gates_known, fl_Gates_known, _, rfl, _, _, rfl, (DPut.t (k := id x_row0) (S0.get 2 rfl) (S0.sub _ _ ((Same.refl _) _ _ hs_row0)) (by rw [KR.length hl_self0_known0]; exact of_decide_eq_true g15)), ?_⟩
        have hl16 : KR id (rInt F0) (putK v_self0_known0 (id x_row0) (V.int ((2 : Int) * (x_self0.rows.length : Int)))) (mput x_self0.known x_row0 ((2 : Int) * (x_self0.rows.length : Int))) := KR.put hl_self0_known0 kinj_K rfl
        have S17 : Sta F0 ([(a_self0, HO.ins T.a_Gates dx_self0 (fl_Gates (V.ref a_self0_rows0) (V.ref a_self0_known0))), (a_self0_rows0, HO.lst v_self0_rows0), (a_self0_known0, HO.dT (putK v_self0_known0 (id x_row0) (V.int ((2 : Int) * (x_self0.rows.length : Int)))))] ++ R) _ := S0.set 2 rfl _
        refine hN14 _ _ ?_
        revert hm; refine grdI fun g18 hm => ?_
        refine ⟨_, rfl, _, _, _, _, _, rfl, (S17.get 0 rfl), T.cl_Gates, T.n_Gates_rows, fl_Gates_rows, .inl ⟨rfl, _, (SqL.of (S17.get 1 rfl))⟩, _, rfl, _, _, _, rfl, rfl, (S17.get 1 rfl), (by rw [LR.length hl_self0_rows0]; exact of_decide_eq_true g18), ?_⟩
        clear S0
        have hl19 : LR (rKT F0) (v_self0_rows0 ++ [V.ref a_row0]) (x_self0.rows ++ [x_row0]) := LR.snoc hl_self0_rows0 ⟨_, rfl, (Same.refl _) _ _ hs_row0⟩
        have S20 : Sta F0 ([(a_self0, HO.ins T.a_Gates dx_self0 (fl_Gates (V.ref a_self0_rows0) (V.ref a_self0_known0))), (a_self0_rows0, HO.lst (v_self0_rows0 ++ [V.ref a_row0])), (a_self0_known0, HO.dT (putK v_self0_known0 (id x_row0) (V.int ((2 : Int) * (x_self0.rows.length : Int)))))] ++ R) _ := S17.set 1 rfl _
        obtain rfl := Option.some.inj hm
        exact ⟨F0, a_self0_rows0, (v_self0_rows0 ++ [V.ref a_row0]), a_self0_known0, (putK v_self0_known0 (id x_row0) (V.int ((2 : Int) * (x_self0.rows.length : Int)))), rfl, (Same.refl _), S20, hl19, hl16⟩
      · revert hm; refine ifFI c12 fun hm => ?_
        refine goF c12 ?_
        obtain rfl := Option.some.inj hm
        exact ⟨F0, a_self0_rows0, v_self0_rows0, a_self0_known0, v_self0_known0, rfl, (Same.refl _), S0, hl_self0_rows0, hl_self0_known0⟩
    · rintro σ H2 ⟨F1, a4, v5, a7, v8, rfl, s2, S3, hl6, hl9⟩
      revert hm; refine bndI fun y21 e22 hm => ?_
      obtain ⟨v23, ev24, rv25⟩ := KR.get hl9 kinj_K e22
      obtain rfl := rInt_e rv25
      refine ⟨_, rfl, _, _, _, _, _, rfl, (S3.get 0 rfl), T.cl_Gates, T.n_Gates_known, fl_Gates_known, _, rfl, _, _, rfl, (dget_of (DGet.t (k := id x_row0) (S3.get 2 rfl) (S3.sub _ _ (s2 _ _ hs_row0))) ev24), ?_⟩
      obtain rfl := Option.some.inj hm
      exact kk _ _ a4 v5 a7 v8 s2 S3 hl6 hl9

def sp_Gates_leaf (T : Txt K mg) : Sp := fun vs H Q _ => ∃ (F0 : Hp) (R : Own) (a_self0 : Addr) (dx_self0 : Addr) (x_self0 : M_Gates) (a_self0_rows0 : Addr) (v_self0_rows0 : List V) (a_self0_known0 : Addr) (v_self0_known0 : List (List Key × V)) (x_letter0 : Int) (r : (Int × M_Gates)),
  vs = [V.ref a_self0, V.int x_letter0] ∧ LR (rKT F0) v_self0_rows0 x_self0.rows ∧ KR id (rInt F0) v_self0_known0 x_self0.known ∧ Sta F0 ([(a_self0, HO.ins T.a_Gates dx_self0 (fl_Gates (V.ref a_self0_rows0) (V.ref a_self0_known0))), (a_self0_rows0, HO.lst v_self0_rows0), (a_self0_known0, HO.dT v_self0_known0)] ++ R) H ∧ m_Gates_leaf x_self0 x_letter0 = some r ∧ ∀ (F1 : Hp) (H1 : Hp) (a_self0p_rows0 : Addr) (v_self0p_rows0 : List V) (a_self0p_known0 : Addr) (v_self0p_known0 : List (List Key × V)), Same F0 F1 → Sta F1 ([(a_self0, HO.ins T.a_Gates dx_self0 (fl_Gates (V.ref a_self0p_rows0) (V.ref a_self0p_known0))), (a_self0p_rows0, HO.lst v_self0p_rows0), (a_self0p_known0, HO.dT v_self0p_known0)] ++ R) H1 → LR (rKT F1) v_self0p_rows0 r.2.rows → KR id (rInt F1) v_self0p_known0 r.2.known → Q (V.int r.1) H1

theorem ok_Gates_leaf (T : Txt K mg) : FnOk P w K mg base CX0 2 T.a_Gates_leaf T.d_Gates_leaf ["self", "letter"] (sp_Gates_leaf T) := by
  refine T.F_Gates_leaf.ok sc_Gates_leaf (fun vs H Q E h => ?_) (fun cdv A outer s H vs Q E hr h => ?_)
  · obtain ⟨_, _, _, _, _, _, _, _, _, _, _, rfl, _⟩ := h
    rfl
  · obtain ⟨F0, R, a_self0, dx_self0, x_self0, a_self0_rows0, v_self0_rows0, a_self0_known0, v_self0_known0, x_letter0, r, rfl, hl_self0_rows0, hl_self0_known0, S0, hm, kk⟩ := h
    have hu := hu_of hr
    unfold m_Gates_leaf at hm
    refine ⟨_, (pss_one (ps_ret (pe_meth (pv 0) T.cl_Gates T.h_Gates_edge_of (ok_Gates_edge_of T) (hr.mono (by decide)) T.b_Gates_edge_of .nil pass0 (pa_cons (pe_tup (pa_cons pe_str (pa_cons (pv 1) pa_nil))) pa_nil)))), ?_⟩
    refine ⟨_, rfl, _, _, _, rfl, (S0.get 0 rfl), fl_Gates_no_edge_of, _, rfl, (by show 2 ≤ sizeLine; decide), ?_⟩
    intro a1 np2
    obtain ⟨F3, s4, S5, h6⟩ : ∃ F', Same F0 F' ∧ Sta F' ([(a_self0, HO.ins T.a_Gates dx_self0 (fl_Gates (V.ref a_self0_rows0) (V.ref a_self0_known0))), (a_self0_rows0, HO.lst v_self0_rows0), (a_self0_known0, HO.dT v_self0_known0)] ++ R) _ ∧ F' a1 = some (HO.tup (([Sum.inr ("letter" : Str), Sum.inl x_letter0] : List Key).map kV)) := ⟨_, S0.sameF np2 _, S0.newF np2 _, upd_same⟩
    revert hm; refine bndI fun y7 e8 hm => ?_
    refine ⟨F3, ([] ++ R), a_self0, dx_self0, (M_Gates.mk x_self0.rows x_self0.known), a_self0_rows0, v_self0_rows0, a_self0_known0, v_self0_known0, a1, ([Sum.inr ("letter" : Str), Sum.inl x_letter0] : List Key), _, rfl, (hl_self0_rows0.mono s4), (KR.mono hl_self0_known0 s4), ((Same.refl _) _ _ h6), S5, e8, fun F9 H10 a13 v14 a16 v17 s11 S12 hl15 hl18 => ?_⟩
    have S19 : Sta F9 ([(a_self0, HO.ins T.a_Gates dx_self0 (fl_Gates (V.ref a13) (V.ref a16))), (a13, HO.lst v14), (a16, HO.dT v17)] ++ R) _ := S12
    obtain rfl := Option.some.inj hm
    exact kk _ _ a13 v14 a16 v17 (s4.trans s11) S19 hl15 hl18

def sp_law_opposite (T : Txt K mg) : Sp := fun vs H Q _ => ∃ (x_edge0 : Int) (r : Int),
  vs = [V.int x_edge0] ∧ m_law_opposite x_edge0 = r ∧ Q (V.int r) H

theorem ok_law_opposite (T : Txt K mg) : FnOk P w K mg base CX0 1 T.a_law_opposite T.d_law_opposite ["edge"] (sp_law_opposite T) := by
  refine T.F_law_opposite.ok sc_law_opposite (fun vs H Q E h => ?_) (fun cdv A outer s H vs Q E hr h => ?_)
  · obtain ⟨_, _, rfl, _⟩ := h
    rfl
  · obtain ⟨x_edge0, r, rfl, hm, kk⟩ := h
    have hu := hu_of hr
    unfold m_law_opposite at hm
    refine ⟨_, (pss_cons (ps_if (pt_cmpR oI_eq (pe_op op_mod (pe_callTy call_int1 (by rfl) T.z_int (by decide +kernel) (pa_cons (pv 0) pa_nil)) pe_int) pe_int (nomark _)) (pss_one (ps_ret (pe_op op_add (pv 0) pe_int))) pss_nil) (pss_one (ps_ret (pe_op op_sub (pv 0) pe_int)))), ?_⟩
    refine seqI fun N1 hN2 => ?_
    refine ⟨_, rfl, ?_⟩
    refine .inl ⟨_, rfl, ?_⟩
    refine ⟨_, _, rfl, rfl, (by show (0 : Int) < 2; decide), _, _, rfl, rfl, _, rfl, ?_⟩
    by_cases c3 : (decide ((x_edge0 % (2 : Int)) = (0 : Int))) = true
    · revert hm; refine ifTI c3 fun hm => ?_
      refine goT c3 ?_
      refine ⟨_, rfl, _, _, rfl, rfl, ?_⟩
      obtain rfl := hm
      exact kk
    · revert hm; refine ifFI c3 fun hm => ?_
      refine goF c3 ?_
      refine hN2 _ _ ?_
      refine ⟨_, rfl, _, _, rfl, rfl, ?_⟩
      obtain rfl := hm
      exact kk

def sp_law_both (T : Txt K mg) : Sp := fun vs H Q _ => ∃ (F0 : Hp) (R : Own) (a_rows0 : Addr) (v_rows0 : List V) (x_rows0 : (List (List Key))) (x_a0 : Int) (x_b0 : Int) (r : (Int × (List (List Key)))),
  vs = [V.ref a_rows0, V.int x_a0, V.int x_b0] ∧ LR (rKT F0) v_rows0 x_rows0 ∧ Sta F0 ([(a_rows0, HO.lst v_rows0)] ++ R) H ∧ m_law_both x_rows0 x_a0 x_b0 = some r ∧ ∀ (F1 : Hp) (H1 : Hp) (v_rows0p : List V), Same F0 F1 → Sta F1 ([(a_rows0, HO.lst v_rows0p)] ++ R) H1 → LR (rKT F1) v_rows0p r.2 → Q (V.int r.1) H1

theorem ok_law_both (T : Txt K mg) : FnOk P w K mg base CX0 2 T.a_law_both T.d_law_both ["rows", "a", "b"] (sp_law_both T) := by
  refine T.F_law_both.ok sc_law_both (fun vs H Q E h => ?_) (fun cdv A outer s H vs Q E hr h => ?_)
  · obtain ⟨_, _, _, _, _, _, _, _, rfl, _⟩ := h
    rfl
  · obtain ⟨F0, R, a_rows0, v_rows0, x_rows0, x_a0, x_b0, r, rfl, hl_rows0, S0, hm, kk⟩ := h
    have hu := hu_of hr
    unfold m_law_both at hm
    refine ⟨_, (pss_cons (ps_if (pt_pure (PW.pt (pw_or (pt_cmpR oI_eq (pv 1) pe_int (nomark _)) (pw_or (pt_cmpR oI_eq (pv 2) pe_int (nomark _)) (pw_or1 (pt_cmpR oI_eq (pv 1) (pe_call (ok_law_opposite T) (hr.mono (by decide)) rfl T.g_law_opposite T.F_law_opposite.kp T.b_law_opposite .nil pass0 (pa_cons (pv 2) pa_nil)) (nomark _))))))) (pss_one (ps_ret pe_int)) pss_nil) (pss_cons (ps_if (pt_cmpR oI_eq (pv 1) pe_int (nomark _)) (pss_one (ps_ret (pv 2))) pss_nil) (pss_cons (ps_if (pt_pure (PW.pt (pw_or (pt_cmpR oI_eq (pv 2) pe_int (nomark _)) (pw_or1 (pt_cmpR oI_eq (pv 1) (pv 2) (nomark _)))))) (pss_one (ps_ret (pv 1))) pss_nil) (pss_one (ps_ret (pe_call (ok_law_row T) (hr.mono (by decide)) rfl T.g_law_row T.F_law_row.kp T.b_law_row .nil pass0 (pa_cons (pv 0) (pa_cons (pe_tup (pa_cons pe_str (pa_cons (pe_callB (call_min2 rfl) (by rfl) T.z_min (by decide +kernel) (pa_cons (pv 1) (pa_cons (pv 2) pa_nil))) (pa_cons (pe_callB (call_max2 rfl) (by rfl) T.z_max (by decide +kernel) (pa_cons (pv 1) (pa_cons (pv 2) pa_nil))) pa_nil)))) pa_nil)))))))), ?_⟩
    refine seqI fun N1 hN2 => ?_
    refine ⟨((decide (x_a0 = (0 : Int))) || ((decide (x_b0 = (0 : Int))) || (decide (x_a0 = (m_law_opposite x_b0))))), ?_, ?_⟩
    · refine ⟨_, rfl, _, _, rfl, rfl, _, rfl, ?_⟩
      by_cases c3 : (decide (x_a0 = (0 : Int))) = true
      · exact goT c3 ⟨by simp [c3], rfl⟩
      · refine goF c3 ?_
        refine ⟨_, rfl, _, _, rfl, rfl, _, rfl, ?_⟩
        by_cases c4 : (decide (x_b0 = (0 : Int))) = true
        · exact goT c4 ⟨by simp [c3, c4], rfl⟩
        · refine goF c4 ?_
          refine ⟨_, rfl, _, rfl, x_b0, _, rfl, rfl, _, _, rfl, rfl, _, rfl, ?_⟩
          exact ⟨by simp [c3, c4], rfl⟩
    by_cases c5 : ((decide (x_a0 = (0 : Int))) || ((decide (x_b0 = (0 : Int))) || (decide (x_a0 = (m_law_opposite x_b0))))) = true
    · revert hm; refine ifTI c5 fun hm => ?_
      refine goT c5 ?_
      obtain rfl := Option.some.inj hm
      exact kk _ _ v_rows0 (Same.refl _) S0 hl_rows0
    · revert hm; refine ifFI c5 fun hm => ?_
      refine goF c5 ?_
      refine hN2 _ _ ?_
      refine seqI fun N6 hN7 => ?_
      refine ⟨_, rfl, _, _, rfl, rfl, _, rfl, ?_⟩
      by_cases c8 : (decide (x_a0 = (1 : Int))) = true
      · revert hm; refine ifTI c8 fun hm => ?_
        refine goT c8 ?_
        refine ⟨_, rfl, ?_⟩
        obtain rfl := Option.some.inj hm
        exact kk _ _ v_rows0 (Same.refl _) S0 hl_rows0
      · revert hm; refine ifFI c8 fun hm => ?_
        refine goF c8 ?_
        refine hN7 _ _ ?_
        refine seqI fun N9 hN10 => ?_
        refine ⟨((decide (x_b0 = (1 : Int))) || (decide (x_a0 = x_b0))), ?_, ?_⟩
        · refine ⟨_, rfl, _, _, rfl, rfl, _, rfl, ?_⟩
          by_cases c11 : (decide (x_b0 = (1 : Int))) = true
          · exact goT c11 ⟨by simp [c11], rfl⟩
          · refine goF c11 ?_
            refine ⟨_, rfl, _, rfl, _, _, rfl, rfl, _, rfl, ?_⟩
            exact ⟨by simp [c11], rfl⟩
        by_cases c12 : ((decide (x_b0 = (1 : Int))) || (decide (x_a0 = x_b0))) = true
        · revert hm; refine ifTI c12 fun hm => ?_
          refine goT c12 ?_
          refine ⟨_, rfl, ?_⟩
          obtain rfl := Option.some.inj hm
          exact kk _ _ v_rows0 (Same.refl _) S0 hl_rows0
        · revert hm; refine ifFI c12 fun hm => ?_
          refine goF c12 ?_
          refine hN10 _ _ ?_
          refine ⟨_, rfl, _, rfl, _, rfl, _, _, rfl, _, rfl, _, rfl, _, _, rfl, (by show 3 ≤ sizeLine; decide), ?_⟩
          intro a13 np14
          obtain ⟨F15, s16, S17, h18⟩ : ∃ F', Same F0 F' ∧ Sta F' ([(a_rows0, HO.lst v_rows0)] ++ R) _ ∧ F' a13 = some (HO.tup (([Sum.inr ("both" : Str), Sum.inl (if x_b0 < x_a0 then x_b0 else x_a0), Sum.inl (if x_b0 > x_a0 then x_b0 else x_a0)] : List Key).map kV)) := ⟨_, S0.sameF np14 _, S0.newF np14 _, upd_same⟩
          revert hm; refine bndI fun y19 e20 hm => ?_
          refine ⟨F15, ([] ++ R), a_rows0, v_rows0, x_rows0, a13, ([Sum.inr ("both" : Str), Sum.inl (if x_b0 < x_a0 then x_b0 else x_a0), Sum.inl (if x_b0 > x_a0 then x_b0 else x_a0)] : List Key), _, rfl, (hl_rows0.mono s16), ((Same.refl _) _ _ h18), S17, e20, fun F21 H22 v25 s23 S24 hl26 => ?_⟩
          have S27 : Sta F21 ([(a_rows0, HO.lst v25)] ++ R) _ := S24
          obtain rfl := Option.some.inj hm
          exact kk _ _ v25 (s16.trans s23) S27 hl26

def sp_opposite (T : Txt K mg) : Sp := fun vs H Q _ => ∃ (x_edge0 : Int) (r : Int),
  vs = [V.int x_edge0] ∧ m_opposite x_edge0 = r ∧ Q (V.int r) H

theorem ok_opposite (T : Txt K mg) : FnOk P w K mg base CX0 1 T.a_opposite T.d_opposite ["edge"] (sp_opposite T) := by
  refine T.F_opposite.ok sc_opposite (fun vs H Q E h => ?_) (fun cdv A outer s H vs Q E hr h => ?_)
  · obtain ⟨_, _, rfl, _⟩ := h
    rfl
  · obtain ⟨x_edge0, r, rfl, hm, kk⟩ := h
    have hu := hu_of hr
    unfold m_opposite at hm
    refine ⟨_, (pss_one (ps_ret (pe_op op_xor (pv 0) pe_int))), ?_⟩
    refine ⟨_, rfl, _, _, rfl, rfl, ?_⟩
    obtain rfl := hm
    exact kk

def sp_Gates_both (T : Txt K mg) : Sp := fun vs H Q _ => ∃ (F0 : Hp) (R : Own) (a_self0 : Addr) (dx_self0 : Addr) (x_self0 : M_Gates) (a_self0_rows0 : Addr) (v_self0_rows0 : List V) (a_self0_known0 : Addr) (v_self0_known0 : List (List Key × V)) (x_a0 : Int) (x_b0 : Int) (r : (Int × M_Gates)),
  vs = [V.ref a_self0, V.int x_a0, V.int x_b0] ∧ LR (rKT F0) v_self0_rows0 x_self0.rows ∧ KR id (rInt F0) v_self0_known0 x_self0.known ∧ Sta F0 ([(a_self0, HO.ins T.a_Gates dx_self0 (fl_Gates (V.ref a_self0_rows0) (V.ref a_self0_known0))), (a_self0_rows0, HO.lst v_self0_rows0), (a_self0_known0, HO.dT v_self0_known0)] ++ R) H ∧ m_Gates_both x_self0 x_a0 x_b0 = some r ∧ ∀ (F1 : Hp) (H1 : Hp) (a_self0p_rows0 : Addr) (v_self0p_rows0 : List V) (a_self0p_known0 : Addr) (v_self0p_known0 : List (List Key × V)), Same F0 F1 → Sta F1 ([(a_self0, HO.ins T.a_Gates dx_self0 (fl_Gates (V.ref a_self0p_rows0) (V.ref a_self0p_known0))), (a_self0p_rows0, HO.lst v_self0p_rows0), (a_self0p_known0, HO.dT v_self0p_known0)] ++ R) H1 → LR (rKT F1) v_self0p_rows0 r.2.rows → KR id (rInt F1) v_self0p_known0 r.2.known → Q (V.int r.1) H1

theorem ok_Gates_both (T : Txt K mg) : FnOk P w K mg base CX0 2 T.a_Gates_both T.d_Gates_both ["self", "a", "b"] (sp_Gates_both T) := by
  refine T.F_Gates_both.ok sc_Gates_both (fun vs H Q E h => ?_) (fun cdv A outer s H vs Q E hr h => ?_)
  · obtain ⟨_, _, _, _, _, _, _, _, _, _, _, _, rfl, _⟩ := h
    rfl
  · obtain ⟨F0, R, a_self0, dx_self0, x_self0, a_self0_rows0, v_self0_rows0, a_self0_known0, v_self0_known0, x_a0, x_b0, r, rfl, hl_self0_rows0, hl_self0_known0, S0, hm, kk⟩ := h
    have hu := hu_of hr
    unfold m_Gates_both at hm
    refine ⟨_, (pss_cons (ps_set (i := 3) sc_Gates_both.nd rfl (Or.inl rfl) (pe_callB (call_min2 rfl) (by rfl) T.z_min (by decide +kernel) (pa_cons (pv 1) (pa_cons (pv 2) pa_nil)))) (pss_cons (ps_set (i := 4) sc_Gates_both.nd rfl (Or.inl rfl) (pe_callB (call_max2 rfl) (by rfl) T.z_max (by decide +kernel) (pa_cons (pv 1) (pa_cons (pv 2) pa_nil)))) (pss_cons (ps_if (pt_pure (PW.pt (pw_or (pt_cmpR oI_eq (pv 3) (pe_glob (v := .int 0) rfl T.g_NO ⟨_, rfl⟩) (nomark _)) (pw_or1 (pt_cmpR oI_eq (pv 3) (pe_call (ok_opposite T) (hr.mono (by decide)) rfl T.g_opposite T.F_opposite.kp T.b_opposite .nil pass0 (pa_cons (pv 4) pa_nil)) (nomark _)))))) (pss_one (ps_ret (pe_glob (v := .int 0) rfl T.g_NO ⟨_, rfl⟩))) pss_nil) (pss_cons (ps_if (pt_pure (PW.pt (pw_or (pt_cmpR oI_eq (pv 3) (pe_glob (v := .int 1) rfl T.g_YES ⟨_, rfl⟩) (nomark _)) (pw_or1 (pt_cmpR oI_eq (pv 3) (pv 4) (nomark _)))))) (pss_one (ps_ret (pv 4))) pss_nil) (pss_one (ps_ret (pe_meth (pv 0) T.cl_Gates T.h_Gates_edge_of (ok_Gates_edge_of T) (hr.mono (by decide)) T.b_Gates_edge_of .nil pass0 (pa_cons (pe_tup (pa_cons pe_str (pa_cons (pv 3) (pa_cons (pv 4) pa_nil)))) pa_nil)))))))), ?_⟩
    refine seqI fun N1 hN2 => ?_
    refine ⟨_, rfl, _, rfl, _, _, rfl, ?_⟩
    refine hN2 _ _ ?_
    refine seqI fun N3 hN4 => ?_
    refine ⟨_, rfl, _, rfl, _, _, rfl, ?_⟩
    refine hN4 _ _ ?_
    refine seqI fun N5 hN6 => ?_
    refine ⟨((decide ((if x_b0 < x_a0 then x_b0 else x_a0) = (0 : Int))) || (decide ((if x_b0 < x_a0 then x_b0 else x_a0) = (m_opposite (if x_b0 > x_a0 then x_b0 else x_a0))))), ?_, ?_⟩
    · refine ⟨_, rfl, _, _, rfl, rfl, _, rfl, ?_⟩
      by_cases c7 : (decide ((if x_b0 < x_a0 then x_b0 else x_a0) = (0 : Int))) = true
      · exact goT c7 ⟨by simp [c7], rfl⟩
      · refine goF c7 ?_
        refine ⟨_, rfl, _, rfl, (if x_b0 > x_a0 then x_b0 else x_a0), _, rfl, rfl, _, _, rfl, rfl, _, rfl, ?_⟩
        exact ⟨by simp [c7], rfl⟩
    by_cases c8 : ((decide ((if x_b0 < x_a0 then x_b0 else x_a0) = (0 : Int))) || (decide ((if x_b0 < x_a0 then x_b0 else x_a0) = (m_opposite (if x_b0 > x_a0 then x_b0 else x_a0))))) = true
    · revert hm; refine ifTI c8 fun hm => ?_
      refine goT c8 ?_
      obtain rfl := Option.some.inj hm
      exact kk _ _ a_self0_rows0 v_self0_rows0 a_self0_known0 v_self0_known0 (Same.refl _) S0 hl_self0_rows0 hl_self0_known0
    · revert hm; refine ifFI c8 fun hm => ?_
      refine goF c8 ?_
      refine hN6 _ _ ?_
      refine seqI fun N9 hN10 => ?_
      refine ⟨((decide ((if x_b0 < x_a0 then x_b0 else x_a0) = (1 : Int))) || (decide ((if x_b0 < x_a0 then x_b0 else x_a0) = (if x_b0 > x_a0 then x_b0 else x_a0)))), ?_, ?_⟩
      · refine ⟨_, rfl, _, _, rfl, rfl, _, rfl, ?_⟩
        by_cases c11 : (decide ((if x_b0 < x_a0 then x_b0 else x_a0) = (1 : Int))) = true
        · exact goT c11 ⟨by simp [c11], rfl⟩
        · refine goF c11 ?_
          refine ⟨_, rfl, _, rfl, _, _, rfl, rfl, _, rfl, ?_⟩
          exact ⟨by simp [c11], rfl⟩
      by_cases c12 : ((decide ((if x_b0 < x_a0 then x_b0 else x_a0) = (1 : Int))) || (decide ((if x_b0 < x_a0 then x_b0 else x_a0) = (if x_b0 > x_a0 then x_b0 else x_a0)))) = true
      · revert hm; refine ifTI c12 fun hm => ?_
        refine goT c12 ?_
        refine ⟨_, rfl, ?_⟩
        obtain rfl := Option.some.inj hm
        exact kk _ _ a_self0_rows0 v_self0_rows0 a_self0_known0 v_self0_known0 (Same.refl _) S0 hl_self0_rows0 hl_self0_known0
      · revert hm; refine ifFI c12 fun hm => ?_
        refine goF c12 ?_
        refine hN10 _ _ ?_
        refine ⟨_, rfl, _, _, _, rfl, (S0.get 0 rfl), fl_Gates_no_edge_of, _, rfl, _, rfl, (by show 3 ≤ sizeLine; decide), ?_⟩
        intro a13 np14
        obtain ⟨F15, s16, S17, h18⟩ : ∃ F', Same F0 F' ∧ Sta F' ([(a_self0, HO.ins T.a_Gates dx_self0 (fl_Gates (V.ref a_self0_rows0) (V.ref a_self0_known0))), (a_self0_rows0, HO.lst v_self0_rows0), (a_self0_known0, HO.dT v_self0_known0)] ++ R) _ ∧ F' a13 = some (HO.tup (([Sum.inr ("both" : Str), Sum.inl (if x_b0 < x_a0 then x_b0 else x_a0), Sum.inl (if x_b0 > x_a0 then x_b0 else x_a0)] : List Key).map kV)) := ⟨_, S0.sameF np14 _, S0.newF np14 _, upd_same⟩
        revert hm; refine bndI fun y19 e20 hm => ?_
        refine ⟨F15, ([] ++ R), a_self0, dx_self0, (M_Gates.mk x_self0.rows x_self0.known), a_self0_rows0, v_self0_rows0, a_self0_known0, v_self0_known0, a13, ([Sum.inr ("both" : Str), Sum.inl (if x_b0 < x_a0 then x_b0 else x_a0), Sum.inl (if x_b0 > x_a0 then x_b0 else x_a0)] : List Key), _, rfl, (hl_self0_rows0.mono s16), (KR.mono hl_self0_known0 s16), ((Same.refl _) _ _ h18), S17, e20, fun F21 H22 a25 v26 a28 v29 s23 S24 hl27 hl30 => ?_⟩
        have S31 : Sta F21 ([(a_self0, HO.ins T.a_Gates dx_self0 (fl_Gates (V.ref a25) (V.ref a28))), (a25, HO.lst v26), (a28, HO.dT v29)] ++ R) _ := S24
        obtain rfl := Option.some.inj hm
        exact kk _ _ a25 v26 a28 v29 (s16.trans s23) S31 hl27 hl30

def sp_law_build (T : Txt K mg) : Sp := fun vs H Q _ => ∃ (F0 : Hp) (R : Own) (a_script0 : Addr) (v_script0 : List V) (x_script0 : (List Int)) (a_source0 : Addr) (v_source0 : List V) (x_source0 : (List Int)) (a_gates0 : Addr) (dx_gates0 : Addr) (x_gates0 : M_Gates) (a_gates0_rows0 : Addr) (v_gates0_rows0 : List V) (a_gates0_known0 : Addr) (v_gates0_known0 : List (List Key × V)) (a_rows0 : Addr) (v_rows0 : List V) (x_rows0 : (List (List Key))) (x_count0 : Int) (r : ((List Int) × (List Int) × M_Gates × (List (List Key)))),
  vs = [V.ref a_script0, V.ref a_source0, V.ref a_gates0, V.ref a_rows0, V.int x_count0] ∧ SqL K F0 a_script0 v_script0 ∧ LR (rInt F0) v_script0 x_script0 ∧ LR (rInt F0) v_source0 x_source0 ∧ LR (rKT F0) v_gates0_rows0 x_gates0.rows ∧ KR id (rInt F0) v_gates0_known0 x_gates0.known ∧ LR (rKT F0) v_rows0 x_rows0 ∧ Sta F0 ([(a_source0, HO.lst v_source0), (a_gates0, HO.ins T.a_Gates dx_gates0 (fl_Gates (V.ref a_gates0_rows0) (V.ref a_gates0_known0))), (a_gates0_rows0, HO.lst v_gates0_rows0), (a_gates0_known0, HO.dT v_gates0_known0), (a_rows0, HO.lst v_rows0)] ++ R) H ∧ m_law_build x_script0 x_source0 x_gates0 x_rows0 x_count0 = some r ∧ ∀ (F1 : Hp) (H1 : Hp) (v_source0p : List V) (a_gates0p_rows0 : Addr) (v_gates0p_rows0 : List V) (a_gates0p_known0 : Addr) (v_gates0p_known0 : List (List Key × V)) (v_rows0p : List V) (a_ret0p : Addr) (v_ret0p : List V), Same F0 F1 → Sta F1 ([(a_ret0p, HO.lst v_ret0p), (a_source0, HO.lst v_source0p), (a_gates0, HO.ins T.a_Gates dx_gates0 (fl_Gates (V.ref a_gates0p_rows0) (V.ref a_gates0p_known0))), (a_gates0p_rows0, HO.lst v_gates0p_rows0), (a_gates0p_known0, HO.dT v_gates0p_known0), (a_rows0, HO.lst v_rows0p)] ++ R) H1 → LR (rInt F1) v_source0p r.2.1 → LR (rKT F1) v_gates0p_rows0 r.2.2.1.rows → KR id (rInt F1) v_gates0p_known0 r.2.2.1.known → LR (rKT F1) v_rows0p r.2.2.2 → LR (rInt F1) v_ret0p r.1 → Q (V.ref a_ret0p) H1

theorem ok_law_build (T : Txt K mg) : FnOk P w K mg base CX0 3 T.a_law_build T.d_law_build ["script", "source", "gates", "rows", "count"] (sp_law_build T) := by
  refine T.F_law_build.ok sc_law_build (fun vs H Q E h => ?_) (fun cdv A outer s H vs Q E hr h => ?_)
  · obtain ⟨_, _, _, _, _, _, _, _, _, _, _, _, _, _, _, _, _, _, _, _, rfl, _⟩ := h
    rfl
  · obtain ⟨F0, R, a_script0, v_script0, x_script0, a_source0, v_source0, x_source0, a_gates0, dx_gates0, x_gates0, a_gates0_rows0, v_gates0_rows0, a_gates0_known0, v_gates0_known0, a_rows0, v_rows0, x_rows0, x_count0, r, rfl, hs_script0, hl_script0, hl_source0, hl_gates0_rows0, hl_gates0_known0, hl_rows0, S0, hm, kk⟩ := h
    have hu := hu_of hr
    unfold m_law_build at hm
    refine ⟨_, (pss_cons (ps_set (i := 5) sc_law_build.nd rfl (Or.inl rfl) (pe_lst (pa_cons pe_int (pa_cons pe_int pa_nil)))) (pss_cons (ps_for PassesOwn.never rfl (pi_range1 rfl T.z_range (pa_cons pe_int pa_nil)) (pg_name (i := 6) sc_law_build.nd rfl (Or.inl rfl)) (pss_cons (ps_set (i := 7) sc_law_build.nd rfl (Or.inl rfl) (pe_call (ok_law_letter T) (hr.mono (by decide)) rfl T.g_law_letter T.F_law_letter.kp T.b_law_letter .nil pass0 (pa_cons (pv 0) (pa_cons (pv 1) pa_nil)))) (pss_cons (ps_set (i := 8) sc_law_build.nd rfl (Or.inl rfl) (pe_call (ok_law_row T) (hr.mono (by decide)) rfl T.g_law_row T.F_law_row.kp T.b_law_row .nil pass0 (pa_cons (pv 3) (pa_cons (pe_tup (pa_cons pe_str (pa_cons (pv 7) pa_nil))) pa_nil)))) (pss_cons (ps_if (pt_cmpR oI_ne (pe_meth (pv 2) T.cl_Gates T.h_Gates_leaf (ok_Gates_leaf T) (hr.mono (by decide)) T.b_Gates_leaf .nil pass0 (pa_cons (pv 7) pa_nil)) (pv 8) (nomark _)) (pss_one ps_never) pss_nil) (pss_cons (ps_expr (pe_bm PySem.F.plainAttrs_list PySem.F.slot_list_append PySem.F.type_list_append mt_append (pv 5) (pa_cons (pv 8) pa_nil))) (pss_one (ps_expr (pe_bm PySem.F.plainAttrs_list PySem.F.slot_list_append PySem.F.type_list_append mt_append (pv 5) (pa_cons (pe_call (ok_law_opposite T) (hr.mono (by decide)) rfl T.g_law_opposite T.F_law_opposite.kp T.b_law_opposite .nil pass0 (pa_cons (pv 8) pa_nil)) pa_nil))))))))) (pss_cons (ps_for PassesOwn.never rfl (pi_range1 rfl T.z_range (pa_cons (pv 4) pa_nil)) (pg_name (i := 6) sc_law_build.nd rfl (Or.inl rfl)) (pss_cons (ps_set (i := 9) sc_law_build.nd rfl (Or.inl rfl) (pe_ix ix_list (pv 5) (pe_op op_sub (pe_op op_sub (pe_callB call_len_seq (by rfl) T.z_len PySem.boot_len (pa_cons (pv 5) pa_nil)) pe_int) (pe_call (ok_law_take T) (hr.mono (by decide)) rfl T.g_law_take T.F_law_take.kp T.b_law_take .nil pass0 (pa_cons (pv 0) (pa_cons (pv 1) (pa_cons (pe_callB (call_min2 rfl) (by rfl) T.z_min (by decide +kernel) (pa_cons (pe_callB call_len_seq (by rfl) T.z_len PySem.boot_len (pa_cons (pv 5) pa_nil)) (pa_cons pe_int pa_nil))) pa_nil))))) (fun _ _ => rfl))) (pss_cons (ps_set (i := 10) sc_law_build.nd rfl (Or.inl rfl) (pe_ix ix_list (pv 5) (pe_call (ok_law_take T) (hr.mono (by decide)) rfl T.g_law_take T.F_law_take.kp T.b_law_take .nil pass0 (pa_cons (pv 0) (pa_cons (pv 1) (pa_cons (pe_callB call_len_seq (by rfl) T.z_len PySem.boot_len (pa_cons (pv 5) pa_nil)) pa_nil)))) (fun _ _ => rfl))) (pss_cons (ps_set (i := 8) sc_law_build.nd rfl (Or.inl rfl) (pe_call (ok_law_both T) (hr.mono (by decide)) rfl T.g_law_both T.F_law_both.kp T.b_law_both .nil pass0 (pa_cons (pv 3) (pa_cons (pv 9) (pa_cons (pv 10) pa_nil))))) (pss_cons (ps_if (pt_cmpR oI_ne (pe_meth (pv 2) T.cl_Gates T.h_Gates_both (ok_Gates_both T) (hr.mono (by decide)) T.b_Gates_both .nil pass0 (pa_cons (pv 9) (pa_cons (pv 10) pa_nil))) (pv 8) (nomark _)) (pss_one ps_never) pss_nil) (pss_cons (ps_expr (pe_bm PySem.F.plainAttrs_list PySem.F.slot_list_append PySem.F.type_list_append mt_append (pv 5) (pa_cons (pv 8) pa_nil))) (pss_one (ps_expr (pe_bm PySem.F.plainAttrs_list PySem.F.slot_list_append PySem.F.type_list_append mt_append (pv 5) (pa_cons (pe_call (ok_law_opposite T) (hr.mono (by decide)) rfl T.g_law_opposite T.F_law_opposite.kp T.b_law_opposite .nil pass0 (pa_cons (pv 8) pa_nil)) pa_nil)))))))))) (pss_one (ps_ret (pv 5)))))), ?_⟩
    refine seqI fun N1 hN2 => ?_
    refine ⟨(by show 2 ≤ sizeLine; decide), ?_⟩
    intro a3 np4
    have hl5 : LR (rInt F0) [V.int 0, V.int 1] ([(0 : Int), (1 : Int)] : (List Int)) := ⟨rfl, rfl, trivial⟩
    have S6 : Sta F0 ([(a3, HO.lst [V.int 0, V.int 1]), (a_source0, HO.lst v_source0), (a_gates0, HO.ins T.a_Gates dx_gates0 (fl_Gates (V.ref a_gates0_rows0) (V.ref a_gates0_known0))), (a_gates0_rows0, HO.lst v_gates0_rows0), (a_gates0_known0, HO.dT v_gates0_known0), (a_rows0, HO.lst v_rows0)] ++ R) _ := S0.new np4 _
    refine hN2 _ _ ?_
    refine seqI fun N7 hN8 => ?_
    revert hm; refine bndI fun y9 e10 hm11 => ?_
    refine ⟨_, rfl, (by decide), (by decide), for_rng (lo := 0) (n := (3 : Int).toNat) (fun i σ H2 => ∃ (st1 : ((List Int) × (List Int) × M_Gates × (List (List Key)))) (F54 : Hp) (v60 : List V) (v62 : List V) (a64 : Addr) (v65 : List V) (a67 : Addr) (v68 : List (List Key × V)) (v70 : List V) (o57 : Option V) (o58 : Option V) (o59 : Option V), σ = [some (V.ref a_script0), some (V.ref a_source0), some (V.ref a_gates0), some (V.ref a_rows0), some (V.int x_count0), some (V.ref a3), o57, o58, o59, none, none] ∧ Same F0 F54 ∧ Sta F54 ([(a3, HO.lst v60), (a_source0, HO.lst v62), (a_gates0, HO.ins T.a_Gates dx_gates0 (fl_Gates (V.ref a64) (V.ref a67))), (a64, HO.lst v65), (a67, HO.dT v68), (a_rows0, HO.lst v70)] ++ R) H2 ∧ LR (rInt F54) v60 st1.1 ∧ LR (rInt F54) v62 st1.2.1 ∧ LR (rKT F54) v65 st1.2.2.1.rows ∧ KR id (rInt F54) v68 st1.2.2.1.known ∧ LR (rKT F54) v70 st1.2.2.2 ∧ m_law_build_l1 x_script0 (List.drop i (pyRange 0 (3 : Int).toNat)) st1 = some y9) ⟨(([(0 : Int), (1 : Int)] : (List Int)), x_source0, (M_Gates.mk x_gates0.rows x_gates0.known), x_rows0), F0, [V.int 0, V.int 1], v_source0, a_gates0_rows0, v_gates0_rows0, a_gates0_known0, v_gates0_known0, v_rows0, _, _, _, rfl, (Same.refl _), S6, hl5, hl_source0, hl_gates0_rows0, hl_gates0_known0, hl_rows0, e10⟩ ?_ ?_⟩
    clear S0
    · rintro i x72 σ H2 hi ⟨st1, F54, v60, v62, a64, v65, a67, v68, v70, o57, o58, o59, rfl, s55, S56, hl61, hl63, hl66, hl69, hl71, hm⟩
      rw [drop_cons hi, m_law_build_l1] at hm
      refine seqI fun N74 hN75 => ?_
      have S76 : Sta F54 ([(a_source0, HO.lst v62), (a3, HO.lst v60), (a_gates0, HO.ins T.a_Gates dx_gates0 (fl_Gates (V.ref a64) (V.ref a67))), (a64, HO.lst v65), (a67, HO.dT v68), (a_rows0, HO.lst v70)] ++ R) _ := S56.pick [1, 0, 2, 3, 4, 5] (by decide) rfl
      revert hm; refine bndI fun y77 e78 hm => ?_
      refine ⟨_, rfl, _, rfl, F54, ([(a3, HO.lst v60), (a_gates0, HO.ins T.a_Gates dx_gates0 (fl_Gates (V.ref a64) (V.ref a67))), (a64, HO.lst v65), (a67, HO.dT v68), (a_rows0, HO.lst v70)] ++ R), a_script0, v_script0, x_script0, a_source0, v62, st1.2.1, _, rfl, (SqL.mono hs_script0 s55), ((hl_script0.mono s55)), hl63, S76, e78, fun F79 H80 v83 s81 S82 hl84 => ?_⟩
      clear S56
      have S85 : Sta F79 ([(a_source0, HO.lst v83), (a3, HO.lst v60), (a_gates0, HO.ins T.a_Gates dx_gates0 (fl_Gates (V.ref a64) (V.ref a67))), (a64, HO.lst v65), (a67, HO.dT v68), (a_rows0, HO.lst v70)] ++ R) _ := S82
      refine hN75 _ _ ?_
      refine seqI fun N86 hN87 => ?_
      refine ⟨_, rfl, _, rfl, (by show 2 ≤ sizeLine; decide), ?_⟩
      clear S82
      intro a88 np89
      obtain ⟨F90, s91, S92, h93⟩ : ∃ F', Same F79 F' ∧ Sta F' ([(a_source0, HO.lst v83), (a3, HO.lst v60), (a_gates0, HO.ins T.a_Gates dx_gates0 (fl_Gates (V.ref a64) (V.ref a67))), (a64, HO.lst v65), (a67, HO.dT v68), (a_rows0, HO.lst v70)] ++ R) _ ∧ F' a88 = some (HO.tup (([Sum.inr ("letter" : Str), Sum.inl y77.1] : List Key).map kV)) := ⟨_, S85.sameF np89 _, S85.newF np89 _, upd_same⟩
      have S94 : Sta F90 ([(a_rows0, HO.lst v70), (a_source0, HO.lst v83), (a3, HO.lst v60), (a_gates0, HO.ins T.a_Gates dx_gates0 (fl_Gates (V.ref a64) (V.ref a67))), (a64, HO.lst v65), (a67, HO.dT v68)] ++ R) _ := S92.pick [5, 0, 1, 2, 3, 4] (by decide) rfl
      revert hm; refine bndI fun y95 e96 hm => ?_
      refine ⟨F90, ([(a_source0, HO.lst v83), (a3, HO.lst v60), (a_gates0, HO.ins T.a_Gates dx_gates0 (fl_Gates (V.ref a64) (V.ref a67))), (a64, HO.lst v65), (a67, HO.dT v68)] ++ R), a_rows0, v70, st1.2.2.2, a88, ([Sum.inr ("letter" : Str), Sum.inl y77.1] : List Key), _, rfl, (hl71.mono (s81.trans s91)), ((Same.refl _) _ _ h93), S94, e96, fun F97 H98 v101 s99 S100 hl102 => ?_⟩
      clear S92
      have S103 : Sta F97 ([(a_rows0, HO.lst v101), (a_source0, HO.lst v83), (a3, HO.lst v60), (a_gates0, HO.ins T.a_Gates dx_gates0 (fl_Gates (V.ref a64) (V.ref a67))), (a64, HO.lst v65), (a67, HO.dT v68)] ++ R) _ := S100
      refine hN87 _ _ ?_
      refine seqI fun N104 hN105 => ?_
      have S106 : Sta F97 ([(a_gates0, HO.ins T.a_Gates dx_gates0 (fl_Gates (V.ref a64) (V.ref a67))), (a64, HO.lst v65), (a67, HO.dT v68), (a_rows0, HO.lst v101), (a_source0, HO.lst v83), (a3, HO.lst v60)] ++ R) _ := S103.pick [3, 4, 5, 0, 1, 2] (by decide) rfl
      revert hm; refine bndI fun y107 e108 hm => ?_
      refine ⟨_, rfl, _, _, _, rfl, (S103.get 3 rfl), fl_Gates_no_leaf, _, rfl, F97, ([(a_rows0, HO.lst v101), (a_source0, HO.lst v83), (a3, HO.lst v60)] ++ R), a_gates0, dx_gates0, (M_Gates.mk st1.2.2.1.rows st1.2.2.1.known), a64, v65, a67, v68, y77.1, _, rfl, (hl66.mono (s81.trans (s91.trans s99))), (KR.mono hl69 (s81.trans (s91.trans s99))), S106, e108, fun F109 H110 a113 v114 a116 v117 s111 S112 hl115 hl118 => ?_⟩
      clear S100 S103
      have S119 : Sta F109 ([(a_gates0, HO.ins T.a_Gates dx_gates0 (fl_Gates (V.ref a113) (V.ref a116))), (a113, HO.lst v114), (a116, HO.dT v117), (a_rows0, HO.lst v101), (a_source0, HO.lst v83), (a3, HO.lst v60)] ++ R) _ := S112
      refine ⟨_, rfl, _, _, rfl, rfl, _, rfl, ?_⟩
      clear S112
      by_cases c120 : (!decide (y107.1 = y95.1)) = true
      · revert hm; refine ifTI c120 fun hm => ?_
        cases hm
      · revert hm; refine ifFI c120 fun hm => ?_
        refine goF c120 ?_
        refine hN105 _ _ ?_
        refine seqI fun N121 hN122 => ?_
        revert hm; refine grdI fun g123 hm => ?_
        refine ⟨_, rfl, .inl ⟨rfl, _, (SqL.of (S119.get 5 rfl))⟩, _, rfl, _, _, _, rfl, rfl, (S119.get 5 rfl), (by rw [LR.length (hl61.mono (s81.trans (s91.trans (s99.trans s111))))]; exact of_decide_eq_true g123), ?_⟩
        have hl124 : LR (rInt F109) (v60 ++ [V.int y95.1]) (st1.1 ++ [y95.1]) := LR.snoc (hl61.mono (s81.trans (s91.trans (s99.trans s111)))) rfl
        have S125 : Sta F109 ([(a_gates0, HO.ins T.a_Gates dx_gates0 (fl_Gates (V.ref a113) (V.ref a116))), (a113, HO.lst v114), (a116, HO.dT v117), (a_rows0, HO.lst v101), (a_source0, HO.lst v83), (a3, HO.lst (v60 ++ [V.int y95.1]))] ++ R) _ := S119.set 5 rfl _
        refine hN122 _ _ ?_
        revert hm; refine grdI fun g126 hm => ?_
        refine ⟨_, rfl, .inl ⟨rfl, _, (SqL.of (S125.get 5 rfl))⟩, _, rfl, y95.1, _, rfl, rfl, _, _, _, rfl, rfl, (S125.get 5 rfl), (by rw [LR.length hl124]; exact of_decide_eq_true g126), ?_⟩
        clear S119
        have hl127 : LR (rInt F109) ((v60 ++ [V.int y95.1]) ++ [V.int (m_law_opposite y95.1)]) ((st1.1 ++ [y95.1]) ++ [(m_law_opposite y95.1)]) := LR.snoc hl124 rfl
        have S128 : Sta F109 ([(a_gates0, HO.ins T.a_Gates dx_gates0 (fl_Gates (V.ref a113) (V.ref a116))), (a113, HO.lst v114), (a116, HO.dT v117), (a_rows0, HO.lst v101), (a_source0, HO.lst v83), (a3, HO.lst ((v60 ++ [V.int y95.1]) ++ [V.int (m_law_opposite y95.1)]))] ++ R) _ := S125.set 5 rfl _
        have S129 : Sta F109 ([(a3, HO.lst ((v60 ++ [V.int y95.1]) ++ [V.int (m_law_opposite y95.1)])), (a_source0, HO.lst v83), (a_gates0, HO.ins T.a_Gates dx_gates0 (fl_Gates (V.ref a113) (V.ref a116))), (a113, HO.lst v114), (a116, HO.dT v117), (a_rows0, HO.lst v101)] ++ R) _ := S128.pick [5, 4, 0, 1, 2, 3] (by decide) rfl
        exact ⟨(((st1.1 ++ [y95.1]) ++ [(m_law_opposite y95.1)]), y77.2, (M_Gates.mk y107.2.rows y107.2.known), y95.2), F109, ((v60 ++ [V.int y95.1]) ++ [V.int (m_law_opposite y95.1)]), v83, a113, v114, a116, v117, v101, _, _, _, rfl, (s55.trans (s81.trans (s91.trans (s99.trans s111)))), S129, hl127, (hl84.mono (s91.trans (s99.trans s111))), hl115, hl118, (hl102.mono s111), hm⟩
    · rintro σ H2 ⟨st1, F54, v60, v62, a64, v65, a67, v68, v70, o57, o58, o59, rfl, s55, S56, hl61, hl63, hl66, hl69, hl71, hm⟩
      rw [drop_rng, m_law_build_l1] at hm
      obtain rfl := Option.some.inj hm
      have hm := hm11
      refine hN8 _ _ ?_
      refine seqI fun N130 hN131 => ?_
      revert hm; refine grdI fun g135 hm => ?_
      revert hm; refine bndI fun y132 e133 hm134 => ?_
      refine ⟨_, rfl, _, rfl, (rngOk_lo g135), (rngOk_hi g135), for_rng (lo := 0) (n := x_count0.toNat) (fun i σ H2 => ∃ (st2 : ((List Int) × (List Int) × M_Gates × (List (List Key)))) (F181 : Hp) (v188 : List V) (v190 : List V) (a192 : Addr) (v193 : List V) (a195 : Addr) (v196 : List (List Key × V)) (v198 : List V) (o184 : Option V) (o185 : Option V) (o186 : Option V) (o187 : Option V), σ = [some (V.ref a_script0), some (V.ref a_source0), some (V.ref a_gates0), some (V.ref a_rows0), some (V.int x_count0), some (V.ref a3), o184, o58, o185, o186, o187] ∧ Same F54 F181 ∧ Sta F181 ([(a3, HO.lst v188), (a_source0, HO.lst v190), (a_gates0, HO.ins T.a_Gates dx_gates0 (fl_Gates (V.ref a192) (V.ref a195))), (a192, HO.lst v193), (a195, HO.dT v196), (a_rows0, HO.lst v198)] ++ R) H2 ∧ LR (rInt F181) v188 st2.1 ∧ LR (rInt F181) v190 st2.2.1 ∧ LR (rKT F181) v193 st2.2.2.1.rows ∧ KR id (rInt F181) v196 st2.2.2.1.known ∧ LR (rKT F181) v198 st2.2.2.2 ∧ m_law_build_l2 x_script0 (List.drop i (pyRange 0 x_count0.toNat)) st2 = some y132) ⟨(st1.1, st1.2.1, (M_Gates.mk st1.2.2.1.rows st1.2.2.1.known), st1.2.2.2), F54, v60, v62, a64, v65, a67, v68, v70, _, _, _, _, rfl, (Same.refl _), S56, hl61, hl63, hl66, hl69, hl71, e133⟩ ?_ ?_⟩
      · rintro i x200 σ H2 hi ⟨st2, F181, v188, v190, a192, v193, a195, v196, v198, o184, o185, o186, o187, rfl, s182, S183, hl189, hl191, hl194, hl197, hl199, hm⟩
        rw [drop_cons hi, m_law_build_l2] at hm
        refine seqI fun N202 hN203 => ?_
        refine ⟨_, rfl, _, rfl, _, _, rfl, .inl (SqL.of (S183.get 0 rfl)), ?_⟩
        rw [LR.length hl189]
        refine ⟨_, _, rfl, rfl, _, rfl, _, rfl, _, rfl, _, _, rfl, .inl (SqL.of (S183.get 0 rfl)), ?_⟩
        rw [LR.length hl189]
        have S204 : Sta F181 ([(a_source0, HO.lst v190), (a3, HO.lst v188), (a_gates0, HO.ins T.a_Gates dx_gates0 (fl_Gates (V.ref a192) (V.ref a195))), (a192, HO.lst v193), (a195, HO.dT v196), (a_rows0, HO.lst v198)] ++ R) _ := S183.pick [1, 0, 2, 3, 4, 5] (by decide) rfl
        revert hm; refine bndI fun y205 e206 hm => ?_
        refine ⟨_, _, rfl, F181, ([(a3, HO.lst v188), (a_gates0, HO.ins T.a_Gates dx_gates0 (fl_Gates (V.ref a192) (V.ref a195))), (a192, HO.lst v193), (a195, HO.dT v196), (a_rows0, HO.lst v198)] ++ R), a_script0, v_script0, x_script0, a_source0, v190, st2.2.1, (if (10 : Int) < (st2.1.length : Int) then (10 : Int) else (st2.1.length : Int)), _, rfl, (SqL.mono hs_script0 (s55.trans s182)), ((hl_script0.mono (s55.trans s182))), hl191, S204, e206, fun F207 H208 v211 s209 S210 hl212 => ?_⟩
        clear S183
        have S213 : Sta F207 ([(a_source0, HO.lst v211), (a3, HO.lst v188), (a_gates0, HO.ins T.a_Gates dx_gates0 (fl_Gates (V.ref a192) (V.ref a195))), (a192, HO.lst v193), (a195, HO.dT v196), (a_rows0, HO.lst v198)] ++ R) _ := S210
        revert hm; refine bndI fun y214 e215 hm => ?_
        obtain ⟨v216, ev217, rv218⟩ := LR.atI hl189 e215
        obtain rfl := rInt_e rv218
        refine ⟨_, _, rfl, rfl, _, _, _, _, rfl, rfl, (SqL.of (S213.get 1 rfl)), ev217, ?_⟩
        clear S210
        refine hN203 _ _ ?_
        refine seqI fun N219 hN220 => ?_
        refine ⟨_, rfl, _, rfl, _, rfl, _, rfl, _, _, rfl, .inl (SqL.of (S213.get 1 rfl)), ?_⟩
        rw [LR.length (hl189.mono s209)]
        revert hm; refine bndI fun y221 e222 hm => ?_
        refine ⟨F207, ([(a3, HO.lst v188), (a_gates0, HO.ins T.a_Gates dx_gates0 (fl_Gates (V.ref a192) (V.ref a195))), (a192, HO.lst v193), (a195, HO.dT v196), (a_rows0, HO.lst v198)] ++ R), a_script0, v_script0, x_script0, a_source0, v211, y205.2, (st2.1.length : Int), _, rfl, (SqL.mono hs_script0 (s55.trans (s182.trans s209))), ((hl_script0.mono (s55.trans (s182.trans s209)))), hl212, S213, e222, fun F223 H224 v227 s225 S226 hl228 => ?_⟩
        have S229 : Sta F223 ([(a_source0, HO.lst v227), (a3, HO.lst v188), (a_gates0, HO.ins T.a_Gates dx_gates0 (fl_Gates (V.ref a192) (V.ref a195))), (a192, HO.lst v193), (a195, HO.dT v196), (a_rows0, HO.lst v198)] ++ R) _ := S226
        revert hm; refine bndI fun y230 e231 hm => ?_
        obtain ⟨v232, ev233, rv234⟩ := LR.atI hl189 e231
        obtain rfl := rInt_e rv234
        refine ⟨_, _, _, _, rfl, rfl, (SqL.of (S229.get 1 rfl)), ev233, ?_⟩
        clear S226
        refine hN220 _ _ ?_
        refine seqI fun N235 hN236 => ?_
        have S237 : Sta F223 ([(a_rows0, HO.lst v198), (a_source0, HO.lst v227), (a3, HO.lst v188), (a_gates0, HO.ins T.a_Gates dx_gates0 (fl_Gates (V.ref a192) (V.ref a195))), (a192, HO.lst v193), (a195, HO.dT v196)] ++ R) _ := S229.pick [5, 0, 1, 2, 3, 4] (by decide) rfl
        revert hm; refine bndI fun y238 e239 hm => ?_
        refine ⟨_, rfl, _, rfl, _, rfl, F223, ([(a_source0, HO.lst v227), (a3, HO.lst v188), (a_gates0, HO.ins T.a_Gates dx_gates0 (fl_Gates (V.ref a192) (V.ref a195))), (a192, HO.lst v193), (a195, HO.dT v196)] ++ R), a_rows0, v198, st2.2.2.2, y214, y230, _, rfl, (hl199.mono (s209.trans s225)), S237, e239, fun F240 H241 v244 s242 S243 hl245 => ?_⟩
        clear S229
        have S246 : Sta F240 ([(a_rows0, HO.lst v244), (a_source0, HO.lst v227), (a3, HO.lst v188), (a_gates0, HO.ins T.a_Gates dx_gates0 (fl_Gates (V.ref a192) (V.ref a195))), (a192, HO.lst v193), (a195, HO.dT v196)] ++ R) _ := S243
        refine hN236 _ _ ?_
        refine seqI fun N247 hN248 => ?_
        have S249 : Sta F240 ([(a_gates0, HO.ins T.a_Gates dx_gates0 (fl_Gates (V.ref a192) (V.ref a195))), (a192, HO.lst v193), (a195, HO.dT v196), (a_rows0, HO.lst v244), (a_source0, HO.lst v227), (a3, HO.lst v188)] ++ R) _ := S246.pick [3, 4, 5, 0, 1, 2] (by decide) rfl
        revert hm; refine bndI fun y250 e251 hm => ?_
        refine ⟨_, rfl, _, _, _, rfl, (S246.get 3 rfl), fl_Gates_no_both, _, rfl, _, rfl, F240, ([(a_rows0, HO.lst v244), (a_source0, HO.lst v227), (a3, HO.lst v188)] ++ R), a_gates0, dx_gates0, (M_Gates.mk st2.2.2.1.rows st2.2.2.1.known), a192, v193, a195, v196, y214, y230, _, rfl, (hl194.mono (s209.trans (s225.trans s242))), (KR.mono hl197 (s209.trans (s225.trans s242))), S249, e251, fun F252 H253 a256 v257 a259 v260 s254 S255 hl258 hl261 => ?_⟩
        clear S243 S246
        have S262 : Sta F252 ([(a_gates0, HO.ins T.a_Gates dx_gates0 (fl_Gates (V.ref a256) (V.ref a259))), (a256, HO.lst v257), (a259, HO.dT v260), (a_rows0, HO.lst v244), (a_source0, HO.lst v227), (a3, HO.lst v188)] ++ R) _ := S255
        refine ⟨_, rfl, _, _, rfl, rfl, _, rfl, ?_⟩
        clear S255
        by_cases c263 : (!decide (y250.1 = y238.1)) = true
        · revert hm; refine ifTI c263 fun hm => ?_
          cases hm
        · revert hm; refine ifFI c263 fun hm => ?_
          refine goF c263 ?_
          refine hN248 _ _ ?_
          refine seqI fun N264 hN265 => ?_
          revert hm; refine grdI fun g266 hm => ?_
          refine ⟨_, rfl, .inl ⟨rfl, _, (SqL.of (S262.get 5 rfl))⟩, _, rfl, _, _, _, rfl, rfl, (S262.get 5 rfl), (by rw [LR.length (hl189.mono (s209.trans (s225.trans (s242.trans s254))))]; exact of_decide_eq_true g266), ?_⟩
          have hl267 : LR (rInt F252) (v188 ++ [V.int y238.1]) (st2.1 ++ [y238.1]) := LR.snoc (hl189.mono (s209.trans (s225.trans (s242.trans s254)))) rfl
          have S268 : Sta F252 ([(a_gates0, HO.ins T.a_Gates dx_gates0 (fl_Gates (V.ref a256) (V.ref a259))), (a256, HO.lst v257), (a259, HO.dT v260), (a_rows0, HO.lst v244), (a_source0, HO.lst v227), (a3, HO.lst (v188 ++ [V.int y238.1]))] ++ R) _ := S262.set 5 rfl _
          refine hN265 _ _ ?_
          revert hm; refine grdI fun g269 hm => ?_
          refine ⟨_, rfl, .inl ⟨rfl, _, (SqL.of (S268.get 5 rfl))⟩, _, rfl, y238.1, _, rfl, rfl, _, _, _, rfl, rfl, (S268.get 5 rfl), (by rw [LR.length hl267]; exact of_decide_eq_true g269), ?_⟩
          clear S262
          have hl270 : LR (rInt F252) ((v188 ++ [V.int y238.1]) ++ [V.int (m_law_opposite y238.1)]) ((st2.1 ++ [y238.1]) ++ [(m_law_opposite y238.1)]) := LR.snoc hl267 rfl
          have S271 : Sta F252 ([(a_gates0, HO.ins T.a_Gates dx_gates0 (fl_Gates (V.ref a256) (V.ref a259))), (a256, HO.lst v257), (a259, HO.dT v260), (a_rows0, HO.lst v244), (a_source0, HO.lst v227), (a3, HO.lst ((v188 ++ [V.int y238.1]) ++ [V.int (m_law_opposite y238.1)]))] ++ R) _ := S268.set 5 rfl _
          have S272 : Sta F252 ([(a3, HO.lst ((v188 ++ [V.int y238.1]) ++ [V.int (m_law_opposite y238.1)])), (a_source0, HO.lst v227), (a_gates0, HO.ins T.a_Gates dx_gates0 (fl_Gates (V.ref a256) (V.ref a259))), (a256, HO.lst v257), (a259, HO.dT v260), (a_rows0, HO.lst v244)] ++ R) _ := S271.pick [5, 4, 0, 1, 2, 3] (by decide) rfl
          exact ⟨(((st2.1 ++ [y238.1]) ++ [(m_law_opposite y238.1)]), y221.2, (M_Gates.mk y250.2.rows y250.2.known), y238.2), F252, ((v188 ++ [V.int y238.1]) ++ [V.int (m_law_opposite y238.1)]), v227, a256, v257, a259, v260, v244, _, _, _, _, rfl, (s182.trans (s209.trans (s225.trans (s242.trans s254)))), S272, hl270, (hl228.mono (s242.trans s254)), hl258, hl261, (hl245.mono s254), hm⟩
      · rintro σ H2 ⟨st2, F181, v188, v190, a192, v193, a195, v196, v198, o184, o185, o186, o187, rfl, s182, S183, hl189, hl191, hl194, hl197, hl199, hm⟩
        rw [drop_rng, m_law_build_l2] at hm
        obtain rfl := Option.some.inj hm
        have hm := hm134
        refine hN131 _ _ ?_
        refine ⟨_, rfl, ?_⟩
        obtain rfl := Option.some.inj hm
        exact kk _ _ v190 a192 v193 a195 v196 v198 a3 v188 (s55.trans s182) S183 hl191 hl194 hl197 hl199 hl189

def sp_Gates_cone (T : Txt K mg) : Sp := fun vs H Q _ => ∃ (F0 : Hp) (R : Own) (a_self0 : Addr) (dx_self0 : Addr) (x_self0 : M_Gates) (a_self0_rows0 : Addr) (v_self0_rows0 : List V) (a_self0_known0 : Addr) (v_self0_known0 : List (List Key × V)) (a_edges0 : Addr) (v_edges0 : List V) (x_edges0 : (List Int)) (r : (List Int)),
  vs = [V.ref a_self0, V.ref a_edges0] ∧ (ov F0 R) a_self0 = some (HO.ins T.a_Gates dx_self0 (fl_Gates (V.ref a_self0_rows0) (V.ref a_self0_known0))) ∧ SqL K (ov F0 R) a_self0_rows0 v_self0_rows0 ∧ LR (rKT F0) v_self0_rows0 x_self0.rows ∧ (ov F0 R) a_self0_known0 = some (HO.dT v_self0_known0) ∧ KR id (rInt F0) v_self0_known0 x_self0.known ∧ SqL K (ov F0 R) a_edges0 v_edges0 ∧ LR (rInt F0) v_edges0 x_edges0 ∧ Sta F0 ([] ++ R) H ∧ m_Gates_cone x_self0 x_edges0 = some r ∧ ∀ (F1 : Hp) (H1 : Hp) (a_ret0p : Addr) (v_ret0p : List V), Same F0 F1 → Sta F1 ([(a_ret0p, HO.lst v_ret0p)] ++ R) H1 → LR (rInt F1) v_ret0p r → Q (V.ref a_ret0p) H1

theorem ok_Gates_cone (T : Txt K mg) : FnOk P w K mg base CX0 1 T.a_Gates_cone T.d_Gates_cone ["self", "edges"] (sp_Gates_cone T) := by
  refine T.F_Gates_cone.ok sc_Gates_cone (fun vs H Q E h => ?_) (fun cdv A outer s H vs Q E hr h => ?_)
  · obtain ⟨_, _, _, _, _, _, _, _, _, _, _, _, _, rfl, _⟩ := h
    rfl
  · obtain ⟨F0, R, a_self0, dx_self0, x_self0, a_self0_rows0, v_self0_rows0, a_self0_known0, v_self0_known0, a_edges0, v_edges0, x_edges0, r, rfl, hs_self0, hs_self0_rows0, hl_self0_rows0, hs_self0_known0, hl_self0_known0, hs_edges0, hl_edges0, S0, hm, kk⟩ := h
    have hu := hu_of hr
    unfold m_Gates_cone at hm
    refine ⟨_, (pss_cons (ps_set (i := 2) sc_Gates_cone.nd rfl (Or.inl rfl) pe_dnewK) (pss_cons (ps_setLc (i := 3) (own := [("edge", 6)]) rfl sc_Gates_cone.nd rfl rfl (sw_true rfl rfl rfl (by decide +kernel)) (pi_list (pv 1)) (blkOk_by (own := [("edge", 6)]) (N := ["self", "edges", "seen", "todo", "k", "row", "edge"]) (sc := defScope s_Gates_cone) (by decide +kernel)) (fun _ _ _ _ _ => (pg_name (i := 6) sc_Gates_cone.nd rfl (Or.inl rfl))) (fun _ _ _ _ _ => pts_nil) (fun _ _ _ _ _ => (pe_op op_fdiv (pv 6) pe_int))) (C8.pss_cut (ps_while PassesOwn.never (pt_truth (pv 3) (by intro _; rfl)) (pss_cons (ps_set (i := 4) sc_Gates_cone.nd rfl (Or.inl rfl) (pe_bm0 PySem.F.plainAttrs_list PySem.F.slot_list_pop PySem.F.type_list_pop mt_pop (pv 3))) (pss_one (ps_if (pt_pure (PW.pt (pw_and (pt_cmpR op_gt (pv 4) pe_int (nomark _)) (pw_and1 (pt_cmp (pc_dnotin hu (pv 4) (pv 2))))))) (pss_cons (ps_dput hu (pv 2) (pv 4) pe_bl rfl) (pss_cons (ps_set (i := 5) sc_Gates_cone.nd rfl (Or.inl rfl) (pe_ix ix_list (pe_fld (pv 0) rfl) (pv 4) (fun _ _ => rfl))) (pss_one (ps_if (pt_cmpR oS_eq (pe_ix ix_tup (pv 5) pe_int (fun _ _ => rfl)) pe_str (nomark _)) (pss_cons (ps_expr (pe_bm PySem.F.plainAttrs_list PySem.F.slot_list_append PySem.F.type_list_append mt_append (pv 3) (pa_cons (pe_op op_fdiv (pe_ix ix_tup (pv 5) pe_int (fun _ _ => rfl)) pe_int) pa_nil))) (pss_one (ps_expr (pe_bm PySem.F.plainAttrs_list PySem.F.slot_list_append PySem.F.type_list_append mt_append (pv 3) (pa_cons (pe_op op_fdiv (pe_ix ix_tup (pv 5) pe_int (fun _ _ => rfl)) pe_int) pa_nil))))) pss_nil)))) pss_nil)))) (pss_one (ps_ret (pe_callB (call_sortD rfl) (by rfl) T.z_sorted (by decide +kernel) (pa_cons (pv 2) pa_nil))))))), ?_⟩
    refine seqI fun N1 hN2 => ?_
    intro a3 np4
    have hl5 : KR Sum.inl (rBool F0) ([] : List (Key × V)) ([] : (List (Int × Bool))) := trivial
    have S6 : Sta F0 ([(a3, HO.dK [])] ++ R) _ := S0.new np4 _
    refine hN2 _ _ ?_
    refine seqI fun N7 hN8 => ?_
    revert hm; refine grdI fun g23 hm => ?_
    have e9 : lcO (fun x13 => some (some (x13 / (2 : Int)))) x_edges0 = some (x_edges0.map fun x13 => (x13 / (2 : Int))) := lc_map (fun x13 => (x13 / (2 : Int))) x_edges0
    refine ⟨_, rfl, _, rfl, ⟨_, (SqL.mono hs_edges0 (S6.bor (Same.refl _) (fun _ q => List.mem_append_right _ q)))⟩, fun a21 np22 => lc_list (K := K) (a := a_edges0) (xs := v_edges0) (fun i H2 => ∃ (F14 : Hp) (v15 : List V) (acc16 : List Int) (r10 : List Int), Same F0 F14 ∧ Sta F14 ([(a21, HO.lst v15), (a3, HO.dK [])] ++ R) H2 ∧ LR (rInt F14) v15 acc16 ∧ acc16.length ≤ i ∧ lcO (fun x13 => some (some (x13 / (2 : Int)))) (List.drop i x_edges0) = some r10 ∧ (x_edges0.map fun x13 => (x13 / (2 : Int))) = acc16 ++ r10) ⟨F0, [], [], _, Same.refl _, S6.new np22 _, trivial, Nat.le_refl _, e9, rfl⟩ (by rintro i H2 _ ⟨F14, v15, acc16, r10, s17, S18, hl19, hn20, hr11, hy12⟩; exact (SqL.mono hs_edges0 (S18.bor s17 (fun _ q => List.mem_append_right _ q)))) ?_ ?_⟩
    clear S0
    · rintro i v24 H2 hi ⟨F14, v15, acc16, r10, s17, S18, hl19, hn20, hr11, hy12⟩
      obtain ⟨x13, hx25, rx26⟩ := LR.getV hl_edges0 hi
      rw [drop_cons hx25] at hr11
      revert hr11; refine lcI fun y27 r28 hm hr30 hc31 => ?_
      obtain rfl := rInt_e rx26
      refine ⟨rfl, ?_⟩
      refine tYesI ?_
      rw [if_pos rfl]
      refine ⟨_, rfl, _, _, rfl, rfl, ⟨by decide, by decide⟩, ?_⟩
      obtain rfl := Option.some.inj hm
      have hlt : v15.length < 16777216 := by rw [LR.length hl19]; have := (List.getElem?_eq_some_iff.mp hx25).1; have := of_decide_eq_true g23; omega
      have S32 : Sta F14 ([(a21, HO.lst (v15 ++ [V.int (x13 / (2 : Int))])), (a3, HO.dK [])] ++ R) _ := S18.set 0 rfl _
      exact ⟨_, (S18.get 0 rfl), hlt, F14, _, (acc16 ++ [(x13 / (2 : Int))]), r28, s17, S32, LR.snoc hl19 rfl, by rw [List.length_append]; exact Nat.succ_le_succ hn20, hr30, by rw [List.append_assoc]; exact hy12.trans (congrArg (acc16 ++ ·) hc31)⟩
    rintro H2 ⟨F14, v15, acc16, r10, s17, S18, hl19, hn20, hr11, hy12⟩
    rw [LR.dropEnd hl_edges0] at hr11
    obtain rfl := Option.some.inj hr11
    rw [List.append_nil] at hy12
    subst hy12
    have S33 : Sta F14 ([(a21, HO.lst v15), (a3, HO.dK [])] ++ R) _ := S18
    refine hN8 _ _ ?_
    revert hm; refine bndI fun y34 e35 hm36 => ?_
    refine ⟨fun σ H2 => ∃ (st1 : ((List Int) × (List (Int × Bool)))) (F37 : Hp) (v42 : List V) (v44 : List (Key × V)) (o40 : Option V) (o41 : Option V), σ = [some (V.ref a_self0), some (V.ref a_edges0), some (V.ref a3), some (V.ref a21), o40, o41, none] ∧ Same F14 F37 ∧ Sta F37 ([(a21, HO.lst v42), (a3, HO.dK v44)] ++ R) H2 ∧ LR (rInt F37) v42 st1.1 ∧ KR Sum.inl (rBool F37) v44 st1.2 ∧ st1 = y34, ?_, ?_⟩
    · have hm := e35; clear e35
      refine while_fuel (fun i σ H2 => ∃ (st1 : ((List Int) × (List (Int × Bool)))) (F37 : Hp) (v42 : List V) (v44 : List (Key × V)) (o40 : Option V) (o41 : Option V), σ = [some (V.ref a_self0), some (V.ref a_edges0), some (V.ref a3), some (V.ref a21), o40, o41, none] ∧ Same F14 F37 ∧ Sta F37 ([(a21, HO.lst v42), (a3, HO.dK v44)] ++ R) H2 ∧ LR (rInt F37) v42 st1.1 ∧ KR Sum.inl (rBool F37) v44 st1.2 ∧ m_Gates_cone_l1 x_self0 i st1 = some y34) fuel ⟨((x_edges0.map fun x13 => (x13 / (2 : Int))), ([] : (List (Int × Bool)))), F14, v15, [], _, _, rfl, (Same.refl _), S33, hl19, (KR.mono hl5 s17), hm⟩ ?_ ?_
      · rintro i σ H2 ⟨st1, F37, v42, v44, o40, o41, rfl, s38, S39, hl43, hl45, hm⟩
        rw [m_Gates_cone_l1] at hm
        refine ⟨_, rfl, ((!st1.1.isEmpty)), (.inl ⟨_, (SqL.of (S39.get 0 rfl)), by rw [LR.isEmpty hl43]⟩), ?_⟩
        by_cases c47 : (!st1.1.isEmpty) = true
        · revert hm; refine ifTI c47 fun hm => ?_
          refine goT c47 (wh_in ?_)
          refine seqI fun N48 hN49 => ?_
          revert hm; refine bndI fun y50 e51 hm => ?_
          refine ⟨_, rfl, .inl ⟨rfl, _, (SqL.of (S39.get 0 rfl))⟩, ?_⟩
          obtain ⟨v52, ev53, rv54⟩ := LR.last hl43 e51
          obtain rfl := rInt_e rv54
          refine ⟨_, _, _, rfl, rfl, (S39.get 0 rfl), ev53, ?_⟩
          have hl55 : LR (rInt F37) v42.dropLast st1.1.dropLast := LR.dropLast hl43
          have S56 : Sta F37 ([(a21, HO.lst v42.dropLast), (a3, HO.dK v44)] ++ R) _ := S39.set 0 rfl _
          refine hN49 _ _ ?_
          refine ⟨((decide (y50 > (0 : Int))) && (!(mget st1.2 y50).isSome)), ?_, ?_⟩
          · refine ⟨_, rfl, _, _, rfl, rfl, _, rfl, ?_⟩
            by_cases c57 : (decide (y50 > (0 : Int))) = true
            · refine goT c57 ?_
              refine ⟨_, rfl, _, rfl, _, _, rfl, (DGet.k (k := Sum.inl y50) (S56.get 1 rfl)), ?_⟩
              rw [show _ = (!(mget st1.2 y50).isSome) from (congrArg (!·) (KR.some_eq hl45 (kinj_int) y50))]
              refine ⟨_, rfl, ?_⟩
              exact ⟨by simp [c57], rfl⟩
            · exact goF c57 ⟨by simp [c57], rfl⟩
          by_cases c58 : ((decide (y50 > (0 : Int))) && (!(mget st1.2 y50).isSome)) = true
          · revert hm; refine ifTI c58 fun hm => ?_
            refine goT c58 ?_
            refine seqI fun N59 hN60 => ?_
            revert hm; refine grdI fun g61 hm => ?_
            refine ⟨_, rfl, _, rfl, _, _, rfl, (DPut.k (k := Sum.inl y50) (S56.get 1 rfl) (by rw [KR.length hl45]; exact of_decide_eq_true g61)), ?_⟩
            have hl62 : KR Sum.inl (rBool F37) (putK v44 (Sum.inl y50) (V.bl true)) (mput st1.2 y50 true) := KR.put hl45 kinj_int rfl
            have S63 : Sta F37 ([(a21, HO.lst v42.dropLast), (a3, HO.dK (putK v44 (Sum.inl y50) (V.bl true)))] ++ R) _ := S56.set 1 rfl _
            refine hN60 _ _ ?_
            refine seqI fun N64 hN65 => ?_
            revert hm; refine bndI fun y66 e67 hm => ?_
            obtain ⟨v68, ev69, rv70⟩ := LR.atI hl_self0_rows0 e67
            obtain ⟨a71, rfl, h72⟩ := rv70
            refine ⟨_, rfl, _, _, _, _, _, rfl, (S63.bor (s17.trans s38) (fun _ q => List.mem_append_right _ q) _ _ hs_self0), T.cl_Gates, T.n_Gates_rows, fl_Gates_rows, _, rfl, _, _, _, _, rfl, rfl, (SqL.mono hs_self0_rows0 (S63.bor (s17.trans s38) (fun _ q => List.mem_append_right _ q))), ev69, ?_⟩
            clear S56
            refine hN65 _ _ ?_
            revert hm; refine bndI fun y73 e74 hm => ?_
            refine ⟨_, rfl, _, _, _, _, rfl, rfl, (SqT.of (S63.sub _ _ ((s17.trans s38) _ _ h72))), (kStr_at e74), _, _, rfl, rfl, _, rfl, ?_⟩
            by_cases c75 : (decide (y73 = ("both" : Str))) = true
            · revert hm; refine ifTI c75 fun hm => ?_
              refine goT c75 ?_
              refine seqI fun N76 hN77 => ?_
              revert hm; refine bndI fun y78 e79 hm => ?_
              revert hm; refine grdI fun g80 hm => ?_
              refine ⟨_, rfl, .inl ⟨rfl, _, (SqL.of (S63.get 0 rfl))⟩, _, rfl, _, _, _, _, rfl, rfl, (SqT.of (S63.sub _ _ ((s17.trans s38) _ _ h72))), (kInt_at e79), _, _, rfl, rfl, ⟨by decide, by decide⟩, _, _, _, rfl, rfl, (S63.get 0 rfl), (by rw [LR.length hl55]; exact of_decide_eq_true g80), ?_⟩
              have hl81 : LR (rInt F37) (v42.dropLast ++ [V.int (y78 / (2 : Int))]) (st1.1.dropLast ++ [(y78 / (2 : Int))]) := LR.snoc hl55 rfl
              have S82 : Sta F37 ([(a21, HO.lst (v42.dropLast ++ [V.int (y78 / (2 : Int))])), (a3, HO.dK (putK v44 (Sum.inl y50) (V.bl true)))] ++ R) _ := S63.set 0 rfl _
              refine hN77 _ _ ?_
              revert hm; refine bndI fun y83 e84 hm => ?_
              revert hm; refine grdI fun g85 hm => ?_
              refine ⟨_, rfl, .inl ⟨rfl, _, (SqL.of (S82.get 0 rfl))⟩, _, rfl, _, _, _, _, rfl, rfl, (SqT.of (S82.sub _ _ ((s17.trans s38) _ _ h72))), (kInt_at e84), _, _, rfl, rfl, ⟨by decide, by decide⟩, _, _, _, rfl, rfl, (S82.get 0 rfl), (by rw [LR.length hl81]; exact of_decide_eq_true g85), ?_⟩
              clear S63
              have hl86 : LR (rInt F37) ((v42.dropLast ++ [V.int (y78 / (2 : Int))]) ++ [V.int (y83 / (2 : Int))]) ((st1.1.dropLast ++ [(y78 / (2 : Int))]) ++ [(y83 / (2 : Int))]) := LR.snoc hl81 rfl
              have S87 : Sta F37 ([(a21, HO.lst ((v42.dropLast ++ [V.int (y78 / (2 : Int))]) ++ [V.int (y83 / (2 : Int))])), (a3, HO.dK (putK v44 (Sum.inl y50) (V.bl true)))] ++ R) _ := S82.set 0 rfl _
              exact ⟨(((st1.1.dropLast ++ [(y78 / (2 : Int))]) ++ [(y83 / (2 : Int))]), (mput st1.2 y50 true)), F37, ((v42.dropLast ++ [V.int (y78 / (2 : Int))]) ++ [V.int (y83 / (2 : Int))]), (putK v44 (Sum.inl y50) (V.bl true)), _, _, rfl, s38, S87, hl86, hl62, hm⟩
            · revert hm; refine ifFI c75 fun hm => ?_
              refine goF c75 ?_
              exact ⟨(st1.1.dropLast, (mput st1.2 y50 true)), F37, v42.dropLast, (putK v44 (Sum.inl y50) (V.bl true)), _, _, rfl, s38, S63, hl55, hl62, hm⟩
          · revert hm; refine ifFI c58 fun hm => ?_
            refine goF c58 ?_
            exact ⟨(st1.1.dropLast, st1.2), F37, v42.dropLast, v44, _, _, rfl, s38, S56, hl55, hl45, hm⟩
        · revert hm; refine ifFI c47 fun hm => ?_
          refine goF c47 ?_
          exact ⟨(st1.1, st1.2), F37, v42, v44, _, _, rfl, s38, S39, hl43, hl45, Option.some.inj hm⟩
      · rintro σ H2 ⟨st1, F37, v42, v44, o40, o41, rfl, s38, S39, hl43, hl45, hm⟩
        rw [m_Gates_cone_l1] at hm
        cases hm
    · rintro σ H2 ⟨st1, F37, v42, v44, o40, o41, rfl, s38, S39, hl43, hl45, rfl⟩
      have hm := hm36
      refine ⟨_, rfl, _, _, (st1.2.map (·.1)), rfl, (.inl (S39.get 1 rfl)), (KR.keysI hl45), ?_⟩
      intro ys88 a89 pm90 pw91 np92
      obtain rfl := sortI_eq pm90 pw91
      have hl93 : LR (rInt F37) ((sortI (st1.2.map (·.1))).map V.int) (sortI (st1.2.map (·.1))) := lr_ints _
      have S94 : Sta F37 ([(a89, HO.lst ((sortI (st1.2.map (·.1))).map V.int)), (a21, HO.lst v42), (a3, HO.dK v44)] ++ R) _ := S39.new np92 _
      obtain rfl := Option.some.inj hm
      have S95 : Sta F37 ([(a89, HO.lst ((sortI (st1.2.map (·.1))).map V.int))] ++ R) _ := S94.pick [0] (by decide) rfl
      exact kk _ _ a89 ((sortI (st1.2.map (·.1))).map V.int) (s17.trans s38) S95 hl93

def sp_Gates_gate_rows (T : Txt K mg) : Sp := fun vs H Q _ => ∃ (F0 : Hp) (R : Own) (a_self0 : Addr) (dx_self0 : Addr) (x_self0 : M_Gates) (a_self0_rows0 : Addr) (v_self0_rows0 : List V) (a_self0_known0 : Addr) (v_self0_known0 : List (List Key × V)) (a_edges0 : Addr) (v_edges0 : List V) (x_edges0 : (List Int)) (r : (List Int)),
  vs = [V.ref a_self0, V.ref a_edges0] ∧ (ov F0 R) a_self0 = some (HO.ins T.a_Gates dx_self0 (fl_Gates (V.ref a_self0_rows0) (V.ref a_self0_known0))) ∧ SqL K (ov F0 R) a_self0_rows0 v_self0_rows0 ∧ LR (rKT F0) v_self0_rows0 x_self0.rows ∧ (ov F0 R) a_self0_known0 = some (HO.dT v_self0_known0) ∧ KR id (rInt F0) v_self0_known0 x_self0.known ∧ SqL K (ov F0 R) a_edges0 v_edges0 ∧ LR (rInt F0) v_edges0 x_edges0 ∧ Sta F0 ([] ++ R) H ∧ m_Gates_gate_rows x_self0 x_edges0 = some r ∧ ∀ (F1 : Hp) (H1 : Hp) (a_ret0p : Addr) (v_ret0p : List V), Same F0 F1 → Sta F1 ([(a_ret0p, HO.lst v_ret0p)] ++ R) H1 → LR (rInt F1) v_ret0p r → Q (V.ref a_ret0p) H1

theorem ok_Gates_gate_rows (T : Txt K mg) : FnOk P w K mg base CX0 2 T.a_Gates_gate_rows T.d_Gates_gate_rows ["self", "edges"] (sp_Gates_gate_rows T) := by
  refine T.F_Gates_gate_rows.ok sc_Gates_gate_rows (fun vs H Q E h => ?_) (fun cdv A outer s H vs Q E hr h => ?_)
  · obtain ⟨_, _, _, _, _, _, _, _, _, _, _, _, _, rfl, _⟩ := h
    rfl
  · obtain ⟨F0, R, a_self0, dx_self0, x_self0, a_self0_rows0, v_self0_rows0, a_self0_known0, v_self0_known0, a_edges0, v_edges0, x_edges0, r, rfl, hs_self0, hs_self0_rows0, hl_self0_rows0, hs_self0_known0, hl_self0_known0, hs_edges0, hl_edges0, S0, hm, kk⟩ := h
    have hu := hu_of hr
    unfold m_Gates_gate_rows at hm
    refine ⟨_, (pss_one (ps_ret (pe_lc (own := [("k", 2)]) rfl sc_Gates_gate_rows.nd (pi_list (pe_meth (pv 0) T.cl_Gates T.h_Gates_cone (ok_Gates_cone T) (hr.mono (by decide)) T.b_Gates_cone .nil pass0 (pa_cons (pv 1) pa_nil))) (blkOk_by (own := [("k", 2)]) (N := ["self", "edges", "k"]) (sc := defScope s_Gates_gate_rows) (by decide +kernel)) (fun _ _ _ _ _ => (pg_name (i := 2) sc_Gates_gate_rows.nd rfl (Or.inl rfl))) (fun _ _ _ _ _ => (pts_one (pt_cmpR oS_eq (pe_ix (ix_tupK K) (pe_ix (ix_listK K) (pe_fldK K (pv 0) rfl) (pv 2) (fun _ _ => rfl)) pe_int (fun _ _ => rfl)) pe_str (nomark _)))) (fun _ _ _ _ _ => (pv 2))))), ?_⟩
    revert hm; refine bndI fun y1 e2 hm => ?_
    refine ⟨_, rfl, _, _, _, rfl, (S0.bor (Same.refl _) (fun _ q => List.mem_append_right _ q) _ _ hs_self0), fl_Gates_no_cone, _, rfl, F0, ([] ++ R), a_self0, dx_self0, x_self0, a_self0_rows0, v_self0_rows0, a_self0_known0, v_self0_known0, a_edges0, v_edges0, x_edges0, _, rfl, (S0.ovR (Same.refl _) (fun _ q => List.mem_append_right _ q) _ _ hs_self0), (SqL.mono hs_self0_rows0 (S0.ovR (Same.refl _) (fun _ q => List.mem_append_right _ q))), hl_self0_rows0, (S0.ovR (Same.refl _) (fun _ q => List.mem_append_right _ q) _ _ hs_self0_known0), hl_self0_known0, (SqL.mono hs_edges0 (S0.ovR (Same.refl _) (fun _ q => List.mem_append_right _ q))), hl_edges0, S0, e2, fun F3 H4 a7 v8 s5 S6 hl9 => ?_⟩
    have S10 : Sta F3 ([(a7, HO.lst v8)] ++ R) _ := S6
    revert hm; refine grdI fun g25 hm => ?_
    revert hm; refine bndI fun y45 e11 hm => ?_
    refine ⟨_, rfl, ⟨_, (SqL.of (S10.get 0 rfl))⟩, fun a23 np24 => lc_list (K := K) (a := a7) (xs := v8) (fun i H2 => ∃ (F16 : Hp) (v17 : List V) (acc18 : List Int) (r12 : List Int), Same F3 F16 ∧ Sta F16 ([(a23, HO.lst v17), (a7, HO.lst v8)] ++ R) H2 ∧ LR (rInt F16) v17 acc18 ∧ acc18.length ≤ i ∧ lcO (fun x15 => (atI x_self0.rows x15).bind fun y34 =>
      (kStr y34 (0 : Int)).bind fun y41 =>
      if (decide (y41 = ("both" : Str))) = true then (some (some x15)) else some none) (List.drop i y1) = some r12 ∧ y45 = acc18 ++ r12) ⟨F3, [], [], _, Same.refl _, S10.new np24 _, trivial, Nat.le_refl _, e11, rfl⟩ (by rintro i H2 _ ⟨F16, v17, acc18, r12, s19, S20, hl21, hn22, hr13, hy14⟩; exact (SqL.of (S20.get 1 rfl))) ?_ ?_⟩
    clear S6
    · rintro i v26 H2 hi ⟨F16, v17, acc18, r12, s19, S20, hl21, hn22, hr13, hy14⟩
      obtain ⟨x15, hx27, rx28⟩ := LR.getV hl9 hi
      rw [drop_cons hx27] at hr13
      revert hr13; refine lcI fun y29 r30 hm hr32 hc33 => ?_
      obtain rfl := rInt_e rx28
      refine ⟨rfl, ?_⟩
      revert hm; refine bndI fun y34 e35 hm => ?_
      obtain ⟨v36, ev37, rv38⟩ := LR.atI hl_self0_rows0 e35
      obtain ⟨a39, rfl, h40⟩ := rv38
      revert hm; refine bndI fun y41 e42 hm => ?_
      refine ⟨_, rfl, _, _, _, _, _, rfl, (S20.bor (s5.trans s19) (fun _ q => List.mem_append_right _ q) _ _ hs_self0), T.cl_Gates, T.n_Gates_rows, fl_Gates_rows, _, rfl, _, _, _, _, rfl, rfl, (SqL.mono hs_self0_rows0 (S20.bor (s5.trans s19) (fun _ q => List.mem_append_right _ q))), ev37, _, _, _, _, rfl, rfl, (SqT.of (S20.sub _ _ ((s5.trans s19) _ _ h40))), (kStr_at e42), _, _, rfl, rfl, _, rfl, ?_⟩
      by_cases c43 : (decide (y41 = ("both" : Str))) = true
      · revert hm; refine ifTI c43 fun hm => ?_
        refine goT c43 ?_
        refine ⟨_, rfl, ?_⟩
        obtain rfl := Option.some.inj hm
        have hlt : v17.length < 16777216 := by rw [LR.length hl21]; have := (List.getElem?_eq_some_iff.mp hx27).1; have := of_decide_eq_true g25; omega
        have S44 : Sta F16 ([(a23, HO.lst (v17 ++ [V.int x15])), (a7, HO.lst v8)] ++ R) _ := S20.set 0 rfl _
        exact ⟨_, (S20.get 0 rfl), hlt, F16, _, (acc18 ++ [x15]), r30, s19, S44, LR.snoc hl21 rfl, by rw [List.length_append]; exact Nat.succ_le_succ hn22, hr32, by rw [List.append_assoc]; exact hy14.trans (congrArg (acc18 ++ ·) hc33)⟩
      · revert hm; refine ifFI c43 fun hm => ?_
        refine goF c43 ?_
        obtain rfl := Option.some.inj hm
        exact ⟨F16, _, acc18, r30, s19, S20, hl21, Nat.le_succ_of_le hn22, hr32, hy14.trans (congrArg (acc18 ++ ·) hc33)⟩
    rintro H2 ⟨F16, v17, acc18, r12, s19, S20, hl21, hn22, hr13, hy14⟩
    rw [LR.dropEnd hl9] at hr13
    obtain rfl := Option.some.inj hr13
    rw [List.append_nil] at hy14
    subst hy14
    have S46 : Sta F16 ([(a23, HO.lst v17), (a7, HO.lst v8)] ++ R) _ := S20
    obtain rfl := Option.some.inj hm
    have S47 : Sta F16 ([(a23, HO.lst v17)] ++ R) _ := S46.pick [0] (by decide) rfl
    exact kk _ _ a23 v17 (s5.trans s19) S47 hl21

def sp_Encoding_literal (T : Txt K mg) : Sp := fun vs H Q _ => ∃ (F0 : Hp) (R : Own) (a_self0 : Addr) (dx_self0 : Addr) (x_self0 : M_Encoding) (a_self0_letters0 : Addr) (v_self0_letters0 : List (Key × V)) (a_self0_clauses0 : Addr) (v_self0_clauses0 : List V) (a_self0_gates0 : Addr) (dx_self0_gates0 : Addr) (a_self0_gates0_rows0 : Addr) (v_self0_gates0_rows0 : List V) (a_self0_gates0_known0 : Addr) (v_self0_gates0_known0 : List (List Key × V)) (x_edge0 : Int) (r : Int),
  vs = [V.ref a_self0, V.int x_edge0] ∧ (ov F0 R) a_self0 = some (HO.ins T.a_Encoding dx_self0 (fl_Encoding (V.ref a_self0_letters0) (V.ref a_self0_clauses0) (V.ref a_self0_gates0))) ∧ (ov F0 R) a_self0_letters0 = some (HO.dK v_self0_letters0) ∧ KR Sum.inl (rInt F0) v_self0_letters0 x_self0.letters ∧ SqL K (ov F0 R) a_self0_clauses0 v_self0_clauses0 ∧ LR ((rVT K rInt) F0) v_self0_clauses0 x_self0.clauses ∧ (ov F0 R) a_self0_gates0 = some (HO.ins T.a_Gates dx_self0_gates0 (fl_Gates (V.ref a_self0_gates0_rows0) (V.ref a_self0_gates0_known0))) ∧ SqL K (ov F0 R) a_self0_gates0_rows0 v_self0_gates0_rows0 ∧ LR (rKT F0) v_self0_gates0_rows0 x_self0.gates.rows ∧ (ov F0 R) a_self0_gates0_known0 = some (HO.dT v_self0_gates0_known0) ∧ KR id (rInt F0) v_self0_gates0_known0 x_self0.gates.known ∧ Sta F0 ([] ++ R) H ∧ m_Encoding_literal x_self0 x_edge0 = some r ∧ Q (V.int r) H

theorem ok_Encoding_literal (T : Txt K mg) : FnOk P w K mg base CX0 1 T.a_Encoding_literal T.d_Encoding_literal ["self", "edge"] (sp_Encoding_literal T) := by
  refine T.F_Encoding_literal.ok sc_Encoding_literal (fun vs H Q E h => ?_) (fun cdv A outer s H vs Q E hr h => ?_)
  · obtain ⟨_, _, _, _, _, _, _, _, _, _, _, _, _, _, _, _, _, rfl, _⟩ := h
    rfl
  · obtain ⟨F0, R, a_self0, dx_self0, x_self0, a_self0_letters0, v_self0_letters0, a_self0_clauses0, v_self0_clauses0, a_self0_gates0, dx_self0_gates0, a_self0_gates0_rows0, v_self0_gates0_rows0, a_self0_gates0_known0, v_self0_gates0_known0, x_edge0, r, rfl, hs_self0, hs_self0_letters0, hl_self0_letters0, hs_self0_clauses0, hl_self0_clauses0, hs_self0_gates0, hs_self0_gates0_rows0, hl_self0_gates0_rows0, hs_self0_gates0_known0, hl_self0_gates0_known0, S0, hm, kk⟩ := h
    have hu := hu_of hr
    unfold m_Encoding_literal at hm
    refine ⟨_, (pss_cons (ps_set (i := 2) sc_Encoding_literal.nd rfl (Or.inl rfl) (pe_op op_fdiv (pv 1) pe_int)) (pss_cons (ps_set (i := 3) sc_Encoding_literal.nd rfl (Or.inl rfl) (pe_ix ix_list (pe_fld (pe_fld (pv 0) rfl) rfl) (pv 2) (fun _ _ => rfl))) (pss_cons (ps_set (i := 4) sc_Encoding_literal.nd rfl (Or.inl rfl) (pe_ix ix_tup (pv 3) pe_int (fun _ _ => rfl))) (C8.pss_cut (ps_if (pt_cmpR oS_eq (pe_ix ix_tup (pv 3) pe_int (fun _ _ => rfl)) pe_str (nomark _)) (pss_one (ps_set (i := 4) sc_Encoding_literal.nd rfl (Or.inl rfl) (pe_dget hu (pe_fld (pv 0) rfl) (pv 2) (fun _ _ => rfl)))) pss_nil) (pss_cons (ps_if (pt_cmpR oI_eq (pe_op op_and (pv 1) pe_int) pe_int (nomark _)) (pss_one (ps_ret (pe_un un_neg (pv 4)))) pss_nil) (pss_one (ps_ret (pv 4)))))))), ?_⟩
    refine seqI fun N1 hN2 => ?_
    refine ⟨_, rfl, _, _, rfl, rfl, ⟨by decide, by decide⟩, ?_⟩
    refine hN2 _ _ ?_
    refine seqI fun N3 hN4 => ?_
    revert hm; refine bndI fun y5 e6 hm => ?_
    obtain ⟨v7, ev8, rv9⟩ := LR.atI hl_self0_gates0_rows0 e6
    obtain ⟨a10, rfl, h11⟩ := rv9
    refine ⟨_, rfl, _, _, _, _, _, rfl, (S0.bor (Same.refl _) (fun _ q => List.mem_append_right _ q) _ _ hs_self0), T.cl_Encoding, T.n_Encoding_gates, fl_Encoding_gates, _, _, _, _, _, rfl, (S0.bor (Same.refl _) (fun _ q => List.mem_append_right _ q) _ _ hs_self0_gates0), T.cl_Gates, T.n_Gates_rows, fl_Gates_rows, _, rfl, _, _, _, _, rfl, rfl, (SqL.mono hs_self0_gates0_rows0 (S0.bor (Same.refl _) (fun _ q => List.mem_append_right _ q))), ev8, ?_⟩
    refine hN4 _ _ ?_
    refine seqI fun N12 hN13 => ?_
    revert hm; refine bndI fun y14 e15 hm => ?_
    refine ⟨_, rfl, _, _, _, _, rfl, rfl, (SqT.of (S0.sub _ _ ((Same.refl _) _ _ h11))), (kInt_at e15), ?_⟩
    refine hN13 _ _ ?_
    revert hm; refine bndI fun y19 e20 hm => ?_
    refine ⟨fun σ H2 => ∃ (F16 : Hp), σ = [some (V.ref a_self0), some (V.int x_edge0), some (V.int (x_edge0 / (2 : Int))), some (V.ref a10), some (V.int y19)] ∧ H = H2 ∧ Same F0 F16 ∧ Sta F16 ([] ++ R) H2, ?_, ?_⟩
    · clear hm; have hm := e20; clear e20
      revert hm; refine bndI fun y21 e22 hm => ?_
      refine ⟨_, rfl, _, _, _, _, rfl, rfl, (SqT.of (S0.sub _ _ ((Same.refl _) _ _ h11))), (kStr_at e22), _, _, rfl, rfl, _, rfl, ?_⟩
      by_cases c23 : (decide (y21 = ("both" : Str))) = true
      · revert hm; refine ifTI c23 fun hm => ?_
        refine goT c23 ?_
        revert hm; refine bndI fun y24 e25 hm => ?_
        obtain ⟨v26, ev27, rv28⟩ := KR.get hl_self0_letters0 kinj_int e25
        obtain rfl := rInt_e rv28
        refine ⟨_, rfl, _, _, _, _, _, rfl, (S0.bor (Same.refl _) (fun _ q => List.mem_append_right _ q) _ _ hs_self0), T.cl_Encoding, T.n_Encoding_letters, fl_Encoding_letters, _, rfl, _, _, rfl, (dget_of (DGet.k (k := Sum.inl (x_edge0 / (2 : Int))) (S0.bor (Same.refl _) (fun _ q => List.mem_append_right _ q) _ _ hs_self0_letters0)) ev27), ?_⟩
        obtain rfl := Option.some.inj hm
        exact ⟨F0, rfl, rfl, (Same.refl _), S0⟩
      · revert hm; refine ifFI c23 fun hm => ?_
        refine goF c23 ?_
        obtain rfl := Option.some.inj hm
        exact ⟨F0, rfl, rfl, (Same.refl _), S0⟩
    · rintro σ H2 ⟨F16, rfl, rfl, s17, S18⟩
      refine seqI fun N29 hN30 => ?_
      refine ⟨_, rfl, _, _, rfl, rfl, _, _, rfl, rfl, _, rfl, ?_⟩
      by_cases c31 : (decide ((Builtin.bitAnd x_edge0 (1 : Int)) = (1 : Int))) = true
      · revert hm; refine ifTI c31 fun hm => ?_
        refine goT c31 ?_
        refine ⟨_, rfl, _, rfl, ?_⟩
        obtain rfl := Option.some.inj hm
        exact kk
      · revert hm; refine ifFI c31 fun hm => ?_
        refine goF c31 ?_
        refine hN30 _ _ ?_
        refine ⟨_, rfl, ?_⟩
        obtain rfl := Option.some.inj hm
        exact kk

def sp_normal_clause (T : Txt K mg) : Sp := fun vs H Q _ => ∃ (F0 : Hp) (R : Own) (a_literals0 : Addr) (v_literals0 : List V) (x_literals0 : (List Int)) (r : (Option (List Int))),
  vs = [V.ref a_literals0] ∧ SqL K (ov F0 R) a_literals0 v_literals0 ∧ LR (rInt F0) v_literals0 x_literals0 ∧ Sta F0 ([] ++ R) H ∧ m_normal_clause x_literals0 = some r ∧ ∀ (F1 : Hp) (H1 : Hp) (v_ret0p : V), Same F0 F1 → Sta F1 ([] ++ R) H1 → (rOpt (rVT K rInt)) F1 v_ret0p r → Q (v_ret0p) H1

theorem ok_normal_clause (T : Txt K mg) : FnOk P w K mg base CX0 1 T.a_normal_clause T.d_normal_clause ["literals"] (sp_normal_clause T) := by
  refine T.F_normal_clause.ok sc_normal_clause (fun vs H Q E h => ?_) (fun cdv A outer s H vs Q E hr h => ?_)
  · obtain ⟨_, _, _, _, _, _, rfl, _⟩ := h
    rfl
  · obtain ⟨F0, R, a_literals0, v_literals0, x_literals0, r, rfl, hs_literals0, hl_literals0, S0, hm, kk⟩ := h
    have hu := hu_of hr
    unfold m_normal_clause at hm
    refine ⟨_, (pss_cons (ps_set (i := 1) sc_normal_clause.nd rfl (Or.inl rfl) (pe_tupleOf (by rfl) T.z_tuple (pe_sortSet (by rfl) T.z_sorted (by rfl) T.z_set (pv 0)))) (pss_cons (ps_if (pt_pure (PW.pt (pw_and (pt_truth (pv 1) (by intro _; rfl)) (pw_and1 (pt_cmpR op_lt (pe_ix ix_tup (pv 1) pe_int (fun _ _ => rfl)) pe_int (nomark _)))))) (pss_one (ps_for PassesOwn.never rfl (pi_tup (pv 1)) (pg_name (i := 2) sc_normal_clause.nd rfl (Or.inl rfl)) (pss_one (ps_if (pt_cmpR (op_in_seq) (pe_un un_neg (pv 2)) (pv 1) (by rfl)) (pss_one (ps_ret pe_non)) pss_nil)))) pss_nil) (pss_one (ps_ret (pv 1))))), ?_⟩
    refine seqI fun N1 hN2 => ?_
    revert hm; refine grdI fun g3 hm => ?_
    refine ⟨_, rfl, _, x_literals0, rfl, (by rw [← lr_map hl_literals0]; exact (SqL.mono hs_literals0 (S0.bor (Same.refl _) (fun _ q => List.mem_append_right _ q)))), (of_decide_eq_true g3), ?_⟩
    intro ys4 a5 pw7 pm6 np8
    obtain rfl := mset_eq pw7 pm6
    have hl9 : LR (rInt F0) ((mset x_literals0).map V.int) (mset x_literals0) := lr_ints _
    have S10 : Sta F0 ([(a5, HO.lst ((mset x_literals0).map V.int))] ++ R) _ := S0.new np8 _
    refine .inl ⟨_, _, rfl, (SqL.of (S10.get 0 rfl)), ?_⟩
    intro a11 np12
    obtain ⟨F13, s14, S15, h16⟩ : ∃ F', Same F0 F' ∧ Sta F' ([(a5, HO.lst ((mset x_literals0).map V.int))] ++ R) _ ∧ F' a11 = some (HO.tup ((mset x_literals0).map V.int)) := ⟨_, S10.sameF np12 _, S10.newF np12 _, upd_same⟩
    have hl17 : LR (rInt F13) ((mset x_literals0).map V.int) (mset x_literals0) := hl9.mono s14
    refine hN2 _ _ ?_
    refine seqI fun N18 hN19 => ?_
    revert hm; refine bndI fun b20 e21 hm => ?_
    refine ⟨b20, ?_, ?_⟩
    · clear hm
      have hm := e21
      clear e21
      refine ⟨_, rfl, ((!(mset x_literals0).isEmpty)), (.inr (.inl ⟨_, (SqT.mono (SqT.of h16) ((Same.refl _).trans S15.sub)), by rw [LR.isEmpty hl17]⟩)), ?_⟩
      by_cases c22 : (!(mset x_literals0).isEmpty) = true
      · revert hm; refine ifTI c22 fun hm => ?_
        refine goT c22 ?_
        revert hm; refine bndI fun y23 e24 hm => ?_
        obtain ⟨v25, ev26, rv27⟩ := LR.atI hl17 e24
        obtain rfl := rInt_e rv27
        refine ⟨_, rfl, _, _, _, _, rfl, rfl, (SqT.mono (SqT.of h16) ((Same.refl _).trans S15.sub)), ev26, _, _, rfl, rfl, _, rfl, ?_⟩
        exact ⟨Option.some.inj hm, rfl⟩
      · revert hm; refine ifFI c22 fun hm => ?_
        exact goF c22 ⟨Option.some.inj hm, rfl⟩
    by_cases c28 : b20 = true
    · revert hm; refine ifTI c28 fun hm => ?_
      refine goT c28 ?_
      revert hm; refine bndI fun y29 e30 hm31 => ?_
      refine ⟨_, rfl, _, rfl, ⟨_, (SqT.mono (SqT.of h16) ((Same.refl _).trans S15.sub))⟩, for_tup (K := K) (a := a11) (xs := ((mset x_literals0).map V.int)) (fun i σ H2 => ∃ (st1 : Unit) (F44 : Hp) (o47 : Option V), σ = [some (V.ref a_literals0), some (V.ref a11), o47] ∧ Same F13 F44 ∧ Sta F44 ([(a5, HO.lst ((mset x_literals0).map V.int))] ++ R) H2 ∧ m_normal_clause_l1 x_literals0 (List.drop i (mset x_literals0)) st1 = some y29) ⟨(), F13, _, rfl, (Same.refl _), S15, e30⟩ (by rintro i σ H2 _ ⟨st1, F44, o47, rfl, s45, S46, _⟩; exact (SqT.mono (SqT.of h16) (s45.trans S46.sub))) ?_ ?_⟩
      · rintro i v49 σ H2 hi ⟨st1, F44, o47, rfl, s45, S46, hm⟩
        obtain ⟨x48, hx50, rx51⟩ := LR.getV hl17 hi
        rw [drop_cons hx50, m_normal_clause_l1] at hm
        obtain rfl := rInt_e rx51
        refine ⟨_, rfl, _, rfl, _, rfl, _, _, rfl, (.inr (SqT.mono (SqT.of h16) (s45.trans S46.sub))), rfl, (ints_in (-x48) (hl17.mono s45)).2, ?_⟩
        rw [show _ = (decide ((-x48) ∈ (mset x_literals0))) from (ints_in (-x48) (hl17.mono s45)).1]
        refine ⟨_, rfl, ?_⟩
        by_cases c52 : (decide ((-x48) ∈ (mset x_literals0))) = true
        · revert hm; refine ifTI c52 fun hm => ?_
          refine goT c52 ?_
          obtain rfl := Option.some.inj hm
          have hm := hm31
          obtain rfl := Option.some.inj hm
          have S53 : Sta F44 ([] ++ R) _ := S46.pick [] (by decide) rfl
          exact kk _ _ V.non (s14.trans s45) S53 rfl
        · revert hm; refine ifFI c52 fun hm => ?_
          refine goF c52 ?_
          exact ⟨(), F44, _, rfl, s45, S46, hm⟩
      · rintro σ H2 ⟨st1, F44, o47, rfl, s45, S46, hm⟩
        rw [LR.dropEnd hl17, m_normal_clause_l1] at hm
        obtain rfl := Option.some.inj hm
        have hm := hm31
        refine hN19 _ _ ?_
        refine ⟨_, rfl, ?_⟩
        obtain rfl := Option.some.inj hm
        have S54 : Sta F44 ([] ++ R) _ := S46.pick [] (by decide) rfl
        exact kk _ _ (V.ref a11) (s14.trans s45) S54 (rOpt_some ⟨_, _, rfl, SqT.mono (SqT.of h16) s45, (hl17.mono s45)⟩)
    · revert hm; refine ifFI c28 fun hm => ?_
      refine goF c28 ?_
      refine hN19 _ _ ?_
      refine ⟨_, rfl, ?_⟩
      obtain rfl := Option.some.inj hm
      have S55 : Sta F13 ([] ++ R) _ := S15.pick [] (by decide) rfl
      exact kk _ _ (V.ref a11) s14 S55 (rOpt_some ⟨_, _, rfl, SqT.mono (SqT.of h16) (Same.refl _), hl17⟩)

def sp_Encoding_init (T : Txt K mg) : Sp := fun vs H Q _ => ∃ (F0 : Hp) (R : Own) (a_self0 : Addr) (dx_self0 : Addr) (a_gates0 : Addr) (dx_gates0 : Addr) (x_gates0 : M_Gates) (a_gates0_rows0 : Addr) (v_gates0_rows0 : List V) (a_gates0_known0 : Addr) (v_gates0_known0 : List (List Key × V)) (a_edges0 : Addr) (v_edges0 : List V) (x_edges0 : (List Int)) (x_first0 : Int) (r : M_Encoding),
  vs = [V.ref a_self0, V.ref a_gates0, V.ref a_edges0, V.int x_first0] ∧ LR (rKT F0) v_gates0_rows0 x_gates0.rows ∧ KR id (rInt F0) v_gates0_known0 x_gates0.known ∧ SqL K (ov F0 R) a_edges0 v_edges0 ∧ LR (rInt F0) v_edges0 x_edges0 ∧ Sta F0 ([(a_self0, HO.ins T.a_Encoding dx_self0 ([])), (a_gates0, HO.ins T.a_Gates dx_gates0 (fl_Gates (V.ref a_gates0_rows0) (V.ref a_gates0_known0))), (a_gates0_rows0, HO.lst v_gates0_rows0), (a_gates0_known0, HO.dT v_gates0_known0)] ++ R) H ∧ m_Encoding_init x_gates0 x_edges0 x_first0 = some r ∧ ∀ (F1 : Hp) (H1 : Hp) (a_self0p_letters0 : Addr) (v_self0p_letters0 : List (Key × V)) (a_self0p_clauses0 : Addr) (v_self0p_clauses0 : List V), Same F0 F1 → Sta F1 ([(a_self0, HO.ins T.a_Encoding dx_self0 (fl_Encoding (V.ref a_self0p_letters0) (V.ref a_self0p_clauses0) (V.ref a_gates0))), (a_self0p_letters0, HO.dK v_self0p_letters0), (a_self0p_clauses0, HO.lst v_self0p_clauses0), (a_gates0, HO.ins T.a_Gates dx_gates0 (fl_Gates (V.ref a_gates0_rows0) (V.ref a_gates0_known0))), (a_gates0_rows0, HO.lst v_gates0_rows0), (a_gates0_known0, HO.dT v_gates0_known0)] ++ R) H1 → KR Sum.inl (rInt F1) v_self0p_letters0 r.letters → LR ((rVT K rInt) F1) v_self0p_clauses0 r.clauses → Q (V.non) H1

theorem ok_Encoding_init (T : Txt K mg) : FnOk P w K mg base CX0 3 T.a_Encoding_init T.d_Encoding_init ["self", "gates", "edges", "first"] (sp_Encoding_init T) := by
  refine T.F_Encoding_init.ok sc_Encoding_init (fun vs H Q E h => ?_) (fun cdv A outer s H vs Q E hr h => ?_)
  · obtain ⟨_, _, _, _, _, _, _, _, _, _, _, _, _, _, _, _, rfl, _⟩ := h
    rfl
  · obtain ⟨F0, R, a_self0, dx_self0, a_gates0, dx_gates0, x_gates0, a_gates0_rows0, v_gates0_rows0, a_gates0_known0, v_gates0_known0, a_edges0, v_edges0, x_edges0, x_first0, r, rfl, hl_gates0_rows0, hl_gates0_known0, hs_edges0, hl_edges0, S0, hm, kk⟩ := h
    have hu := hu_of hr
    unfold m_Encoding_init at hm
    refine ⟨_, (pss_cons (ps_fld (pv 0) pe_dnewK rfl) (pss_cons (ps_fld (pv 0) (pe_lst pa_nil) rfl) (pss_cons (ps_fld (pv 0) (pv 1) rfl) (pss_one (ps_for PassesOwn.never rfl (pi_list (pe_meth (pv 1) T.cl_Gates T.h_Gates_gate_rows (ok_Gates_gate_rows T) (hr.mono (by decide)) T.b_Gates_gate_rows .nil pass0 (pa_cons (pv 2) pa_nil))) (pg_name (i := 4) sc_Encoding_init.nd rfl (Or.inl rfl)) (pss_cons (ps_set (i := 5) sc_Encoding_init.nd rfl (Or.inl rfl) (pe_ix ix_list (pe_fld (pv 1) rfl) (pv 4) (fun _ _ => rfl))) (pss_cons (ps_set (i := 6) sc_Encoding_init.nd rfl (Or.inl rfl) (pe_meth (pv 0) T.cl_Encoding T.h_Encoding_literal (ok_Encoding_literal T) (hr.mono (by decide)) T.b_Encoding_literal .nil pass0 (pa_cons (pe_ix ix_tup (pv 5) pe_int (fun _ _ => rfl)) pa_nil))) (pss_cons (ps_set (i := 7) sc_Encoding_init.nd rfl (Or.inl rfl) (pe_meth (pv 0) T.cl_Encoding T.h_Encoding_literal (ok_Encoding_literal T) (hr.mono (by decide)) T.b_Encoding_literal .nil pass0 (pa_cons (pe_ix ix_tup (pv 5) pe_int (fun _ _ => rfl)) pa_nil))) (pss_cons (ps_set (i := 8) sc_Encoding_init.nd rfl (Or.inl rfl) (pe_op op_add (pv 3) (pe_callB call_lenD (by rfl) T.z_len PySem.boot_len (pa_cons (pe_fld (pv 0) rfl) pa_nil)))) (pss_cons (ps_dput hu (pe_fld (pv 0) rfl) (pv 4) (pv 8) rfl) (pss_cons (ps_expr (pe_bm PySem.F.plainAttrs_list PySem.F.slot_list_append PySem.F.type_list_append mt_append (pe_fld (pv 0) rfl) (pa_cons (pe_call (ok_normal_clause T) (hr.mono (by decide)) rfl T.g_normal_clause T.F_normal_clause.kp T.b_normal_clause .nil pass0 (pa_cons (pe_lst (pa_cons (pe_un un_neg (pv 8)) (pa_cons (pv 6) pa_nil))) pa_nil)) pa_nil))) (pss_cons (ps_expr (pe_bm PySem.F.plainAttrs_list PySem.F.slot_list_append PySem.F.type_list_append mt_append (pe_fld (pv 0) rfl) (pa_cons (pe_call (ok_normal_clause T) (hr.mono (by decide)) rfl T.g_normal_clause T.F_normal_clause.kp T.b_normal_clause .nil pass0 (pa_cons (pe_lst (pa_cons (pe_un un_neg (pv 8)) (pa_cons (pv 7) pa_nil))) pa_nil)) pa_nil))) (pss_one (ps_expr (pe_bm PySem.F.plainAttrs_list PySem.F.slot_list_append PySem.F.type_list_append mt_append (pe_fld (pv 0) rfl) (pa_cons (pe_call (ok_normal_clause T) (hr.mono (by decide)) rfl T.g_normal_clause T.F_normal_clause.kp T.b_normal_clause .nil pass0 (pa_cons (pe_lst (pa_cons (pv 8) (pa_cons (pe_un un_neg (pv 6)) (pa_cons (pe_un un_neg (pv 7)) pa_nil)))) pa_nil)) pa_nil)))))))))))))))), ?_⟩
    refine seqI fun N1 hN2 => ?_
    intro a3 np4
    have hl5 : KR Sum.inl (rInt F0) ([] : List (Key × V)) ([] : (List (Int × Int))) := trivial
    have S6 : Sta F0 ([(a3, HO.dK []), (a_self0, HO.ins T.a_Encoding dx_self0 ([])), (a_gates0, HO.ins T.a_Gates dx_gates0 (fl_Gates (V.ref a_gates0_rows0) (V.ref a_gates0_known0))), (a_gates0_rows0, HO.lst v_gates0_rows0), (a_gates0_known0, HO.dT v_gates0_known0)] ++ R) _ := S0.new np4 _
    refine ⟨_, rfl, _, _, _, _, rfl, (S6.get 1 rfl), T.cl_Encoding, T.n_Encoding_letters, (Nat.lt_of_le_of_lt (Nat.le_refl 0) (by decide)), ?_⟩
    clear S0
    have S7 : Sta F0 ([(a3, HO.dK []), (a_self0, HO.ins T.a_Encoding dx_self0 (putF "letters" (V.ref a3) ([]))), (a_gates0, HO.ins T.a_Gates dx_gates0 (fl_Gates (V.ref a_gates0_rows0) (V.ref a_gates0_known0))), (a_gates0_rows0, HO.lst v_gates0_rows0), (a_gates0_known0, HO.dT v_gates0_known0)] ++ R) _ := S6.set 1 rfl _
    refine hN2 _ _ ?_
    refine seqI fun N8 hN9 => ?_
    refine ⟨(by show 0 ≤ sizeLine; decide), ?_⟩
    clear S6
    intro a10 np11
    have hl12 : LR ((rVT K rInt) F0) [] ([] : (List (List Int))) := trivial
    have S13 : Sta F0 ([(a10, HO.lst []), (a3, HO.dK []), (a_self0, HO.ins T.a_Encoding dx_self0 (putF "letters" (V.ref a3) ([]))), (a_gates0, HO.ins T.a_Gates dx_gates0 (fl_Gates (V.ref a_gates0_rows0) (V.ref a_gates0_known0))), (a_gates0_rows0, HO.lst v_gates0_rows0), (a_gates0_known0, HO.dT v_gates0_known0)] ++ R) _ := S7.new np11 _
    refine ⟨_, rfl, _, _, _, _, rfl, (S13.get 2 rfl), T.cl_Encoding, T.n_Encoding_clauses, (Nat.lt_of_le_of_lt (fewl (Nat.le_refl 0)) (by decide)), ?_⟩
    clear S7
    have S14 : Sta F0 ([(a10, HO.lst []), (a3, HO.dK []), (a_self0, HO.ins T.a_Encoding dx_self0 (putF "clauses" (V.ref a10) (putF "letters" (V.ref a3) ([])))), (a_gates0, HO.ins T.a_Gates dx_gates0 (fl_Gates (V.ref a_gates0_rows0) (V.ref a_gates0_known0))), (a_gates0_rows0, HO.lst v_gates0_rows0), (a_gates0_known0, HO.dT v_gates0_known0)] ++ R) _ := S13.set 2 rfl _
    refine hN9 _ _ ?_
    refine seqI fun N15 hN16 => ?_
    refine ⟨_, rfl, _, rfl, _, _, _, _, rfl, (S14.get 2 rfl), T.cl_Encoding, T.n_Encoding_gates, (Nat.lt_of_le_of_lt (fewl (fewl (Nat.le_refl 0))) (by decide)), ?_⟩
    clear S13
    have S17 : Sta F0 ([(a10, HO.lst []), (a3, HO.dK []), (a_self0, HO.ins T.a_Encoding dx_self0 (fl_Encoding (V.ref a3) (V.ref a10) (V.ref a_gates0))), (a_gates0, HO.ins T.a_Gates dx_gates0 (fl_Gates (V.ref a_gates0_rows0) (V.ref a_gates0_known0))), (a_gates0_rows0, HO.lst v_gates0_rows0), (a_gates0_known0, HO.dT v_gates0_known0)] ++ R) _ := S14.set 2 rfl _
    refine hN16 _ _ ?_
    revert hm; refine bndI fun y21 e22 hm => ?_
    refine ⟨_, rfl, _, _, _, rfl, (S17.get 3 rfl), fl_Gates_no_gate_rows, _, rfl, F0, ([(a10, HO.lst []), (a3, HO.dK []), (a_self0, HO.ins T.a_Encoding dx_self0 (fl_Encoding (V.ref a3) (V.ref a10) (V.ref a_gates0))), (a_gates0, HO.ins T.a_Gates dx_gates0 (fl_Gates (V.ref a_gates0_rows0) (V.ref a_gates0_known0))), (a_gates0_rows0, HO.lst v_gates0_rows0), (a_gates0_known0, HO.dT v_gates0_known0)] ++ R), a_gates0, dx_gates0, (M_Gates.mk x_gates0.rows x_gates0.known), a_gates0_rows0, v_gates0_rows0, a_gates0_known0, v_gates0_known0, a_edges0, v_edges0, x_edges0, _, rfl, (S17.getO 3 rfl), (SqL.of (S17.getO 4 rfl)), hl_gates0_rows0, (S17.getO 5 rfl), hl_gates0_known0, (SqL.mono hs_edges0 (S17.ovR (Same.refl _) (fun _ q => List.mem_append_right _ q))), hl_edges0, S17, e22, fun F23 H24 a27 v28 s25 S26 hl29 => ?_⟩
    clear S14
    have S30 : Sta F23 ([(a27, HO.lst v28), (a10, HO.lst []), (a3, HO.dK []), (a_self0, HO.ins T.a_Encoding dx_self0 (fl_Encoding (V.ref a3) (V.ref a10) (V.ref a_gates0))), (a_gates0, HO.ins T.a_Gates dx_gates0 (fl_Gates (V.ref a_gates0_rows0) (V.ref a_gates0_known0))), (a_gates0_rows0, HO.lst v_gates0_rows0), (a_gates0_known0, HO.dT v_gates0_known0)] ++ R) _ := S26
    revert hm; refine bndI fun y18 e19 hm20 => ?_
    refine ⟨_, rfl, ⟨_, (SqL.of (S30.get 0 rfl))⟩, for_list (K := K) (a := a27) (xs := v28) (fun i σ H2 => ∃ (st1 : M_Encoding) (F67 : Hp) (a75 : Addr) (v76 : List (Key × V)) (a78 : Addr) (v79 : List V) (o70 : Option V) (o71 : Option V) (o72 : Option V) (o73 : Option V) (o74 : Option V), σ = [some (V.ref a_self0), some (V.ref a_gates0), some (V.ref a_edges0), some (V.int x_first0), o70, o71, o72, o73, o74] ∧ Same F23 F67 ∧ Sta F67 ([(a27, HO.lst v28), (a78, HO.lst v79), (a75, HO.dK v76), (a_self0, HO.ins T.a_Encoding dx_self0 (fl_Encoding (V.ref a75) (V.ref a78) (V.ref a_gates0))), (a_gates0, HO.ins T.a_Gates dx_gates0 (fl_Gates (V.ref a_gates0_rows0) (V.ref a_gates0_known0))), (a_gates0_rows0, HO.lst v_gates0_rows0), (a_gates0_known0, HO.dT v_gates0_known0)] ++ R) H2 ∧ KR Sum.inl (rInt F67) v76 st1.letters ∧ LR ((rVT K rInt) F67) v79 st1.clauses ∧ m_Encoding_init_l1 x_gates0 x_first0 (List.drop i y21) st1 = some y18) ⟨(M_Encoding.mk ([] : (List (Int × Int))) ([] : (List (List Int))) (M_Gates.mk x_gates0.rows x_gates0.known)), F23, a3, [], a10, [], _, _, _, _, _, rfl, (Same.refl _), S30, (KR.mono hl5 s25), (hl12.mono s25), e19⟩ (by rintro i σ H2 _ ⟨st1, F67, a75, v76, a78, v79, o70, o71, o72, o73, o74, rfl, s68, S69, hl77, hl80, _⟩; exact (SqL.of (S69.get 0 rfl))) ?_ ?_⟩
    clear S26
    · rintro i v82 σ H2 hi ⟨st1, F67, a75, v76, a78, v79, o70, o71, o72, o73, o74, rfl, s68, S69, hl77, hl80, hm⟩
      obtain ⟨x81, hx83, rx84⟩ := LR.getV hl29 hi
      rw [drop_cons hx83, m_Encoding_init_l1] at hm
      obtain rfl := rInt_e rx84
      refine seqI fun N85 hN86 => ?_
      revert hm; refine bndI fun y87 e88 hm => ?_
      obtain ⟨v89, ev90, rv91⟩ := LR.atI hl_gates0_rows0 e88
      obtain ⟨a92, rfl, h93⟩ := rv91
      refine ⟨_, rfl, _, _, _, _, _, rfl, (S69.get 4 rfl), T.cl_Gates, T.n_Gates_rows, fl_Gates_rows, _, rfl, _, _, _, _, rfl, rfl, (SqL.of (S69.get 5 rfl)), ev90, ?_⟩
      refine hN86 _ _ ?_
      refine seqI fun N94 hN95 => ?_
      revert hm; refine bndI fun y96 e97 hm => ?_
      revert hm; refine bndI fun y98 e99 hm => ?_
      refine ⟨_, rfl, _, _, _, rfl, (S69.get 3 rfl), fl_Encoding_no_literal, _, rfl, _, _, _, _, rfl, rfl, (SqT.of (S69.sub _ _ ((s25.trans s68) _ _ h93))), (kInt_at e97), F67, ([(a27, HO.lst v28), (a78, HO.lst v79), (a75, HO.dK v76), (a_self0, HO.ins T.a_Encoding dx_self0 (fl_Encoding (V.ref a75) (V.ref a78) (V.ref a_gates0))), (a_gates0, HO.ins T.a_Gates dx_gates0 (fl_Gates (V.ref a_gates0_rows0) (V.ref a_gates0_known0))), (a_gates0_rows0, HO.lst v_gates0_rows0), (a_gates0_known0, HO.dT v_gates0_known0)] ++ R), a_self0, dx_self0, (M_Encoding.mk st1.letters st1.clauses (M_Gates.mk x_gates0.rows x_gates0.known)), a75, v76, a78, v79, a_gates0, dx_gates0, a_gates0_rows0, v_gates0_rows0, a_gates0_known0, v_gates0_known0, y96, _, rfl, (S69.getO 3 rfl), (S69.getO 2 rfl), hl77, (SqL.of (S69.getO 1 rfl)), hl80, (S69.getO 4 rfl), (SqL.of (S69.getO 5 rfl)), (hl_gates0_rows0.mono (s25.trans s68)), (S69.getO 6 rfl), (KR.mono hl_gates0_known0 (s25.trans s68)), S69, e99, ?_⟩
      refine hN95 _ _ ?_
      refine seqI fun N100 hN101 => ?_
      revert hm; refine bndI fun y102 e103 hm => ?_
      revert hm; refine bndI fun y104 e105 hm => ?_
      refine ⟨_, rfl, _, _, _, rfl, (S69.get 3 rfl), fl_Encoding_no_literal, _, rfl, _, _, _, _, rfl, rfl, (SqT.of (S69.sub _ _ ((s25.trans s68) _ _ h93))), (kInt_at e103), F67, ([(a27, HO.lst v28), (a78, HO.lst v79), (a75, HO.dK v76), (a_self0, HO.ins T.a_Encoding dx_self0 (fl_Encoding (V.ref a75) (V.ref a78) (V.ref a_gates0))), (a_gates0, HO.ins T.a_Gates dx_gates0 (fl_Gates (V.ref a_gates0_rows0) (V.ref a_gates0_known0))), (a_gates0_rows0, HO.lst v_gates0_rows0), (a_gates0_known0, HO.dT v_gates0_known0)] ++ R), a_self0, dx_self0, (M_Encoding.mk st1.letters st1.clauses (M_Gates.mk x_gates0.rows x_gates0.known)), a75, v76, a78, v79, a_gates0, dx_gates0, a_gates0_rows0, v_gates0_rows0, a_gates0_known0, v_gates0_known0, y102, _, rfl, (S69.getO 3 rfl), (S69.getO 2 rfl), hl77, (SqL.of (S69.getO 1 rfl)), hl80, (S69.getO 4 rfl), (SqL.of (S69.getO 5 rfl)), (hl_gates0_rows0.mono (s25.trans s68)), (S69.getO 6 rfl), (KR.mono hl_gates0_known0 (s25.trans s68)), S69, e105, ?_⟩
      refine hN101 _ _ ?_
      refine seqI fun N106 hN107 => ?_
      refine ⟨_, rfl, _, rfl, _, _, _, _, _, rfl, (S69.get 3 rfl), T.cl_Encoding, T.n_Encoding_letters, fl_Encoding_letters, _, _, rfl, (S69.get 2 rfl), ?_⟩
      rw [KR.length hl77]
      refine ⟨_, _, rfl, rfl, ?_⟩
      refine hN107 _ _ ?_
      refine seqI fun N108 hN109 => ?_
      revert hm; refine grdI fun g110 hm => ?_
      refine ⟨_, rfl, _, rfl, _, _, _, _, _, rfl, (S69.get 3 rfl), T.cl_Encoding, T.n_Encoding_letters, fl_Encoding_letters, _, rfl, _, _, rfl, (DPut.k (k := Sum.inl x81) (S69.get 2 rfl) (by rw [KR.length hl77]; exact of_decide_eq_true g110)), ?_⟩
      have hl111 : KR Sum.inl (rInt F67) (putK v76 (Sum.inl x81) (V.int (x_first0 + (st1.letters.length : Int)))) (mput st1.letters x81 (x_first0 + (st1.letters.length : Int))) := KR.put hl77 kinj_int rfl
      have S112 : Sta F67 ([(a27, HO.lst v28), (a78, HO.lst v79), (a75, HO.dK (putK v76 (Sum.inl x81) (V.int (x_first0 + (st1.letters.length : Int))))), (a_self0, HO.ins T.a_Encoding dx_self0 (fl_Encoding (V.ref a75) (V.ref a78) (V.ref a_gates0))), (a_gates0, HO.ins T.a_Gates dx_gates0 (fl_Gates (V.ref a_gates0_rows0) (V.ref a_gates0_known0))), (a_gates0_rows0, HO.lst v_gates0_rows0), (a_gates0_known0, HO.dT v_gates0_known0)] ++ R) _ := S69.set 2 rfl _
      refine hN109 _ _ ?_
      refine seqI fun N113 hN114 => ?_
      refine ⟨_, rfl, _, _, _, _, _, rfl, (S112.get 3 rfl), T.cl_Encoding, T.n_Encoding_clauses, fl_Encoding_clauses, .inl ⟨rfl, _, (SqL.of (S112.get 1 rfl))⟩, _, rfl, _, rfl, _, rfl, (by show 2 ≤ sizeLine; decide), ?_⟩
      clear S69
      intro a115 np116
      have hl117 : LR (rInt F67) [V.int (-(x_first0 + (st1.letters.length : Int))), V.int y98] ([(-(x_first0 + (st1.letters.length : Int))), y98] : (List Int)) := ⟨rfl, rfl, trivial⟩
      have S118 : Sta F67 ([(a115, HO.lst [V.int (-(x_first0 + (st1.letters.length : Int))), V.int y98]), (a27, HO.lst v28), (a78, HO.lst v79), (a75, HO.dK (putK v76 (Sum.inl x81) (V.int (x_first0 + (st1.letters.length : Int))))), (a_self0, HO.ins T.a_Encoding dx_self0 (fl_Encoding (V.ref a75) (V.ref a78) (V.ref a_gates0))), (a_gates0, HO.ins T.a_Gates dx_gates0 (fl_Gates (V.ref a_gates0_rows0) (V.ref a_gates0_known0))), (a_gates0_rows0, HO.lst v_gates0_rows0), (a_gates0_known0, HO.dT v_gates0_known0)] ++ R) _ := S112.new np116 _
      revert hm; refine bndI fun y119 e120 hm => ?_
      refine ⟨F67, ([(a115, HO.lst [V.int (-(x_first0 + (st1.letters.length : Int))), V.int y98]), (a27, HO.lst v28), (a78, HO.lst v79), (a75, HO.dK (putK v76 (Sum.inl x81) (V.int (x_first0 + (st1.letters.length : Int))))), (a_self0, HO.ins T.a_Encoding dx_self0 (fl_Encoding (V.ref a75) (V.ref a78) (V.ref a_gates0))), (a_gates0, HO.ins T.a_Gates dx_gates0 (fl_Gates (V.ref a_gates0_rows0) (V.ref a_gates0_known0))), (a_gates0_rows0, HO.lst v_gates0_rows0), (a_gates0_known0, HO.dT v_gates0_known0)] ++ R), a115, [V.int (-(x_first0 + (st1.letters.length : Int))), V.int y98], ([(-(x_first0 + (st1.letters.length : Int))), y98] : (List Int)), _, rfl, (SqL.of (S118.getO 0 rfl)), hl117, S118, e120, fun F121 H122 v125 s123 S124 p126 => ?_⟩
      clear S112
      have S127 : Sta F121 ([(a115, HO.lst [V.int (-(x_first0 + (st1.letters.length : Int))), V.int y98]), (a27, HO.lst v28), (a78, HO.lst v79), (a75, HO.dK (putK v76 (Sum.inl x81) (V.int (x_first0 + (st1.letters.length : Int))))), (a_self0, HO.ins T.a_Encoding dx_self0 (fl_Encoding (V.ref a75) (V.ref a78) (V.ref a_gates0))), (a_gates0, HO.ins T.a_Gates dx_gates0 (fl_Gates (V.ref a_gates0_rows0) (V.ref a_gates0_known0))), (a_gates0_rows0, HO.lst v_gates0_rows0), (a_gates0_known0, HO.dT v_gates0_known0)] ++ R) _ := S124
      revert hm; refine bndI fun z128 e129 hm => ?_
      revert hm; refine grdI fun g130 hm => ?_
      refine ⟨_, _, _, rfl, rfl, (S127.get 2 rfl), (by rw [LR.length (hl80.mono s123)]; exact of_decide_eq_true g130), ?_⟩
      clear S124
      have hl131 : LR ((rVT K rInt) F121) (v79 ++ [v125]) (st1.clauses ++ [z128]) := LR.snoc (hl80.mono s123) (rOpt_un e129 (MonoR.mono (Same.refl _) p126))
      have S132 : Sta F121 ([(a115, HO.lst [V.int (-(x_first0 + (st1.letters.length : Int))), V.int y98]), (a27, HO.lst v28), (a78, HO.lst (v79 ++ [v125])), (a75, HO.dK (putK v76 (Sum.inl x81) (V.int (x_first0 + (st1.letters.length : Int))))), (a_self0, HO.ins T.a_Encoding dx_self0 (fl_Encoding (V.ref a75) (V.ref a78) (V.ref a_gates0))), (a_gates0, HO.ins T.a_Gates dx_gates0 (fl_Gates (V.ref a_gates0_rows0) (V.ref a_gates0_known0))), (a_gates0_rows0, HO.lst v_gates0_rows0), (a_gates0_known0, HO.dT v_gates0_known0)] ++ R) _ := S127.set 2 rfl _
      refine hN114 _ _ ?_
      refine seqI fun N133 hN134 => ?_
      refine ⟨_, rfl, _, _, _, _, _, rfl, (S132.get 4 rfl), T.cl_Encoding, T.n_Encoding_clauses, fl_Encoding_clauses, .inl ⟨rfl, _, (SqL.of (S132.get 2 rfl))⟩, _, rfl, _, rfl, _, rfl, (by show 2 ≤ sizeLine; decide), ?_⟩
      clear S127
      intro a135 np136
      have hl137 : LR (rInt F121) [V.int (-(x_first0 + (st1.letters.length : Int))), V.int y104] ([(-(x_first0 + (st1.letters.length : Int))), y104] : (List Int)) := ⟨rfl, rfl, trivial⟩
      have S138 : Sta F121 ([(a135, HO.lst [V.int (-(x_first0 + (st1.letters.length : Int))), V.int y104]), (a115, HO.lst [V.int (-(x_first0 + (st1.letters.length : Int))), V.int y98]), (a27, HO.lst v28), (a78, HO.lst (v79 ++ [v125])), (a75, HO.dK (putK v76 (Sum.inl x81) (V.int (x_first0 + (st1.letters.length : Int))))), (a_self0, HO.ins T.a_Encoding dx_self0 (fl_Encoding (V.ref a75) (V.ref a78) (V.ref a_gates0))), (a_gates0, HO.ins T.a_Gates dx_gates0 (fl_Gates (V.ref a_gates0_rows0) (V.ref a_gates0_known0))), (a_gates0_rows0, HO.lst v_gates0_rows0), (a_gates0_known0, HO.dT v_gates0_known0)] ++ R) _ := S132.new np136 _
      revert hm; refine bndI fun y139 e140 hm => ?_
      refine ⟨F121, ([(a135, HO.lst [V.int (-(x_first0 + (st1.letters.length : Int))), V.int y104]), (a115, HO.lst [V.int (-(x_first0 + (st1.letters.length : Int))), V.int y98]), (a27, HO.lst v28), (a78, HO.lst (v79 ++ [v125])), (a75, HO.dK (putK v76 (Sum.inl x81) (V.int (x_first0 + (st1.letters.length : Int))))), (a_self0, HO.ins T.a_Encoding dx_self0 (fl_Encoding (V.ref a75) (V.ref a78) (V.ref a_gates0))), (a_gates0, HO.ins T.a_Gates dx_gates0 (fl_Gates (V.ref a_gates0_rows0) (V.ref a_gates0_known0))), (a_gates0_rows0, HO.lst v_gates0_rows0), (a_gates0_known0, HO.dT v_gates0_known0)] ++ R), a135, [V.int (-(x_first0 + (st1.letters.length : Int))), V.int y104], ([(-(x_first0 + (st1.letters.length : Int))), y104] : (List Int)), _, rfl, (SqL.of (S138.getO 0 rfl)), hl137, S138, e140, fun F141 H142 v145 s143 S144 p146 => ?_⟩
      clear S132
      have S147 : Sta F141 ([(a135, HO.lst [V.int (-(x_first0 + (st1.letters.length : Int))), V.int y104]), (a115, HO.lst [V.int (-(x_first0 + (st1.letters.length : Int))), V.int y98]), (a27, HO.lst v28), (a78, HO.lst (v79 ++ [v125])), (a75, HO.dK (putK v76 (Sum.inl x81) (V.int (x_first0 + (st1.letters.length : Int))))), (a_self0, HO.ins T.a_Encoding dx_self0 (fl_Encoding (V.ref a75) (V.ref a78) (V.ref a_gates0))), (a_gates0, HO.ins T.a_Gates dx_gates0 (fl_Gates (V.ref a_gates0_rows0) (V.ref a_gates0_known0))), (a_gates0_rows0, HO.lst v_gates0_rows0), (a_gates0_known0, HO.dT v_gates0_known0)] ++ R) _ := S144
      revert hm; refine bndI fun z148 e149 hm => ?_
      revert hm; refine grdI fun g150 hm => ?_
      refine ⟨_, _, _, rfl, rfl, (S147.get 3 rfl), (by rw [LR.length (hl131.mono s143)]; exact of_decide_eq_true g150), ?_⟩
      clear S144
      have hl151 : LR ((rVT K rInt) F141) ((v79 ++ [v125]) ++ [v145]) ((st1.clauses ++ [z128]) ++ [z148]) := LR.snoc (hl131.mono s143) (rOpt_un e149 (MonoR.mono (Same.refl _) p146))
      have S152 : Sta F141 ([(a135, HO.lst [V.int (-(x_first0 + (st1.letters.length : Int))), V.int y104]), (a115, HO.lst [V.int (-(x_first0 + (st1.letters.length : Int))), V.int y98]), (a27, HO.lst v28), (a78, HO.lst ((v79 ++ [v125]) ++ [v145])), (a75, HO.dK (putK v76 (Sum.inl x81) (V.int (x_first0 + (st1.letters.length : Int))))), (a_self0, HO.ins T.a_Encoding dx_self0 (fl_Encoding (V.ref a75) (V.ref a78) (V.ref a_gates0))), (a_gates0, HO.ins T.a_Gates dx_gates0 (fl_Gates (V.ref a_gates0_rows0) (V.ref a_gates0_known0))), (a_gates0_rows0, HO.lst v_gates0_rows0), (a_gates0_known0, HO.dT v_gates0_known0)] ++ R) _ := S147.set 3 rfl _
      refine hN134 _ _ ?_
      refine ⟨_, rfl, _, _, _, _, _, rfl, (S152.get 5 rfl), T.cl_Encoding, T.n_Encoding_clauses, fl_Encoding_clauses, .inl ⟨rfl, _, (SqL.of (S152.get 3 rfl))⟩, _, rfl, _, rfl, _, rfl, _, rfl, _, rfl, (by show 3 ≤ sizeLine; decide), ?_⟩
      clear S147
      intro a153 np154
      have hl155 : LR (rInt F141) [V.int (x_first0 + (st1.letters.length : Int)), V.int (-y98), V.int (-y104)] ([(x_first0 + (st1.letters.length : Int)), (-y98), (-y104)] : (List Int)) := ⟨rfl, rfl, rfl, trivial⟩
      have S156 : Sta F141 ([(a153, HO.lst [V.int (x_first0 + (st1.letters.length : Int)), V.int (-y98), V.int (-y104)]), (a135, HO.lst [V.int (-(x_first0 + (st1.letters.length : Int))), V.int y104]), (a115, HO.lst [V.int (-(x_first0 + (st1.letters.length : Int))), V.int y98]), (a27, HO.lst v28), (a78, HO.lst ((v79 ++ [v125]) ++ [v145])), (a75, HO.dK (putK v76 (Sum.inl x81) (V.int (x_first0 + (st1.letters.length : Int))))), (a_self0, HO.ins T.a_Encoding dx_self0 (fl_Encoding (V.ref a75) (V.ref a78) (V.ref a_gates0))), (a_gates0, HO.ins T.a_Gates dx_gates0 (fl_Gates (V.ref a_gates0_rows0) (V.ref a_gates0_known0))), (a_gates0_rows0, HO.lst v_gates0_rows0), (a_gates0_known0, HO.dT v_gates0_known0)] ++ R) _ := S152.new np154 _
      revert hm; refine bndI fun y157 e158 hm => ?_
      refine ⟨F141, ([(a153, HO.lst [V.int (x_first0 + (st1.letters.length : Int)), V.int (-y98), V.int (-y104)]), (a135, HO.lst [V.int (-(x_first0 + (st1.letters.length : Int))), V.int y104]), (a115, HO.lst [V.int (-(x_first0 + (st1.letters.length : Int))), V.int y98]), (a27, HO.lst v28), (a78, HO.lst ((v79 ++ [v125]) ++ [v145])), (a75, HO.dK (putK v76 (Sum.inl x81) (V.int (x_first0 + (st1.letters.length : Int))))), (a_self0, HO.ins T.a_Encoding dx_self0 (fl_Encoding (V.ref a75) (V.ref a78) (V.ref a_gates0))), (a_gates0, HO.ins T.a_Gates dx_gates0 (fl_Gates (V.ref a_gates0_rows0) (V.ref a_gates0_known0))), (a_gates0_rows0, HO.lst v_gates0_rows0), (a_gates0_known0, HO.dT v_gates0_known0)] ++ R), a153, [V.int (x_first0 + (st1.letters.length : Int)), V.int (-y98), V.int (-y104)], ([(x_first0 + (st1.letters.length : Int)), (-y98), (-y104)] : (List Int)), _, rfl, (SqL.of (S156.getO 0 rfl)), hl155, S156, e158, fun F159 H160 v163 s161 S162 p164 => ?_⟩
      clear S152
      have S165 : Sta F159 ([(a153, HO.lst [V.int (x_first0 + (st1.letters.length : Int)), V.int (-y98), V.int (-y104)]), (a135, HO.lst [V.int (-(x_first0 + (st1.letters.length : Int))), V.int y104]), (a115, HO.lst [V.int (-(x_first0 + (st1.letters.length : Int))), V.int y98]), (a27, HO.lst v28), (a78, HO.lst ((v79 ++ [v125]) ++ [v145])), (a75, HO.dK (putK v76 (Sum.inl x81) (V.int (x_first0 + (st1.letters.length : Int))))), (a_self0, HO.ins T.a_Encoding dx_self0 (fl_Encoding (V.ref a75) (V.ref a78) (V.ref a_gates0))), (a_gates0, HO.ins T.a_Gates dx_gates0 (fl_Gates (V.ref a_gates0_rows0) (V.ref a_gates0_known0))), (a_gates0_rows0, HO.lst v_gates0_rows0), (a_gates0_known0, HO.dT v_gates0_known0)] ++ R) _ := S162
      revert hm; refine bndI fun z166 e167 hm => ?_
      revert hm; refine grdI fun g168 hm => ?_
      refine ⟨_, _, _, rfl, rfl, (S165.get 4 rfl), (by rw [LR.length (hl151.mono s161)]; exact of_decide_eq_true g168), ?_⟩
      clear S162
      have hl169 : LR ((rVT K rInt) F159) (((v79 ++ [v125]) ++ [v145]) ++ [v163]) (((st1.clauses ++ [z128]) ++ [z148]) ++ [z166]) := LR.snoc (hl151.mono s161) (rOpt_un e167 (MonoR.mono (Same.refl _) p164))
      have S170 : Sta F159 ([(a153, HO.lst [V.int (x_first0 + (st1.letters.length : Int)), V.int (-y98), V.int (-y104)]), (a135, HO.lst [V.int (-(x_first0 + (st1.letters.length : Int))), V.int y104]), (a115, HO.lst [V.int (-(x_first0 + (st1.letters.length : Int))), V.int y98]), (a27, HO.lst v28), (a78, HO.lst (((v79 ++ [v125]) ++ [v145]) ++ [v163])), (a75, HO.dK (putK v76 (Sum.inl x81) (V.int (x_first0 + (st1.letters.length : Int))))), (a_self0, HO.ins T.a_Encoding dx_self0 (fl_Encoding (V.ref a75) (V.ref a78) (V.ref a_gates0))), (a_gates0, HO.ins T.a_Gates dx_gates0 (fl_Gates (V.ref a_gates0_rows0) (V.ref a_gates0_known0))), (a_gates0_rows0, HO.lst v_gates0_rows0), (a_gates0_known0, HO.dT v_gates0_known0)] ++ R) _ := S165.set 4 rfl _
      have S171 : Sta F159 ([(a27, HO.lst v28), (a78, HO.lst (((v79 ++ [v125]) ++ [v145]) ++ [v163])), (a75, HO.dK (putK v76 (Sum.inl x81) (V.int (x_first0 + (st1.letters.length : Int))))), (a_self0, HO.ins T.a_Encoding dx_self0 (fl_Encoding (V.ref a75) (V.ref a78) (V.ref a_gates0))), (a_gates0, HO.ins T.a_Gates dx_gates0 (fl_Gates (V.ref a_gates0_rows0) (V.ref a_gates0_known0))), (a_gates0_rows0, HO.lst v_gates0_rows0), (a_gates0_known0, HO.dT v_gates0_known0)] ++ R) _ := S170.pick [3, 4, 5, 6, 7, 8, 9] (by decide) rfl
      exact ⟨(M_Encoding.mk (mput st1.letters x81 (x_first0 + (st1.letters.length : Int))) (((st1.clauses ++ [z128]) ++ [z148]) ++ [z166]) (M_Gates.mk x_gates0.rows x_gates0.known)), F159, a75, (putK v76 (Sum.inl x81) (V.int (x_first0 + (st1.letters.length : Int)))), a78, (((v79 ++ [v125]) ++ [v145]) ++ [v163]), _, _, _, _, _, rfl, (s68.trans (s123.trans (s143.trans s161))), S171, (KR.mono hl111 (s123.trans (s143.trans s161))), hl169, hm⟩
    · rintro σ H2 ⟨st1, F67, a75, v76, a78, v79, o70, o71, o72, o73, o74, rfl, s68, S69, hl77, hl80, hm⟩
      rw [LR.dropEnd hl29, m_Encoding_init_l1] at hm
      obtain rfl := Option.some.inj hm
      have hm := hm20
      obtain rfl := Option.some.inj hm
      have S172 : Sta F67 ([(a_self0, HO.ins T.a_Encoding dx_self0 (fl_Encoding (V.ref a75) (V.ref a78) (V.ref a_gates0))), (a75, HO.dK v76), (a78, HO.lst v79), (a_gates0, HO.ins T.a_Gates dx_gates0 (fl_Gates (V.ref a_gates0_rows0) (V.ref a_gates0_known0))), (a_gates0_rows0, HO.lst v_gates0_rows0), (a_gates0_known0, HO.dT v_gates0_known0)] ++ R) _ := S69.pick [3, 2, 1, 4, 5, 6] (by decide) rfl
      exact kk _ _ a75 v76 a78 v79 (s25.trans s68) S172 hl77 hl80

def sp_law_reached (T : Txt K mg) : Sp := fun vs H Q _ => ∃ (F0 : Hp) (R : Own) (a_rows0 : Addr) (v_rows0 : List V) (x_rows0 : (List (List Key))) (a_edges0 : Addr) (v_edges0 : List V) (x_edges0 : (List Int)) (r : (List Int)),
  vs = [V.ref a_rows0, V.ref a_edges0] ∧ SqL K (ov F0 R) a_rows0 v_rows0 ∧ LR (rKT F0) v_rows0 x_rows0 ∧ SqL K (ov F0 R) a_edges0 v_edges0 ∧ LR (rInt F0) v_edges0 x_edges0 ∧ Sta F0 ([] ++ R) H ∧ m_law_reached x_rows0 x_edges0 = some r ∧ ∀ (F1 : Hp) (H1 : Hp) (a_ret0p : Addr) (v_ret0p : List V), Same F0 F1 → Sta F1 ([(a_ret0p, HO.lst v_ret0p)] ++ R) H1 → LR (rInt F1) v_ret0p r → Q (V.ref a_ret0p) H1

theorem ok_law_reached (T : Txt K mg) : FnOk P w K mg base CX0 1 T.a_law_reached T.d_law_reached ["rows", "edges"] (sp_law_reached T) := by
  refine T.F_law_reached.ok sc_law_reached (fun vs H Q E h => ?_) (fun cdv A outer s H vs Q E hr h => ?_)
  · obtain ⟨_, _, _, _, _, _, _, _, _, rfl, _⟩ := h
    rfl
  · obtain ⟨F0, R, a_rows0, v_rows0, x_rows0, a_edges0, v_edges0, x_edges0, r, rfl, hs_rows0, hl_rows0, hs_edges0, hl_edges0, S0, hm, kk⟩ := h
    have hu := hu_of hr
    unfold m_law_reached at hm
    refine ⟨_, (pss_cons (ps_set (i := 2) sc_law_reached.nd rfl (Or.inr rfl) (pe_lc (own := [("row", 5)]) rfl sc_law_reached.nd (pi_list (pv 0)) (blkOk_by (own := [("row", 5)]) (N := ["rows", "edges", "flags", "edge", "k", "row"]) (sc := defScope s_law_reached) (by decide +kernel)) (fun _ _ _ _ _ => (pg_name (i := 5) sc_law_reached.nd rfl (Or.inl rfl))) (fun _ _ _ _ _ => pts_nil) (fun _ _ _ _ _ => pe_bl))) (pss_cons (ps_for PassesOwn.never rfl (pi_list (pv 1)) (pg_name (i := 3) sc_law_reached.nd rfl (Or.inl rfl)) (pss_one (ps_asg pe_bl (pg_sub (pv 2) (pe_op op_fdiv (pv 3) pe_int) set_list)))) (pss_cons (ps_for PassesOwn.never rfl (pi_range3 rfl T.z_range (pa_cons (pe_op op_sub (pe_callB call_len_seq (by rfl) T.z_len PySem.boot_len (pa_cons (pv 0) pa_nil)) pe_int) (pa_cons pe_int (pa_cons (pe_un un_neg pe_int) pa_nil)))) (pg_name (i := 4) sc_law_reached.nd rfl (Or.inl rfl)) (pss_one (ps_if (pt_pure (PW.pt (pw_and (pt_val (pe_ix ix_list (pv 2) (pv 4) (fun _ _ => rfl))) (pw_and1 (pt_cmpR oS_eq (pe_ix ix_tup (pe_ix ix_list (pv 0) (pv 4) (fun _ _ => rfl)) pe_int (fun _ _ => rfl)) pe_str (nomark _)))))) (pss_cons (ps_asg pe_bl (pg_sub (pv 2) (pe_op op_fdiv (pe_ix ix_tup (pe_ix ix_list (pv 0) (pv 4) (fun _ _ => rfl)) pe_int (fun _ _ => rfl)) pe_int) set_list)) (pss_one (ps_asg pe_bl (pg_sub (pv 2) (pe_op op_fdiv (pe_ix ix_tup (pe_ix ix_list (pv 0) (pv 4) (fun _ _ => rfl)) pe_int (fun _ _ => rfl)) pe_int) set_list)))) pss_nil))) (pss_one (ps_ret (pe_lc (own := [("k", 4)]) rfl sc_law_reached.nd (pi_range2 rfl T.z_range (pa_cons pe_int (pa_cons (pe_callB call_len_seq (by rfl) T.z_len PySem.boot_len (pa_cons (pv 0) pa_nil)) pa_nil))) (blkOk_by (own := [("k", 4)]) (N := ["rows", "edges", "flags", "edge", "k", "row"]) (sc := defScope s_law_reached) (by decide +kernel)) (fun _ _ _ _ _ => (pg_name (i := 4) sc_law_reached.nd rfl (Or.inl rfl))) (fun _ _ _ _ _ => (pts_one (pt_val (pe_ix (ix_listK K) (pv 2) (pv 4) (fun _ _ => rfl))))) (fun _ _ _ _ _ => (pv 4)))))))), ?_⟩
    refine seqI fun N1 hN2 => ?_
    revert hm; refine grdI fun g17 hm => ?_
    have e3 : lcO (fun x7 => some (some false)) x_rows0 = some (x_rows0.map fun x7 => false) := lc_map (fun x7 => false) x_rows0
    refine ⟨_, rfl, _, rfl, ⟨_, (SqL.mono hs_rows0 (S0.bor (Same.refl _) (fun _ q => List.mem_append_right _ q)))⟩, fun a15 np16 => lc_list (K := K) (a := a_rows0) (xs := v_rows0) (fun i H2 => ∃ (F8 : Hp) (v9 : List V) (acc10 : List Bool) (r4 : List Bool), Same F0 F8 ∧ Sta F8 ([(a15, HO.lst v9)] ++ R) H2 ∧ LR (rBool F8) v9 acc10 ∧ acc10.length ≤ i ∧ lcO (fun x7 => some (some false)) (List.drop i x_rows0) = some r4 ∧ (x_rows0.map fun x7 => false) = acc10 ++ r4) ⟨F0, [], [], _, Same.refl _, S0.new np16 _, trivial, Nat.le_refl _, e3, rfl⟩ (by rintro i H2 _ ⟨F8, v9, acc10, r4, s11, S12, hl13, hn14, hr5, hy6⟩; exact (SqL.mono hs_rows0 (S12.bor s11 (fun _ q => List.mem_append_right _ q)))) ?_ ?_⟩
    · rintro i v18 H2 hi ⟨F8, v9, acc10, r4, s11, S12, hl13, hn14, hr5, hy6⟩
      obtain ⟨x7, hx19, rx20⟩ := LR.getV hl_rows0 hi
      rw [drop_cons hx19] at hr5
      revert hr5; refine lcI fun y21 r22 hm hr24 hc25 => ?_
      obtain ⟨a26, rfl, h27⟩ := rx20
      refine ⟨rfl, ?_⟩
      refine tYesI ?_
      rw [if_pos rfl]
      obtain rfl := Option.some.inj hm
      have hlt : v9.length < 16777216 := by rw [LR.length hl13]; have := (List.getElem?_eq_some_iff.mp hx19).1; have := of_decide_eq_true g17; omega
      have S28 : Sta F8 ([(a15, HO.lst (v9 ++ [V.bl false]))] ++ R) _ := S12.set 0 rfl _
      exact ⟨_, (S12.get 0 rfl), hlt, F8, _, (acc10 ++ [false]), r22, s11, S28, LR.snoc hl13 rfl, by rw [List.length_append]; exact Nat.succ_le_succ hn14, hr24, by rw [List.append_assoc]; exact hy6.trans (congrArg (acc10 ++ ·) hc25)⟩
    rintro H2 ⟨F8, v9, acc10, r4, s11, S12, hl13, hn14, hr5, hy6⟩
    rw [LR.dropEnd hl_rows0] at hr5
    obtain rfl := Option.some.inj hr5
    rw [List.append_nil] at hy6
    subst hy6
    have S29 : Sta F8 ([(a15, HO.lst v9)] ++ R) _ := S12
    refine hN2 _ _ ?_
    refine seqI fun N30 hN31 => ?_
    revert hm; refine bndI fun y32 e33 hm34 => ?_
    refine ⟨_, rfl, _, rfl, ⟨_, (SqL.mono hs_edges0 (S29.bor s11 (fun _ q => List.mem_append_right _ q)))⟩, for_list (K := K) (a := a_edges0) (xs := v_edges0) (fun i σ H2 => ∃ (st1 : (List Bool)) (F51 : Hp) (v55 : List V) (o54 : Option V), σ = [some (V.ref a_rows0), some (V.ref a_edges0), some (V.ref a15), o54, none, none] ∧ Same F8 F51 ∧ Sta F51 ([(a15, HO.lst v55)] ++ R) H2 ∧ LR (rBool F51) v55 st1 ∧ m_law_reached_l1 (List.drop i x_edges0) st1 = some y32) ⟨(x_rows0.map fun x7 => false), F8, v9, _, rfl, (Same.refl _), S29, hl13, e33⟩ (by rintro i σ H2 _ ⟨st1, F51, v55, o54, rfl, s52, S53, hl56, _⟩; exact (SqL.mono hs_edges0 (S53.bor (s11.trans s52) (fun _ q => List.mem_append_right _ q)))) ?_ ?_⟩
    clear S12
    · rintro i v58 σ H2 hi ⟨st1, F51, v55, o54, rfl, s52, S53, hl56, hm⟩
      obtain ⟨x57, hx59, rx60⟩ := LR.getV hl_edges0 hi
      rw [drop_cons hx59, m_law_reached_l1] at hm
      obtain rfl := rInt_e rx60
      revert hm; refine bndI fun j61 e62 hm => ?_
      refine ⟨_, rfl, _, rfl, _, _, rfl, rfl, ⟨by decide, by decide⟩, _, _, _, _, rfl, rfl, (S53.get 0 rfl), (by rw [LR.length hl56]; exact e62), ?_⟩
      have hl63 : LR (rBool F51) (v55.set j61 (V.bl true)) (st1.set j61 true) := LR.set hl56 rfl
      have S64 : Sta F51 ([(a15, HO.lst (v55.set j61 (V.bl true)))] ++ R) _ := S53.set 0 rfl _
      exact ⟨(st1.set j61 true), F51, (v55.set j61 (V.bl true)), _, rfl, s52, S64, hl63, hm⟩
    · rintro σ H2 ⟨st1, F51, v55, o54, rfl, s52, S53, hl56, hm⟩
      rw [LR.dropEnd hl_edges0, m_law_reached_l1] at hm
      obtain rfl := Option.some.inj hm
      have hm := hm34
      refine hN31 _ _ ?_
      refine seqI fun N65 hN66 => ?_
      refine ⟨_, rfl, _, _, rfl, .inl (SqL.mono hs_rows0 (S53.bor (s11.trans s52) (fun _ q => List.mem_append_right _ q))), ?_⟩
      rw [LR.length (hl_rows0.mono (s11.trans s52))]
      revert hm; refine grdI fun g70 hm => ?_
      revert hm; refine bndI fun y67 e68 hm69 => ?_
      refine ⟨_, _, rfl, rfl, _, rfl, _, _, _, _, rfl, (rng2_neg g70), for_rngC (lo := ((x_rows0.length : Int) - (1 : Int))) (c := -1) (n := (((x_rows0.length : Int) - (1 : Int)) - (0 : Int)).toNat) (fun i σ H2 => ∃ (st2 : (List Bool)) (F87 : Hp) (v91 : List V) (o90 : Option V), σ = [some (V.ref a_rows0), some (V.ref a_edges0), some (V.ref a15), o54, o90, none] ∧ Same F51 F87 ∧ Sta F87 ([(a15, HO.lst v91)] ++ R) H2 ∧ LR (rBool F87) v91 st2 ∧ m_law_reached_l2 x_rows0 (List.drop i (pyRangeC ((x_rows0.length : Int) - (1 : Int)) (-1) (((x_rows0.length : Int) - (1 : Int)) - (0 : Int)).toNat)) st2 = some y67) ⟨st1, F51, v55, _, rfl, (Same.refl _), S53, hl56, e68⟩ ?_ ?_⟩
      · rintro i x93 σ H2 hi ⟨st2, F87, v91, o90, rfl, s88, S89, hl92, hm⟩
        rw [drop_cons hi, m_law_reached_l2] at hm
        revert hm; refine bndI fun b95 e96 hm => ?_
        refine ⟨b95, ?_, ?_⟩
        · clear hm
          have hm := e96
          clear e96
          revert hm; refine bndI fun y97 e98 hm => ?_
          obtain ⟨v99, ev100, rv101⟩ := LR.atI hl92 e98
          obtain rfl := rBool_e rv101
          refine ⟨_, rfl, _, rfl, _, _, _, _, rfl, rfl, (SqL.of (S89.get 0 rfl)), ev100, _, rfl, ?_⟩
          by_cases c102 : y97 = true
          · revert hm; refine ifTI c102 fun hm => ?_
            refine goT c102 ?_
            revert hm; refine bndI fun y103 e104 hm => ?_
            obtain ⟨v105, ev106, rv107⟩ := LR.atI hl_rows0 e104
            obtain ⟨a108, rfl, h109⟩ := rv107
            revert hm; refine bndI fun y110 e111 hm => ?_
            refine ⟨_, rfl, _, rfl, _, _, _, _, rfl, rfl, (SqL.mono hs_rows0 (S89.bor (s11.trans (s52.trans s88)) (fun _ q => List.mem_append_right _ q))), ev106, _, _, _, _, rfl, rfl, (SqT.of (S89.sub _ _ ((s11.trans (s52.trans s88)) _ _ h109))), (kStr_at e111), _, _, rfl, rfl, _, rfl, ?_⟩
            exact ⟨Option.some.inj hm, rfl⟩
          · revert hm; refine ifFI c102 fun hm => ?_
            exact goF c102 ⟨Option.some.inj hm, rfl⟩
        by_cases c112 : b95 = true
        · revert hm; refine ifTI c112 fun hm => ?_
          refine goT c112 ?_
          refine seqI fun N113 hN114 => ?_
          revert hm; refine bndI fun y115 e116 hm => ?_
          obtain ⟨v117, ev118, rv119⟩ := LR.atI hl_rows0 e116
          obtain ⟨a120, rfl, h121⟩ := rv119
          revert hm; refine bndI fun y122 e123 hm => ?_
          revert hm; refine bndI fun j124 e125 hm => ?_
          refine ⟨_, rfl, _, rfl, _, rfl, _, _, _, _, rfl, rfl, (SqL.mono hs_rows0 (S89.bor (s11.trans (s52.trans s88)) (fun _ q => List.mem_append_right _ q))), ev118, _, _, _, _, rfl, rfl, (SqT.of (S89.sub _ _ ((s11.trans (s52.trans s88)) _ _ h121))), (kInt_at e123), _, _, rfl, rfl, ⟨by decide, by decide⟩, _, _, _, _, rfl, rfl, (S89.get 0 rfl), (by rw [LR.length hl92]; exact e125), ?_⟩
          have hl126 : LR (rBool F87) (v91.set j124 (V.bl true)) (st2.set j124 true) := LR.set hl92 rfl
          have S127 : Sta F87 ([(a15, HO.lst (v91.set j124 (V.bl true)))] ++ R) _ := S89.set 0 rfl _
          refine hN114 _ _ ?_
          revert hm; refine bndI fun y128 e129 hm => ?_
          obtain ⟨v130, ev131, rv132⟩ := LR.atI hl_rows0 e129
          obtain ⟨a133, rfl, h134⟩ := rv132
          revert hm; refine bndI fun y135 e136 hm => ?_
          revert hm; refine bndI fun j137 e138 hm => ?_
          refine ⟨_, rfl, _, rfl, _, rfl, _, _, _, _, rfl, rfl, (SqL.mono hs_rows0 (S127.bor (s11.trans (s52.trans s88)) (fun _ q => List.mem_append_right _ q))), ev131, _, _, _, _, rfl, rfl, (SqT.of (S127.sub _ _ ((s11.trans (s52.trans s88)) _ _ h134))), (kInt_at e136), _, _, rfl, rfl, ⟨by decide, by decide⟩, _, _, _, _, rfl, rfl, (S127.get 0 rfl), (by rw [LR.length hl126]; exact e138), ?_⟩
          clear S89
          have hl139 : LR (rBool F87) ((v91.set j124 (V.bl true)).set j137 (V.bl true)) ((st2.set j124 true).set j137 true) := LR.set hl126 rfl
          have S140 : Sta F87 ([(a15, HO.lst ((v91.set j124 (V.bl true)).set j137 (V.bl true)))] ++ R) _ := S127.set 0 rfl _
          exact ⟨((st2.set j124 true).set j137 true), F87, ((v91.set j124 (V.bl true)).set j137 (V.bl true)), _, rfl, s88, S140, hl139, hm⟩
        · revert hm; refine ifFI c112 fun hm => ?_
          refine goF c112 ?_
          exact ⟨st2, F87, v91, _, rfl, s88, S89, hl92, hm⟩
      · rintro σ H2 ⟨st2, F87, v91, o90, rfl, s88, S89, hl92, hm⟩
        rw [drop_rngC, m_law_reached_l2] at hm
        obtain rfl := Option.some.inj hm
        have hm := hm69
        refine hN66 _ _ ?_
        refine ⟨_, rfl, _, _, rfl, .inl (SqL.mono hs_rows0 (S89.bor (s11.trans (s52.trans s88)) (fun _ q => List.mem_append_right _ q))), ?_⟩
        rw [LR.length (hl_rows0.mono (s11.trans (s52.trans s88)))]
        revert hm; refine grdI fun g141 hm => ?_
        revert hm; refine grdI fun g156 hm => ?_
        revert hm; refine bndI fun y172 e142 hm => ?_
        refine ⟨_, _, rfl, (rng2Ok_ok g141), fun a154 np155 => lc_rng (lo := (1 : Int)) (n := ((x_rows0.length : Int) - (1 : Int)).toNat) (fun i H2 => ∃ (F147 : Hp) (v148 : List V) (acc149 : List Int) (r143 : List Int), Same F87 F147 ∧ Sta F147 ([(a154, HO.lst v148), (a15, HO.lst v91)] ++ R) H2 ∧ LR (rInt F147) v148 acc149 ∧ acc149.length ≤ i ∧ lcO (fun x146 => (atI st2 x146).bind fun y165 =>
      if y165 = true then (some (some x146)) else some none) (List.drop i (pyRange (1 : Int) ((x_rows0.length : Int) - (1 : Int)).toNat)) = some r143 ∧ y172 = acc149 ++ r143) ⟨F87, [], [], _, Same.refl _, S89.new np155 _, trivial, Nat.le_refl _, e142, rfl⟩ ?_ ?_⟩
        · rintro i x146 H2 hi ⟨F147, v148, acc149, r143, s150, S151, hl152, hn153, hr144, hy145⟩
          have hx158 := hi
          rw [drop_cons hx158] at hr144
          revert hr144; refine lcI fun y160 r161 hm hr163 hc164 => ?_
          refine ⟨rfl, ?_⟩
          revert hm; refine bndI fun y165 e166 hm => ?_
          obtain ⟨v167, ev168, rv169⟩ := LR.atI hl92 e166
          obtain rfl := rBool_e rv169
          refine ⟨_, rfl, _, rfl, _, _, _, _, rfl, rfl, (SqL.of (S151.get 1 rfl)), ev168, _, rfl, ?_⟩
          by_cases c170 : y165 = true
          · revert hm; refine ifTI c170 fun hm => ?_
            refine goT c170 ?_
            refine ⟨_, rfl, ?_⟩
            obtain rfl := Option.some.inj hm
            have hlt : v148.length < 16777216 := by rw [LR.length hl152]; have := (List.getElem?_eq_some_iff.mp hx158).1; have := of_decide_eq_true g156; omega
            have S171 : Sta F147 ([(a154, HO.lst (v148 ++ [V.int x146])), (a15, HO.lst v91)] ++ R) _ := S151.set 0 rfl _
            exact ⟨_, (S151.get 0 rfl), hlt, F147, _, (acc149 ++ [x146]), r161, s150, S171, LR.snoc hl152 rfl, by rw [List.length_append]; exact Nat.succ_le_succ hn153, hr163, by rw [List.append_assoc]; exact hy145.trans (congrArg (acc149 ++ ·) hc164)⟩
          · revert hm; refine ifFI c170 fun hm => ?_
            refine goF c170 ?_
            obtain rfl := Option.some.inj hm
            exact ⟨F147, _, acc149, r161, s150, S151, hl152, Nat.le_succ_of_le hn153, hr163, hy145.trans (congrArg (acc149 ++ ·) hc164)⟩
        rintro H2 ⟨F147, v148, acc149, r143, s150, S151, hl152, hn153, hr144, hy145⟩
        rw [drop_rng] at hr144
        obtain rfl := Option.some.inj hr144
        rw [List.append_nil] at hy145
        subst hy145
        have S173 : Sta F147 ([(a154, HO.lst v148), (a15, HO.lst v91)] ++ R) _ := S151
        obtain rfl := Option.some.inj hm
        have S174 : Sta F147 ([(a154, HO.lst v148)] ++ R) _ := S173.pick [0] (by decide) rfl
        exact kk _ _ a154 v148 (s11.trans (s52.trans (s88.trans s150))) S174 hl152

def sp_law_letters (T : Txt K mg) : Sp := fun vs H Q _ => ∃ (F0 : Hp) (R : Own) (a_rows0 : Addr) (v_rows0 : List V) (x_rows0 : (List (List Key))) (a_edges0 : Addr) (v_edges0 : List V) (x_edges0 : (List Int)) (x_first0 : Int) (r : (List (Int × Int))),
  vs = [V.ref a_rows0, V.ref a_edges0, V.int x_first0] ∧ SqL K (ov F0 R) a_rows0 v_rows0 ∧ LR (rKT F0) v_rows0 x_rows0 ∧ SqL K (ov F0 R) a_edges0 v_edges0 ∧ LR (rInt F0) v_edges0 x_edges0 ∧ Sta F0 ([] ++ R) H ∧ m_law_letters x_rows0 x_edges0 x_first0 = some r ∧ ∀ (F1 : Hp) (H1 : Hp) (a_ret0p : Addr) (v_ret0p : List (Key × V)), Same F0 F1 → Sta F1 ([(a_ret0p, HO.dK v_ret0p)] ++ R) H1 → KR Sum.inl (rInt F1) v_ret0p r → Q (V.ref a_ret0p) H1

theorem ok_law_letters (T : Txt K mg) : FnOk P w K mg base CX0 2 T.a_law_letters T.d_law_letters ["rows", "edges", "first"] (sp_law_letters T) := by
  refine T.F_law_letters.ok sc_law_letters (fun vs H Q E h => ?_) (fun cdv A outer s H vs Q E hr h => ?_)
  · obtain ⟨_, _, _, _, _, _, _, _, _, _, rfl, _⟩ := h
    rfl
  · obtain ⟨F0, R, a_rows0, v_rows0, x_rows0, a_edges0, v_edges0, x_edges0, x_first0, r, rfl, hs_rows0, hl_rows0, hs_edges0, hl_edges0, S0, hm, kk⟩ := h
    have hu := hu_of hr
    unfold m_law_letters at hm
    refine ⟨_, (pss_cons (ps_set (i := 3) sc_law_letters.nd rfl (Or.inl rfl) pe_dnewK) (pss_cons (ps_for PassesOwn.never rfl (pi_list (pe_call (ok_law_reached T) (hr.mono (by decide)) rfl T.g_law_reached T.F_law_reached.kp T.b_law_reached .nil pass0 (pa_cons (pv 0) (pa_cons (pv 1) pa_nil)))) (pg_name (i := 4) sc_law_letters.nd rfl (Or.inl rfl)) (pss_one (ps_if (pt_cmpR oS_eq (pe_ix ix_tup (pe_ix ix_list (pv 0) (pv 4) (fun _ _ => rfl)) pe_int (fun _ _ => rfl)) pe_str (nomark _)) (pss_one (ps_dput hu (pv 3) (pv 4) (pe_op op_add (pv 2) (pe_callB call_lenD (by rfl) T.z_len PySem.boot_len (pa_cons (pv 3) pa_nil))) rfl)) pss_nil))) (pss_one (ps_ret (pv 3))))), ?_⟩
    refine seqI fun N1 hN2 => ?_
    intro a3 np4
    have hl5 : KR Sum.inl (rInt F0) ([] : List (Key × V)) ([] : (List (Int × Int))) := trivial
    have S6 : Sta F0 ([(a3, HO.dK [])] ++ R) _ := S0.new np4 _
    refine hN2 _ _ ?_
    refine seqI fun N7 hN8 => ?_
    revert hm; refine bndI fun y12 e13 hm => ?_
    refine ⟨_, rfl, _, rfl, F0, ([(a3, HO.dK [])] ++ R), a_rows0, v_rows0, x_rows0, a_edges0, v_edges0, x_edges0, _, rfl, (SqL.mono hs_rows0 (S6.ovR (Same.refl _) (fun _ q => List.mem_append_right _ q))), hl_rows0, (SqL.mono hs_edges0 (S6.ovR (Same.refl _) (fun _ q => List.mem_append_right _ q))), hl_edges0, S6, e13, fun F14 H15 a18 v19 s16 S17 hl20 => ?_⟩
    clear S0
    have S21 : Sta F14 ([(a18, HO.lst v19), (a3, HO.dK [])] ++ R) _ := S17
    revert hm; refine bndI fun y9 e10 hm11 => ?_
    refine ⟨_, rfl, ⟨_, (SqL.of (S21.get 0 rfl))⟩, for_list (K := K) (a := a18) (xs := v19) (fun i σ H2 => ∃ (st1 : (List (Int × Int))) (F38 : Hp) (v42 : List (Key × V)) (o41 : Option V), σ = [some (V.ref a_rows0), some (V.ref a_edges0), some (V.int x_first0), some (V.ref a3), o41] ∧ Same F14 F38 ∧ Sta F38 ([(a18, HO.lst v19), (a3, HO.dK v42)] ++ R) H2 ∧ KR Sum.inl (rInt F38) v42 st1 ∧ m_law_letters_l1 x_rows0 x_first0 (List.drop i y12) st1 = some y9) ⟨([] : (List (Int × Int))), F14, [], _, rfl, (Same.refl _), S21, (KR.mono hl5 s16), e10⟩ (by rintro i σ H2 _ ⟨st1, F38, v42, o41, rfl, s39, S40, hl43, _⟩; exact (SqL.of (S40.get 0 rfl))) ?_ ?_⟩
    clear S17
    · rintro i v45 σ H2 hi ⟨st1, F38, v42, o41, rfl, s39, S40, hl43, hm⟩
      obtain ⟨x44, hx46, rx47⟩ := LR.getV hl20 hi
      rw [drop_cons hx46, m_law_letters_l1] at hm
      obtain rfl := rInt_e rx47
      revert hm; refine bndI fun y48 e49 hm => ?_
      obtain ⟨v50, ev51, rv52⟩ := LR.atI hl_rows0 e49
      obtain ⟨a53, rfl, h54⟩ := rv52
      revert hm; refine bndI fun y55 e56 hm => ?_
      refine ⟨_, rfl, _, rfl, _, _, _, _, rfl, rfl, (SqL.mono hs_rows0 (S40.bor (s16.trans s39) (fun _ q => List.mem_append_right _ q))), ev51, _, _, _, _, rfl, rfl, (SqT.of (S40.sub _ _ ((s16.trans s39) _ _ h54))), (kStr_at e56), _, _, rfl, rfl, _, rfl, ?_⟩
      by_cases c57 : (decide (y55 = ("both" : Str))) = true
      · revert hm; refine ifTI c57 fun hm => ?_
        refine goT c57 ?_
        refine ⟨_, rfl, _, rfl, _, _, rfl, (S40.get 1 rfl), ?_⟩
        rw [KR.length hl43]
        revert hm; refine grdI fun g58 hm => ?_
        refine ⟨_, _, rfl, rfl, _, rfl, _, rfl, _, _, rfl, (DPut.k (k := Sum.inl x44) (S40.get 1 rfl) (by rw [KR.length hl43]; exact of_decide_eq_true g58)), ?_⟩
        have hl59 : KR Sum.inl (rInt F38) (putK v42 (Sum.inl x44) (V.int (x_first0 + (st1.length : Int)))) (mput st1 x44 (x_first0 + (st1.length : Int))) := KR.put hl43 kinj_int rfl
        have S60 : Sta F38 ([(a18, HO.lst v19), (a3, HO.dK (putK v42 (Sum.inl x44) (V.int (x_first0 + (st1.length : Int)))))] ++ R) _ := S40.set 1 rfl _
        exact ⟨(mput st1 x44 (x_first0 + (st1.length : Int))), F38, (putK v42 (Sum.inl x44) (V.int (x_first0 + (st1.length : Int)))), _, rfl, s39, S60, hl59, hm⟩
      · revert hm; refine ifFI c57 fun hm => ?_
        refine goF c57 ?_
        exact ⟨st1, F38, v42, _, rfl, s39, S40, hl43, hm⟩
    · rintro σ H2 ⟨st1, F38, v42, o41, rfl, s39, S40, hl43, hm⟩
      rw [LR.dropEnd hl20, m_law_letters_l1] at hm
      obtain rfl := Option.some.inj hm
      have hm := hm11
      refine hN8 _ _ ?_
      refine ⟨_, rfl, ?_⟩
      obtain rfl := Option.some.inj hm
      have S61 : Sta F38 ([(a3, HO.dK v42)] ++ R) _ := S40.pick [1] (by decide) rfl
      exact kk _ _ a3 v42 (s16.trans s39) S61 hl43

def sp_law_is_literal (T : Txt K mg) : Sp := fun vs H Q _ => ∃ (x_actual0 : Int) (x_due0 : Int) (r : Bool),
  vs = [V.int x_actual0, V.int x_due0] ∧ m_law_is_literal x_actual0 x_due0 = r ∧ Q (V.bl r) H

theorem ok_law_is_literal (T : Txt K mg) : FnOk P w K mg base CX0 1 T.a_law_is_literal T.d_law_is_literal ["actual", "due"] (sp_law_is_literal T) := by
  refine T.F_law_is_literal.ok sc_law_is_literal (fun vs H Q E h => ?_) (fun cdv A outer s H vs Q E hr h => ?_)
  · obtain ⟨_, _, _, rfl, _⟩ := h
    rfl
  · obtain ⟨x_actual0, x_due0, r, rfl, hm, kk⟩ := h
    have hu := hu_of hr
    unfold m_law_is_literal at hm
    refine ⟨_, (pss_one (ps_ret (pe_pure (pe_and (pe_callB call_isi (by rfl) T.z_isinstance (by decide +kernel) (pa_cons (pv 0) (pa_cons (pe_bltn (v := .ty "int") (by rfl) T.z_int (by decide +kernel) rfl) pa_nil))) (pe_and (pe_not (pe_callB call_isi (by rfl) T.z_isinstance (by decide +kernel) (pa_cons (pv 0) (pa_cons (pe_bltn (v := .ty "bool") (by rfl) T.z_bool (by decide +kernel) rfl) pa_nil)))) (pe_one (pe_cmpR oI_eq (pv 0) (pv 1) (nomark _)))))))), ?_⟩
    refine ⟨V.bl (decide (x_actual0 = x_due0)), ?_, ?_⟩
    · refine ⟨_, rfl, _, _, _, _, _, rfl, .ty _, (.base (.int _)), (by first | rfl | exact PySem.W.kitOne_builtin rfl | decide +kernel), _, rfl, ?_⟩
      refine iteT ?_
      refine ⟨_, rfl, _, _, _, _, _, rfl, .ty _, (.base (.int _)), (by first | rfl | exact PySem.W.kitOne_builtin rfl | decide +kernel), _, rfl, _, rfl, ?_⟩
      refine iteT ?_
      refine ⟨_, rfl, _, rfl, _, _, rfl, rfl, ?_⟩
      exact ⟨rfl, rfl⟩
    obtain rfl := hm
    exact kk

def sp_law_literal (T : Txt K mg) : Sp := fun vs H Q _ => ∃ (F0 : Hp) (R : Own) (a_rows0 : Addr) (v_rows0 : List V) (x_rows0 : (List (List Key))) (a_letters0 : Addr) (v_letters0 : List (Key × V)) (x_letters0 : (List (Int × Int))) (x_edge0 : Int) (r : Int),
  vs = [V.ref a_rows0, V.ref a_letters0, V.int x_edge0] ∧ SqL K (ov F0 R) a_rows0 v_rows0 ∧ LR (rKT F0) v_rows0 x_rows0 ∧ Rd (ov F0 R) a_letters0 (HO.dK v_letters0) ∧ KR Sum.inl (rInt F0) v_letters0 x_letters0 ∧ Sta F0 ([] ++ R) H ∧ m_law_literal x_rows0 x_letters0 x_edge0 = some r ∧ Q (V.int r) H

theorem ok_law_literal (T : Txt K mg) : FnOk P w K mg base CX0 1 T.a_law_literal T.d_law_literal ["rows", "letters", "edge"] (sp_law_literal T) := by
  refine T.F_law_literal.ok sc_law_literal (fun vs H Q E h => ?_) (fun cdv A outer s H vs Q E hr h => ?_)
  · obtain ⟨_, _, _, _, _, _, _, _, _, _, rfl, _⟩ := h
    rfl
  · obtain ⟨F0, R, a_rows0, v_rows0, x_rows0, a_letters0, v_letters0, x_letters0, x_edge0, r, rfl, hs_rows0, hl_rows0, hs_letters0, hl_letters0, S0, hm, kk⟩ := h
    have hu := hu_of hr
    unfold m_law_literal at hm
    refine ⟨_, (pss_cons (ps_set (i := 3) sc_law_literal.nd rfl (Or.inl rfl) (pe_op op_fdiv (pv 2) pe_int)) (pss_cons (ps_set (i := 4) sc_law_literal.nd rfl (Or.inl rfl) (pe_ix ix_tup (pe_ix ix_list (pv 0) (pv 3) (fun _ _ => rfl)) pe_int (fun _ _ => rfl))) (C8.pss_cut (ps_if (pt_cmpR oS_eq (pe_ix ix_tup (pe_ix ix_list (pv 0) (pv 3) (fun _ _ => rfl)) pe_int (fun _ _ => rfl)) pe_str (nomark _)) (pss_one (ps_set (i := 4) sc_law_literal.nd rfl (Or.inl rfl) (pe_dget hu (pv 1) (pv 3) (fun _ _ => rfl)))) pss_nil) (pss_cons (ps_if (pt_cmpR oI_eq (pe_op op_mod (pe_callTy call_int1 (by rfl) T.z_int (by decide +kernel) (pa_cons (pv 2) pa_nil)) pe_int) pe_int (nomark _)) (pss_one (ps_ret (pe_op op_sub pe_int (pv 4)))) pss_nil) (pss_one (ps_ret (pv 4))))))), ?_⟩
    refine seqI fun N1 hN2 => ?_
    refine ⟨_, rfl, _, _, rfl, rfl, ⟨by decide, by decide⟩, ?_⟩
    refine hN2 _ _ ?_
    refine seqI fun N3 hN4 => ?_
    revert hm; refine bndI fun y5 e6 hm => ?_
    obtain ⟨v7, ev8, rv9⟩ := LR.atI hl_rows0 e6
    obtain ⟨a10, rfl, h11⟩ := rv9
    revert hm; refine bndI fun y12 e13 hm => ?_
    refine ⟨_, rfl, _, rfl, _, _, _, _, rfl, rfl, (SqL.mono hs_rows0 (S0.bor (Same.refl _) (fun _ q => List.mem_append_right _ q))), ev8, _, _, _, _, rfl, rfl, (SqT.of (S0.sub _ _ ((Same.refl _) _ _ h11))), (kInt_at e13), ?_⟩
    refine hN4 _ _ ?_
    revert hm; refine bndI fun y17 e18 hm => ?_
    refine ⟨fun σ H2 => ∃ (F14 : Hp), σ = [some (V.ref a_rows0), some (V.ref a_letters0), some (V.int x_edge0), some (V.int (x_edge0 / (2 : Int))), some (V.int y17)] ∧ H = H2 ∧ Same F0 F14 ∧ Sta F14 ([] ++ R) H2, ?_, ?_⟩
    · clear hm; have hm := e18; clear e18
      revert hm; refine bndI fun y19 e20 hm => ?_
      obtain ⟨v21, ev22, rv23⟩ := LR.atI hl_rows0 e20
      obtain ⟨a24, rfl, h25⟩ := rv23
      revert hm; refine bndI fun y26 e27 hm => ?_
      refine ⟨_, rfl, _, rfl, _, _, _, _, rfl, rfl, (SqL.mono hs_rows0 (S0.bor (Same.refl _) (fun _ q => List.mem_append_right _ q))), ev22, _, _, _, _, rfl, rfl, (SqT.of (S0.sub _ _ ((Same.refl _) _ _ h25))), (kStr_at e27), _, _, rfl, rfl, _, rfl, ?_⟩
      by_cases c28 : (decide (y26 = ("both" : Str))) = true
      · revert hm; refine ifTI c28 fun hm => ?_
        refine goT c28 ?_
        revert hm; refine bndI fun y29 e30 hm => ?_
        obtain ⟨v31, ev32, rv33⟩ := KR.get hl_letters0 kinj_int e30
        obtain rfl := rInt_e rv33
        refine ⟨_, rfl, _, rfl, _, _, rfl, (dget_of (DGet.rd (k := Sum.inl (x_edge0 / (2 : Int))) (rdMap (fun u => S0.bor (Same.refl _) (fun _ q => List.mem_append_right _ q) _ _) hs_letters0)) ev32), ?_⟩
        obtain rfl := Option.some.inj hm
        exact ⟨F0, rfl, rfl, (Same.refl _), S0⟩
      · revert hm; refine ifFI c28 fun hm => ?_
        refine goF c28 ?_
        obtain rfl := Option.some.inj hm
        exact ⟨F0, rfl, rfl, (Same.refl _), S0⟩
    · rintro σ H2 ⟨F14, rfl, rfl, s15, S16⟩
      refine seqI fun N34 hN35 => ?_
      refine ⟨_, rfl, ?_⟩
      refine .inl ⟨_, rfl, ?_⟩
      refine ⟨_, _, rfl, rfl, (by show (0 : Int) < 2; decide), _, _, rfl, rfl, _, rfl, ?_⟩
      by_cases c36 : (decide ((x_edge0 % (2 : Int)) = (1 : Int))) = true
      · revert hm; refine ifTI c36 fun hm => ?_
        refine goT c36 ?_
        refine ⟨_, rfl, _, _, rfl, rfl, ?_⟩
        obtain rfl := Option.some.inj hm
        exact kk
      · revert hm; refine ifFI c36 fun hm => ?_
        refine goF c36 ?_
        refine hN35 _ _ ?_
        refine ⟨_, rfl, ?_⟩
        obtain rfl := Option.some.inj hm
        exact kk

def sp_law_same (T : Txt K mg) : Sp := fun vs H Q _ => ∃ (F0 : Hp) (R : Own) (a_actual0 : Addr) (v_actual0 : List V) (x_actual0 : (List (List Int))) (a_due0 : Addr) (v_due0 : List V) (x_due0 : (List (List Int))) (r : Bool),
  vs = [V.ref a_actual0, V.ref a_due0] ∧ SqL K (ov F0 R) a_actual0 v_actual0 ∧ LR ((rVT K rInt) F0) v_actual0 x_actual0 ∧ SqL K (ov F0 R) a_due0 v_due0 ∧ LR ((rVT K rInt) F0) v_due0 x_due0 ∧ Sta F0 ([] ++ R) H ∧ m_law_same x_actual0 x_due0 = some r ∧ Q (V.bl r) H

theorem ok_law_same (T : Txt K mg) : FnOk P w K mg base CX0 2 T.a_law_same T.d_law_same ["actual", "due"] (sp_law_same T) := by
  refine T.F_law_same.ok sc_law_same (fun vs H Q E h => ?_) (fun cdv A outer s H vs Q E hr h => ?_)
  · obtain ⟨_, _, _, _, _, _, _, _, _, rfl, _⟩ := h
    rfl
  · obtain ⟨F0, R, a_actual0, v_actual0, x_actual0, a_due0, v_due0, x_due0, r, rfl, hs_actual0, hl_actual0, hs_due0, hl_due0, S0, hm, kk⟩ := h
    have hu := hu_of hr
    unfold m_law_same at hm
    refine ⟨_, (pss_cons (ps_if (pt_pure (PW.pt (pw_or (pt_not (pt_val (pe_callB call_isi (by rfl) T.z_isinstance (by decide +kernel) (pa_cons (pv 0) (pa_cons (pe_bltn (v := .ty "list") (by rfl) T.z_list (by decide +kernel) rfl) pa_nil))))) (pw_or1 (pt_cmpR oI_ne (pe_callB call_len_seq (by rfl) T.z_len PySem.boot_len (pa_cons (pv 0) pa_nil)) (pe_callB call_len_seq (by rfl) T.z_len PySem.boot_len (pa_cons (pv 1) pa_nil)) (nomark _)))))) (pss_one (ps_ret pe_bl)) pss_nil) (pss_cons (ps_for PassesOwn.never rfl (pi_range1 rfl T.z_range (pa_cons (pe_callB call_len_seq (by rfl) T.z_len PySem.boot_len (pa_cons (pv 1) pa_nil)) pa_nil)) (pg_name (i := 2) sc_law_same.nd rfl (Or.inl rfl)) (pss_cons (ps_if (pt_pure (PW.pt (pw_or (pt_not (pt_val (pe_callB call_isi (by rfl) T.z_isinstance (by decide +kernel) (pa_cons (pe_ix ix_list (pv 0) (pv 2) (fun _ _ => rfl)) (pa_cons (pe_bltn (v := .ty "tuple") (by rfl) T.z_tuple (by decide +kernel) rfl) pa_nil))))) (pw_or1 (pt_cmpR oI_ne (pe_callB call_len_seq (by rfl) T.z_len PySem.boot_len (pa_cons (pe_ix ix_list (pv 0) (pv 2) (fun _ _ => rfl)) pa_nil)) (pe_callB call_len_seq (by rfl) T.z_len PySem.boot_len (pa_cons (pe_ix ix_list (pv 1) (pv 2) (fun _ _ => rfl)) pa_nil)) (nomark _)))))) (pss_one (ps_ret pe_bl)) pss_nil) (pss_one (ps_for PassesOwn.never rfl (pi_range1 rfl T.z_range (pa_cons (pe_callB call_len_seq (by rfl) T.z_len PySem.boot_len (pa_cons (pe_ix ix_list (pv 1) (pv 2) (fun _ _ => rfl)) pa_nil)) pa_nil)) (pg_name (i := 3) sc_law_same.nd rfl (Or.inl rfl)) (pss_one (ps_if (pt_not (pt_val (pe_call (ok_law_is_literal T) (hr.mono (by decide)) rfl T.g_law_is_literal T.F_law_is_literal.kp T.b_law_is_literal .nil pass0 (pa_cons (pe_ix ix_tup (pe_ix ix_list (pv 0) (pv 2) (fun _ _ => rfl)) (pv 3) (fun _ _ => rfl)) (pa_cons (pe_ix ix_tup (pe_ix ix_list (pv 1) (pv 2) (fun _ _ => rfl)) (pv 3) (fun _ _ => rfl)) pa_nil))))) (pss_one (ps_ret pe_bl)) pss_nil)))))) (pss_one (ps_ret pe_bl)))), ?_⟩
    refine seqI fun N1 hN2 => ?_
    refine ⟨(!decide ((x_actual0.length : Int) = (x_due0.length : Int))), ?_, ?_⟩
    · refine ⟨_, rfl, _, _, _, _, _, rfl, .ty _, (tyx_list (SqL.mono hs_actual0 (S0.bor (Same.refl _) (fun _ q => List.mem_append_right _ q)))), (by first | rfl | exact PySem.W.kitOne_builtin rfl | decide +kernel), _, rfl, ?_⟩
      refine iteF ?_
      refine ⟨_, rfl, _, _, rfl, .inl (SqL.mono hs_actual0 (S0.bor (Same.refl _) (fun _ q => List.mem_append_right _ q))), ?_⟩
      rw [LR.length hl_actual0]
      refine ⟨_, rfl, _, _, rfl, .inl (SqL.mono hs_due0 (S0.bor (Same.refl _) (fun _ q => List.mem_append_right _ q))), ?_⟩
      rw [LR.length hl_due0]
      refine ⟨_, _, rfl, rfl, _, rfl, ?_⟩
      exact ⟨rfl, rfl⟩
    by_cases c3 : (!decide ((x_actual0.length : Int) = (x_due0.length : Int))) = true
    · revert hm; refine ifTI c3 fun hm => ?_
      refine goT c3 ?_
      obtain rfl := Option.some.inj hm
      exact kk
    · revert hm; refine ifFI c3 fun hm => ?_
      refine goF c3 ?_
      refine hN2 _ _ ?_
      refine seqI fun N4 hN5 => ?_
      refine ⟨_, rfl, _, _, rfl, .inl (SqL.mono hs_due0 (S0.bor (Same.refl _) (fun _ q => List.mem_append_right _ q))), ?_⟩
      rw [LR.length hl_due0]
      revert hm; refine grdI fun g9 hm => ?_
      revert hm; refine bndI fun y6 e7 hm8 => ?_
      refine ⟨_, rfl, (rngOk_lo g9), (rngOk_hi g9), for_rng (lo := 0) (n := (x_due0.length : Int).toNat) (fun i σ H2 => ∃ (st1 : Unit) (F25 : Hp) (o28 : Option V) (o29 : Option V), σ = [some (V.ref a_actual0), some (V.ref a_due0), o28, o29] ∧ H = H2 ∧ Same F0 F25 ∧ Sta F25 ([] ++ R) H2 ∧ m_law_same_l1 x_actual0 x_due0 (List.drop i (pyRange 0 (x_due0.length : Int).toNat)) st1 = some y6) ⟨(), F0, _, _, rfl, rfl, (Same.refl _), S0, e7⟩ ?_ ?_⟩
      · rintro i x30 σ H2 hi ⟨st1, F25, o28, o29, rfl, rfl, s26, S27, hm⟩
        rw [drop_cons hi, m_law_same_l1] at hm
        refine seqI fun N32 hN33 => ?_
        revert hm; refine bndI fun b34 e35 hm => ?_
        refine ⟨b34, ?_, ?_⟩
        · clear hm
          have hm := e35
          clear e35
          revert hm; refine bndI fun y36 e37 hm => ?_
          obtain ⟨v38, ev39, rv40⟩ := LR.atI hl_actual0 e37
          obtain ⟨a41, v42, rfl, hs43, hl44⟩ := rv40
          refine ⟨_, rfl, _, rfl, _, _, _, _, rfl, rfl, (SqL.mono hs_actual0 (S27.bor s26 (fun _ q => List.mem_append_right _ q))), ev39, _, _, _, _, _, rfl, .ty _, (tyx_tup (SqT.mono hs43 (s26.trans S27.sub))), (by first | rfl | exact PySem.W.kitOne_builtin rfl | decide +kernel), _, rfl, ?_⟩
          refine iteF ?_
          revert hm; refine bndI fun y45 e46 hm => ?_
          obtain ⟨v47, ev48, rv49⟩ := LR.atI hl_actual0 e46
          obtain ⟨a50, v51, rfl, hs52, hl53⟩ := rv49
          refine ⟨_, rfl, _, rfl, _, _, _, _, rfl, rfl, (SqL.mono hs_actual0 (S27.bor s26 (fun _ q => List.mem_append_right _ q))), ev48, _, _, rfl, .inr (SqT.mono hs52 (s26.trans S27.sub)), ?_⟩
          rw [LR.length (hl53.mono s26)]
          revert hm; refine bndI fun y54 e55 hm => ?_
          obtain ⟨v56, ev57, rv58⟩ := LR.atI hl_due0 e55
          obtain ⟨a59, v60, rfl, hs61, hl62⟩ := rv58
          refine ⟨_, rfl, _, rfl, _, _, _, _, rfl, rfl, (SqL.mono hs_due0 (S27.bor s26 (fun _ q => List.mem_append_right _ q))), ev57, _, _, rfl, .inr (SqT.mono hs61 (s26.trans S27.sub)), ?_⟩
          rw [LR.length (hl62.mono s26)]
          refine ⟨_, _, rfl, rfl, _, rfl, ?_⟩
          exact ⟨Option.some.inj hm, rfl⟩
        by_cases c63 : b34 = true
        · revert hm; refine ifTI c63 fun hm => ?_
          refine goT c63 ?_
          obtain rfl := Option.some.inj hm
          have hm := hm8
          obtain rfl := Option.some.inj hm
          exact kk
        · revert hm; refine ifFI c63 fun hm => ?_
          refine goF c63 ?_
          refine hN33 _ _ ?_
          revert hm; refine bndI fun y67 e68 hm => ?_
          obtain ⟨v69, ev70, rv71⟩ := LR.atI hl_due0 e68
          obtain ⟨a72, v73, rfl, hs74, hl75⟩ := rv71
          refine ⟨_, rfl, _, rfl, _, _, _, _, rfl, rfl, (SqL.mono hs_due0 (S27.bor s26 (fun _ q => List.mem_append_right _ q))), ev70, _, _, rfl, .inr (SqT.mono hs74 (s26.trans S27.sub)), ?_⟩
          rw [LR.length (hl75.mono s26)]
          revert hm; refine grdI fun g76 hm => ?_
          revert hm; refine bndI fun y64 e65 hm66 => ?_
          refine ⟨_, rfl, (rngOk_lo g76), (rngOk_hi g76), for_rng (lo := 0) (n := (y67.length : Int).toNat) (fun i σ H2 => ∃ (st2 : Unit) (F89 : Hp) (o92 : Option V), σ = [some (V.ref a_actual0), some (V.ref a_due0), some (V.int x30), o92] ∧ H = H2 ∧ Same F25 F89 ∧ Sta F89 ([] ++ R) H2 ∧ m_law_same_l2 x_actual0 x_due0 x30 (List.drop i (pyRange 0 (y67.length : Int).toNat)) st2 = some y64) ⟨(), F25, _, rfl, rfl, (Same.refl _), S27, e65⟩ ?_ ?_⟩
          · rintro i x93 σ H2 hi ⟨st2, F89, o92, rfl, rfl, s90, S91, hm⟩
            rw [drop_cons hi, m_law_same_l2] at hm
            revert hm; refine bndI fun y95 e96 hm => ?_
            obtain ⟨v97, ev98, rv99⟩ := LR.atI hl_actual0 e96
            obtain ⟨a100, v101, rfl, hs102, hl103⟩ := rv99
            revert hm; refine bndI fun y104 e105 hm => ?_
            obtain ⟨v106, ev107, rv108⟩ := LR.atI hl103 e105
            obtain rfl := rInt_e rv108
            revert hm; refine bndI fun y109 e110 hm => ?_
            obtain ⟨v111, ev112, rv113⟩ := LR.atI hl_due0 e110
            obtain ⟨a114, v115, rfl, hs116, hl117⟩ := rv113
            revert hm; refine bndI fun y118 e119 hm => ?_
            obtain ⟨v120, ev121, rv122⟩ := LR.atI hl117 e119
            obtain rfl := rInt_e rv122
            refine ⟨_, rfl, _, rfl, _, _, _, _, rfl, rfl, (SqL.mono hs_actual0 (S91.bor (s26.trans s90) (fun _ q => List.mem_append_right _ q))), ev98, _, rfl, _, _, _, _, rfl, rfl, (SqT.mono hs102 ((s26.trans s90).trans S91.sub)), ev107, _, rfl, _, rfl, _, _, _, _, rfl, rfl, (SqL.mono hs_due0 (S91.bor (s26.trans s90) (fun _ q => List.mem_append_right _ q))), ev112, _, rfl, _, _, _, _, rfl, rfl, (SqT.mono hs116 ((s26.trans s90).trans S91.sub)), ev121, y104, y118, _, rfl, rfl, _, rfl, ?_⟩
            by_cases c123 : (!(m_law_is_literal y104 y118)) = true
            · revert hm; refine ifTI c123 fun hm => ?_
              refine goT c123 ?_
              obtain rfl := Option.some.inj hm
              have hm := hm66
              obtain rfl := Option.some.inj hm
              have hm := hm8
              obtain rfl := Option.some.inj hm
              exact kk
            · revert hm; refine ifFI c123 fun hm => ?_
              refine goF c123 ?_
              exact ⟨(), F89, _, rfl, rfl, s90, S91, hm⟩
          · rintro σ H2 ⟨st2, F89, o92, rfl, rfl, s90, S91, hm⟩
            rw [drop_rng, m_law_same_l2] at hm
            obtain rfl := Option.some.inj hm
            have hm := hm66
            exact ⟨(), F89, _, _, rfl, rfl, (s26.trans s90), S91, hm⟩
      · rintro σ H2 ⟨st1, F25, o28, o29, rfl, rfl, s26, S27, hm⟩
        rw [drop_rng, m_law_same_l1] at hm
        obtain rfl := Option.some.inj hm
        have hm := hm8
        refine hN5 _ _ ?_
        obtain rfl := Option.some.inj hm
        exact kk

def sp_law_clauses (T : Txt K mg) : Sp := fun vs H Q _ => ∃ (F0 : Hp) (R : Own) (a_rows0 : Addr) (v_rows0 : List V) (x_rows0 : (List (List Key))) (a_letters0 : Addr) (v_letters0 : List (Key × V)) (x_letters0 : (List (Int × Int))) (r : (List (List Int))),
  vs = [V.ref a_rows0, V.ref a_letters0] ∧ SqL K (ov F0 R) a_rows0 v_rows0 ∧ LR (rKT F0) v_rows0 x_rows0 ∧ KR Sum.inl (rInt F0) v_letters0 x_letters0 ∧ Sta F0 ([(a_letters0, HO.dK v_letters0)] ++ R) H ∧ m_law_clauses x_rows0 x_letters0 = some r ∧ ∀ (F1 : Hp) (H1 : Hp) (a_ret0p : Addr) (v_ret0p : List V), Same F0 F1 → Sta F1 ([(a_ret0p, HO.lst v_ret0p), (a_letters0, HO.dK v_letters0)] ++ R) H1 → LR ((rVT K rInt) F1) v_ret0p r → Q (V.ref a_ret0p) H1

theorem ok_law_clauses (T : Txt K mg) : FnOk P w K mg base CX0 2 T.a_law_clauses T.d_law_clauses ["rows", "letters"] (sp_law_clauses T) := by
  refine T.F_law_clauses.ok sc_law_clauses (fun vs H Q E h => ?_) (fun cdv A outer s H vs Q E hr h => ?_)
  · obtain ⟨_, _, _, _, _, _, _, _, _, rfl, _⟩ := h
    rfl
  · obtain ⟨F0, R, a_rows0, v_rows0, x_rows0, a_letters0, v_letters0, x_letters0, r, rfl, hs_rows0, hl_rows0, hl_letters0, S0, hm, kk⟩ := h
    have hu := hu_of hr
    unfold m_law_clauses at hm
    refine ⟨_, (pss_cons (ps_set (i := 2) sc_law_clauses.nd rfl (Or.inl rfl) (pe_lst pa_nil)) (pss_cons (ps_lock (ps_for PassesOwn.never rfl (pi_keys (pv 1)) (pg_name (i := 3) sc_law_clauses.nd rfl (Or.inl rfl)) (pss_cons (ps_set (i := 4) sc_law_clauses.nd rfl (Or.inl rfl) (pe_dget hu (pv 1) (pv 3) (fun _ _ => rfl))) (pss_cons (ps_set (i := 5) sc_law_clauses.nd rfl (Or.inl rfl) (pe_call (ok_law_literal T) (hr.mono (by decide)) rfl T.g_law_literal T.F_law_literal.kp T.b_law_literal .nil pass0 (pa_cons (pv 0) (pa_cons (pv 1) (pa_cons (pe_ix ix_tup (pe_ix ix_list (pv 0) (pv 3) (fun _ _ => rfl)) pe_int (fun _ _ => rfl)) pa_nil))))) (pss_cons (ps_set (i := 6) sc_law_clauses.nd rfl (Or.inl rfl) (pe_call (ok_law_literal T) (hr.mono (by decide)) rfl T.g_law_literal T.F_law_literal.kp T.b_law_literal .nil pass0 (pa_cons (pv 0) (pa_cons (pv 1) (pa_cons (pe_ix ix_tup (pe_ix ix_list (pv 0) (pv 3) (fun _ _ => rfl)) pe_int (fun _ _ => rfl)) pa_nil))))) (pss_cons (ps_expr (pe_bm PySem.F.plainAttrs_list PySem.F.slot_list_append PySem.F.type_list_append mt_append (pv 2) (pa_cons (pe_tupleOf (by rfl) T.z_tuple (pe_callB cr_sortedI (by rfl) T.z_sorted (by decide +kernel) (pa_cons (pe_lst (pa_cons (pe_op op_sub pe_int (pv 4)) (pa_cons (pv 5) pa_nil))) pa_nil))) pa_nil))) (pss_cons (ps_expr (pe_bm PySem.F.plainAttrs_list PySem.F.slot_list_append PySem.F.type_list_append mt_append (pv 2) (pa_cons (pe_tupleOf (by rfl) T.z_tuple (pe_callB cr_sortedI (by rfl) T.z_sorted (by decide +kernel) (pa_cons (pe_lst (pa_cons (pe_op op_sub pe_int (pv 4)) (pa_cons (pv 6) pa_nil))) pa_nil))) pa_nil))) (pss_one (ps_expr (pe_bm PySem.F.plainAttrs_list PySem.F.slot_list_append PySem.F.type_list_append mt_append (pv 2) (pa_cons (pe_tupleOf (by rfl) T.z_tuple (pe_callB cr_sortedI (by rfl) T.z_sorted (by decide +kernel) (pa_cons (pe_lst (pa_cons (pv 4) (pa_cons (pe_op op_sub pe_int (pv 5)) (pa_cons (pe_op op_sub pe_int (pv 6)) pa_nil)))) pa_nil))) pa_nil))))))))))) (pss_one (ps_ret (pv 2))))), ?_⟩
    refine seqI fun N1 hN2 => ?_
    refine ⟨(by show 0 ≤ sizeLine; decide), ?_⟩
    intro a3 np4
    have hl5 : LR ((rVT K rInt) F0) [] ([] : (List (List Int))) := trivial
    have S6 : Sta F0 ([(a3, HO.lst []), (a_letters0, HO.dK v_letters0)] ++ R) _ := S0.new np4 _
    refine hN2 _ _ ?_
    refine seqI fun N7 hN8 => ?_
    refine ⟨_, _, (S6.get 1 rfl), trivial, fun od12 => ?_⟩
    have S13 : Sta F0 ([(a3, HO.lst []), (a_letters0, HO.frz od12 (HO.dK v_letters0))] ++ R) _ := S6.set 1 rfl _
    revert hm; refine bndI fun y9 e10 hm11 => ?_
    refine ⟨_, rfl, _, _, rfl, .inl ⟨_, (S13.get 1 rfl), for_keys (kvs := v_letters0) (fun i σ H2 => ∃ (st1 : (List (List Int))) (F39 : Hp) (v46 : List V) (o42 : Option V) (o43 : Option V) (o44 : Option V) (o45 : Option V), σ = [some (V.ref a_rows0), some (V.ref a_letters0), some (V.ref a3), o42, o43, o44, o45] ∧ Same F0 F39 ∧ Sta F39 ([(a3, HO.lst v46), (a_letters0, HO.frz od12 (HO.dK v_letters0))] ++ R) H2 ∧ LR ((rVT K rInt) F39) v46 st1 ∧ m_law_clauses_l1 x_rows0 x_letters0 (List.drop i (x_letters0.map (·.1))) st1 = some y9) ⟨([] : (List (List Int))), F0, [], _, _, _, _, rfl, (Same.refl _), S13, hl5, e10⟩ (by rintro i σ H2 ⟨st1, F39, v46, o42, o43, o44, o45, rfl, s40, S41, hl47, _⟩; exact S41.get 1 rfl) ?_ ?_⟩⟩
    clear S0 S6
    · rintro i v49 σ H2 hi ⟨st1, F39, v46, o42, o43, o44, o45, rfl, s40, S41, hl47, hm⟩
      obtain ⟨x48, hx50, rx51⟩ := LR.getV (KR.keysLI (F := F0) hl_letters0) hi
      rw [drop_cons hx50, m_law_clauses_l1] at hm
      obtain rfl := rInt_e rx51
      refine seqI fun N52 hN53 => ?_
      revert hm; refine bndI fun y54 e55 hm => ?_
      obtain ⟨v56, ev57, rv58⟩ := KR.get hl_letters0 kinj_int e55
      obtain rfl := rInt_e rv58
      refine ⟨_, rfl, _, rfl, _, _, rfl, (dget_of (DGet.kf (k := Sum.inl x48) (S41.get 1 rfl)) ev57), ?_⟩
      refine hN53 _ _ ?_
      refine seqI fun N59 hN60 => ?_
      revert hm; refine bndI fun y61 e62 hm => ?_
      obtain ⟨v63, ev64, rv65⟩ := LR.atI hl_rows0 e62
      obtain ⟨a66, rfl, h67⟩ := rv65
      revert hm; refine bndI fun y68 e69 hm => ?_
      revert hm; refine bndI fun y70 e71 hm => ?_
      refine ⟨_, rfl, _, rfl, _, rfl, _, rfl, _, _, _, _, rfl, rfl, (SqL.mono hs_rows0 (S41.bor s40 (fun _ q => List.mem_append_right _ q))), ev64, _, _, _, _, rfl, rfl, (SqT.of (S41.sub _ _ (s40 _ _ h67))), (kInt_at e69), F39, ([(a3, HO.lst v46), (a_letters0, HO.frz od12 (HO.dK v_letters0))] ++ R), a_rows0, v_rows0, x_rows0, a_letters0, v_letters0, x_letters0, y68, _, rfl, (SqL.mono hs_rows0 (S41.ovR s40 (fun _ q => List.mem_append_right _ q))), (hl_rows0.mono s40), (.inr ⟨_, (S41.getO 1 rfl)⟩), (KR.mono hl_letters0 s40), S41, e71, ?_⟩
      refine hN60 _ _ ?_
      refine seqI fun N72 hN73 => ?_
      revert hm; refine bndI fun y74 e75 hm => ?_
      obtain ⟨v76, ev77, rv78⟩ := LR.atI hl_rows0 e75
      obtain ⟨a79, rfl, h80⟩ := rv78
      revert hm; refine bndI fun y81 e82 hm => ?_
      revert hm; refine bndI fun y83 e84 hm => ?_
      refine ⟨_, rfl, _, rfl, _, rfl, _, rfl, _, _, _, _, rfl, rfl, (SqL.mono hs_rows0 (S41.bor s40 (fun _ q => List.mem_append_right _ q))), ev77, _, _, _, _, rfl, rfl, (SqT.of (S41.sub _ _ (s40 _ _ h80))), (kInt_at e82), F39, ([(a3, HO.lst v46), (a_letters0, HO.frz od12 (HO.dK v_letters0))] ++ R), a_rows0, v_rows0, x_rows0, a_letters0, v_letters0, x_letters0, y81, _, rfl, (SqL.mono hs_rows0 (S41.ovR s40 (fun _ q => List.mem_append_right _ q))), (hl_rows0.mono s40), (.inr ⟨_, (S41.getO 1 rfl)⟩), (KR.mono hl_letters0 s40), S41, e84, ?_⟩
      refine hN73 _ _ ?_
      refine seqI fun N85 hN86 => ?_
      refine ⟨_, rfl, .inl ⟨rfl, _, (SqL.of (S41.get 0 rfl))⟩, _, rfl, _, _, rfl, rfl, _, rfl, (by show 2 ≤ sizeLine; decide), ?_⟩
      intro a87 np88
      have hl89 : LR (rInt F39) [V.int ((0 : Int) - y54), V.int y70] ([((0 : Int) - y54), y70] : (List Int)) := ⟨rfl, rfl, trivial⟩
      have S90 : Sta F39 ([(a87, HO.lst [V.int ((0 : Int) - y54), V.int y70]), (a3, HO.lst v46), (a_letters0, HO.frz od12 (HO.dK v_letters0))] ++ R) _ := S41.new np88 _
      refine ⟨_, ([((0 : Int) - y54), y70] : (List Int)), rfl, (by rw [← lr_map hl89]; exact (SqL.of (S90.get 0 rfl))), ?_⟩
      clear S41
      intro ys91 a92 pm93 pw94 np95
      obtain rfl := sortI_eq pm93 pw94
      have hl96 : LR (rInt F39) ((sortI ([((0 : Int) - y54), y70] : (List Int))).map V.int) (sortI ([((0 : Int) - y54), y70] : (List Int))) := lr_ints _
      have S97 : Sta F39 ([(a92, HO.lst ((sortI ([((0 : Int) - y54), y70] : (List Int))).map V.int)), (a87, HO.lst [V.int ((0 : Int) - y54), V.int y70]), (a3, HO.lst v46), (a_letters0, HO.frz od12 (HO.dK v_letters0))] ++ R) _ := S90.new np95 _
      refine .inl ⟨_, _, rfl, (SqL.of (S97.get 0 rfl)), ?_⟩
      intro a98 np99
      obtain ⟨F100, s101, S102, h103⟩ : ∃ F', Same F39 F' ∧ Sta F' ([(a92, HO.lst ((sortI ([((0 : Int) - y54), y70] : (List Int))).map V.int)), (a87, HO.lst [V.int ((0 : Int) - y54), V.int y70]), (a3, HO.lst v46), (a_letters0, HO.frz od12 (HO.dK v_letters0))] ++ R) _ ∧ F' a98 = some (HO.tup ((sortI ([((0 : Int) - y54), y70] : (List Int))).map V.int)) := ⟨_, S97.sameF np99 _, S97.newF np99 _, upd_same⟩
      have hl104 : LR (rInt F100) ((sortI ([((0 : Int) - y54), y70] : (List Int))).map V.int) (sortI ([((0 : Int) - y54), y70] : (List Int))) := hl96.mono s101
      revert hm; refine grdI fun g105 hm => ?_
      refine ⟨_, _, _, rfl, rfl, (S102.get 2 rfl), (by rw [LR.length (hl47.mono s101)]; exact of_decide_eq_true g105), ?_⟩
      clear S90
      have hl106 : LR ((rVT K rInt) F100) (v46 ++ [V.ref a98]) (st1 ++ [(sortI ([((0 : Int) - y54), y70] : (List Int)))]) := LR.snoc (hl47.mono s101) ⟨_, _, rfl, SqT.mono (SqT.of h103) (Same.refl _), hl104⟩
      have S107 : Sta F100 ([(a92, HO.lst ((sortI ([((0 : Int) - y54), y70] : (List Int))).map V.int)), (a87, HO.lst [V.int ((0 : Int) - y54), V.int y70]), (a3, HO.lst (v46 ++ [V.ref a98])), (a_letters0, HO.frz od12 (HO.dK v_letters0))] ++ R) _ := S102.set 2 rfl _
      refine hN86 _ _ ?_
      refine seqI fun N108 hN109 => ?_
      refine ⟨_, rfl, .inl ⟨rfl, _, (SqL.of (S107.get 2 rfl))⟩, _, rfl, _, _, rfl, rfl, _, rfl, (by show 2 ≤ sizeLine; decide), ?_⟩
      clear S102
      intro a110 np111
      have hl112 : LR (rInt F100) [V.int ((0 : Int) - y54), V.int y83] ([((0 : Int) - y54), y83] : (List Int)) := ⟨rfl, rfl, trivial⟩
      have S113 : Sta F100 ([(a110, HO.lst [V.int ((0 : Int) - y54), V.int y83]), (a92, HO.lst ((sortI ([((0 : Int) - y54), y70] : (List Int))).map V.int)), (a87, HO.lst [V.int ((0 : Int) - y54), V.int y70]), (a3, HO.lst (v46 ++ [V.ref a98])), (a_letters0, HO.frz od12 (HO.dK v_letters0))] ++ R) _ := S107.new np111 _
      refine ⟨_, ([((0 : Int) - y54), y83] : (List Int)), rfl, (by rw [← lr_map hl112]; exact (SqL.of (S113.get 0 rfl))), ?_⟩
      clear S107
      intro ys114 a115 pm116 pw117 np118
      obtain rfl := sortI_eq pm116 pw117
      have hl119 : LR (rInt F100) ((sortI ([((0 : Int) - y54), y83] : (List Int))).map V.int) (sortI ([((0 : Int) - y54), y83] : (List Int))) := lr_ints _
      have S120 : Sta F100 ([(a115, HO.lst ((sortI ([((0 : Int) - y54), y83] : (List Int))).map V.int)), (a110, HO.lst [V.int ((0 : Int) - y54), V.int y83]), (a92, HO.lst ((sortI ([((0 : Int) - y54), y70] : (List Int))).map V.int)), (a87, HO.lst [V.int ((0 : Int) - y54), V.int y70]), (a3, HO.lst (v46 ++ [V.ref a98])), (a_letters0, HO.frz od12 (HO.dK v_letters0))] ++ R) _ := S113.new np118 _
      refine .inl ⟨_, _, rfl, (SqL.of (S120.get 0 rfl)), ?_⟩
      intro a121 np122
      obtain ⟨F123, s124, S125, h126⟩ : ∃ F', Same F100 F' ∧ Sta F' ([(a115, HO.lst ((sortI ([((0 : Int) - y54), y83] : (List Int))).map V.int)), (a110, HO.lst [V.int ((0 : Int) - y54), V.int y83]), (a92, HO.lst ((sortI ([((0 : Int) - y54), y70] : (List Int))).map V.int)), (a87, HO.lst [V.int ((0 : Int) - y54), V.int y70]), (a3, HO.lst (v46 ++ [V.ref a98])), (a_letters0, HO.frz od12 (HO.dK v_letters0))] ++ R) _ ∧ F' a121 = some (HO.tup ((sortI ([((0 : Int) - y54), y83] : (List Int))).map V.int)) := ⟨_, S120.sameF np122 _, S120.newF np122 _, upd_same⟩
      have hl127 : LR (rInt F123) ((sortI ([((0 : Int) - y54), y83] : (List Int))).map V.int) (sortI ([((0 : Int) - y54), y83] : (List Int))) := hl119.mono s124
      revert hm; refine grdI fun g128 hm => ?_
      refine ⟨_, _, _, rfl, rfl, (S125.get 4 rfl), (by rw [LR.length (hl106.mono s124)]; exact of_decide_eq_true g128), ?_⟩
      clear S113
      have hl129 : LR ((rVT K rInt) F123) ((v46 ++ [V.ref a98]) ++ [V.ref a121]) ((st1 ++ [(sortI ([((0 : Int) - y54), y70] : (List Int)))]) ++ [(sortI ([((0 : Int) - y54), y83] : (List Int)))]) := LR.snoc (hl106.mono s124) ⟨_, _, rfl, SqT.mono (SqT.of h126) (Same.refl _), hl127⟩
      have S130 : Sta F123 ([(a115, HO.lst ((sortI ([((0 : Int) - y54), y83] : (List Int))).map V.int)), (a110, HO.lst [V.int ((0 : Int) - y54), V.int y83]), (a92, HO.lst ((sortI ([((0 : Int) - y54), y70] : (List Int))).map V.int)), (a87, HO.lst [V.int ((0 : Int) - y54), V.int y70]), (a3, HO.lst ((v46 ++ [V.ref a98]) ++ [V.ref a121])), (a_letters0, HO.frz od12 (HO.dK v_letters0))] ++ R) _ := S125.set 4 rfl _
      refine hN109 _ _ ?_
      refine ⟨_, rfl, .inl ⟨rfl, _, (SqL.of (S130.get 4 rfl))⟩, _, rfl, _, rfl, _, _, rfl, rfl, _, rfl, _, _, rfl, rfl, (by show 3 ≤ sizeLine; decide), ?_⟩
      clear S125
      intro a131 np132
      have hl133 : LR (rInt F123) [V.int y54, V.int ((0 : Int) - y70), V.int ((0 : Int) - y83)] ([y54, ((0 : Int) - y70), ((0 : Int) - y83)] : (List Int)) := ⟨rfl, rfl, rfl, trivial⟩
      have S134 : Sta F123 ([(a131, HO.lst [V.int y54, V.int ((0 : Int) - y70), V.int ((0 : Int) - y83)]), (a115, HO.lst ((sortI ([((0 : Int) - y54), y83] : (List Int))).map V.int)), (a110, HO.lst [V.int ((0 : Int) - y54), V.int y83]), (a92, HO.lst ((sortI ([((0 : Int) - y54), y70] : (List Int))).map V.int)), (a87, HO.lst [V.int ((0 : Int) - y54), V.int y70]), (a3, HO.lst ((v46 ++ [V.ref a98]) ++ [V.ref a121])), (a_letters0, HO.frz od12 (HO.dK v_letters0))] ++ R) _ := S130.new np132 _
      refine ⟨_, ([y54, ((0 : Int) - y70), ((0 : Int) - y83)] : (List Int)), rfl, (by rw [← lr_map hl133]; exact (SqL.of (S134.get 0 rfl))), ?_⟩
      clear S130
      intro ys135 a136 pm137 pw138 np139
      obtain rfl := sortI_eq pm137 pw138
      have hl140 : LR (rInt F123) ((sortI ([y54, ((0 : Int) - y70), ((0 : Int) - y83)] : (List Int))).map V.int) (sortI ([y54, ((0 : Int) - y70), ((0 : Int) - y83)] : (List Int))) := lr_ints _
      have S141 : Sta F123 ([(a136, HO.lst ((sortI ([y54, ((0 : Int) - y70), ((0 : Int) - y83)] : (List Int))).map V.int)), (a131, HO.lst [V.int y54, V.int ((0 : Int) - y70), V.int ((0 : Int) - y83)]), (a115, HO.lst ((sortI ([((0 : Int) - y54), y83] : (List Int))).map V.int)), (a110, HO.lst [V.int ((0 : Int) - y54), V.int y83]), (a92, HO.lst ((sortI ([((0 : Int) - y54), y70] : (List Int))).map V.int)), (a87, HO.lst [V.int ((0 : Int) - y54), V.int y70]), (a3, HO.lst ((v46 ++ [V.ref a98]) ++ [V.ref a121])), (a_letters0, HO.frz od12 (HO.dK v_letters0))] ++ R) _ := S134.new np139 _
      refine .inl ⟨_, _, rfl, (SqL.of (S141.get 0 rfl)), ?_⟩
      intro a142 np143
      obtain ⟨F144, s145, S146, h147⟩ : ∃ F', Same F123 F' ∧ Sta F' ([(a136, HO.lst ((sortI ([y54, ((0 : Int) - y70), ((0 : Int) - y83)] : (List Int))).map V.int)), (a131, HO.lst [V.int y54, V.int ((0 : Int) - y70), V.int ((0 : Int) - y83)]), (a115, HO.lst ((sortI ([((0 : Int) - y54), y83] : (List Int))).map V.int)), (a110, HO.lst [V.int ((0 : Int) - y54), V.int y83]), (a92, HO.lst ((sortI ([((0 : Int) - y54), y70] : (List Int))).map V.int)), (a87, HO.lst [V.int ((0 : Int) - y54), V.int y70]), (a3, HO.lst ((v46 ++ [V.ref a98]) ++ [V.ref a121])), (a_letters0, HO.frz od12 (HO.dK v_letters0))] ++ R) _ ∧ F' a142 = some (HO.tup ((sortI ([y54, ((0 : Int) - y70), ((0 : Int) - y83)] : (List Int))).map V.int)) := ⟨_, S141.sameF np143 _, S141.newF np143 _, upd_same⟩
      have hl148 : LR (rInt F144) ((sortI ([y54, ((0 : Int) - y70), ((0 : Int) - y83)] : (List Int))).map V.int) (sortI ([y54, ((0 : Int) - y70), ((0 : Int) - y83)] : (List Int))) := hl140.mono s145
      revert hm; refine grdI fun g149 hm => ?_
      refine ⟨_, _, _, rfl, rfl, (S146.get 6 rfl), (by rw [LR.length (hl129.mono s145)]; exact of_decide_eq_true g149), ?_⟩
      clear S134
      have hl150 : LR ((rVT K rInt) F144) (((v46 ++ [V.ref a98]) ++ [V.ref a121]) ++ [V.ref a142]) (((st1 ++ [(sortI ([((0 : Int) - y54), y70] : (List Int)))]) ++ [(sortI ([((0 : Int) - y54), y83] : (List Int)))]) ++ [(sortI ([y54, ((0 : Int) - y70), ((0 : Int) - y83)] : (List Int)))]) := LR.snoc (hl129.mono s145) ⟨_, _, rfl, SqT.mono (SqT.of h147) (Same.refl _), hl148⟩
      have S151 : Sta F144 ([(a136, HO.lst ((sortI ([y54, ((0 : Int) - y70), ((0 : Int) - y83)] : (List Int))).map V.int)), (a131, HO.lst [V.int y54, V.int ((0 : Int) - y70), V.int ((0 : Int) - y83)]), (a115, HO.lst ((sortI ([((0 : Int) - y54), y83] : (List Int))).map V.int)), (a110, HO.lst [V.int ((0 : Int) - y54), V.int y83]), (a92, HO.lst ((sortI ([((0 : Int) - y54), y70] : (List Int))).map V.int)), (a87, HO.lst [V.int ((0 : Int) - y54), V.int y70]), (a3, HO.lst (((v46 ++ [V.ref a98]) ++ [V.ref a121]) ++ [V.ref a142])), (a_letters0, HO.frz od12 (HO.dK v_letters0))] ++ R) _ := S146.set 6 rfl _
      have S152 : Sta F144 ([(a3, HO.lst (((v46 ++ [V.ref a98]) ++ [V.ref a121]) ++ [V.ref a142])), (a_letters0, HO.frz od12 (HO.dK v_letters0))] ++ R) _ := S151.pick [6, 7] (by decide) rfl
      exact ⟨(((st1 ++ [(sortI ([((0 : Int) - y54), y70] : (List Int)))]) ++ [(sortI ([((0 : Int) - y54), y83] : (List Int)))]) ++ [(sortI ([y54, ((0 : Int) - y70), ((0 : Int) - y83)] : (List Int)))]), F144, (((v46 ++ [V.ref a98]) ++ [V.ref a121]) ++ [V.ref a142]), _, _, _, _, rfl, (s40.trans (s101.trans (s124.trans s145))), S152, hl150, hm⟩
    · rintro σ H2 ⟨st1, F39, v46, o42, o43, o44, o45, rfl, s40, S41, hl47, hm⟩
      rw [LR.dropEnd (KR.keysLI (F := F0) hl_letters0), m_law_clauses_l1] at hm
      obtain rfl := Option.some.inj hm
      have hm := hm11
      refine ⟨(S41.get 1 rfl), ?_⟩
      have S153 : Sta F39 ([(a3, HO.lst v46), (a_letters0, HO.dK v_letters0)] ++ R) _ := S41.set 1 rfl _
      refine hN8 _ _ ?_
      refine ⟨_, rfl, ?_⟩
      clear S41
      obtain rfl := Option.some.inj hm
      exact kk _ _ a3 v46 s40 S153 hl47

def sp_law_is_encoding (T : Txt K mg) : Sp := fun vs H Q _ => ∃ (F0 : Hp) (R : Own) (a_encoded0 : Addr) (dx_encoded0 : Addr) (x_encoded0 : M_Encoding) (a_encoded0_letters0 : Addr) (v_encoded0_letters0 : List (Key × V)) (a_encoded0_clauses0 : Addr) (v_encoded0_clauses0 : List V) (a_encoded0_gates0 : Addr) (dx_encoded0_gates0 : Addr) (a_encoded0_gates0_rows0 : Addr) (v_encoded0_gates0_rows0 : List V) (a_encoded0_gates0_known0 : Addr) (v_encoded0_gates0_known0 : List (List Key × V)) (a_rows0 : Addr) (v_rows0 : List V) (x_rows0 : (List (List Key))) (a_letters0 : Addr) (v_letters0 : List (Key × V)) (x_letters0 : (List (Int × Int))) (r : Bool),
  vs = [V.ref a_encoded0, V.ref a_rows0, V.ref a_letters0] ∧ (ov F0 R) a_encoded0 = some (HO.ins T.a_Encoding dx_encoded0 (fl_Encoding (V.ref a_encoded0_letters0) (V.ref a_encoded0_clauses0) (V.ref a_encoded0_gates0))) ∧ (ov F0 R) a_encoded0_letters0 = some (HO.dK v_encoded0_letters0) ∧ KR Sum.inl (rInt F0) v_encoded0_letters0 x_encoded0.letters ∧ SqL K (ov F0 R) a_encoded0_clauses0 v_encoded0_clauses0 ∧ LR ((rVT K rInt) F0) v_encoded0_clauses0 x_encoded0.clauses ∧ (ov F0 R) a_encoded0_gates0 = some (HO.ins T.a_Gates dx_encoded0_gates0 (fl_Gates (V.ref a_encoded0_gates0_rows0) (V.ref a_encoded0_gates0_known0))) ∧ SqL K (ov F0 R) a_encoded0_gates0_rows0 v_encoded0_gates0_rows0 ∧ LR (rKT F0) v_encoded0_gates0_rows0 x_encoded0.gates.rows ∧ (ov F0 R) a_encoded0_gates0_known0 = some (HO.dT v_encoded0_gates0_known0) ∧ KR id (rInt F0) v_encoded0_gates0_known0 x_encoded0.gates.known ∧ SqL K (ov F0 R) a_rows0 v_rows0 ∧ LR (rKT F0) v_rows0 x_rows0 ∧ KR Sum.inl (rInt F0) v_letters0 x_letters0 ∧ Sta F0 ([(a_letters0, HO.dK v_letters0)] ++ R) H ∧ m_law_is_encoding x_encoded0 x_rows0 x_letters0 = some r ∧ ∀ (F1 : Hp) (H1 : Hp), Same F0 F1 → Sta F1 ([(a_letters0, HO.dK v_letters0)] ++ R) H1 → Q (V.bl r) H1

theorem ok_law_is_encoding (T : Txt K mg) : FnOk P w K mg base CX0 3 T.a_law_is_encoding T.d_law_is_encoding ["encoded", "rows", "letters"] (sp_law_is_encoding T) := by
  refine T.F_law_is_encoding.ok sc_law_is_encoding (fun vs H Q E h => ?_) (fun cdv A outer s H vs Q E hr h => ?_)
  · obtain ⟨_, _, _, _, _, _, _, _, _, _, _, _, _, _, _, _, _, _, _, _, _, _, rfl, _⟩ := h
    rfl
  · obtain ⟨F0, R, a_encoded0, dx_encoded0, x_encoded0, a_encoded0_letters0, v_encoded0_letters0, a_encoded0_clauses0, v_encoded0_clauses0, a_encoded0_gates0, dx_encoded0_gates0, a_encoded0_gates0_rows0, v_encoded0_gates0_rows0, a_encoded0_gates0_known0, v_encoded0_gates0_known0, a_rows0, v_rows0, x_rows0, a_letters0, v_letters0, x_letters0, r, rfl, hs_encoded0, hs_encoded0_letters0, hl_encoded0_letters0, hs_encoded0_clauses0, hl_encoded0_clauses0, hs_encoded0_gates0, hs_encoded0_gates0_rows0, hl_encoded0_gates0_rows0, hs_encoded0_gates0_known0, hl_encoded0_gates0_known0, hs_rows0, hl_rows0, hl_letters0, S0, hm, kk⟩ := h
    have hu := hu_of hr
    unfold m_law_is_encoding at hm
    refine ⟨_, (pss_cons (ps_if (pt_cut (PW.pt (pw_or (pt_not (pt_val (pe_callB call_isi (by rfl) T.z_isinstance (by decide +kernel) (pa_cons (pe_fld (pv 0) rfl) (pa_cons (pe_bltn (v := .ty "dict") (by rfl) T.z_dict (by decide +kernel) rfl) pa_nil))))) (pw_or1 (pt_cmpR (op_neD hr.units) (pe_callTy (call_listD rfl) (by rfl) T.z_list (by decide +kernel) (pa_cons (pe_fld (pv 0) rfl) pa_nil)) (pe_callTy (call_listD rfl) (by rfl) T.z_list (by decide +kernel) (pa_cons (pv 2) pa_nil)) (nomark _)))))) (pss_one (ps_ret pe_bl)) pss_nil) (pss_cons (ps_lock (ps_for PassesOwn.never rfl (pi_keys (pv 2)) (pg_name (i := 3) sc_law_is_encoding.nd rfl (Or.inl rfl)) (pss_one (ps_if (pt_not (pt_val (pe_call (ok_law_is_literal T) (hr.mono (by decide)) rfl T.g_law_is_literal T.F_law_is_literal.kp T.b_law_is_literal .nil pass0 (pa_cons (pe_dget hu (pe_fld (pv 0) rfl) (pv 3) (fun _ _ => rfl)) (pa_cons (pe_dget hu (pv 2) (pv 3) (fun _ _ => rfl)) pa_nil))))) (pss_one (ps_ret pe_bl)) pss_nil)))) (pss_cons (ps_for PassesOwn.never rfl (pi_range2 rfl T.z_range (pa_cons pe_int (pa_cons (pe_callB call_len_seq (by rfl) T.z_len PySem.boot_len (pa_cons (pv 1) pa_nil)) pa_nil))) (pg_name (i := 3) sc_law_is_encoding.nd rfl (Or.inl rfl)) (pss_one (ps_if (pt_pure (PW.pt (pw_or (pt_cmpR oS_eq (pe_ix ix_tup (pe_ix ix_list (pv 1) (pv 3) (fun _ _ => rfl)) pe_int (fun _ _ => rfl)) pe_str (nomark _)) (pw_or1 (pt_cmp (pc_din hu (pv 3) (pv 2))))))) (pss_one (ps_for PassesOwn.never rfl (pi_list (pe_lst (pa_cons (pe_op op_mul pe_int (pv 3)) (pa_cons (pe_op op_add (pe_op op_mul pe_int (pv 3)) pe_int) pa_nil)))) (pg_name (i := 4) sc_law_is_encoding.nd rfl (Or.inl rfl)) (pss_one (ps_if (pt_not (pt_val (pe_call (ok_law_is_literal T) (hr.mono (by decide)) rfl T.g_law_is_literal T.F_law_is_literal.kp T.b_law_is_literal .nil pass0 (pa_cons (pe_meth (pv 0) T.cl_Encoding T.h_Encoding_literal (ok_Encoding_literal T) (hr.mono (by decide)) T.b_Encoding_literal .nil pass0 (pa_cons (pv 4) pa_nil)) (pa_cons (pe_call (ok_law_literal T) (hr.mono (by decide)) rfl T.g_law_literal T.F_law_literal.kp T.b_law_literal .nil pass0 (pa_cons (pv 1) (pa_cons (pv 2) (pa_cons (pv 4) pa_nil)))) pa_nil))))) (pss_one (ps_ret pe_bl)) pss_nil)))) pss_nil))) (pss_one (ps_ret (pe_call (ok_law_same T) (hr.mono (by decide)) rfl T.g_law_same T.F_law_same.kp T.b_law_same .nil pass0 (pa_cons (pe_fld (pv 0) rfl) (pa_cons (pe_call (ok_law_clauses T) (hr.mono (by decide)) rfl T.g_law_clauses T.F_law_clauses.kp T.b_law_clauses .nil pass0 (pa_cons (pv 1) (pa_cons (pv 2) pa_nil))) pa_nil)))))))), ?_⟩
    refine seqI fun N1 hN2 => ?_
    revert hm; refine bndI fun b3 e4 hm => ?_
    refine ⟨fun b H' => ∃ (F5 : Hp), Same F0 F5 ∧ Sta F5 ([(a_letters0, HO.dK v_letters0)] ++ R) H' ∧ b3 = b, ?_, ?_⟩
    · clear hm
      have hm := e4
      clear e4
      refine ⟨_, rfl, _, _, _, _, _, rfl, (S0.bor (Same.refl _) (fun _ q => List.mem_append_right _ q) _ _ hs_encoded0), T.cl_Encoding, T.n_Encoding_letters, fl_Encoding_letters, _, _, _, _, _, rfl, .ty _, (.base (.dK (S0.bor (Same.refl _) (fun _ q => List.mem_append_right _ q) _ _ hs_encoded0_letters0))), (by first | rfl | exact PySem.W.kitOne_builtin rfl | decide +kernel), _, rfl, ?_⟩
      refine iteF ?_
      refine ⟨_, rfl, _, _, _, _, _, rfl, (S0.bor (Same.refl _) (fun _ q => List.mem_append_right _ q) _ _ hs_encoded0), T.cl_Encoding, T.n_Encoding_letters, fl_Encoding_letters, _, _, rfl, (.inl (S0.bor (Same.refl _) (fun _ q => List.mem_append_right _ q) _ _ hs_encoded0_letters0)), ?_⟩
      intro a8 np9
      have hl10 : LR (rInt F0) (v_encoded0_letters0.map fun kv => kV kv.1) (x_encoded0.letters.map (·.1)) := KR.keysLI hl_encoded0_letters0
      have S11 : Sta F0 ([(a8, HO.lst (v_encoded0_letters0.map fun kv => kV kv.1)), (a_letters0, HO.dK v_letters0)] ++ R) _ := S0.new np9 _
      refine ⟨_, rfl, _, _, rfl, (.inl (S11.get 1 rfl)), ?_⟩
      clear S0
      intro a12 np13
      have hl14 : LR (rInt F0) (v_letters0.map fun kv => kV kv.1) (x_letters0.map (·.1)) := KR.keysLI hl_letters0
      have S15 : Sta F0 ([(a12, HO.lst (v_letters0.map fun kv => kV kv.1)), (a8, HO.lst (v_encoded0_letters0.map fun kv => kV kv.1)), (a_letters0, HO.dK v_letters0)] ++ R) _ := S11.new np13 _
      refine ⟨_, _, (dat_dp (K := K) (r := (rLst K rInt)) ⟨_, _, rfl, (SqL.of (S15.get 1 rfl)), LR.mono hl10 S15.sub⟩), (dat_dp (K := K) (r := (rLst K rInt)) ⟨_, _, rfl, (SqL.of (S15.get 0 rfl)), LR.mono hl14 S15.sub⟩), (dat_shaped (K := K) (r := (rLst K rInt)) (Nat.le_of_ble_eq_true rfl) _ (DPl.pl _)), (dat_shaped (K := K) (r := (rLst K rInt)) (Nat.le_of_ble_eq_true rfl) _ (DPl.pl _)), ?_⟩
      clear S11
      rw [dat_eqv (K := K) (r := (rLst K rInt)) (x_encoded0.letters.map (·.1)) (x_letters0.map (·.1))]
      refine ⟨_, rfl, ?_⟩
      obtain rfl := Option.some.inj hm
      have S16 : Sta F0 ([(a_letters0, HO.dK v_letters0)] ++ R) _ := S15.pick [2] (by decide) rfl
      exact ⟨F0, (Same.refl _), S16, rfl⟩
    rintro b17 H18 ⟨F5, s6, S7, rfl⟩
    by_cases c19 : b3 = true
    · revert hm; refine ifTI c19 fun hm => ?_
      refine goT c19 ?_
      obtain rfl := Option.some.inj hm
      exact kk _ _ s6 S7
    · revert hm; refine ifFI c19 fun hm => ?_
      refine goF c19 ?_
      refine hN2 _ _ ?_
      refine seqI fun N20 hN21 => ?_
      refine ⟨_, _, (S7.get 0 rfl), trivial, fun od25 => ?_⟩
      have S26 : Sta F5 ([(a_letters0, HO.frz od25 (HO.dK v_letters0))] ++ R) _ := S7.set 0 rfl _
      revert hm; refine bndI fun y22 e23 hm24 => ?_
      refine ⟨_, rfl, _, _, rfl, .inl ⟨_, (S26.get 0 rfl), for_keys (kvs := v_letters0) (fun i σ H2 => ∃ (st1 : Unit) (F39 : Hp) (o42 : Option V), σ = [some (V.ref a_encoded0), some (V.ref a_rows0), some (V.ref a_letters0), o42, none] ∧ Same F5 F39 ∧ Sta F39 ([(a_letters0, HO.frz od25 (HO.dK v_letters0))] ++ R) H2 ∧ m_law_is_encoding_l1 x_encoded0 x_letters0 (List.drop i (x_letters0.map (·.1))) st1 = some y22) ⟨(), F5, _, rfl, (Same.refl _), S26, e23⟩ (by rintro i σ H2 ⟨st1, F39, o42, rfl, s40, S41, _⟩; exact S41.get 0 rfl) ?_ ?_⟩⟩
      clear S7
      · rintro i v44 σ H2 hi ⟨st1, F39, o42, rfl, s40, S41, hm⟩
        obtain ⟨x43, hx45, rx46⟩ := LR.getV (KR.keysLI (F := F5) (KR.mono hl_letters0 s6)) hi
        rw [drop_cons hx45, m_law_is_encoding_l1] at hm
        obtain rfl := rInt_e rx46
        revert hm; refine bndI fun y47 e48 hm => ?_
        obtain ⟨v49, ev50, rv51⟩ := KR.get hl_encoded0_letters0 kinj_int e48
        obtain rfl := rInt_e rv51
        revert hm; refine bndI fun y52 e53 hm => ?_
        obtain ⟨v54, ev55, rv56⟩ := KR.get hl_letters0 kinj_int e53
        obtain rfl := rInt_e rv56
        refine ⟨_, rfl, _, _, _, _, _, rfl, (S41.bor (s6.trans s40) (fun _ q => List.mem_append_right _ q) _ _ hs_encoded0), T.cl_Encoding, T.n_Encoding_letters, fl_Encoding_letters, _, rfl, _, _, rfl, (dget_of (DGet.k (k := Sum.inl x43) (S41.bor (s6.trans s40) (fun _ q => List.mem_append_right _ q) _ _ hs_encoded0_letters0)) ev50), _, rfl, _, rfl, _, _, rfl, (dget_of (DGet.kf (k := Sum.inl x43) (S41.get 0 rfl)) ev55), y47, y52, _, rfl, rfl, _, rfl, ?_⟩
        by_cases c57 : (!(m_law_is_literal y47 y52)) = true
        · revert hm; refine ifTI c57 fun hm => ?_
          refine goT c57 ?_
          obtain rfl := Option.some.inj hm
          have hm := hm24
          refine ⟨(S41.get 0 rfl), ?_⟩
          have S58 : Sta F39 ([(a_letters0, HO.dK v_letters0)] ++ R) _ := S41.set 0 rfl _
          obtain rfl := Option.some.inj hm
          exact kk _ _ (s6.trans s40) S58
        · revert hm; refine ifFI c57 fun hm => ?_
          refine goF c57 ?_
          exact ⟨(), F39, _, rfl, s40, S41, hm⟩
      · rintro σ H2 ⟨st1, F39, o42, rfl, s40, S41, hm⟩
        rw [LR.dropEnd (KR.keysLI (F := F5) (KR.mono hl_letters0 s6)), m_law_is_encoding_l1] at hm
        obtain rfl := Option.some.inj hm
        have hm := hm24
        refine ⟨(S41.get 0 rfl), ?_⟩
        have S59 : Sta F39 ([(a_letters0, HO.dK v_letters0)] ++ R) _ := S41.set 0 rfl _
        refine hN21 _ _ ?_
        refine seqI fun N60 hN61 => ?_
        refine ⟨_, rfl, _, _, rfl, .inl (SqL.mono hs_rows0 (S59.bor (s6.trans s40) (fun _ q => List.mem_append_right _ q))), ?_⟩
        clear S41
        rw [LR.length (hl_rows0.mono (s6.trans s40))]
        revert hm; refine grdI fun g65 hm => ?_
        revert hm; refine bndI fun y62 e63 hm64 => ?_
        refine ⟨_, _, rfl, (rng2Ok_ok g65), for_rng (lo := (1 : Int)) (n := ((x_rows0.length : Int) - (1 : Int)).toNat) (fun i σ H2 => ∃ (st2 : Unit) (F81 : Hp) (o84 : Option V) (o85 : Option V), σ = [some (V.ref a_encoded0), some (V.ref a_rows0), some (V.ref a_letters0), o84, o85] ∧ Same F39 F81 ∧ Sta F81 ([(a_letters0, HO.dK v_letters0)] ++ R) H2 ∧ m_law_is_encoding_l2 x_encoded0 x_rows0 x_letters0 (List.drop i (pyRange (1 : Int) ((x_rows0.length : Int) - (1 : Int)).toNat)) st2 = some y62) ⟨(), F39, _, _, rfl, (Same.refl _), S59, e63⟩ ?_ ?_⟩
        · rintro i x86 σ H2 hi ⟨st2, F81, o84, o85, rfl, s82, S83, hm⟩
          rw [drop_cons hi, m_law_is_encoding_l2] at hm
          revert hm; refine bndI fun b88 e89 hm => ?_
          refine ⟨b88, ?_, ?_⟩
          · clear hm
            have hm := e89
            clear e89
            revert hm; refine bndI fun y90 e91 hm => ?_
            obtain ⟨v92, ev93, rv94⟩ := LR.atI hl_rows0 e91
            obtain ⟨a95, rfl, h96⟩ := rv94
            revert hm; refine bndI fun y97 e98 hm => ?_
            refine ⟨_, rfl, _, rfl, _, _, _, _, rfl, rfl, (SqL.mono hs_rows0 (S83.bor (s6.trans (s40.trans s82)) (fun _ q => List.mem_append_right _ q))), ev93, _, _, _, _, rfl, rfl, (SqT.of (S83.sub _ _ ((s6.trans (s40.trans s82)) _ _ h96))), (kStr_at e98), _, _, rfl, rfl, _, rfl, ?_⟩
            by_cases c99 : (decide (y97 = ("letter" : Str))) = true
            · revert hm; refine ifTI c99 fun hm => ?_
              exact goT c99 ⟨Option.some.inj hm, rfl⟩
            · revert hm; refine ifFI c99 fun hm => ?_
              refine goF c99 ?_
              refine ⟨_, rfl, _, rfl, _, _, rfl, (DGet.k (k := Sum.inl x86) (S83.get 0 rfl)), ?_⟩
              rw [show _ = (mget x_letters0 x86).isSome from (KR.some_eq (KR.mono hl_letters0 (s6.trans (s40.trans s82))) (kinj_int) x86)]
              refine ⟨_, rfl, ?_⟩
              exact ⟨Option.some.inj hm, rfl⟩
          by_cases c100 : b88 = true
          · revert hm; refine ifTI c100 fun hm => ?_
            refine goT c100 ?_
            refine ⟨_, rfl, _, _, rfl, rfl, .inl ⟨by decide, by decide⟩, _, rfl, _, _, rfl, rfl, .inl ⟨by decide, by decide⟩, _, _, rfl, rfl, (by show 2 ≤ sizeLine; decide), ?_⟩
            intro a104 np105
            have hl106 : LR (rInt F81) [V.int ((2 : Int) * x86), V.int (((2 : Int) * x86) + (1 : Int))] ([((2 : Int) * x86), (((2 : Int) * x86) + (1 : Int))] : (List Int)) := ⟨rfl, rfl, trivial⟩
            have S107 : Sta F81 ([(a104, HO.lst [V.int ((2 : Int) * x86), V.int (((2 : Int) * x86) + (1 : Int))]), (a_letters0, HO.dK v_letters0)] ++ R) _ := S83.new np105 _
            revert hm; refine bndI fun y101 e102 hm103 => ?_
            refine ⟨_, rfl, ⟨_, (SqL.of (S107.get 0 rfl))⟩, for_list (K := K) (a := a104) (xs := [V.int ((2 : Int) * x86), V.int (((2 : Int) * x86) + (1 : Int))]) (fun i σ H2 => ∃ (st3 : Unit) (F120 : Hp) (o123 : Option V), σ = [some (V.ref a_encoded0), some (V.ref a_rows0), some (V.ref a_letters0), some (V.int x86), o123] ∧ Same F81 F120 ∧ Sta F120 ([(a104, HO.lst [V.int ((2 : Int) * x86), V.int (((2 : Int) * x86) + (1 : Int))]), (a_letters0, HO.dK v_letters0)] ++ R) H2 ∧ m_law_is_encoding_l3 x_encoded0 x_rows0 x_letters0 (List.drop i ([((2 : Int) * x86), (((2 : Int) * x86) + (1 : Int))] : (List Int))) st3 = some y101) ⟨(), F81, _, rfl, (Same.refl _), S107, e102⟩ (by rintro i σ H2 _ ⟨st3, F120, o123, rfl, s121, S122, _⟩; exact (SqL.of (S122.get 0 rfl))) ?_ ?_⟩
            clear S83
            · rintro i v125 σ H2 hi ⟨st3, F120, o123, rfl, s121, S122, hm⟩
              obtain ⟨x124, hx126, rx127⟩ := LR.getV hl106 hi
              rw [drop_cons hx126, m_law_is_encoding_l3] at hm
              obtain rfl := rInt_e rx127
              revert hm; refine bndI fun y128 e129 hm => ?_
              revert hm; refine bndI fun y130 e131 hm => ?_
              refine ⟨_, rfl, _, _, _, rfl, (S122.bor (s6.trans (s40.trans (s82.trans s121))) (fun _ q => List.mem_append_right _ q) _ _ hs_encoded0), fl_Encoding_no_literal, _, rfl, F120, ([(a104, HO.lst [V.int ((2 : Int) * x86), V.int (((2 : Int) * x86) + (1 : Int))]), (a_letters0, HO.dK v_letters0)] ++ R), a_encoded0, dx_encoded0, x_encoded0, a_encoded0_letters0, v_encoded0_letters0, a_encoded0_clauses0, v_encoded0_clauses0, a_encoded0_gates0, dx_encoded0_gates0, a_encoded0_gates0_rows0, v_encoded0_gates0_rows0, a_encoded0_gates0_known0, v_encoded0_gates0_known0, x124, _, rfl, (S122.ovR (s6.trans (s40.trans (s82.trans s121))) (fun _ q => List.mem_append_right _ q) _ _ hs_encoded0), (S122.ovR (s6.trans (s40.trans (s82.trans s121))) (fun _ q => List.mem_append_right _ q) _ _ hs_encoded0_letters0), (KR.mono hl_encoded0_letters0 (s6.trans (s40.trans (s82.trans s121)))), (SqL.mono hs_encoded0_clauses0 (S122.ovR (s6.trans (s40.trans (s82.trans s121))) (fun _ q => List.mem_append_right _ q))), (hl_encoded0_clauses0.mono (s6.trans (s40.trans (s82.trans s121)))), (S122.ovR (s6.trans (s40.trans (s82.trans s121))) (fun _ q => List.mem_append_right _ q) _ _ hs_encoded0_gates0), (SqL.mono hs_encoded0_gates0_rows0 (S122.ovR (s6.trans (s40.trans (s82.trans s121))) (fun _ q => List.mem_append_right _ q))), (hl_encoded0_gates0_rows0.mono (s6.trans (s40.trans (s82.trans s121)))), (S122.ovR (s6.trans (s40.trans (s82.trans s121))) (fun _ q => List.mem_append_right _ q) _ _ hs_encoded0_gates0_known0), (KR.mono hl_encoded0_gates0_known0 (s6.trans (s40.trans (s82.trans s121)))), S122, e129, _, rfl, _, rfl, _, rfl, F120, ([(a104, HO.lst [V.int ((2 : Int) * x86), V.int (((2 : Int) * x86) + (1 : Int))]), (a_letters0, HO.dK v_letters0)] ++ R), a_rows0, v_rows0, x_rows0, a_letters0, v_letters0, x_letters0, x124, _, rfl, (SqL.mono hs_rows0 (S122.ovR (s6.trans (s40.trans (s82.trans s121))) (fun _ q => List.mem_append_right _ q))), (hl_rows0.mono (s6.trans (s40.trans (s82.trans s121)))), (.inl (S122.getO 1 rfl)), (KR.mono hl_letters0 (s6.trans (s40.trans (s82.trans s121)))), S122, e131, y128, y130, _, rfl, rfl, _, rfl, ?_⟩
              by_cases c132 : (!(m_law_is_literal y128 y130)) = true
              · revert hm; refine ifTI c132 fun hm => ?_
                refine goT c132 ?_
                obtain rfl := Option.some.inj hm
                have hm := hm103
                obtain rfl := Option.some.inj hm
                have hm := hm64
                obtain rfl := Option.some.inj hm
                have S133 : Sta F120 ([(a_letters0, HO.dK v_letters0)] ++ R) _ := S122.pick [1] (by decide) rfl
                exact kk _ _ (s6.trans (s40.trans (s82.trans s121))) S133
              · revert hm; refine ifFI c132 fun hm => ?_
                refine goF c132 ?_
                exact ⟨(), F120, _, rfl, s121, S122, hm⟩
            · rintro σ H2 ⟨st3, F120, o123, rfl, s121, S122, hm⟩
              rw [LR.dropEnd hl106, m_law_is_encoding_l3] at hm
              obtain rfl := Option.some.inj hm
              have hm := hm103
              have S134 : Sta F120 ([(a_letters0, HO.dK v_letters0)] ++ R) _ := S122.pick [1] (by decide) rfl
              exact ⟨(), F120, _, _, rfl, (s82.trans s121), S134, hm⟩
          · revert hm; refine ifFI c100 fun hm => ?_
            refine goF c100 ?_
            exact ⟨(), F81, _, _, rfl, s82, S83, hm⟩
        · rintro σ H2 ⟨st2, F81, o84, o85, rfl, s82, S83, hm⟩
          rw [drop_rng, m_law_is_encoding_l2] at hm
          obtain rfl := Option.some.inj hm
          have hm := hm64
          refine hN61 _ _ ?_
          revert hm; refine bndI fun y135 e136 hm => ?_
          refine ⟨_, rfl, _, _, _, _, _, rfl, (S83.bor (s6.trans (s40.trans s82)) (fun _ q => List.mem_append_right _ q) _ _ hs_encoded0), T.cl_Encoding, T.n_Encoding_clauses, fl_Encoding_clauses, _, rfl, _, rfl, F81, ([] ++ R), a_rows0, v_rows0, x_rows0, a_letters0, v_letters0, x_letters0, _, rfl, (SqL.mono hs_rows0 (S83.tl.ovR (s6.trans (s40.trans s82)) (fun _ q => List.mem_append_right _ q))), (hl_rows0.mono (s6.trans (s40.trans s82))), (KR.mono hl_letters0 (s6.trans (s40.trans s82))), S83, e136, fun F137 H138 a141 v142 s139 S140 hl143 => ?_⟩
          have S144 : Sta F137 ([(a141, HO.lst v142), (a_letters0, HO.dK v_letters0)] ++ R) _ := S140
          revert hm; refine bndI fun y145 e146 hm => ?_
          refine ⟨F137, ([(a141, HO.lst v142), (a_letters0, HO.dK v_letters0)] ++ R), a_encoded0_clauses0, v_encoded0_clauses0, x_encoded0.clauses, a141, v142, y135, _, rfl, (SqL.mono hs_encoded0_clauses0 (S144.ovR (s6.trans (s40.trans (s82.trans s139))) (fun _ q => List.mem_append_right _ q))), (hl_encoded0_clauses0.mono (s6.trans (s40.trans (s82.trans s139)))), (SqL.of (S144.getO 0 rfl)), hl143, S144, e146, ?_⟩
          clear S140
          obtain rfl := Option.some.inj hm
          have S147 : Sta F137 ([(a_letters0, HO.dK v_letters0)] ++ R) _ := S144.pick [1] (by decide) rfl
          exact kk _ _ (s6.trans (s40.trans (s82.trans s139))) S147

def sp_law_value (T : Txt K mg) : Sp := fun vs H Q _ => ∃ (F0 : Hp) (R : Own) (a_truths0 : Addr) (v_truths0 : List V) (x_truths0 : (List Bool)) (x_edge0 : Int) (r : Bool),
  vs = [V.ref a_truths0, V.int x_edge0] ∧ SqL K (ov F0 R) a_truths0 v_truths0 ∧ LR (rBool F0) v_truths0 x_truths0 ∧ Sta F0 ([] ++ R) H ∧ m_law_value x_truths0 x_edge0 = some r ∧ Q (V.bl r) H

theorem ok_law_value (T : Txt K mg) : FnOk P w K mg base CX0 1 T.a_law_value T.d_law_value ["truths", "edge"] (sp_law_value T) := by
  refine T.F_law_value.ok sc_law_value (fun vs H Q E h => ?_) (fun cdv A outer s H vs Q E hr h => ?_)
  · obtain ⟨_, _, _, _, _, _, _, rfl, _⟩ := h
    rfl
  · obtain ⟨F0, R, a_truths0, v_truths0, x_truths0, x_edge0, r, rfl, hs_truths0, hl_truths0, S0, hm, kk⟩ := h
    have hu := hu_of hr
    unfold m_law_value at hm
    refine ⟨_, (pss_one (ps_ret (pe_cmpR oB_ne (pe_ix ix_list (pv 0) (pe_op op_fdiv (pv 1) pe_int) (fun _ _ => rfl)) (pe_cmpR oI_eq (pe_op op_mod (pe_callTy call_int1 (by rfl) T.z_int (by decide +kernel) (pa_cons (pv 1) pa_nil)) pe_int) pe_int (nomark _)) (nomark _)))), ?_⟩
    revert hm; refine bndI fun y1 e2 hm => ?_
    obtain ⟨v3, ev4, rv5⟩ := LR.atI hl_truths0 e2
    obtain rfl := rBool_e rv5
    refine ⟨_, rfl, _, rfl, _, _, rfl, rfl, ⟨by decide, by decide⟩, _, _, _, _, rfl, rfl, (SqL.mono hs_truths0 (S0.bor (Same.refl _) (fun _ q => List.mem_append_right _ q))), ev4, _, rfl, ?_⟩
    refine .inl ⟨_, rfl, ?_⟩
    refine ⟨_, _, rfl, rfl, (by show (0 : Int) < 2; decide), _, _, rfl, rfl, _, _, rfl, rfl, ?_⟩
    obtain rfl := Option.some.inj hm
    exact kk

def sp_law_truths (T : Txt K mg) : Sp := fun vs H Q _ => ∃ (F0 : Hp) (R : Own) (a_rows0 : Addr) (v_rows0 : List V) (x_rows0 : (List (List Key))) (a_choices0 : Addr) (v_choices0 : List (Key × V)) (x_choices0 : (List (Int × Bool))) (r : (List Bool)),
  vs = [V.ref a_rows0, V.ref a_choices0] ∧ SqL K (ov F0 R) a_rows0 v_rows0 ∧ LR (rKT F0) v_rows0 x_rows0 ∧ (ov F0 R) a_choices0 = some (HO.dK v_choices0) ∧ KR Sum.inl (rBool F0) v_choices0 x_choices0 ∧ Sta F0 ([] ++ R) H ∧ m_law_truths x_rows0 x_choices0 = some r ∧ ∀ (F1 : Hp) (H1 : Hp) (a_ret0p : Addr) (v_ret0p : List V), Same F0 F1 → Sta F1 ([(a_ret0p, HO.lst v_ret0p)] ++ R) H1 → LR (rBool F1) v_ret0p r → Q (V.ref a_ret0p) H1

theorem ok_law_truths (T : Txt K mg) : FnOk P w K mg base CX0 2 T.a_law_truths T.d_law_truths ["rows", "choices"] (sp_law_truths T) := by
  refine T.F_law_truths.ok sc_law_truths (fun vs H Q E h => ?_) (fun cdv A outer s H vs Q E hr h => ?_)
  · obtain ⟨_, _, _, _, _, _, _, _, _, rfl, _⟩ := h
    rfl
  · obtain ⟨F0, R, a_rows0, v_rows0, x_rows0, a_choices0, v_choices0, x_choices0, r, rfl, hs_rows0, hl_rows0, hs_choices0, hl_choices0, S0, hm, kk⟩ := h
    have hu := hu_of hr
    unfold m_law_truths at hm
    refine ⟨_, (pss_cons (ps_set (i := 2) sc_law_truths.nd rfl (Or.inl rfl) (pe_lst (pa_cons pe_bl pa_nil))) (pss_cons (ps_for PassesOwn.never rfl (pi_range2 rfl T.z_range (pa_cons pe_int (pa_cons (pe_callB call_len_seq (by rfl) T.z_len PySem.boot_len (pa_cons (pv 0) pa_nil)) pa_nil))) (pg_name (i := 3) sc_law_truths.nd rfl (Or.inl rfl)) (pss_cons (ps_set (i := 4) sc_law_truths.nd rfl (Or.inl rfl) (pe_ix ix_list (pv 0) (pv 3) (fun _ _ => rfl))) (pss_one (ps_if (pt_cmpR oS_eq (pe_ix ix_tup (pv 4) pe_int (fun _ _ => rfl)) pe_str (nomark _)) (pss_one (ps_expr (pe_bm PySem.F.plainAttrs_list PySem.F.slot_list_append PySem.F.type_list_append mt_append (pv 2) (pa_cons (pe_dget hu (pv 1) (pe_ix ix_tup (pv 4) pe_int (fun _ _ => rfl)) (fun _ _ => rfl)) pa_nil)))) (pss_one (ps_expr (pe_bm PySem.F.plainAttrs_list PySem.F.slot_list_append PySem.F.type_list_append mt_append (pv 2) (pa_cons (pe_pure (pe_and (pe_call (ok_law_value T) (hr.mono (by decide)) rfl T.g_law_value T.F_law_value.kp T.b_law_value .nil pass0 (pa_cons (pv 2) (pa_cons (pe_ix ix_tup (pv 4) pe_int (fun _ _ => rfl)) pa_nil))) (pe_one (pe_call (ok_law_value T) (hr.mono (by decide)) rfl T.g_law_value T.F_law_value.kp T.b_law_value .nil pass0 (pa_cons (pv 2) (pa_cons (pe_ix ix_tup (pv 4) pe_int (fun _ _ => rfl)) pa_nil)))))) pa_nil)))))))) (pss_one (ps_ret (pv 2))))), ?_⟩
    refine seqI fun N1 hN2 => ?_
    refine ⟨(by show 1 ≤ sizeLine; decide), ?_⟩
    intro a3 np4
    have hl5 : LR (rBool F0) [V.bl false] ([false] : (List Bool)) := ⟨rfl, trivial⟩
    have S6 : Sta F0 ([(a3, HO.lst [V.bl false])] ++ R) _ := S0.new np4 _
    refine hN2 _ _ ?_
    refine seqI fun N7 hN8 => ?_
    refine ⟨_, rfl, _, _, rfl, .inl (SqL.mono hs_rows0 (S6.bor (Same.refl _) (fun _ q => List.mem_append_right _ q))), ?_⟩
    clear S0
    rw [LR.length hl_rows0]
    revert hm; refine grdI fun g12 hm => ?_
    revert hm; refine bndI fun y9 e10 hm11 => ?_
    refine ⟨_, _, rfl, (rng2Ok_ok g12), for_rng (lo := (1 : Int)) (n := ((x_rows0.length : Int) - (1 : Int)).toNat) (fun i σ H2 => ∃ (st1 : (List Bool)) (F32 : Hp) (v37 : List V) (o35 : Option V) (o36 : Option V), σ = [some (V.ref a_rows0), some (V.ref a_choices0), some (V.ref a3), o35, o36] ∧ Same F0 F32 ∧ Sta F32 ([(a3, HO.lst v37)] ++ R) H2 ∧ LR (rBool F32) v37 st1 ∧ m_law_truths_l1 x_rows0 x_choices0 (List.drop i (pyRange (1 : Int) ((x_rows0.length : Int) - (1 : Int)).toNat)) st1 = some y9) ⟨([false] : (List Bool)), F0, [V.bl false], _, _, rfl, (Same.refl _), S6, hl5, e10⟩ ?_ ?_⟩
    · rintro i x39 σ H2 hi ⟨st1, F32, v37, o35, o36, rfl, s33, S34, hl38, hm⟩
      rw [drop_cons hi, m_law_truths_l1] at hm
      refine seqI fun N41 hN42 => ?_
      revert hm; refine bndI fun y43 e44 hm => ?_
      obtain ⟨v45, ev46, rv47⟩ := LR.atI hl_rows0 e44
      obtain ⟨a48, rfl, h49⟩ := rv47
      refine ⟨_, rfl, _, rfl, _, _, _, _, rfl, rfl, (SqL.mono hs_rows0 (S34.bor s33 (fun _ q => List.mem_append_right _ q))), ev46, ?_⟩
      refine hN42 _ _ ?_
      revert hm; refine bndI fun y50 e51 hm => ?_
      refine ⟨_, rfl, _, _, _, _, rfl, rfl, (SqT.of (S34.sub _ _ (s33 _ _ h49))), (kStr_at e51), _, _, rfl, rfl, _, rfl, ?_⟩
      by_cases c52 : (decide (y50 = ("letter" : Str))) = true
      · revert hm; refine ifTI c52 fun hm => ?_
        refine goT c52 ?_
        revert hm; refine bndI fun y53 e54 hm => ?_
        revert hm; refine bndI fun y55 e56 hm => ?_
        obtain ⟨v57, ev58, rv59⟩ := KR.get hl_choices0 kinj_int e56
        obtain rfl := rBool_e rv59
        revert hm; refine grdI fun g60 hm => ?_
        refine ⟨_, rfl, .inl ⟨rfl, _, (SqL.of (S34.get 0 rfl))⟩, _, rfl, _, rfl, _, _, _, _, rfl, rfl, (SqT.of (S34.sub _ _ (s33 _ _ h49))), (kInt_at e54), _, _, rfl, (dget_of (DGet.k (k := Sum.inl y53) (S34.bor s33 (fun _ q => List.mem_append_right _ q) _ _ hs_choices0)) ev58), _, _, _, rfl, rfl, (S34.get 0 rfl), (by rw [LR.length hl38]; exact of_decide_eq_true g60), ?_⟩
        have hl61 : LR (rBool F32) (v37 ++ [V.bl y55]) (st1 ++ [y55]) := LR.snoc hl38 rfl
        have S62 : Sta F32 ([(a3, HO.lst (v37 ++ [V.bl y55]))] ++ R) _ := S34.set 0 rfl _
        exact ⟨(st1 ++ [y55]), F32, (v37 ++ [V.bl y55]), _, _, rfl, s33, S62, hl61, hm⟩
      · revert hm; refine ifFI c52 fun hm => ?_
        refine goF c52 ?_
        refine ⟨_, rfl, .inl ⟨rfl, _, (SqL.of (S34.get 0 rfl))⟩, ?_⟩
        revert hm; refine bndI fun b63 e64 hm => ?_
        refine ⟨V.bl b63, ?_, ?_⟩
        · clear hm
          have hm := e64
          clear e64
          revert hm; refine bndI fun y65 e66 hm => ?_
          revert hm; refine bndI fun y67 e68 hm => ?_
          refine ⟨_, rfl, _, rfl, _, _, _, _, rfl, rfl, (SqT.of (S34.sub _ _ (s33 _ _ h49))), (kInt_at e66), F32, ([(a3, HO.lst v37)] ++ R), a3, v37, st1, y65, _, rfl, (SqL.of (S34.getO 0 rfl)), hl38, S34, e68, _, rfl, ?_⟩
          by_cases c69 : y67 = true
          · revert hm; refine ifTI c69 fun hm => ?_
            refine goT c69 ?_
            revert hm; refine bndI fun y70 e71 hm => ?_
            revert hm; refine bndI fun y72 e73 hm => ?_
            refine ⟨_, rfl, _, rfl, _, _, _, _, rfl, rfl, (SqT.of (S34.sub _ _ (s33 _ _ h49))), (kInt_at e71), F32, ([(a3, HO.lst v37)] ++ R), a3, v37, st1, y70, _, rfl, (SqL.of (S34.getO 0 rfl)), hl38, S34, e73, ?_⟩
            exact ⟨congrArg V.bl (Option.some.inj hm), rfl⟩
          · revert hm; refine ifFI c69 fun hm => ?_
            exact goF c69 ⟨congrArg V.bl (Option.some.inj hm), rfl⟩
        revert hm; refine grdI fun g74 hm => ?_
        refine ⟨_, _, _, rfl, rfl, (S34.get 0 rfl), (by rw [LR.length hl38]; exact of_decide_eq_true g74), ?_⟩
        have hl75 : LR (rBool F32) (v37 ++ [V.bl b63]) (st1 ++ [b63]) := LR.snoc hl38 rfl
        have S76 : Sta F32 ([(a3, HO.lst (v37 ++ [V.bl b63]))] ++ R) _ := S34.set 0 rfl _
        exact ⟨(st1 ++ [b63]), F32, (v37 ++ [V.bl b63]), _, _, rfl, s33, S76, hl75, hm⟩
    · rintro σ H2 ⟨st1, F32, v37, o35, o36, rfl, s33, S34, hl38, hm⟩
      rw [drop_rng, m_law_truths_l1] at hm
      obtain rfl := Option.some.inj hm
      have hm := hm11
      refine hN8 _ _ ?_
      refine ⟨_, rfl, ?_⟩
      obtain rfl := Option.some.inj hm
      exact kk _ _ a3 v37 s33 S34 hl38

def sp_law_full (T : Txt K mg) : Sp := fun vs H Q _ => ∃ (F0 : Hp) (R : Own) (a_truths0 : Addr) (v_truths0 : List V) (x_truths0 : (List Bool)) (a_letters0 : Addr) (v_letters0 : List (Key × V)) (x_letters0 : (List (Int × Int))) (a_choices0 : Addr) (v_choices0 : List (Key × V)) (x_choices0 : (List (Int × Bool))) (r : (List (Int × Bool))),
  vs = [V.ref a_truths0, V.ref a_letters0, V.ref a_choices0] ∧ SqL K (ov F0 R) a_truths0 v_truths0 ∧ LR (rBool F0) v_truths0 x_truths0 ∧ KR Sum.inl (rInt F0) v_letters0 x_letters0 ∧ (ov F0 R) a_choices0 = some (HO.dK v_choices0) ∧ KR Sum.inl (rBool F0) v_choices0 x_choices0 ∧ Sta F0 ([(a_letters0, HO.dK v_letters0)] ++ R) H ∧ m_law_full x_truths0 x_letters0 x_choices0 = some r ∧ ∀ (F1 : Hp) (H1 : Hp) (a_ret0p : Addr) (v_ret0p : List (Key × V)), Same F0 F1 → Sta F1 ([(a_ret0p, HO.dK v_ret0p), (a_letters0, HO.dK v_letters0)] ++ R) H1 → KR Sum.inl (rBool F1) v_ret0p r → Q (V.ref a_ret0p) H1

theorem ok_law_full (T : Txt K mg) : FnOk P w K mg base CX0 1 T.a_law_full T.d_law_full ["truths", "letters", "choices"] (sp_law_full T) := by
  refine T.F_law_full.ok sc_law_full (fun vs H Q E h => ?_) (fun cdv A outer s H vs Q E hr h => ?_)
  · obtain ⟨_, _, _, _, _, _, _, _, _, _, _, _, rfl, _⟩ := h
    rfl
  · obtain ⟨F0, R, a_truths0, v_truths0, x_truths0, a_letters0, v_letters0, x_letters0, a_choices0, v_choices0, x_choices0, r, rfl, hs_truths0, hl_truths0, hl_letters0, hs_choices0, hl_choices0, S0, hm, kk⟩ := h
    have hu := hu_of hr
    unfold m_law_full at hm
    refine ⟨_, (pss_cons (ps_set (i := 3) sc_law_full.nd rfl (Or.inl rfl) (pe_callTy call_dictD (by rfl) T.z_dict (by decide +kernel) (pa_cons (pv 2) pa_nil))) (pss_cons (ps_lock (ps_for PassesOwn.never rfl (pi_keys (pv 1)) (pg_name (i := 4) sc_law_full.nd rfl (Or.inl rfl)) (pss_one (ps_dput hu (pv 3) (pe_dget hu (pv 1) (pv 4) (fun _ _ => rfl)) (pe_ix ix_list (pv 0) (pv 4) (fun _ _ => rfl)) rfl)))) (pss_one (ps_ret (pv 3))))), ?_⟩
    refine seqI fun N1 hN2 => ?_
    refine ⟨_, rfl, _, _, rfl, (.inl (S0.bor (Same.refl _) (fun _ q => List.mem_append_right _ q) _ _ hs_choices0)), ?_⟩
    intro a3 np4
    have hl5 := hl_choices0
    have S6 : Sta F0 ([(a3, HO.dK v_choices0), (a_letters0, HO.dK v_letters0)] ++ R) _ := S0.new np4 _
    refine hN2 _ _ ?_
    refine seqI fun N7 hN8 => ?_
    refine ⟨_, _, (S6.get 1 rfl), trivial, fun od12 => ?_⟩
    have S13 : Sta F0 ([(a3, HO.dK v_choices0), (a_letters0, HO.frz od12 (HO.dK v_letters0))] ++ R) _ := S6.set 1 rfl _
    revert hm; refine bndI fun y9 e10 hm11 => ?_
    refine ⟨_, rfl, _, _, rfl, .inl ⟨_, (S13.get 1 rfl), for_keys (kvs := v_letters0) (fun i σ H2 => ∃ (st1 : (List (Int × Bool))) (F30 : Hp) (v34 : List (Key × V)) (o33 : Option V), σ = [some (V.ref a_truths0), some (V.ref a_letters0), some (V.ref a_choices0), some (V.ref a3), o33] ∧ Same F0 F30 ∧ Sta F30 ([(a3, HO.dK v34), (a_letters0, HO.frz od12 (HO.dK v_letters0))] ++ R) H2 ∧ KR Sum.inl (rBool F30) v34 st1 ∧ m_law_full_l1 x_truths0 x_letters0 (List.drop i (x_letters0.map (·.1))) st1 = some y9) ⟨x_choices0, F0, v_choices0, _, rfl, (Same.refl _), S13, hl5, e10⟩ (by rintro i σ H2 ⟨st1, F30, v34, o33, rfl, s31, S32, hl35, _⟩; exact S32.get 1 rfl) ?_ ?_⟩⟩
    clear S0 S6
    · rintro i v37 σ H2 hi ⟨st1, F30, v34, o33, rfl, s31, S32, hl35, hm⟩
      obtain ⟨x36, hx38, rx39⟩ := LR.getV (KR.keysLI (F := F0) hl_letters0) hi
      rw [drop_cons hx38, m_law_full_l1] at hm
      obtain rfl := rInt_e rx39
      revert hm; refine bndI fun y40 e41 hm => ?_
      obtain ⟨v42, ev43, rv44⟩ := LR.atI hl_truths0 e41
      obtain rfl := rBool_e rv44
      revert hm; refine bndI fun y45 e46 hm => ?_
      obtain ⟨v47, ev48, rv49⟩ := KR.get hl_letters0 kinj_int e46
      obtain rfl := rInt_e rv49
      revert hm; refine grdI fun g50 hm => ?_
      refine ⟨_, rfl, _, rfl, _, _, _, _, rfl, rfl, (SqL.mono hs_truths0 (S32.bor s31 (fun _ q => List.mem_append_right _ q))), ev43, _, rfl, _, rfl, _, rfl, _, _, rfl, (dget_of (DGet.kf (k := Sum.inl x36) (S32.get 1 rfl)) ev48), _, _, rfl, (DPut.k (k := Sum.inl y45) (S32.get 0 rfl) (by rw [KR.length hl35]; exact of_decide_eq_true g50)), ?_⟩
      have hl51 : KR Sum.inl (rBool F30) (putK v34 (Sum.inl y45) (V.bl y40)) (mput st1 y45 y40) := KR.put hl35 kinj_int rfl
      have S52 : Sta F30 ([(a3, HO.dK (putK v34 (Sum.inl y45) (V.bl y40))), (a_letters0, HO.frz od12 (HO.dK v_letters0))] ++ R) _ := S32.set 0 rfl _
      exact ⟨(mput st1 y45 y40), F30, (putK v34 (Sum.inl y45) (V.bl y40)), _, rfl, s31, S52, hl51, hm⟩
    · rintro σ H2 ⟨st1, F30, v34, o33, rfl, s31, S32, hl35, hm⟩
      rw [LR.dropEnd (KR.keysLI (F := F0) hl_letters0), m_law_full_l1] at hm
      obtain rfl := Option.some.inj hm
      have hm := hm11
      refine ⟨(S32.get 1 rfl), ?_⟩
      have S53 : Sta F30 ([(a3, HO.dK v34), (a_letters0, HO.dK v_letters0)] ++ R) _ := S32.set 1 rfl _
      refine hN8 _ _ ?_
      refine ⟨_, rfl, ?_⟩
      clear S32
      obtain rfl := Option.some.inj hm
      exact kk _ _ a3 v34 s31 S53 hl35

def sp_law_all_true (T : Txt K mg) : Sp := fun vs H Q _ => ∃ (F0 : Hp) (R : Own) (a_clauses0 : Addr) (v_clauses0 : List V) (x_clauses0 : (List (List Int))) (a_choices0 : Addr) (v_choices0 : List (Key × V)) (x_choices0 : (List (Int × Bool))) (r : Bool),
  vs = [V.ref a_clauses0, V.ref a_choices0] ∧ SqL K (ov F0 R) a_clauses0 v_clauses0 ∧ LR ((rVT K rInt) F0) v_clauses0 x_clauses0 ∧ (ov F0 R) a_choices0 = some (HO.dK v_choices0) ∧ KR Sum.inl (rBool F0) v_choices0 x_choices0 ∧ Sta F0 ([] ++ R) H ∧ m_law_all_true x_clauses0 x_choices0 = some r ∧ ∀ (F1 : Hp) (H1 : Hp), Same F0 F1 → Sta F1 ([] ++ R) H1 → Q (V.bl r) H1

theorem ok_law_all_true (T : Txt K mg) : FnOk P w K mg base CX0 1 T.a_law_all_true T.d_law_all_true ["clauses", "choices"] (sp_law_all_true T) := by
  refine T.F_law_all_true.ok sc_law_all_true (fun vs H Q E h => ?_) (fun cdv A outer s H vs Q E hr h => ?_)
  · obtain ⟨_, _, _, _, _, _, _, _, _, rfl, _⟩ := h
    rfl
  · obtain ⟨F0, R, a_clauses0, v_clauses0, x_clauses0, a_choices0, v_choices0, x_choices0, r, rfl, hs_clauses0, hl_clauses0, hs_choices0, hl_choices0, S0, hm, kk⟩ := h
    have hu := hu_of hr
    unfold m_law_all_true at hm
    refine ⟨_, (pss_cons (ps_for PassesOwn.never rfl (pi_list (pv 0)) (pg_name (i := 2) sc_law_all_true.nd rfl (Or.inl rfl)) (pss_cons (ps_setLc (i := 3) (own := [("literal", 4)]) rfl sc_law_all_true.nd rfl rfl (sw_true rfl rfl rfl (by decide +kernel)) (pi_tup (pv 2)) (blkOk_by (own := [("literal", 4)]) (N := ["clauses", "choices", "clause", "held", "literal"]) (sc := defScope s_law_all_true) (by decide +kernel)) (fun _ _ _ _ _ => (pg_name (i := 4) sc_law_all_true.nd rfl (Or.inl rfl))) (fun _ _ _ _ _ => (pts_one (pt_cmpR oB_eq (pe_dget hu (pv 1) (pe_callB call_abs (by rfl) T.z_abs (by decide +kernel) (pa_cons (pv 4) pa_nil)) (fun _ _ => rfl)) (pe_cmpR op_gt (pv 4) pe_int (nomark _)) (nomark _)))) (fun _ _ _ _ _ => (pv 4))) (pss_one (ps_if (pt_cmpR (op_eqD hr.units) (pv 3) (pe_lst pa_nil) (nomark _)) (pss_one (ps_ret pe_bl)) pss_nil)))) (pss_one (ps_ret pe_bl))), ?_⟩
    refine seqI fun N1 hN2 => ?_
    revert hm; refine bndI fun y3 e4 hm5 => ?_
    refine ⟨_, rfl, _, rfl, ⟨_, (SqL.mono hs_clauses0 (S0.bor (Same.refl _) (fun _ q => List.mem_append_right _ q)))⟩, for_list (K := K) (a := a_clauses0) (xs := v_clauses0) (fun i σ H2 => ∃ (st1 : Unit) (F24 : Hp) (o27 : Option V) (o28 : Option V) (o29 : Option V), σ = [some (V.ref a_clauses0), some (V.ref a_choices0), o27, o28, o29] ∧ Same F0 F24 ∧ Sta F24 ([] ++ R) H2 ∧ m_law_all_true_l1 x_choices0 (List.drop i x_clauses0) st1 = some y3) ⟨(), F0, _, _, _, rfl, (Same.refl _), S0, e4⟩ (by rintro i σ H2 _ ⟨st1, F24, o27, o28, o29, rfl, s25, S26, _⟩; exact (SqL.mono hs_clauses0 (S26.bor s25 (fun _ q => List.mem_append_right _ q)))) ?_ ?_⟩
    · rintro i v31 σ H2 hi ⟨st1, F24, o27, o28, o29, rfl, s25, S26, hm⟩
      obtain ⟨x30, hx32, rx33⟩ := LR.getV hl_clauses0 hi
      rw [drop_cons hx32, m_law_all_true_l1] at hm
      obtain ⟨a34, v35, rfl, hs36, hl37⟩ := rx33
      refine seqI fun N38 hN39 => ?_
      revert hm; refine grdI fun g54 hm => ?_
      revert hm; refine bndI fun y70 e40 hm => ?_
      refine ⟨_, rfl, _, rfl, ⟨_, (SqT.mono hs36 (s25.trans S26.sub))⟩, fun a52 np53 => lc_tup (K := K) (a := a34) (xs := v35) (fun i H2 => ∃ (F45 : Hp) (v46 : List V) (acc47 : List Int) (r41 : List Int), Same F24 F45 ∧ Sta F45 ([(a52, HO.lst v46)] ++ R) H2 ∧ LR (rInt F45) v46 acc47 ∧ acc47.length ≤ i ∧ lcO (fun x44 => (mget x_choices0 (if x44 < 0 then -x44 else x44)).bind fun y63 =>
      if (decide (y63 = (decide (x44 > (0 : Int))))) = true then (some (some x44)) else some none) (List.drop i x30) = some r41 ∧ y70 = acc47 ++ r41) ⟨F24, [], [], _, Same.refl _, S26.new np53 _, trivial, Nat.le_refl _, e40, rfl⟩ (by rintro i H2 _ ⟨F45, v46, acc47, r41, s48, S49, hl50, hn51, hr42, hy43⟩; exact (SqT.mono hs36 ((s25.trans s48).trans S49.sub))) ?_ ?_⟩
      · rintro i v55 H2 hi ⟨F45, v46, acc47, r41, s48, S49, hl50, hn51, hr42, hy43⟩
        obtain ⟨x44, hx56, rx57⟩ := LR.getV hl37 hi
        rw [drop_cons hx56] at hr42
        revert hr42; refine lcI fun y58 r59 hm hr61 hc62 => ?_
        obtain rfl := rInt_e rx57
        refine ⟨rfl, ?_⟩
        revert hm; refine bndI fun y63 e64 hm => ?_
        obtain ⟨v65, ev66, rv67⟩ := KR.get hl_choices0 kinj_int e64
        obtain rfl := rBool_e rv67
        refine ⟨_, rfl, _, rfl, _, rfl, _, _, rfl, (dget_of (DGet.k (k := Sum.inl (if x44 < 0 then -x44 else x44)) (S49.bor (s25.trans s48) (fun _ q => List.mem_append_right _ q) _ _ hs_choices0)) ev66), _, rfl, _, _, rfl, rfl, _, _, rfl, rfl, _, rfl, ?_⟩
        by_cases c68 : (decide (y63 = (decide (x44 > (0 : Int))))) = true
        · revert hm; refine ifTI c68 fun hm => ?_
          refine goT c68 ?_
          refine ⟨_, rfl, ?_⟩
          obtain rfl := Option.some.inj hm
          have hlt : v46.length < 16777216 := by rw [LR.length hl50]; have := (List.getElem?_eq_some_iff.mp hx56).1; have := of_decide_eq_true g54; omega
          have S69 : Sta F45 ([(a52, HO.lst (v46 ++ [V.int x44]))] ++ R) _ := S49.set 0 rfl _
          exact ⟨_, (S49.get 0 rfl), hlt, F45, _, (acc47 ++ [x44]), r59, s48, S69, LR.snoc hl50 rfl, by rw [List.length_append]; exact Nat.succ_le_succ hn51, hr61, by rw [List.append_assoc]; exact hy43.trans (congrArg (acc47 ++ ·) hc62)⟩
        · revert hm; refine ifFI c68 fun hm => ?_
          refine goF c68 ?_
          obtain rfl := Option.some.inj hm
          exact ⟨F45, _, acc47, r59, s48, S49, hl50, Nat.le_succ_of_le hn51, hr61, hy43.trans (congrArg (acc47 ++ ·) hc62)⟩
      rintro H2 ⟨F45, v46, acc47, r41, s48, S49, hl50, hn51, hr42, hy43⟩
      rw [LR.dropEnd hl37] at hr42
      obtain rfl := Option.some.inj hr42
      rw [List.append_nil] at hy43
      subst hy43
      have S71 : Sta F45 ([(a52, HO.lst v46)] ++ R) _ := S49
      refine hN39 _ _ ?_
      refine ⟨_, rfl, (by show 0 ≤ sizeLine; decide), ?_⟩
      clear S49
      intro a72 np73
      have hl74 : LR (rInt F45) [] ([] : (List Int)) := trivial
      have S75 : Sta F45 ([(a72, HO.lst []), (a52, HO.lst v46)] ++ R) _ := S71.new np73 _
      refine ⟨_, _, (dat_dp (K := K) (r := (rLst K rInt)) ⟨_, _, rfl, (SqL.of (S75.get 1 rfl)), LR.mono hl50 S75.sub⟩), (dat_dp (K := K) (r := (rLst K rInt)) ⟨_, _, rfl, (SqL.of (S75.get 0 rfl)), LR.mono hl74 S75.sub⟩), (dat_shaped (K := K) (r := (rLst K rInt)) (Nat.le_of_ble_eq_true rfl) _ (DPl.pl _)), (dat_shaped (K := K) (r := (rLst K rInt)) (Nat.le_of_ble_eq_true rfl) _ (DPl.pl _)), ?_⟩
      clear S71
      rw [dat_eqv (K := K) (r := (rLst K rInt)) y70 ([] : (List Int))]
      refine ⟨_, rfl, ?_⟩
      by_cases c76 : (decide (y70 = ([] : (List Int)))) = true
      · revert hm; refine ifTI c76 fun hm => ?_
        refine goT c76 ?_
        obtain rfl := Option.some.inj hm
        have hm := hm5
        obtain rfl := Option.some.inj hm
        have S77 : Sta F45 ([] ++ R) _ := S75.pick [] (by decide) rfl
        exact kk _ _ (s25.trans s48) S77
      · revert hm; refine ifFI c76 fun hm => ?_
        refine goF c76 ?_
        have S78 : Sta F45 ([] ++ R) _ := S75.pick [] (by decide) rfl
        exact ⟨(), F45, _, _, _, rfl, (s25.trans s48), S78, hm⟩
    · rintro σ H2 ⟨st1, F24, o27, o28, o29, rfl, s25, S26, hm⟩
      rw [LR.dropEnd hl_clauses0, m_law_all_true_l1] at hm
      obtain rfl := Option.some.inj hm
      have hm := hm5
      refine hN2 _ _ ?_
      obtain rfl := Option.some.inj hm
      exact kk _ _ s25 S26

def sp_law_means (T : Txt K mg) : Sp := fun vs H Q _ => ∃ (F0 : Hp) (R : Own) (a_clauses0 : Addr) (v_clauses0 : List V) (x_clauses0 : (List (List Int))) (a_letters0 : Addr) (v_letters0 : List (Key × V)) (x_letters0 : (List (Int × Int))) (a_truths0 : Addr) (v_truths0 : List V) (x_truths0 : (List Bool)) (a_choices0 : Addr) (v_choices0 : List (Key × V)) (x_choices0 : (List (Int × Bool))) (x_at0 : Int) (r : Bool),
  vs = [V.ref a_clauses0, V.ref a_letters0, V.ref a_truths0, V.ref a_choices0, V.int x_at0] ∧ SqL K (ov F0 R) a_clauses0 v_clauses0 ∧ LR ((rVT K rInt) F0) v_clauses0 x_clauses0 ∧ KR Sum.inl (rInt F0) v_letters0 x_letters0 ∧ SqL K (ov F0 R) a_truths0 v_truths0 ∧ LR (rBool F0) v_truths0 x_truths0 ∧ (ov F0 R) a_choices0 = some (HO.dK v_choices0) ∧ KR Sum.inl (rBool F0) v_choices0 x_choices0 ∧ Sta F0 ([(a_letters0, HO.dK v_letters0)] ++ R) H ∧ m_law_means x_clauses0 x_letters0 x_truths0 x_choices0 x_at0 = some r ∧ ∀ (F1 : Hp) (H1 : Hp), Same F0 F1 → Sta F1 ([(a_letters0, HO.dK v_letters0)] ++ R) H1 → Q (V.bl r) H1

theorem ok_law_means (T : Txt K mg) : FnOk P w K mg base CX0 2 T.a_law_means T.d_law_means ["clauses", "letters", "truths", "choices", "at"] (sp_law_means T) := by
  refine T.F_law_means.ok sc_law_means (fun vs H Q E h => ?_) (fun cdv A outer s H vs Q E hr h => ?_)
  · obtain ⟨_, _, _, _, _, _, _, _, _, _, _, _, _, _, _, _, rfl, _⟩ := h
    rfl
  · obtain ⟨F0, R, a_clauses0, v_clauses0, x_clauses0, a_letters0, v_letters0, x_letters0, a_truths0, v_truths0, x_truths0, a_choices0, v_choices0, x_choices0, x_at0, r, rfl, hs_clauses0, hl_clauses0, hl_letters0, hs_truths0, hl_truths0, hs_choices0, hl_choices0, S0, hm, kk⟩ := h
    have hu := hu_of hr
    unfold m_law_means at hm
    refine ⟨_, (pss_cons (ps_set (i := 5) sc_law_means.nd rfl (Or.inl rfl) (pe_call (ok_law_full T) (hr.mono (by decide)) rfl T.g_law_full T.F_law_full.kp T.b_law_full .nil pass0 (pa_cons (pv 2) (pa_cons (pv 1) (pa_cons (pv 3) pa_nil))))) (pss_cons (ps_if (pt_not (pt_val (pe_call (ok_law_all_true T) (hr.mono (by decide)) rfl T.g_law_all_true T.F_law_all_true.kp T.b_law_all_true .nil pass0 (pa_cons (pv 0) (pa_cons (pv 5) pa_nil))))) (pss_one (ps_ret pe_bl)) pss_nil) (pss_cons (ps_set (i := 6) sc_law_means.nd rfl (Or.inl rfl) (pe_callTy (call_listD rfl) (by rfl) T.z_list (by decide +kernel) (pa_cons (pv 1) pa_nil))) (pss_cons (ps_if (pt_cmpR (op_eqD hr.units) (pv 6) (pe_lst pa_nil) (nomark _)) (pss_one (ps_ret pe_bl)) pss_nil) (pss_cons (ps_set (i := 7) sc_law_means.nd rfl (Or.inl rfl) (pe_dget hu (pv 1) (pe_ix ix_list (pv 6) (pe_op op_mod (pe_callTy call_int1 (by rfl) T.z_int (by decide +kernel) (pa_cons (pv 4) pa_nil)) (pe_callB call_len_seq (by rfl) T.z_len PySem.boot_len (pa_cons (pv 6) pa_nil))) (fun _ _ => rfl)) (fun _ _ => rfl))) (pss_cons (ps_dput hu (pv 5) (pv 7) (pe_not (pe_dget hu (pv 5) (pv 7) (fun _ _ => rfl))) rfl) (pss_one (ps_ret (pe_not (pe_call (ok_law_all_true T) (hr.mono (by decide)) rfl T.g_law_all_true T.F_law_all_true.kp T.b_law_all_true .nil pass0 (pa_cons (pv 0) (pa_cons (pv 5) pa_nil)))))))))))), ?_⟩
    refine seqI fun N1 hN2 => ?_
    revert hm; refine bndI fun y3 e4 hm => ?_
    refine ⟨_, rfl, _, rfl, _, rfl, F0, ([] ++ R), a_truths0, v_truths0, x_truths0, a_letters0, v_letters0, x_letters0, a_choices0, v_choices0, x_choices0, _, rfl, (SqL.mono hs_truths0 (S0.tl.ovR (Same.refl _) (fun _ q => List.mem_append_right _ q))), hl_truths0, hl_letters0, (S0.tl.ovR (Same.refl _) (fun _ q => List.mem_append_right _ q) _ _ hs_choices0), hl_choices0, S0, e4, fun F5 H6 a9 v10 s7 S8 hl11 => ?_⟩
    have S12 : Sta F5 ([(a9, HO.dK v10), (a_letters0, HO.dK v_letters0)] ++ R) _ := S8
    refine hN2 _ _ ?_
    refine seqI fun N13 hN14 => ?_
    revert hm; refine bndI fun y15 e16 hm => ?_
    refine ⟨_, rfl, _, rfl, F5, ([(a9, HO.dK v10), (a_letters0, HO.dK v_letters0)] ++ R), a_clauses0, v_clauses0, x_clauses0, a9, v10, y3, _, rfl, (SqL.mono hs_clauses0 (S12.ovR s7 (fun _ q => List.mem_append_right _ q))), (hl_clauses0.mono s7), (S12.getO 0 rfl), hl11, S12, e16, fun F17 H18 s19 S20 => ?_⟩
    clear S8
    have S21 : Sta F17 ([(a9, HO.dK v10), (a_letters0, HO.dK v_letters0)] ++ R) _ := S20
    refine ⟨_, rfl, ?_⟩
    clear S20
    by_cases c22 : (!y15) = true
    · revert hm; refine ifTI c22 fun hm => ?_
      refine goT c22 ?_
      obtain rfl := Option.some.inj hm
      have S23 : Sta F17 ([(a_letters0, HO.dK v_letters0)] ++ R) _ := S21.pick [1] (by decide) rfl
      exact kk _ _ (s7.trans s19) S23
    · revert hm; refine ifFI c22 fun hm => ?_
      refine goF c22 ?_
      refine hN14 _ _ ?_
      refine seqI fun N24 hN25 => ?_
      refine ⟨_, rfl, _, _, rfl, (.inl (S21.get 1 rfl)), ?_⟩
      intro a26 np27
      have hl28 : LR (rInt F17) (v_letters0.map fun kv => kV kv.1) (x_letters0.map (·.1)) := KR.keysLI (KR.mono hl_letters0 (s7.trans s19))
      have S29 : Sta F17 ([(a26, HO.lst (v_letters0.map fun kv => kV kv.1)), (a9, HO.dK v10), (a_letters0, HO.dK v_letters0)] ++ R) _ := S21.new np27 _
      refine hN25 _ _ ?_
      refine seqI fun N30 hN31 => ?_
      refine ⟨_, rfl, (by show 0 ≤ sizeLine; decide), ?_⟩
      clear S21
      intro a32 np33
      have hl34 : LR (rInt F17) [] ([] : (List Int)) := trivial
      have S35 : Sta F17 ([(a32, HO.lst []), (a26, HO.lst (v_letters0.map fun kv => kV kv.1)), (a9, HO.dK v10), (a_letters0, HO.dK v_letters0)] ++ R) _ := S29.new np33 _
      refine ⟨_, _, (dat_dp (K := K) (r := (rLst K rInt)) ⟨_, _, rfl, (SqL.of (S35.get 1 rfl)), LR.mono hl28 S35.sub⟩), (dat_dp (K := K) (r := (rLst K rInt)) ⟨_, _, rfl, (SqL.of (S35.get 0 rfl)), LR.mono hl34 S35.sub⟩), (dat_shaped (K := K) (r := (rLst K rInt)) (Nat.le_of_ble_eq_true rfl) _ (DPl.pl _)), (dat_shaped (K := K) (r := (rLst K rInt)) (Nat.le_of_ble_eq_true rfl) _ (DPl.pl _)), ?_⟩
      clear S29
      rw [dat_eqv (K := K) (r := (rLst K rInt)) (x_letters0.map (·.1)) ([] : (List Int))]
      refine ⟨_, rfl, ?_⟩
      by_cases c36 : (decide ((x_letters0.map (·.1)) = ([] : (List Int)))) = true
      · revert hm; refine ifTI c36 fun hm => ?_
        refine goT c36 ?_
        obtain rfl := Option.some.inj hm
        have S37 : Sta F17 ([(a_letters0, HO.dK v_letters0)] ++ R) _ := S35.pick [3] (by decide) rfl
        exact kk _ _ (s7.trans s19) S37
      · revert hm; refine ifFI c36 fun hm => ?_
        refine goF c36 ?_
        refine hN31 _ _ ?_
        refine seqI fun N38 hN39 => ?_
        refine ⟨_, rfl, _, rfl, _, rfl, ?_⟩
        refine .inl ⟨_, rfl, ?_⟩
        refine ⟨_, rfl, _, _, rfl, .inl (SqL.of (S35.get 1 rfl)), ?_⟩
        rw [LR.length hl28]
        revert hm; refine grdI fun g40 hm => ?_
        revert hm; refine bndI fun y41 e42 hm => ?_
        obtain ⟨v43, ev44, rv45⟩ := LR.atI hl28 e42
        obtain rfl := rInt_e rv45
        revert hm; refine bndI fun y46 e47 hm => ?_
        obtain ⟨v48, ev49, rv50⟩ := KR.get hl_letters0 kinj_int e47
        obtain rfl := rInt_e rv50
        refine ⟨_, _, rfl, rfl, divOk_mod g40, _, _, _, _, rfl, rfl, (SqL.of (S35.get 1 rfl)), ev44, _, _, rfl, (dget_of (DGet.k (k := Sum.inl y41) (S35.get 3 rfl)) ev49), ?_⟩
        refine hN39 _ _ ?_
        refine seqI fun N51 hN52 => ?_
        revert hm; refine bndI fun y53 e54 hm => ?_
        obtain ⟨v55, ev56, rv57⟩ := KR.get hl11 kinj_int e54
        obtain rfl := rBool_e rv57
        revert hm; refine grdI fun g58 hm => ?_
        refine ⟨_, rfl, _, rfl, _, _, rfl, (dget_of (DGet.k (k := Sum.inl y46) (S35.get 2 rfl)) ev56), _, rfl, _, rfl, _, rfl, _, _, rfl, (DPut.k (k := Sum.inl y46) (S35.get 2 rfl) (by rw [KR.length (KR.mono hl11 s19)]; exact of_decide_eq_true g58)), ?_⟩
        have hl59 : KR Sum.inl (rBool F17) (putK v10 (Sum.inl y46) (V.bl (!y53))) (mput y3 y46 (!y53)) := KR.put (KR.mono hl11 s19) kinj_int rfl
        have S60 : Sta F17 ([(a32, HO.lst []), (a26, HO.lst (v_letters0.map fun kv => kV kv.1)), (a9, HO.dK (putK v10 (Sum.inl y46) (V.bl (!y53)))), (a_letters0, HO.dK v_letters0)] ++ R) _ := S35.set 2 rfl _
        refine hN52 _ _ ?_
        revert hm; refine bndI fun y61 e62 hm => ?_
        refine ⟨_, rfl, _, rfl, F17, ([(a32, HO.lst []), (a26, HO.lst (v_letters0.map fun kv => kV kv.1)), (a9, HO.dK (putK v10 (Sum.inl y46) (V.bl (!y53)))), (a_letters0, HO.dK v_letters0)] ++ R), a_clauses0, v_clauses0, x_clauses0, a9, (putK v10 (Sum.inl y46) (V.bl (!y53))), (mput y3 y46 (!y53)), _, rfl, (SqL.mono hs_clauses0 (S60.ovR (s7.trans s19) (fun _ q => List.mem_append_right _ q))), (hl_clauses0.mono (s7.trans s19)), (S60.getO 2 rfl), hl59, S60, e62, fun F63 H64 s65 S66 => ?_⟩
        clear S35
        have S67 : Sta F63 ([(a32, HO.lst []), (a26, HO.lst (v_letters0.map fun kv => kV kv.1)), (a9, HO.dK (putK v10 (Sum.inl y46) (V.bl (!y53)))), (a_letters0, HO.dK v_letters0)] ++ R) _ := S66
        refine ⟨_, rfl, ?_⟩
        clear S66
        obtain rfl := Option.some.inj hm
        have S68 : Sta F63 ([(a_letters0, HO.dK v_letters0)] ++ R) _ := S67.pick [3] (by decide) rfl
        exact kk _ _ (s7.trans (s19.trans s65)) S68

def sp_truth_clauses (T : Txt K mg) : Sp := fun vs H Q _ => ∃ (F0 : Hp) (R : Own) (a_gates0 : Addr) (dx_gates0 : Addr) (x_gates0 : M_Gates) (a_gates0_rows0 : Addr) (v_gates0_rows0 : List V) (a_gates0_known0 : Addr) (v_gates0_known0 : List (List Key × V)) (x_edge0 : Int) (x_first0 : Int) (r : (List (List Int))),
  vs = [V.ref a_gates0, V.int x_edge0, V.int x_first0] ∧ LR (rKT F0) v_gates0_rows0 x_gates0.rows ∧ KR id (rInt F0) v_gates0_known0 x_gates0.known ∧ Sta F0 ([(a_gates0, HO.ins T.a_Gates dx_gates0 (fl_Gates (V.ref a_gates0_rows0) (V.ref a_gates0_known0))), (a_gates0_rows0, HO.lst v_gates0_rows0), (a_gates0_known0, HO.dT v_gates0_known0)] ++ R) H ∧ m_truth_clauses x_gates0 x_edge0 x_first0 = some r ∧ ∀ (F1 : Hp) (H1 : Hp) (a_ret0p : Addr) (v_ret0p : List V), Same F0 F1 → Sta F1 ([(a_ret0p, HO.lst v_ret0p), (a_gates0, HO.ins T.a_Gates dx_gates0 (fl_Gates (V.ref a_gates0_rows0) (V.ref a_gates0_known0))), (a_gates0_rows0, HO.lst v_gates0_rows0), (a_gates0_known0, HO.dT v_gates0_known0)] ++ R) H1 → LR ((rVT K rInt) F1) v_ret0p r → Q (V.ref a_ret0p) H1

theorem ok_truth_clauses (T : Txt K mg) : FnOk P w K mg base CX0 5 T.a_truth_clauses T.d_truth_clauses ["gates", "edge", "first"] (sp_truth_clauses T) := by
  refine T.F_truth_clauses.ok sc_truth_clauses (fun vs H Q E h => ?_) (fun cdv A outer s H vs Q E hr h => ?_)
  · obtain ⟨_, _, _, _, _, _, _, _, _, _, _, _, rfl, _⟩ := h
    rfl
  · obtain ⟨F0, R, a_gates0, dx_gates0, x_gates0, a_gates0_rows0, v_gates0_rows0, a_gates0_known0, v_gates0_known0, x_edge0, x_first0, r, rfl, hl_gates0_rows0, hl_gates0_known0, S0, hm, kk⟩ := h
    have hu := hu_of hr
    unfold m_truth_clauses at hm
    refine ⟨_, (pss_cons (ps_if (pt_cmpR oI_eq (pv 1) (pe_glob (v := .int 1) rfl T.g_YES ⟨_, rfl⟩) (nomark _)) (pss_one (ps_ret (pe_lst pa_nil))) pss_nil) (pss_cons (ps_if (pt_cmpR oI_eq (pv 1) (pe_glob (v := .int 0) rfl T.g_NO ⟨_, rfl⟩) (nomark _)) (pss_one (ps_ret (pe_lst (pa_cons (pe_tup pa_nil) pa_nil)))) pss_nil) (pss_cons (ps_set (i := 3) sc_truth_clauses.nd rfl (Or.inl rfl) (pe_make T.mk_Encoding (ok_Encoding_init T) (hr.mono (by decide)) rfl T.g_Encoding T.b_Encoding_init .nil pass0 (pa_cons (pv 0) (pa_cons (pe_lst (pa_cons (pv 1) pa_nil)) (pa_cons (pv 2) pa_nil))))) (pss_one (ps_ret (pe_op op_cat (pe_fld (pv 3) rfl) (pe_lst (pa_cons (pe_tup (pa_cons (pe_meth (pv 3) T.cl_Encoding T.h_Encoding_literal (ok_Encoding_literal T) (hr.mono (by decide)) T.b_Encoding_literal .nil pass0 (pa_cons (pv 1) pa_nil)) pa_nil)) pa_nil)))))))), ?_⟩
    refine seqI fun N1 hN2 => ?_
    refine ⟨_, rfl, _, _, rfl, rfl, _, rfl, ?_⟩
    by_cases c3 : (decide (x_edge0 = (1 : Int))) = true
    · revert hm; refine ifTI c3 fun hm => ?_
      refine goT c3 ?_
      refine ⟨(by show 0 ≤ sizeLine; decide), ?_⟩
      intro a4 np5
      have hl6 : LR ((rVT K rInt) F0) [] ([] : (List (List Int))) := trivial
      have S7 : Sta F0 ([(a4, HO.lst []), (a_gates0, HO.ins T.a_Gates dx_gates0 (fl_Gates (V.ref a_gates0_rows0) (V.ref a_gates0_known0))), (a_gates0_rows0, HO.lst v_gates0_rows0), (a_gates0_known0, HO.dT v_gates0_known0)] ++ R) _ := S0.new np5 _
      obtain rfl := Option.some.inj hm
      exact kk _ _ a4 [] (Same.refl _) S7 hl6
    · revert hm; refine ifFI c3 fun hm => ?_
      refine goF c3 ?_
      refine hN2 _ _ ?_
      refine seqI fun N8 hN9 => ?_
      refine ⟨_, rfl, _, _, rfl, rfl, _, rfl, ?_⟩
      by_cases c10 : (decide (x_edge0 = (0 : Int))) = true
      · revert hm; refine ifTI c10 fun hm => ?_
        refine goT c10 ?_
        refine ⟨(by show 0 ≤ sizeLine; decide), ?_⟩
        intro a11 np12
        obtain ⟨F13, s14, S15, h16⟩ : ∃ F', Same F0 F' ∧ Sta F' ([(a_gates0, HO.ins T.a_Gates dx_gates0 (fl_Gates (V.ref a_gates0_rows0) (V.ref a_gates0_known0))), (a_gates0_rows0, HO.lst v_gates0_rows0), (a_gates0_known0, HO.dT v_gates0_known0)] ++ R) _ ∧ F' a11 = some (HO.tup []) := ⟨_, S0.sameF np12 _, S0.newF np12 _, upd_same⟩
        have hl17 : LR (rInt F13) [] [] := trivial
        refine ⟨(by show 1 ≤ sizeLine; decide), ?_⟩
        intro a18 np19
        have hl20 : LR ((rVT K rInt) F13) [V.ref a11] ([([] : (List Int))] : (List (List Int))) := ⟨⟨_, _, rfl, SqT.mono (SqT.of h16) (Same.refl _), hl17⟩, trivial⟩
        have S21 : Sta F13 ([(a18, HO.lst [V.ref a11]), (a_gates0, HO.ins T.a_Gates dx_gates0 (fl_Gates (V.ref a_gates0_rows0) (V.ref a_gates0_known0))), (a_gates0_rows0, HO.lst v_gates0_rows0), (a_gates0_known0, HO.dT v_gates0_known0)] ++ R) _ := S15.new np19 _
        obtain rfl := Option.some.inj hm
        exact kk _ _ a18 [V.ref a11] s14 S21 hl20
      · revert hm; refine ifFI c10 fun hm => ?_
        refine goF c10 ?_
        refine hN9 _ _ ?_
        refine seqI fun N22 hN23 => ?_
        refine ⟨_, rfl, _, rfl, (by show 1 ≤ sizeLine; decide), ?_⟩
        intro a24 np25
        have hl26 : LR (rInt F0) [V.int x_edge0] ([x_edge0] : (List Int)) := ⟨rfl, trivial⟩
        have S27 : Sta F0 ([(a24, HO.lst [V.int x_edge0]), (a_gates0, HO.ins T.a_Gates dx_gates0 (fl_Gates (V.ref a_gates0_rows0) (V.ref a_gates0_known0))), (a_gates0_rows0, HO.lst v_gates0_rows0), (a_gates0_known0, HO.dT v_gates0_known0)] ++ R) _ := S0.new np25 _
        refine ⟨_, rfl, ?_⟩
        clear S0
        intro a28 dx29 nx30 ndx31 nex32
        obtain ⟨F33, s34, S35⟩ : ∃ F', Same F0 F' ∧ Sta F' ([(a28, HO.ins T.a_Encoding dx29 []), (a24, HO.lst [V.int x_edge0]), (a_gates0, HO.ins T.a_Gates dx_gates0 (fl_Gates (V.ref a_gates0_rows0) (V.ref a_gates0_known0))), (a_gates0_rows0, HO.lst v_gates0_rows0), (a_gates0_known0, HO.dT v_gates0_known0)] ++ R) _ := ⟨_, S27.sameF ndx31 (HO.own a28), (S27.newF ndx31 (HO.own a28)).new (by rw [upd_ne nex32.symm]; exact nx30) (HO.ins T.a_Encoding dx29 [])⟩
        have S36 : Sta F33 ([(a28, HO.ins T.a_Encoding dx29 ([])), (a_gates0, HO.ins T.a_Gates dx_gates0 (fl_Gates (V.ref a_gates0_rows0) (V.ref a_gates0_known0))), (a_gates0_rows0, HO.lst v_gates0_rows0), (a_gates0_known0, HO.dT v_gates0_known0), (a24, HO.lst [V.int x_edge0])] ++ R) _ := S35.pick [0, 2, 3, 4, 1] (by decide) rfl
        revert hm; refine bndI fun y37 e38 hm => ?_
        refine ⟨F33, ([(a24, HO.lst [V.int x_edge0])] ++ R), a28, dx29, a_gates0, dx_gates0, (M_Gates.mk x_gates0.rows x_gates0.known), a_gates0_rows0, v_gates0_rows0, a_gates0_known0, v_gates0_known0, a24, [V.int x_edge0], ([x_edge0] : (List Int)), x_first0, _, rfl, (hl_gates0_rows0.mono s34), (KR.mono hl_gates0_known0 s34), (SqL.of (S36.tl.tl.tl.tl.getO 0 rfl)), (hl26.mono s34), S36, e38, fun F39 H40 a43 v44 a46 v47 s41 S42 hl45 hl48 => ⟨rfl, ?_⟩⟩
        clear S35
        have S49 : Sta F39 ([(a28, HO.ins T.a_Encoding dx29 (fl_Encoding (V.ref a43) (V.ref a46) (V.ref a_gates0))), (a43, HO.dK v44), (a46, HO.lst v47), (a_gates0, HO.ins T.a_Gates dx_gates0 (fl_Gates (V.ref a_gates0_rows0) (V.ref a_gates0_known0))), (a_gates0_rows0, HO.lst v_gates0_rows0), (a_gates0_known0, HO.dT v_gates0_known0), (a24, HO.lst [V.int x_edge0])] ++ R) _ := S42
        refine hN23 _ _ ?_
        revert hm; refine bndI fun y50 e51 hm => ?_
        refine ⟨_, rfl, _, _, _, _, _, rfl, (S49.get 0 rfl), T.cl_Encoding, T.n_Encoding_clauses, fl_Encoding_clauses, _, rfl, _, _, _, rfl, (S49.get 0 rfl), fl_Encoding_no_literal, _, rfl, F39, ([(a28, HO.ins T.a_Encoding dx29 (fl_Encoding (V.ref a43) (V.ref a46) (V.ref a_gates0))), (a43, HO.dK v44), (a46, HO.lst v47), (a_gates0, HO.ins T.a_Gates dx_gates0 (fl_Gates (V.ref a_gates0_rows0) (V.ref a_gates0_known0))), (a_gates0_rows0, HO.lst v_gates0_rows0), (a_gates0_known0, HO.dT v_gates0_known0), (a24, HO.lst [V.int x_edge0])] ++ R), a28, dx29, (M_Encoding.mk y37.letters y37.clauses (M_Gates.mk x_gates0.rows x_gates0.known)), a43, v44, a46, v47, a_gates0, dx_gates0, a_gates0_rows0, v_gates0_rows0, a_gates0_known0, v_gates0_known0, x_edge0, _, rfl, (S49.getO 0 rfl), (S49.getO 1 rfl), hl45, (SqL.of (S49.getO 2 rfl)), hl48, (S49.getO 3 rfl), (SqL.of (S49.getO 4 rfl)), (hl_gates0_rows0.mono (s34.trans s41)), (S49.getO 5 rfl), (KR.mono hl_gates0_known0 (s34.trans s41)), S49, e51, (by show 1 ≤ sizeLine; decide), ?_⟩
        clear S42
        intro a52 np53
        obtain ⟨F54, s55, S56, h57⟩ : ∃ F', Same F39 F' ∧ Sta F' ([(a28, HO.ins T.a_Encoding dx29 (fl_Encoding (V.ref a43) (V.ref a46) (V.ref a_gates0))), (a43, HO.dK v44), (a46, HO.lst v47), (a_gates0, HO.ins T.a_Gates dx_gates0 (fl_Gates (V.ref a_gates0_rows0) (V.ref a_gates0_known0))), (a_gates0_rows0, HO.lst v_gates0_rows0), (a_gates0_known0, HO.dT v_gates0_known0), (a24, HO.lst [V.int x_edge0])] ++ R) _ ∧ F' a52 = some (HO.tup [V.int y50]) := ⟨_, S49.sameF np53 _, S49.newF np53 _, upd_same⟩
        have hl58 : LR (rInt F54) [V.int y50] [y50] := ⟨MonoR.mono s55 rfl, trivial⟩
        refine ⟨(by show 1 ≤ sizeLine; decide), ?_⟩
        intro a59 np60
        have hl61 : LR ((rVT K rInt) F54) [V.ref a52] ([([y50] : (List Int))] : (List (List Int))) := ⟨⟨_, _, rfl, SqT.mono (SqT.of h57) (Same.refl _), hl58⟩, trivial⟩
        have S62 : Sta F54 ([(a59, HO.lst [V.ref a52]), (a28, HO.ins T.a_Encoding dx29 (fl_Encoding (V.ref a43) (V.ref a46) (V.ref a_gates0))), (a43, HO.dK v44), (a46, HO.lst v47), (a_gates0, HO.ins T.a_Gates dx_gates0 (fl_Gates (V.ref a_gates0_rows0) (V.ref a_gates0_known0))), (a_gates0_rows0, HO.lst v_gates0_rows0), (a_gates0_known0, HO.dT v_gates0_known0), (a24, HO.lst [V.int x_edge0])] ++ R) _ := S56.new np60 _
        revert hm; refine grdI fun g63 hm => ?_
        refine ⟨_, _, _, _, rfl, rfl, (S62.get 3 rfl), (S62.get 0 rfl), (by rw [LR.length (hl48.mono s55), LR.length hl61]; exact of_decide_eq_true g63), ?_⟩
        clear S56
        intro a64 np65
        have hl66 : LR ((rVT K rInt) F54) (v47 ++ [V.ref a52]) (y37.clauses ++ ([([y50] : (List Int))] : (List (List Int)))) := LR.append (hl48.mono s55) hl61
        have S67 : Sta F54 ([(a64, HO.lst (v47 ++ [V.ref a52])), (a59, HO.lst [V.ref a52]), (a28, HO.ins T.a_Encoding dx29 (fl_Encoding (V.ref a43) (V.ref a46) (V.ref a_gates0))), (a43, HO.dK v44), (a46, HO.lst v47), (a_gates0, HO.ins T.a_Gates dx_gates0 (fl_Gates (V.ref a_gates0_rows0) (V.ref a_gates0_known0))), (a_gates0_rows0, HO.lst v_gates0_rows0), (a_gates0_known0, HO.dT v_gates0_known0), (a24, HO.lst [V.int x_edge0])] ++ R) _ := S62.new np65 _
        obtain rfl := Option.some.inj hm
        have S68 : Sta F54 ([(a64, HO.lst (v47 ++ [V.ref a52])), (a_gates0, HO.ins T.a_Gates dx_gates0 (fl_Gates (V.ref a_gates0_rows0) (V.ref a_gates0_known0))), (a_gates0_rows0, HO.lst v_gates0_rows0), (a_gates0_known0, HO.dT v_gates0_known0)] ++ R) _ := S67.pick [0, 5, 6, 7] (by decide) rfl
        exact kk _ _ a64 (v47 ++ [V.ref a52]) (s34.trans (s41.trans s55)) S68 hl66

def sp_law_truth (T : Txt K mg) : Sp := fun vs H Q _ => ∃ (F0 : Hp) (R : Own) (a_rows0 : Addr) (v_rows0 : List V) (x_rows0 : (List (List Key))) (x_edge0 : Int) (x_first0 : Int) (r : (List (List Int))),
  vs = [V.ref a_rows0, V.int x_edge0, V.int x_first0] ∧ SqL K (ov F0 R) a_rows0 v_rows0 ∧ LR (rKT F0) v_rows0 x_rows0 ∧ Sta F0 ([] ++ R) H ∧ m_law_truth x_rows0 x_edge0 x_first0 = some r ∧ ∀ (F1 : Hp) (H1 : Hp) (a_ret0p : Addr) (v_ret0p : List V), Same F0 F1 → Sta F1 ([(a_ret0p, HO.lst v_ret0p)] ++ R) H1 → LR ((rVT K rInt) F1) v_ret0p r → Q (V.ref a_ret0p) H1

theorem ok_law_truth (T : Txt K mg) : FnOk P w K mg base CX0 3 T.a_law_truth T.d_law_truth ["rows", "edge", "first"] (sp_law_truth T) := by
  refine T.F_law_truth.ok sc_law_truth (fun vs H Q E h => ?_) (fun cdv A outer s H vs Q E hr h => ?_)
  · obtain ⟨_, _, _, _, _, _, _, _, rfl, _⟩ := h
    rfl
  · obtain ⟨F0, R, a_rows0, v_rows0, x_rows0, x_edge0, x_first0, r, rfl, hs_rows0, hl_rows0, S0, hm, kk⟩ := h
    have hu := hu_of hr
    unfold m_law_truth at hm
    refine ⟨_, (pss_cons (ps_if (pt_cmpR oI_eq (pv 1) pe_int (nomark _)) (pss_one (ps_ret (pe_lst pa_nil))) pss_nil) (pss_cons (ps_if (pt_cmpR oI_eq (pv 1) pe_int (nomark _)) (pss_one (ps_ret (pe_lst (pa_cons (pe_tup pa_nil) pa_nil)))) pss_nil) (pss_cons (ps_set (i := 3) sc_law_truth.nd rfl (Or.inl rfl) (pe_call (ok_law_letters T) (hr.mono (by decide)) rfl T.g_law_letters T.F_law_letters.kp T.b_law_letters .nil pass0 (pa_cons (pv 0) (pa_cons (pe_lst (pa_cons (pv 1) pa_nil)) (pa_cons (pv 2) pa_nil))))) (pss_cons (ps_set (i := 4) sc_law_truth.nd rfl (Or.inl rfl) (pe_call (ok_law_clauses T) (hr.mono (by decide)) rfl T.g_law_clauses T.F_law_clauses.kp T.b_law_clauses .nil pass0 (pa_cons (pv 0) (pa_cons (pv 3) pa_nil)))) (pss_cons (ps_expr (pe_bm PySem.F.plainAttrs_list PySem.F.slot_list_append PySem.F.type_list_append mt_append (pv 4) (pa_cons (pe_tup (pa_cons (pe_call (ok_law_literal T) (hr.mono (by decide)) rfl T.g_law_literal T.F_law_literal.kp T.b_law_literal .nil pass0 (pa_cons (pv 0) (pa_cons (pv 3) (pa_cons (pv 1) pa_nil)))) pa_nil)) pa_nil))) (pss_one (ps_ret (pv 4)))))))), ?_⟩
    refine seqI fun N1 hN2 => ?_
    refine ⟨_, rfl, _, _, rfl, rfl, _, rfl, ?_⟩
    by_cases c3 : (decide (x_edge0 = (1 : Int))) = true
    · revert hm; refine ifTI c3 fun hm => ?_
      refine goT c3 ?_
      refine ⟨(by show 0 ≤ sizeLine; decide), ?_⟩
      intro a4 np5
      have hl6 : LR ((rVT K rInt) F0) [] ([] : (List (List Int))) := trivial
      have S7 : Sta F0 ([(a4, HO.lst [])] ++ R) _ := S0.new np5 _
      obtain rfl := Option.some.inj hm
      exact kk _ _ a4 [] (Same.refl _) S7 hl6
    · revert hm; refine ifFI c3 fun hm => ?_
      refine goF c3 ?_
      refine hN2 _ _ ?_
      refine seqI fun N8 hN9 => ?_
      refine ⟨_, rfl, _, _, rfl, rfl, _, rfl, ?_⟩
      by_cases c10 : (decide (x_edge0 = (0 : Int))) = true
      · revert hm; refine ifTI c10 fun hm => ?_
        refine goT c10 ?_
        refine ⟨(by show 0 ≤ sizeLine; decide), ?_⟩
        intro a11 np12
        obtain ⟨F13, s14, S15, h16⟩ : ∃ F', Same F0 F' ∧ Sta F' ([] ++ R) _ ∧ F' a11 = some (HO.tup []) := ⟨_, S0.sameF np12 _, S0.newF np12 _, upd_same⟩
        have hl17 : LR (rInt F13) [] [] := trivial
        refine ⟨(by show 1 ≤ sizeLine; decide), ?_⟩
        intro a18 np19
        have hl20 : LR ((rVT K rInt) F13) [V.ref a11] ([([] : (List Int))] : (List (List Int))) := ⟨⟨_, _, rfl, SqT.mono (SqT.of h16) (Same.refl _), hl17⟩, trivial⟩
        have S21 : Sta F13 ([(a18, HO.lst [V.ref a11])] ++ R) _ := S15.new np19 _
        obtain rfl := Option.some.inj hm
        exact kk _ _ a18 [V.ref a11] s14 S21 hl20
      · revert hm; refine ifFI c10 fun hm => ?_
        refine goF c10 ?_
        refine hN9 _ _ ?_
        refine seqI fun N22 hN23 => ?_
        refine ⟨_, rfl, _, rfl, (by show 1 ≤ sizeLine; decide), ?_⟩
        intro a24 np25
        have hl26 : LR (rInt F0) [V.int x_edge0] ([x_edge0] : (List Int)) := ⟨rfl, trivial⟩
        have S27 : Sta F0 ([(a24, HO.lst [V.int x_edge0])] ++ R) _ := S0.new np25 _
        revert hm; refine bndI fun y28 e29 hm => ?_
        refine ⟨_, rfl, F0, ([(a24, HO.lst [V.int x_edge0])] ++ R), a_rows0, v_rows0, x_rows0, a24, [V.int x_edge0], ([x_edge0] : (List Int)), x_first0, _, rfl, (SqL.mono hs_rows0 (S27.ovR (Same.refl _) (fun _ q => List.mem_append_right _ q))), hl_rows0, (SqL.of (S27.getO 0 rfl)), hl26, S27, e29, fun F30 H31 a34 v35 s32 S33 hl36 => ?_⟩
        clear S0
        have S37 : Sta F30 ([(a34, HO.dK v35), (a24, HO.lst [V.int x_edge0])] ++ R) _ := S33
        refine hN23 _ _ ?_
        refine seqI fun N38 hN39 => ?_
        revert hm; refine bndI fun y40 e41 hm => ?_
        refine ⟨_, rfl, _, rfl, F30, ([(a24, HO.lst [V.int x_edge0])] ++ R), a_rows0, v_rows0, x_rows0, a34, v35, y28, _, rfl, (SqL.mono hs_rows0 (S37.tl.ovR s32 (fun _ q => List.mem_append_right _ q))), (hl_rows0.mono s32), hl36, S37, e41, fun F42 H43 a46 v47 s44 S45 hl48 => ?_⟩
        clear S33
        have S49 : Sta F42 ([(a46, HO.lst v47), (a34, HO.dK v35), (a24, HO.lst [V.int x_edge0])] ++ R) _ := S45
        refine hN39 _ _ ?_
        refine seqI fun N50 hN51 => ?_
        revert hm; refine bndI fun y52 e53 hm => ?_
        refine ⟨_, rfl, .inl ⟨rfl, _, (SqL.of (S49.get 0 rfl))⟩, _, rfl, _, rfl, _, rfl, F42, ([(a46, HO.lst v47), (a34, HO.dK v35), (a24, HO.lst [V.int x_edge0])] ++ R), a_rows0, v_rows0, x_rows0, a34, v35, y28, x_edge0, _, rfl, (SqL.mono hs_rows0 (S49.ovR (s32.trans s44) (fun _ q => List.mem_append_right _ q))), (hl_rows0.mono (s32.trans s44)), (.inl (S49.getO 1 rfl)), (KR.mono hl36 s44), S49, e53, (by show 1 ≤ sizeLine; decide), ?_⟩
        clear S45
        intro a54 np55
        obtain ⟨F56, s57, S58, h59⟩ : ∃ F', Same F42 F' ∧ Sta F' ([(a46, HO.lst v47), (a34, HO.dK v35), (a24, HO.lst [V.int x_edge0])] ++ R) _ ∧ F' a54 = some (HO.tup [V.int y52]) := ⟨_, S49.sameF np55 _, S49.newF np55 _, upd_same⟩
        have hl60 : LR (rInt F56) [V.int y52] [y52] := ⟨MonoR.mono s57 rfl, trivial⟩
        revert hm; refine grdI fun g61 hm => ?_
        refine ⟨_, _, _, rfl, rfl, (S58.get 0 rfl), (by rw [LR.length (hl48.mono s57)]; exact of_decide_eq_true g61), ?_⟩
        have hl62 : LR ((rVT K rInt) F56) (v47 ++ [V.ref a54]) (y40 ++ [([y52] : (List Int))]) := LR.snoc (hl48.mono s57) ⟨_, _, rfl, SqT.mono (SqT.of h59) (Same.refl _), hl60⟩
        have S63 : Sta F56 ([(a46, HO.lst (v47 ++ [V.ref a54])), (a34, HO.dK v35), (a24, HO.lst [V.int x_edge0])] ++ R) _ := S58.set 0 rfl _
        refine hN51 _ _ ?_
        refine ⟨_, rfl, ?_⟩
        clear S58
        obtain rfl := Option.some.inj hm
        have S64 : Sta F56 ([(a46, HO.lst (v47 ++ [V.ref a54]))] ++ R) _ := S63.pick [0] (by decide) rfl
        exact kk _ _ a46 (v47 ++ [V.ref a54]) (s32.trans (s44.trans s57)) S64 hl62

def sp_law (T : Txt K mg) : Sp := fun vs H Q _ => ∃ (F0 : Hp) (R : Own) (a_script0 : Addr) (v_script0 : List V) (x_script0 : (List Int)) (r : Bool),
  vs = [V.ref a_script0] ∧ SqL K F0 a_script0 v_script0 ∧ LR (rInt F0) v_script0 x_script0 ∧ Sta F0 ([] ++ R) H ∧ m_law x_script0 = some r ∧ ∀ (F1 : Hp) (H1 : Hp), Same F0 F1 → Sta F1 ([] ++ R) H1 → Q (V.bl r) H1

theorem ok_law (T : Txt K mg) : FnOk P w K mg base CX0 6 T.a_law T.d_law ["script"] (sp_law T) := by
  refine T.F_law.ok sc_law (fun vs H Q E h => ?_) (fun cdv A outer s H vs Q E hr h => ?_)
  · obtain ⟨_, _, _, _, _, _, rfl, _⟩ := h
    rfl
  · obtain ⟨F0, R, a_script0, v_script0, x_script0, r, rfl, hs_script0, hl_script0, S0, hm, kk⟩ := h
    have hu := hu_of hr
    unfold m_law at hm
    refine ⟨_, (pss_cons (ps_set (i := 1) sc_law.nd rfl (Or.inl rfl) (pe_lst (pa_cons pe_int (pa_cons pe_int (pa_cons (pe_call (ok_law_seed T) (hr.mono (by decide)) rfl T.g_law_seed T.F_law_seed.kp T.b_law_seed .nil pass0 (pa_cons (pv 0) pa_nil)) pa_nil))))) (pss_cons (ps_set (i := 2) sc_law.nd rfl (Or.inl rfl) (pe_call (ok_law_take T) (hr.mono (by decide)) rfl T.g_law_take T.F_law_take.kp T.b_law_take .nil pass0 (pa_cons (pv 0) (pa_cons (pv 1) (pa_cons pe_int pa_nil))))) (C8.pss_cut (ps_if (pt_cmpR oI_eq (pe_call (ok_law_take T) (hr.mono (by decide)) rfl T.g_law_take T.F_law_take.kp T.b_law_take .nil pass0 (pa_cons (pv 0) (pa_cons (pv 1) (pa_cons pe_int pa_nil)))) pe_int (nomark _)) (pss_one (ps_set (i := 2) sc_law.nd rfl (Or.inl rfl) (pe_op op_add (pv 2) pe_int))) pss_nil) (pss_cons (ps_set (i := 3) sc_law.nd rfl (Or.inl rfl) (pe_make0 T.mk_Gates (ok_Gates_init T) (hr.mono (by decide)) rfl T.g_Gates T.b_Gates_init .nil pass0)) (pss_cons (ps_set (i := 4) sc_law.nd rfl (Or.inl rfl) (pe_lst (pa_cons (pe_tup (pa_cons pe_str pa_nil)) pa_nil))) (pss_cons (ps_set (i := 5) sc_law.nd rfl (Or.inl rfl) (pe_call (ok_law_build T) (hr.mono (by decide)) rfl T.g_law_build T.F_law_build.kp T.b_law_build .nil pass0 (pa_cons (pv 0) (pa_cons (pv 1) (pa_cons (pv 3) (pa_cons (pv 4) (pa_cons (pv 2) pa_nil))))))) (pss_cons (ps_if (pt_cmpR (op_eqD hr.units) (pv 5) (pe_lst pa_nil) (nomark _)) (pss_one ps_never) pss_nil) (pss_cons (ps_set (i := 7) sc_law.nd rfl (Or.inl rfl) (pe_op op_add (pe_callB (cr_max rfl) (by rfl) T.z_max (by decide +kernel) (pa_cons (pe_lc (own := [("row", 6)]) rfl sc_law.nd (pi_list (pv 4)) (blkOk_by (own := [("row", 6)]) (N := ["script", "source", "count", "gates", "rows", "edges", "row", "first", "picked", "k", "handed", "encoded", "letters", "choices", "truths", "more", "edge", "got", "full"]) (sc := defScope s_law) (by decide +kernel)) (fun _ _ _ _ _ => (pg_name (i := 6) sc_law.nd rfl (Or.inl rfl))) (fun _ _ _ _ _ => (pts_one (pt_cmpR oS_eq (pe_ix (ix_tupK K) (pv 6) pe_int (fun _ _ => rfl)) pe_str (nomark _)))) (fun _ _ _ _ _ => (pe_ix (ix_tupK K) (pv 6) pe_int (fun _ _ => rfl)))) pa_nil)) (pe_ix ix_list (pe_lst (pa_cons pe_int (pa_cons pe_int (pa_cons pe_int (pa_cons pe_int pa_nil))))) (pe_call (ok_law_take T) (hr.mono (by decide)) rfl T.g_law_take T.F_law_take.kp T.b_law_take .nil pass0 (pa_cons (pv 0) (pa_cons (pv 1) (pa_cons pe_int pa_nil)))) (fun _ _ => rfl)))) (pss_cons (ps_set (i := 8) sc_law.nd rfl (Or.inl rfl) (pe_lst pa_nil)) (pss_cons (ps_for PassesOwn.never rfl (pi_range1 rfl T.z_range (pa_cons (pe_call (ok_law_take T) (hr.mono (by decide)) rfl T.g_law_take T.F_law_take.kp T.b_law_take .nil pass0 (pa_cons (pv 0) (pa_cons (pv 1) (pa_cons pe_int pa_nil)))) pa_nil)) (pg_name (i := 9) sc_law.nd rfl (Or.inl rfl)) (pss_one (ps_expr (pe_bm PySem.F.plainAttrs_list PySem.F.slot_list_append PySem.F.type_list_append mt_append (pv 8) (pa_cons (pe_ix ix_list (pv 5) (pe_op op_sub (pe_op op_sub (pe_callB call_len_seq (by rfl) T.z_len PySem.boot_len (pa_cons (pv 5) pa_nil)) pe_int) (pe_call (ok_law_take T) (hr.mono (by decide)) rfl T.g_law_take T.F_law_take.kp T.b_law_take .nil pass0 (pa_cons (pv 0) (pa_cons (pv 1) (pa_cons (pe_callB call_len_seq (by rfl) T.z_len PySem.boot_len (pa_cons (pv 5) pa_nil)) pa_nil))))) (fun _ _ => rfl)) pa_nil))))) (pss_cons (ps_set (i := 10) sc_law.nd rfl (Or.inl rfl) (pe_callTy call_list_of (by rfl) T.z_list (by decide +kernel) (pa_cons (pv 8) pa_nil))) (pss_cons (ps_set (i := 11) sc_law.nd rfl (Or.inl rfl) (pe_make T.mk_Encoding (ok_Encoding_init T) (hr.mono (by decide)) rfl T.g_Encoding T.b_Encoding_init .nil pass0 (pa_cons (pv 3) (pa_cons (pv 10) (pa_cons (pv 7) pa_nil))))) (pss_cons (ps_if (pt_cmpR (op_neD hr.units) (pv 10) (pv 8) (nomark _)) (pss_one ps_never) pss_nil) (pss_cons (ps_expr (pe_bm PySem.F.plainAttrs_list PySem.F.slot_list_append PySem.F.type_list_append mt_append (pv 10) (pa_cons (pe_ix ix_list (pv 5) (pe_op op_sub (pe_callB call_len_seq (by rfl) T.z_len PySem.boot_len (pa_cons (pv 5) pa_nil)) pe_int) (fun _ _ => rfl)) pa_nil))) (pss_cons (ps_set (i := 12) sc_law.nd rfl (Or.inl rfl) (pe_call (ok_law_letters T) (hr.mono (by decide)) rfl T.g_law_letters T.F_law_letters.kp T.b_law_letters .nil pass0 (pa_cons (pv 4) (pa_cons (pv 8) (pa_cons (pv 7) pa_nil))))) (pss_cons (ps_if (pt_not (pt_val (pe_call (ok_law_is_encoding T) (hr.mono (by decide)) rfl T.g_law_is_encoding T.F_law_is_encoding.kp T.b_law_is_encoding .nil pass0 (pa_cons (pv 11) (pa_cons (pv 4) (pa_cons (pv 12) pa_nil)))))) (pss_one ps_never) pss_nil) (pss_cons (ps_set (i := 13) sc_law.nd rfl (Or.inl rfl) pe_dnewK) (pss_cons (ps_for PassesOwn.never rfl (pi_list (pv 4)) (pg_name (i := 6) sc_law.nd rfl (Or.inl rfl)) (pss_one (ps_if (pt_cmpR oS_eq (pe_ix ix_tup (pv 6) pe_int (fun _ _ => rfl)) pe_str (nomark _)) (pss_one (ps_dput hu (pv 13) (pe_ix ix_tup (pv 6) pe_int (fun _ _ => rfl)) (pe_cmpR oI_eq (pe_call (ok_law_take T) (hr.mono (by decide)) rfl T.g_law_take T.F_law_take.kp T.b_law_take .nil pass0 (pa_cons (pv 0) (pa_cons (pv 1) (pa_cons pe_int pa_nil)))) pe_int (nomark _)) rfl)) pss_nil))) (pss_cons (ps_set (i := 14) sc_law.nd rfl (Or.inl rfl) (pe_call (ok_law_truths T) (hr.mono (by decide)) rfl T.g_law_truths T.F_law_truths.kp T.b_law_truths .nil pass0 (pa_cons (pv 4) (pa_cons (pv 13) pa_nil)))) (pss_cons (ps_if (pt_not (pt_val (pe_call (ok_law_means T) (hr.mono (by decide)) rfl T.g_law_means T.F_law_means.kp T.b_law_means .nil pass0 (pa_cons (pe_fld (pv 11) rfl) (pa_cons (pv 12) (pa_cons (pv 14) (pa_cons (pv 13) (pa_cons (pe_call (ok_law_take T) (hr.mono (by decide)) rfl T.g_law_take T.F_law_take.kp T.b_law_take .nil pass0 (pa_cons (pv 0) (pa_cons (pv 1) (pa_cons pe_int pa_nil)))) pa_nil)))))))) (pss_one ps_never) pss_nil) (pss_cons (ps_set (i := 15) sc_law.nd rfl (Or.inl rfl) (pe_ix ix_list (pv 5) (pe_call (ok_law_take T) (hr.mono (by decide)) rfl T.g_law_take T.F_law_take.kp T.b_law_take .nil pass0 (pa_cons (pv 0) (pa_cons (pv 1) (pa_cons (pe_callB call_len_seq (by rfl) T.z_len PySem.boot_len (pa_cons (pv 5) pa_nil)) pa_nil)))) (fun _ _ => rfl))) (pss_cons (ps_for PassesOwn.never rfl (pi_list (pe_lst (pa_cons pe_int (pa_cons pe_int (pa_cons (pe_ix ix_list (pv 5) (pe_op op_sub (pe_callB call_len_seq (by rfl) T.z_len PySem.boot_len (pa_cons (pv 5) pa_nil)) pe_int) (fun _ _ => rfl)) (pa_cons (pv 15) pa_nil)))))) (pg_name (i := 16) sc_law.nd rfl (Or.inl rfl)) (pss_cons (ps_set (i := 17) sc_law.nd rfl (Or.inl rfl) (pe_call (ok_truth_clauses T) (hr.mono (by decide)) rfl T.g_truth_clauses T.F_truth_clauses.kp T.b_truth_clauses .nil pass0 (pa_cons (pv 3) (pa_cons (pv 16) (pa_cons (pv 7) pa_nil))))) (pss_cons (ps_if (pt_not (pt_val (pe_call (ok_law_same T) (hr.mono (by decide)) rfl T.g_law_same T.F_law_same.kp T.b_law_same .nil pass0 (pa_cons (pv 17) (pa_cons (pe_call (ok_law_truth T) (hr.mono (by decide)) rfl T.g_law_truth T.F_law_truth.kp T.b_law_truth .nil pass0 (pa_cons (pv 4) (pa_cons (pv 16) (pa_cons (pv 7) pa_nil)))) pa_nil))))) (pss_one ps_never) pss_nil) (pss_cons (ps_set (i := 18) sc_law.nd rfl (Or.inl rfl) (pe_call (ok_law_full T) (hr.mono (by decide)) rfl T.g_law_full T.F_law_full.kp T.b_law_full .nil pass0 (pa_cons (pv 14) (pa_cons (pe_call (ok_law_letters T) (hr.mono (by decide)) rfl T.g_law_letters T.F_law_letters.kp T.b_law_letters .nil pass0 (pa_cons (pv 4) (pa_cons (pe_lst (pa_cons (pv 16) pa_nil)) (pa_cons (pv 7) pa_nil)))) (pa_cons (pv 13) pa_nil))))) (pss_one (ps_if (pt_cmpR oB_ne (pe_call (ok_law_all_true T) (hr.mono (by decide)) rfl T.g_law_all_true T.F_law_all_true.kp T.b_law_all_true .nil pass0 (pa_cons (pv 17) (pa_cons (pv 18) pa_nil))) (pe_call (ok_law_value T) (hr.mono (by decide)) rfl T.g_law_value T.F_law_value.kp T.b_law_value .nil pass0 (pa_cons (pv 14) (pa_cons (pv 16) pa_nil))) (nomark _)) (pss_one ps_never) pss_nil)))))) (pss_one (ps_ret (pe_cut (pe_and (pe_cmpR (op_eqD hr.units) (pe_fld (pv 3) rfl) (pv 4) (nomark _)) (pe_one (pe_call (ok_law_is_encoding T) (hr.mono (by decide)) rfl T.g_law_is_encoding T.F_law_is_encoding.kp T.b_law_is_encoding .nil pass0 (pa_cons (pv 11) (pa_cons (pv 4) (pa_cons (pv 12) pa_nil))))))))))))))))))))))))))))))), ?_⟩
    refine seqI fun N1 hN2 => ?_
    revert hm; refine bndI fun y3 e4 hm => ?_
    refine ⟨_, rfl, F0, ([] ++ R), a_script0, v_script0, x_script0, _, rfl, (SqL.mono hs_script0 (Same.refl _)), (hl_script0), S0, e4, (by show 3 ≤ sizeLine; decide), ?_⟩
    intro a5 np6
    have hl7 : LR (rInt F0) [V.int 0, V.int 0, V.int y3] ([(0 : Int), (0 : Int), y3] : (List Int)) := ⟨rfl, rfl, rfl, trivial⟩
    have S8 : Sta F0 ([(a5, HO.lst [V.int 0, V.int 0, V.int y3])] ++ R) _ := S0.new np6 _
    refine hN2 _ _ ?_
    refine seqI fun N9 hN10 => ?_
    revert hm; refine bndI fun y11 e12 hm => ?_
    refine ⟨_, rfl, _, rfl, F0, ([] ++ R), a_script0, v_script0, x_script0, a5, [V.int 0, V.int 0, V.int y3], ([(0 : Int), (0 : Int), y3] : (List Int)), (13 : Int), _, rfl, (SqL.mono hs_script0 (Same.refl _)), (hl_script0), hl7, S8, e12, fun F13 H14 v17 s15 S16 hl18 => ?_⟩
    clear S0
    have S19 : Sta F13 ([(a5, HO.lst v17)] ++ R) _ := S16
    refine hN10 _ _ ?_
    revert hm; refine bndI fun y25 e26 hm => ?_
    refine ⟨fun σ H2 => ∃ (F20 : Hp) (v23 : List V), σ = [some (V.ref a_script0), some (V.ref a5), some (V.int y25.1), none, none, none, none, none, none, none, none, none, none, none, none, none, none, none, none] ∧ Same F13 F20 ∧ Sta F20 ([(a5, HO.lst v23)] ++ R) H2 ∧ LR (rInt F20) v23 y25.2, ?_, ?_⟩
    · clear hm; have hm := e26; clear e26
      revert hm; refine bndI fun y27 e28 hm => ?_
      refine ⟨_, rfl, _, rfl, F13, ([] ++ R), a_script0, v_script0, x_script0, a5, v17, y11.2, (8 : Int), _, rfl, (SqL.mono hs_script0 s15), ((hl_script0.mono s15)), hl18, S19, e28, fun F29 H30 v33 s31 S32 hl34 => ?_⟩
      have S35 : Sta F29 ([(a5, HO.lst v33)] ++ R) _ := S32
      refine ⟨_, _, rfl, rfl, _, rfl, ?_⟩
      clear S32
      by_cases c36 : (decide (y27.1 = (5 : Int))) = true
      · revert hm; refine ifTI c36 fun hm => ?_
        refine goT c36 ?_
        refine ⟨_, rfl, _, _, rfl, rfl, ?_⟩
        obtain rfl := Option.some.inj hm
        exact ⟨F29, v33, rfl, s31, S35, hl34⟩
      · revert hm; refine ifFI c36 fun hm => ?_
        refine goF c36 ?_
        obtain rfl := Option.some.inj hm
        exact ⟨F29, v33, rfl, s31, S35, hl34⟩
    · rintro σ H2 ⟨F20, v23, rfl, s21, S22, hl24⟩
      refine seqI fun N37 hN38 => ?_
      intro a39 dx40 nx41 ndx42 nex43
      obtain ⟨F44, s45, S46⟩ : ∃ F', Same F20 F' ∧ Sta F' ([(a39, HO.ins T.a_Gates dx40 []), (a5, HO.lst v23)] ++ R) _ := ⟨_, S22.sameF ndx42 (HO.own a39), (S22.newF ndx42 (HO.own a39)).new (by rw [upd_ne nex43.symm]; exact nx41) (HO.ins T.a_Gates dx40 [])⟩
      refine ⟨F44, ([(a5, HO.lst v23)] ++ R), a39, dx40, _, rfl, S46, rfl, fun F47 H48 a51 v52 a54 v55 s49 S50 hl53 hl56 => ⟨rfl, ?_⟩⟩
      have S57 : Sta F47 ([(a39, HO.ins T.a_Gates dx40 (fl_Gates (V.ref a51) (V.ref a54))), (a51, HO.lst v52), (a54, HO.dT v55), (a5, HO.lst v23)] ++ R) _ := S50
      refine hN38 _ _ ?_
      refine seqI fun N58 hN59 => ?_
      refine ⟨(by show 1 ≤ sizeLine; decide), ?_⟩
      clear S50
      intro a60 np61
      obtain ⟨F62, s63, S64, h65⟩ : ∃ F', Same F47 F' ∧ Sta F' ([(a39, HO.ins T.a_Gates dx40 (fl_Gates (V.ref a51) (V.ref a54))), (a51, HO.lst v52), (a54, HO.dT v55), (a5, HO.lst v23)] ++ R) _ ∧ F' a60 = some (HO.tup (([Sum.inr ("no" : Str)] : List Key).map kV)) := ⟨_, S57.sameF np61 _, S57.newF np61 _, upd_same⟩
      refine ⟨(by show 1 ≤ sizeLine; decide), ?_⟩
      intro a66 np67
      have hl68 : LR (rKT F62) [V.ref a60] ([([Sum.inr ("no" : Str)] : List Key)] : (List (List Key))) := ⟨⟨_, rfl, (Same.refl _) _ _ h65⟩, trivial⟩
      have S69 : Sta F62 ([(a66, HO.lst [V.ref a60]), (a39, HO.ins T.a_Gates dx40 (fl_Gates (V.ref a51) (V.ref a54))), (a51, HO.lst v52), (a54, HO.dT v55), (a5, HO.lst v23)] ++ R) _ := S64.new np67 _
      refine hN59 _ _ ?_
      refine seqI fun N70 hN71 => ?_
      have S72 : Sta F62 ([(a5, HO.lst v23), (a39, HO.ins T.a_Gates dx40 (fl_Gates (V.ref a51) (V.ref a54))), (a51, HO.lst v52), (a54, HO.dT v55), (a66, HO.lst [V.ref a60])] ++ R) _ := S69.pick [4, 1, 2, 3, 0] (by decide) rfl
      revert hm; refine bndI fun y73 e74 hm => ?_
      refine ⟨_, rfl, _, rfl, _, rfl, _, rfl, _, rfl, F62, ([] ++ R), a_script0, v_script0, x_script0, a5, v23, y25.2, a39, dx40, (M_Gates.mk ((m_Gates_init).rows) ((m_Gates_init).known)), a51, v52, a54, v55, a66, [V.ref a60], ([([Sum.inr ("no" : Str)] : List Key)] : (List (List Key))), y25.1, _, rfl, (SqL.mono hs_script0 (s15.trans (s21.trans (s45.trans (s49.trans s63))))), ((hl_script0.mono (s15.trans (s21.trans (s45.trans (s49.trans s63)))))), (hl24.mono (s45.trans (s49.trans s63))), (hl53.mono s63), (KR.mono hl56 s63), hl68, S72, e74, fun F75 H76 v79 a81 v82 a84 v85 v87 a89 v90 s77 S78 hl80 hl83 hl86 hl88 hl91 => ?_⟩
      clear S64 S69
      have S92 : Sta F75 ([(a89, HO.lst v90), (a5, HO.lst v79), (a39, HO.ins T.a_Gates dx40 (fl_Gates (V.ref a81) (V.ref a84))), (a81, HO.lst v82), (a84, HO.dT v85), (a66, HO.lst v87)] ++ R) _ := S78
      refine hN71 _ _ ?_
      refine seqI fun N93 hN94 => ?_
      refine ⟨_, rfl, (by show 0 ≤ sizeLine; decide), ?_⟩
      clear S78
      intro a95 np96
      have hl97 : LR (rInt F75) [] ([] : (List Int)) := trivial
      have S98 : Sta F75 ([(a95, HO.lst []), (a89, HO.lst v90), (a5, HO.lst v79), (a39, HO.ins T.a_Gates dx40 (fl_Gates (V.ref a81) (V.ref a84))), (a81, HO.lst v82), (a84, HO.dT v85), (a66, HO.lst v87)] ++ R) _ := S92.new np96 _
      refine ⟨_, _, (dat_dp (K := K) (r := (rLst K rInt)) ⟨_, _, rfl, (SqL.of (S98.get 1 rfl)), LR.mono hl91 S98.sub⟩), (dat_dp (K := K) (r := (rLst K rInt)) ⟨_, _, rfl, (SqL.of (S98.get 0 rfl)), LR.mono hl97 S98.sub⟩), (dat_shaped (K := K) (r := (rLst K rInt)) (Nat.le_of_ble_eq_true rfl) _ (DPl.pl _)), (dat_shaped (K := K) (r := (rLst K rInt)) (Nat.le_of_ble_eq_true rfl) _ (DPl.pl _)), ?_⟩
      clear S92
      rw [dat_eqv (K := K) (r := (rLst K rInt)) y73.1 ([] : (List Int))]
      refine ⟨_, rfl, ?_⟩
      by_cases c99 : (decide (y73.1 = ([] : (List Int)))) = true
      · revert hm; refine ifTI c99 fun hm => ?_
        cases hm
      · revert hm; refine ifFI c99 fun hm => ?_
        refine goF c99 ?_
        refine hN94 _ _ ?_
        refine seqI fun N100 hN101 => ?_
        revert hm; refine grdI fun g116 hm => ?_
        revert hm; refine bndI fun y133 e102 hm => ?_
        refine ⟨_, rfl, _, rfl, ⟨_, (SqL.of (S98.get 6 rfl))⟩, fun a114 np115 => lc_list (K := K) (a := a66) (xs := v87) (fun i H2 => ∃ (F107 : Hp) (v108 : List V) (acc109 : List Int) (r103 : List Int), Same F75 F107 ∧ Sta F107 ([(a114, HO.lst v108), (a95, HO.lst []), (a89, HO.lst v90), (a5, HO.lst v79), (a39, HO.ins T.a_Gates dx40 (fl_Gates (V.ref a81) (V.ref a84))), (a81, HO.lst v82), (a84, HO.dT v85), (a66, HO.lst v87)] ++ R) H2 ∧ LR (rInt F107) v108 acc109 ∧ acc109.length ≤ i ∧ lcO (fun x106 => (kStr x106 (0 : Int)).bind fun y127 =>
      if (decide (y127 = ("letter" : Str))) = true then ((kInt x106 (1 : Int)).bind fun y130 =>
      some (some y130)) else some none) (List.drop i y73.2.2.2) = some r103 ∧ y133 = acc109 ++ r103) ⟨F75, [], [], _, Same.refl _, S98.new np115 _, trivial, Nat.le_refl _, e102, rfl⟩ (by rintro i H2 _ ⟨F107, v108, acc109, r103, s110, S111, hl112, hn113, hr104, hy105⟩; exact (SqL.of (S111.get 7 rfl))) ?_ ?_⟩
        · rintro i v117 H2 hi ⟨F107, v108, acc109, r103, s110, S111, hl112, hn113, hr104, hy105⟩
          obtain ⟨x106, hx118, rx119⟩ := LR.getV hl88 hi
          rw [drop_cons hx118] at hr104
          revert hr104; refine lcI fun y120 r121 hm hr123 hc124 => ?_
          obtain ⟨a125, rfl, h126⟩ := rx119
          refine ⟨rfl, ?_⟩
          revert hm; refine bndI fun y127 e128 hm => ?_
          refine ⟨_, rfl, _, _, _, _, rfl, rfl, (SqT.of (S111.sub _ _ (s110 _ _ h126))), (kStr_at e128), _, _, rfl, rfl, _, rfl, ?_⟩
          by_cases c129 : (decide (y127 = ("letter" : Str))) = true
          · revert hm; refine ifTI c129 fun hm => ?_
            refine goT c129 ?_
            revert hm; refine bndI fun y130 e131 hm => ?_
            refine ⟨_, rfl, _, _, _, _, rfl, rfl, (SqT.of (S111.sub _ _ (s110 _ _ h126))), (kInt_at e131), ?_⟩
            obtain rfl := Option.some.inj hm
            have hlt : v108.length < 16777216 := by rw [LR.length hl112]; have := (List.getElem?_eq_some_iff.mp hx118).1; have := of_decide_eq_true g116; omega
            have S132 : Sta F107 ([(a114, HO.lst (v108 ++ [V.int y130])), (a95, HO.lst []), (a89, HO.lst v90), (a5, HO.lst v79), (a39, HO.ins T.a_Gates dx40 (fl_Gates (V.ref a81) (V.ref a84))), (a81, HO.lst v82), (a84, HO.dT v85), (a66, HO.lst v87)] ++ R) _ := S111.set 0 rfl _
            exact ⟨_, (S111.get 0 rfl), hlt, F107, _, (acc109 ++ [y130]), r121, s110, S132, LR.snoc hl112 rfl, by rw [List.length_append]; exact Nat.succ_le_succ hn113, hr123, by rw [List.append_assoc]; exact hy105.trans (congrArg (acc109 ++ ·) hc124)⟩
          · revert hm; refine ifFI c129 fun hm => ?_
            refine goF c129 ?_
            obtain rfl := Option.some.inj hm
            exact ⟨F107, _, acc109, r121, s110, S111, hl112, Nat.le_succ_of_le hn113, hr123, hy105.trans (congrArg (acc109 ++ ·) hc124)⟩
        rintro H2 ⟨F107, v108, acc109, r103, s110, S111, hl112, hn113, hr104, hy105⟩
        rw [LR.dropEnd hl88] at hr104
        obtain rfl := Option.some.inj hr104
        rw [List.append_nil] at hy105
        subst hy105
        have S134 : Sta F107 ([(a114, HO.lst v108), (a95, HO.lst []), (a89, HO.lst v90), (a5, HO.lst v79), (a39, HO.ins T.a_Gates dx40 (fl_Gates (V.ref a81) (V.ref a84))), (a81, HO.lst v82), (a84, HO.dT v85), (a66, HO.lst v87)] ++ R) _ := S111
        revert hm; refine grdI fun g135 hm => ?_
        refine ⟨_, y133, rfl, (by rw [← lr_map hl112]; exact (SqL.of (S134.get 0 rfl))), (of_decide_eq_true g135), ?_⟩
        clear S111
        intro mx136 h137 h138
        obtain rfl := maxL_eq h137 h138
        refine ⟨(by show 4 ≤ sizeLine; decide), ?_⟩
        intro a139 np140
        have hl141 : LR (rInt F107) [V.int 1, V.int 2, V.int 4, V.int 900001] ([(1 : Int), (2 : Int), (4 : Int), (900001 : Int)] : (List Int)) := ⟨rfl, rfl, rfl, rfl, trivial⟩
        have S142 : Sta F107 ([(a139, HO.lst [V.int 1, V.int 2, V.int 4, V.int 900001]), (a114, HO.lst v108), (a95, HO.lst []), (a89, HO.lst v90), (a5, HO.lst v79), (a39, HO.ins T.a_Gates dx40 (fl_Gates (V.ref a81) (V.ref a84))), (a81, HO.lst v82), (a84, HO.dT v85), (a66, HO.lst v87)] ++ R) _ := S134.new np140 _
        have S143 : Sta F107 ([(a5, HO.lst v79), (a139, HO.lst [V.int 1, V.int 2, V.int 4, V.int 900001]), (a114, HO.lst v108), (a95, HO.lst []), (a89, HO.lst v90), (a39, HO.ins T.a_Gates dx40 (fl_Gates (V.ref a81) (V.ref a84))), (a81, HO.lst v82), (a84, HO.dT v85), (a66, HO.lst v87)] ++ R) _ := S142.pick [4, 0, 1, 2, 3, 5, 6, 7, 8] (by decide) rfl
        revert hm; refine bndI fun y144 e145 hm => ?_
        refine ⟨_, rfl, _, rfl, F107, ([(a139, HO.lst [V.int 1, V.int 2, V.int 4, V.int 900001]), (a114, HO.lst v108), (a95, HO.lst []), (a89, HO.lst v90), (a39, HO.ins T.a_Gates dx40 (fl_Gates (V.ref a81) (V.ref a84))), (a81, HO.lst v82), (a84, HO.dT v85), (a66, HO.lst v87)] ++ R), a_script0, v_script0, x_script0, a5, v79, y73.2.1, (4 : Int), _, rfl, (SqL.mono hs_script0 (s15.trans (s21.trans (s45.trans (s49.trans (s63.trans (s77.trans s110))))))), ((hl_script0.mono (s15.trans (s21.trans (s45.trans (s49.trans (s63.trans (s77.trans s110)))))))), (hl80.mono s110), S143, e145, fun F146 H147 v150 s148 S149 hl151 => ?_⟩
        clear S134 S142
        have S152 : Sta F146 ([(a5, HO.lst v150), (a139, HO.lst [V.int 1, V.int 2, V.int 4, V.int 900001]), (a114, HO.lst v108), (a95, HO.lst []), (a89, HO.lst v90), (a39, HO.ins T.a_Gates dx40 (fl_Gates (V.ref a81) (V.ref a84))), (a81, HO.lst v82), (a84, HO.dT v85), (a66, HO.lst v87)] ++ R) _ := S149
        revert hm; refine bndI fun y153 e154 hm => ?_
        obtain ⟨v155, ev156, rv157⟩ := LR.atI hl141 e154
        obtain rfl := rInt_e rv157
        refine ⟨_, _, _, _, rfl, rfl, (SqL.of (S152.get 1 rfl)), ev156, _, _, rfl, rfl, ?_⟩
        clear S149
        refine hN101 _ _ ?_
        refine seqI fun N158 hN159 => ?_
        refine ⟨(by show 0 ≤ sizeLine; decide), ?_⟩
        intro a160 np161
        have hl162 : LR (rInt F146) [] ([] : (List Int)) := trivial
        have S163 : Sta F146 ([(a160, HO.lst []), (a5, HO.lst v150), (a139, HO.lst [V.int 1, V.int 2, V.int 4, V.int 900001]), (a114, HO.lst v108), (a95, HO.lst []), (a89, HO.lst v90), (a39, HO.ins T.a_Gates dx40 (fl_Gates (V.ref a81) (V.ref a84))), (a81, HO.lst v82), (a84, HO.dT v85), (a66, HO.lst v87)] ++ R) _ := S152.new np161 _
        refine hN159 _ _ ?_
        refine seqI fun N164 hN165 => ?_
        have S169 : Sta F146 ([(a5, HO.lst v150), (a160, HO.lst []), (a139, HO.lst [V.int 1, V.int 2, V.int 4, V.int 900001]), (a114, HO.lst v108), (a95, HO.lst []), (a89, HO.lst v90), (a39, HO.ins T.a_Gates dx40 (fl_Gates (V.ref a81) (V.ref a84))), (a81, HO.lst v82), (a84, HO.dT v85), (a66, HO.lst v87)] ++ R) _ := S163.pick [1, 0, 2, 3, 4, 5, 6, 7, 8, 9] (by decide) rfl
        revert hm; refine bndI fun y170 e171 hm => ?_
        refine ⟨_, rfl, _, rfl, F146, ([(a160, HO.lst []), (a139, HO.lst [V.int 1, V.int 2, V.int 4, V.int 900001]), (a114, HO.lst v108), (a95, HO.lst []), (a89, HO.lst v90), (a39, HO.ins T.a_Gates dx40 (fl_Gates (V.ref a81) (V.ref a84))), (a81, HO.lst v82), (a84, HO.dT v85), (a66, HO.lst v87)] ++ R), a_script0, v_script0, x_script0, a5, v150, y144.2, (4 : Int), _, rfl, (SqL.mono hs_script0 (s15.trans (s21.trans (s45.trans (s49.trans (s63.trans (s77.trans (s110.trans s148)))))))), ((hl_script0.mono (s15.trans (s21.trans (s45.trans (s49.trans (s63.trans (s77.trans (s110.trans s148))))))))), hl151, S169, e171, fun F172 H173 v176 s174 S175 hl177 => ?_⟩
        clear S152 S163
        have S178 : Sta F172 ([(a5, HO.lst v176), (a160, HO.lst []), (a139, HO.lst [V.int 1, V.int 2, V.int 4, V.int 900001]), (a114, HO.lst v108), (a95, HO.lst []), (a89, HO.lst v90), (a39, HO.ins T.a_Gates dx40 (fl_Gates (V.ref a81) (V.ref a84))), (a81, HO.lst v82), (a84, HO.dT v85), (a66, HO.lst v87)] ++ R) _ := S175
        revert hm; refine grdI fun g179 hm => ?_
        revert hm; refine bndI fun y166 e167 hm168 => ?_
        refine ⟨_, rfl, (rngOk_lo g179), (rngOk_hi g179), for_rng (lo := 0) (n := y170.1.toNat) (fun i σ H2 => ∃ (st1 : ((List Int) × (List Int))) (F200 : Hp) (v204 : List V) (v206 : List V) (o203 : Option V), σ = [some (V.ref a_script0), some (V.ref a5), some (V.int y25.1), some (V.ref a39), some (V.ref a66), some (V.ref a89), none, some (V.int ((maxL y133) + y153)), some (V.ref a160), o203, none, none, none, none, none, none, none, none, none] ∧ Same F172 F200 ∧ Sta F200 ([(a5, HO.lst v204), (a160, HO.lst v206), (a139, HO.lst [V.int 1, V.int 2, V.int 4, V.int 900001]), (a114, HO.lst v108), (a95, HO.lst []), (a89, HO.lst v90), (a39, HO.ins T.a_Gates dx40 (fl_Gates (V.ref a81) (V.ref a84))), (a81, HO.lst v82), (a84, HO.dT v85), (a66, HO.lst v87)] ++ R) H2 ∧ LR (rInt F200) v204 st1.1 ∧ LR (rInt F200) v206 st1.2 ∧ m_law_l1 x_script0 y73 (List.drop i (pyRange 0 y170.1.toNat)) st1 = some y166) ⟨(y170.2, ([] : (List Int))), F172, v176, [], _, rfl, (Same.refl _), S178, hl177, (hl162.mono s174), e167⟩ ?_ ?_⟩
        clear S175
        · rintro i x208 σ H2 hi ⟨st1, F200, v204, v206, o203, rfl, s201, S202, hl205, hl207, hm⟩
          rw [drop_cons hi, m_law_l1] at hm
          refine ⟨_, rfl, .inl ⟨rfl, _, (SqL.of (S202.get 1 rfl))⟩, _, rfl, _, rfl, _, _, rfl, .inl (SqL.of (S202.get 5 rfl)), ?_⟩
          rw [LR.length (hl91.mono (s110.trans (s148.trans (s174.trans s201))))]
          refine ⟨_, _, rfl, rfl, _, rfl, _, rfl, _, rfl, _, _, rfl, .inl (SqL.of (S202.get 5 rfl)), ?_⟩
          rw [LR.length (hl91.mono (s110.trans (s148.trans (s174.trans s201))))]
          revert hm; refine bndI fun y210 e211 hm => ?_
          refine ⟨F200, ([(a160, HO.lst v206), (a139, HO.lst [V.int 1, V.int 2, V.int 4, V.int 900001]), (a114, HO.lst v108), (a95, HO.lst []), (a89, HO.lst v90), (a39, HO.ins T.a_Gates dx40 (fl_Gates (V.ref a81) (V.ref a84))), (a81, HO.lst v82), (a84, HO.dT v85), (a66, HO.lst v87)] ++ R), a_script0, v_script0, x_script0, a5, v204, st1.1, (y73.1.length : Int), _, rfl, (SqL.mono hs_script0 (s15.trans (s21.trans (s45.trans (s49.trans (s63.trans (s77.trans (s110.trans (s148.trans (s174.trans s201)))))))))), ((hl_script0.mono (s15.trans (s21.trans (s45.trans (s49.trans (s63.trans (s77.trans (s110.trans (s148.trans (s174.trans s201))))))))))), hl205, S202, e211, fun F212 H213 v216 s214 S215 hl217 => ?_⟩
          have S218 : Sta F212 ([(a5, HO.lst v216), (a160, HO.lst v206), (a139, HO.lst [V.int 1, V.int 2, V.int 4, V.int 900001]), (a114, HO.lst v108), (a95, HO.lst []), (a89, HO.lst v90), (a39, HO.ins T.a_Gates dx40 (fl_Gates (V.ref a81) (V.ref a84))), (a81, HO.lst v82), (a84, HO.dT v85), (a66, HO.lst v87)] ++ R) _ := S215
          revert hm; refine bndI fun y219 e220 hm => ?_
          obtain ⟨v221, ev222, rv223⟩ := LR.atI hl91 e220
          obtain rfl := rInt_e rv223
          revert hm; refine grdI fun g224 hm => ?_
          refine ⟨_, _, rfl, rfl, _, _, _, _, rfl, rfl, (SqL.of (S218.get 5 rfl)), ev222, _, _, _, rfl, rfl, (S218.get 1 rfl), (by rw [LR.length (hl207.mono s214)]; exact of_decide_eq_true g224), ?_⟩
          clear S215
          have hl225 : LR (rInt F212) (v206 ++ [V.int y219]) (st1.2 ++ [y219]) := LR.snoc (hl207.mono s214) rfl
          have S226 : Sta F212 ([(a5, HO.lst v216), (a160, HO.lst (v206 ++ [V.int y219])), (a139, HO.lst [V.int 1, V.int 2, V.int 4, V.int 900001]), (a114, HO.lst v108), (a95, HO.lst []), (a89, HO.lst v90), (a39, HO.ins T.a_Gates dx40 (fl_Gates (V.ref a81) (V.ref a84))), (a81, HO.lst v82), (a84, HO.dT v85), (a66, HO.lst v87)] ++ R) _ := S218.set 1 rfl _
          exact ⟨(y210.2, (st1.2 ++ [y219])), F212, v216, (v206 ++ [V.int y219]), _, rfl, (s201.trans s214), S226, hl217, hl225, hm⟩
        · rintro σ H2 ⟨st1, F200, v204, v206, o203, rfl, s201, S202, hl205, hl207, hm⟩
          rw [drop_rng, m_law_l1] at hm
          obtain rfl := Option.some.inj hm
          have hm := hm168
          refine hN165 _ _ ?_
          refine seqI fun N227 hN228 => ?_
          refine ⟨_, rfl, _, _, rfl, .inl (SqL.of (S202.get 1 rfl)), ?_⟩
          intro a229 np230
          have hl231 := hl207
          have S232 : Sta F200 ([(a229, HO.lst v206), (a5, HO.lst v204), (a160, HO.lst v206), (a139, HO.lst [V.int 1, V.int 2, V.int 4, V.int 900001]), (a114, HO.lst v108), (a95, HO.lst []), (a89, HO.lst v90), (a39, HO.ins T.a_Gates dx40 (fl_Gates (V.ref a81) (V.ref a84))), (a81, HO.lst v82), (a84, HO.dT v85), (a66, HO.lst v87)] ++ R) _ := S202.new np230 _
          refine hN228 _ _ ?_
          refine seqI fun N233 hN234 => ?_
          refine ⟨_, rfl, _, rfl, _, rfl, ?_⟩
          clear S202
          intro a235 dx236 nx237 ndx238 nex239
          obtain ⟨F240, s241, S242⟩ : ∃ F', Same F200 F' ∧ Sta F' ([(a235, HO.ins T.a_Encoding dx236 []), (a229, HO.lst v206), (a5, HO.lst v204), (a160, HO.lst v206), (a139, HO.lst [V.int 1, V.int 2, V.int 4, V.int 900001]), (a114, HO.lst v108), (a95, HO.lst []), (a89, HO.lst v90), (a39, HO.ins T.a_Gates dx40 (fl_Gates (V.ref a81) (V.ref a84))), (a81, HO.lst v82), (a84, HO.dT v85), (a66, HO.lst v87)] ++ R) _ := ⟨_, S232.sameF ndx238 (HO.own a235), (S232.newF ndx238 (HO.own a235)).new (by rw [upd_ne nex239.symm]; exact nx237) (HO.ins T.a_Encoding dx236 [])⟩
          have S243 : Sta F240 ([(a235, HO.ins T.a_Encoding dx236 ([])), (a39, HO.ins T.a_Gates dx40 (fl_Gates (V.ref a81) (V.ref a84))), (a81, HO.lst v82), (a84, HO.dT v85), (a229, HO.lst v206), (a5, HO.lst v204), (a160, HO.lst v206), (a139, HO.lst [V.int 1, V.int 2, V.int 4, V.int 900001]), (a114, HO.lst v108), (a95, HO.lst []), (a89, HO.lst v90), (a66, HO.lst v87)] ++ R) _ := S242.pick [0, 8, 9, 10, 1, 2, 3, 4, 5, 6, 7, 11] (by decide) rfl
          revert hm; refine bndI fun y244 e245 hm => ?_
          refine ⟨F240, ([(a229, HO.lst v206), (a5, HO.lst v204), (a160, HO.lst v206), (a139, HO.lst [V.int 1, V.int 2, V.int 4, V.int 900001]), (a114, HO.lst v108), (a95, HO.lst []), (a89, HO.lst v90), (a66, HO.lst v87)] ++ R), a235, dx236, a39, dx40, (M_Gates.mk y73.2.2.1.rows y73.2.2.1.known), a81, v82, a84, v85, a229, v206, st1.2, ((maxL y133) + y153), _, rfl, (hl83.mono (s110.trans (s148.trans (s174.trans (s201.trans s241))))), (KR.mono hl86 (s110.trans (s148.trans (s174.trans (s201.trans s241))))), (SqL.of (S243.tl.tl.tl.tl.getO 0 rfl)), (hl231.mono s241), S243, e245, fun F246 H247 a250 v251 a253 v254 s248 S249 hl252 hl255 => ⟨rfl, ?_⟩⟩
          clear S242
          have S256 : Sta F246 ([(a235, HO.ins T.a_Encoding dx236 (fl_Encoding (V.ref a250) (V.ref a253) (V.ref a39))), (a250, HO.dK v251), (a253, HO.lst v254), (a39, HO.ins T.a_Gates dx40 (fl_Gates (V.ref a81) (V.ref a84))), (a81, HO.lst v82), (a84, HO.dT v85), (a229, HO.lst v206), (a5, HO.lst v204), (a160, HO.lst v206), (a139, HO.lst [V.int 1, V.int 2, V.int 4, V.int 900001]), (a114, HO.lst v108), (a95, HO.lst []), (a89, HO.lst v90), (a66, HO.lst v87)] ++ R) _ := S249
          refine hN234 _ _ ?_
          refine seqI fun N257 hN258 => ?_
          refine ⟨_, rfl, _, rfl, _, _, (dat_dp (K := K) (r := (rLst K rInt)) ⟨_, _, rfl, (SqL.of (S256.get 6 rfl)), LR.mono (hl231.mono (s241.trans s248)) S256.sub⟩), (dat_dp (K := K) (r := (rLst K rInt)) ⟨_, _, rfl, (SqL.of (S256.get 8 rfl)), LR.mono (hl207.mono (s241.trans s248)) S256.sub⟩), (dat_shaped (K := K) (r := (rLst K rInt)) (Nat.le_of_ble_eq_true rfl) _ (DPl.pl _)), (dat_shaped (K := K) (r := (rLst K rInt)) (Nat.le_of_ble_eq_true rfl) _ (DPl.pl _)), ?_⟩
          clear S249
          rw [dat_eqv (K := K) (r := (rLst K rInt)) st1.2 st1.2]
          refine ⟨_, rfl, ?_⟩
          by_cases c259 : (!decide (st1.2 = st1.2)) = true
          · revert hm; refine ifTI c259 fun hm => ?_
            cases hm
          · revert hm; refine ifFI c259 fun hm => ?_
            refine goF c259 ?_
            refine hN258 _ _ ?_
            refine seqI fun N260 hN261 => ?_
            refine ⟨_, rfl, .inl ⟨rfl, _, (SqL.of (S256.get 6 rfl))⟩, _, rfl, _, rfl, _, _, rfl, .inl (SqL.of (S256.get 12 rfl)), ?_⟩
            rw [LR.length (hl91.mono (s110.trans (s148.trans (s174.trans (s201.trans (s241.trans s248))))))]
            revert hm; refine bndI fun y262 e263 hm => ?_
            obtain ⟨v264, ev265, rv266⟩ := LR.atI hl91 e263
            obtain rfl := rInt_e rv266
            revert hm; refine grdI fun g267 hm => ?_
            refine ⟨_, _, rfl, rfl, _, _, _, _, rfl, rfl, (SqL.of (S256.get 12 rfl)), ev265, _, _, _, rfl, rfl, (S256.get 6 rfl), (by rw [LR.length (hl231.mono (s241.trans s248))]; exact of_decide_eq_true g267), ?_⟩
            have hl268 : LR (rInt F246) (v206 ++ [V.int y262]) (st1.2 ++ [y262]) := LR.snoc (hl231.mono (s241.trans s248)) rfl
            have S269 : Sta F246 ([(a235, HO.ins T.a_Encoding dx236 (fl_Encoding (V.ref a250) (V.ref a253) (V.ref a39))), (a250, HO.dK v251), (a253, HO.lst v254), (a39, HO.ins T.a_Gates dx40 (fl_Gates (V.ref a81) (V.ref a84))), (a81, HO.lst v82), (a84, HO.dT v85), (a229, HO.lst (v206 ++ [V.int y262])), (a5, HO.lst v204), (a160, HO.lst v206), (a139, HO.lst [V.int 1, V.int 2, V.int 4, V.int 900001]), (a114, HO.lst v108), (a95, HO.lst []), (a89, HO.lst v90), (a66, HO.lst v87)] ++ R) _ := S256.set 6 rfl _
            refine hN261 _ _ ?_
            refine seqI fun N270 hN271 => ?_
            revert hm; refine bndI fun y272 e273 hm => ?_
            refine ⟨_, rfl, _, rfl, _, rfl, F246, ([(a235, HO.ins T.a_Encoding dx236 (fl_Encoding (V.ref a250) (V.ref a253) (V.ref a39))), (a250, HO.dK v251), (a253, HO.lst v254), (a39, HO.ins T.a_Gates dx40 (fl_Gates (V.ref a81) (V.ref a84))), (a81, HO.lst v82), (a84, HO.dT v85), (a229, HO.lst (v206 ++ [V.int y262])), (a5, HO.lst v204), (a160, HO.lst v206), (a139, HO.lst [V.int 1, V.int 2, V.int 4, V.int 900001]), (a114, HO.lst v108), (a95, HO.lst []), (a89, HO.lst v90), (a66, HO.lst v87)] ++ R), a66, v87, y73.2.2.2, a160, v206, st1.2, ((maxL y133) + y153), _, rfl, (SqL.of (S269.getO 13 rfl)), (hl88.mono (s110.trans (s148.trans (s174.trans (s201.trans (s241.trans s248)))))), (SqL.of (S269.getO 8 rfl)), (hl207.mono (s241.trans s248)), S269, e273, fun F274 H275 a278 v279 s276 S277 hl280 => ?_⟩
            clear S256
            have S281 : Sta F274 ([(a278, HO.dK v279), (a235, HO.ins T.a_Encoding dx236 (fl_Encoding (V.ref a250) (V.ref a253) (V.ref a39))), (a250, HO.dK v251), (a253, HO.lst v254), (a39, HO.ins T.a_Gates dx40 (fl_Gates (V.ref a81) (V.ref a84))), (a81, HO.lst v82), (a84, HO.dT v85), (a229, HO.lst (v206 ++ [V.int y262])), (a5, HO.lst v204), (a160, HO.lst v206), (a139, HO.lst [V.int 1, V.int 2, V.int 4, V.int 900001]), (a114, HO.lst v108), (a95, HO.lst []), (a89, HO.lst v90), (a66, HO.lst v87)] ++ R) _ := S277
            refine hN271 _ _ ?_
            refine seqI fun N282 hN283 => ?_
            revert hm; refine bndI fun y284 e285 hm => ?_
            refine ⟨_, rfl, _, rfl, _, rfl, F274, ([(a235, HO.ins T.a_Encoding dx236 (fl_Encoding (V.ref a250) (V.ref a253) (V.ref a39))), (a250, HO.dK v251), (a253, HO.lst v254), (a39, HO.ins T.a_Gates dx40 (fl_Gates (V.ref a81) (V.ref a84))), (a81, HO.lst v82), (a84, HO.dT v85), (a229, HO.lst (v206 ++ [V.int y262])), (a5, HO.lst v204), (a160, HO.lst v206), (a139, HO.lst [V.int 1, V.int 2, V.int 4, V.int 900001]), (a114, HO.lst v108), (a95, HO.lst []), (a89, HO.lst v90), (a66, HO.lst v87)] ++ R), a235, dx236, (M_Encoding.mk y244.letters y244.clauses (M_Gates.mk y73.2.2.1.rows y73.2.2.1.known)), a250, v251, a253, v254, a39, dx40, a81, v82, a84, v85, a66, v87, y73.2.2.2, a278, v279, y272, _, rfl, (S281.tl.getO 0 rfl), (S281.tl.getO 1 rfl), (KR.mono hl252 s276), (SqL.of (S281.tl.getO 2 rfl)), (hl255.mono s276), (S281.tl.getO 3 rfl), (SqL.of (S281.tl.getO 4 rfl)), (hl83.mono (s110.trans (s148.trans (s174.trans (s201.trans (s241.trans (s248.trans s276))))))), (S281.tl.getO 5 rfl), (KR.mono hl86 (s110.trans (s148.trans (s174.trans (s201.trans (s241.trans (s248.trans s276))))))), (SqL.of (S281.tl.getO 13 rfl)), (hl88.mono (s110.trans (s148.trans (s174.trans (s201.trans (s241.trans (s248.trans s276))))))), hl280, S281, e285, fun F286 H287 s288 S289 => ?_⟩
            clear S277
            have S290 : Sta F286 ([(a278, HO.dK v279), (a235, HO.ins T.a_Encoding dx236 (fl_Encoding (V.ref a250) (V.ref a253) (V.ref a39))), (a250, HO.dK v251), (a253, HO.lst v254), (a39, HO.ins T.a_Gates dx40 (fl_Gates (V.ref a81) (V.ref a84))), (a81, HO.lst v82), (a84, HO.dT v85), (a229, HO.lst (v206 ++ [V.int y262])), (a5, HO.lst v204), (a160, HO.lst v206), (a139, HO.lst [V.int 1, V.int 2, V.int 4, V.int 900001]), (a114, HO.lst v108), (a95, HO.lst []), (a89, HO.lst v90), (a66, HO.lst v87)] ++ R) _ := S289
            refine ⟨_, rfl, ?_⟩
            clear S289
            by_cases c291 : (!y284) = true
            · revert hm; refine ifTI c291 fun hm => ?_
              cases hm
            · revert hm; refine ifFI c291 fun hm => ?_
              refine goF c291 ?_
              refine hN283 _ _ ?_
              refine seqI fun N292 hN293 => ?_
              intro a294 np295
              have hl296 : KR Sum.inl (rBool F286) ([] : List (Key × V)) ([] : (List (Int × Bool))) := trivial
              have S297 : Sta F286 ([(a294, HO.dK []), (a278, HO.dK v279), (a235, HO.ins T.a_Encoding dx236 (fl_Encoding (V.ref a250) (V.ref a253) (V.ref a39))), (a250, HO.dK v251), (a253, HO.lst v254), (a39, HO.ins T.a_Gates dx40 (fl_Gates (V.ref a81) (V.ref a84))), (a81, HO.lst v82), (a84, HO.dT v85), (a229, HO.lst (v206 ++ [V.int y262])), (a5, HO.lst v204), (a160, HO.lst v206), (a139, HO.lst [V.int 1, V.int 2, V.int 4, V.int 900001]), (a114, HO.lst v108), (a95, HO.lst []), (a89, HO.lst v90), (a66, HO.lst v87)] ++ R) _ := S290.new np295 _
              refine hN293 _ _ ?_
              refine seqI fun N298 hN299 => ?_
              revert hm; refine bndI fun y300 e301 hm302 => ?_
              refine ⟨_, rfl, _, rfl, ⟨_, (SqL.of (S297.get 15 rfl))⟩, for_list (K := K) (a := a66) (xs := v87) (fun i σ H2 => ∃ (st2 : ((List (Int × Bool)) × (List Int))) (F323 : Hp) (v327 : List (Key × V)) (v329 : List V) (o326 : Option V), σ = [some (V.ref a_script0), some (V.ref a5), some (V.int y25.1), some (V.ref a39), some (V.ref a66), some (V.ref a89), o326, some (V.int ((maxL y133) + y153)), some (V.ref a160), o203, some (V.ref a229), some (V.ref a235), some (V.ref a278), some (V.ref a294), none, none, none, none, none] ∧ Same F286 F323 ∧ Sta F323 ([(a294, HO.dK v327), (a278, HO.dK v279), (a235, HO.ins T.a_Encoding dx236 (fl_Encoding (V.ref a250) (V.ref a253) (V.ref a39))), (a250, HO.dK v251), (a253, HO.lst v254), (a39, HO.ins T.a_Gates dx40 (fl_Gates (V.ref a81) (V.ref a84))), (a81, HO.lst v82), (a84, HO.dT v85), (a229, HO.lst (v206 ++ [V.int y262])), (a5, HO.lst v329), (a160, HO.lst v206), (a139, HO.lst [V.int 1, V.int 2, V.int 4, V.int 900001]), (a114, HO.lst v108), (a95, HO.lst []), (a89, HO.lst v90), (a66, HO.lst v87)] ++ R) H2 ∧ KR Sum.inl (rBool F323) v327 st2.1 ∧ LR (rInt F323) v329 st2.2 ∧ m_law_l2 x_script0 (List.drop i y73.2.2.2) st2 = some y300) ⟨(([] : (List (Int × Bool))), st1.1), F286, [], v204, _, rfl, (Same.refl _), S297, hl296, (hl205.mono (s241.trans (s248.trans (s276.trans s288)))), e301⟩ (by rintro i σ H2 _ ⟨st2, F323, v327, v329, o326, rfl, s324, S325, hl328, hl330, _⟩; exact (SqL.of (S325.get 15 rfl))) ?_ ?_⟩
              clear S290
              · rintro i v332 σ H2 hi ⟨st2, F323, v327, v329, o326, rfl, s324, S325, hl328, hl330, hm⟩
                obtain ⟨x331, hx333, rx334⟩ := LR.getV hl88 hi
                rw [drop_cons hx333, m_law_l2] at hm
                obtain ⟨a335, rfl, h336⟩ := rx334
                revert hm; refine bndI fun y337 e338 hm => ?_
                refine ⟨_, rfl, _, _, _, _, rfl, rfl, (SqT.of (S325.sub _ _ ((s110.trans (s148.trans (s174.trans (s201.trans (s241.trans (s248.trans (s276.trans (s288.trans s324)))))))) _ _ h336))), (kStr_at e338), _, _, rfl, rfl, _, rfl, ?_⟩
                by_cases c339 : (decide (y337 = ("letter" : Str))) = true
                · revert hm; refine ifTI c339 fun hm => ?_
                  refine goT c339 ?_
                  have S340 : Sta F323 ([(a5, HO.lst v329), (a294, HO.dK v327), (a278, HO.dK v279), (a235, HO.ins T.a_Encoding dx236 (fl_Encoding (V.ref a250) (V.ref a253) (V.ref a39))), (a250, HO.dK v251), (a253, HO.lst v254), (a39, HO.ins T.a_Gates dx40 (fl_Gates (V.ref a81) (V.ref a84))), (a81, HO.lst v82), (a84, HO.dT v85), (a229, HO.lst (v206 ++ [V.int y262])), (a160, HO.lst v206), (a139, HO.lst [V.int 1, V.int 2, V.int 4, V.int 900001]), (a114, HO.lst v108), (a95, HO.lst []), (a89, HO.lst v90), (a66, HO.lst v87)] ++ R) _ := S325.pick [9, 0, 1, 2, 3, 4, 5, 6, 7, 8, 10, 11, 12, 13, 14, 15] (by decide) rfl
                  revert hm; refine bndI fun y341 e342 hm => ?_
                  refine ⟨_, rfl, _, rfl, F323, ([(a294, HO.dK v327), (a278, HO.dK v279), (a235, HO.ins T.a_Encoding dx236 (fl_Encoding (V.ref a250) (V.ref a253) (V.ref a39))), (a250, HO.dK v251), (a253, HO.lst v254), (a39, HO.ins T.a_Gates dx40 (fl_Gates (V.ref a81) (V.ref a84))), (a81, HO.lst v82), (a84, HO.dT v85), (a229, HO.lst (v206 ++ [V.int y262])), (a160, HO.lst v206), (a139, HO.lst [V.int 1, V.int 2, V.int 4, V.int 900001]), (a114, HO.lst v108), (a95, HO.lst []), (a89, HO.lst v90), (a66, HO.lst v87)] ++ R), a_script0, v_script0, x_script0, a5, v329, st2.2, (2 : Int), _, rfl, (SqL.mono hs_script0 (s15.trans (s21.trans (s45.trans (s49.trans (s63.trans (s77.trans (s110.trans (s148.trans (s174.trans (s201.trans (s241.trans (s248.trans (s276.trans (s288.trans s324))))))))))))))), ((hl_script0.mono (s15.trans (s21.trans (s45.trans (s49.trans (s63.trans (s77.trans (s110.trans (s148.trans (s174.trans (s201.trans (s241.trans (s248.trans (s276.trans (s288.trans s324)))))))))))))))), hl330, S340, e342, fun F343 H344 v347 s345 S346 hl348 => ?_⟩
                  clear S325
                  have S349 : Sta F343 ([(a5, HO.lst v347), (a294, HO.dK v327), (a278, HO.dK v279), (a235, HO.ins T.a_Encoding dx236 (fl_Encoding (V.ref a250) (V.ref a253) (V.ref a39))), (a250, HO.dK v251), (a253, HO.lst v254), (a39, HO.ins T.a_Gates dx40 (fl_Gates (V.ref a81) (V.ref a84))), (a81, HO.lst v82), (a84, HO.dT v85), (a229, HO.lst (v206 ++ [V.int y262])), (a160, HO.lst v206), (a139, HO.lst [V.int 1, V.int 2, V.int 4, V.int 900001]), (a114, HO.lst v108), (a95, HO.lst []), (a89, HO.lst v90), (a66, HO.lst v87)] ++ R) _ := S346
                  revert hm; refine bndI fun y350 e351 hm => ?_
                  revert hm; refine grdI fun g352 hm => ?_
                  refine ⟨_, _, rfl, rfl, _, rfl, _, rfl, _, _, _, _, rfl, rfl, (SqT.of (S349.sub _ _ ((s110.trans (s148.trans (s174.trans (s201.trans (s241.trans (s248.trans (s276.trans (s288.trans (s324.trans s345))))))))) _ _ h336))), (kInt_at e351), _, _, rfl, (DPut.k (k := Sum.inl y350) (S349.get 1 rfl) (by rw [KR.length (KR.mono hl328 s345)]; exact of_decide_eq_true g352)), ?_⟩
                  clear S346
                  have hl353 : KR Sum.inl (rBool F343) (putK v327 (Sum.inl y350) (V.bl (decide (y341.1 = (1 : Int))))) (mput st2.1 y350 (decide (y341.1 = (1 : Int)))) := KR.put (KR.mono hl328 s345) kinj_int rfl
                  have S354 : Sta F343 ([(a5, HO.lst v347), (a294, HO.dK (putK v327 (Sum.inl y350) (V.bl (decide (y341.1 = (1 : Int)))))), (a278, HO.dK v279), (a235, HO.ins T.a_Encoding dx236 (fl_Encoding (V.ref a250) (V.ref a253) (V.ref a39))), (a250, HO.dK v251), (a253, HO.lst v254), (a39, HO.ins T.a_Gates dx40 (fl_Gates (V.ref a81) (V.ref a84))), (a81, HO.lst v82), (a84, HO.dT v85), (a229, HO.lst (v206 ++ [V.int y262])), (a160, HO.lst v206), (a139, HO.lst [V.int 1, V.int 2, V.int 4, V.int 900001]), (a114, HO.lst v108), (a95, HO.lst []), (a89, HO.lst v90), (a66, HO.lst v87)] ++ R) _ := S349.set 1 rfl _
                  have S355 : Sta F343 ([(a294, HO.dK (putK v327 (Sum.inl y350) (V.bl (decide (y341.1 = (1 : Int)))))), (a278, HO.dK v279), (a235, HO.ins T.a_Encoding dx236 (fl_Encoding (V.ref a250) (V.ref a253) (V.ref a39))), (a250, HO.dK v251), (a253, HO.lst v254), (a39, HO.ins T.a_Gates dx40 (fl_Gates (V.ref a81) (V.ref a84))), (a81, HO.lst v82), (a84, HO.dT v85), (a229, HO.lst (v206 ++ [V.int y262])), (a5, HO.lst v347), (a160, HO.lst v206), (a139, HO.lst [V.int 1, V.int 2, V.int 4, V.int 900001]), (a114, HO.lst v108), (a95, HO.lst []), (a89, HO.lst v90), (a66, HO.lst v87)] ++ R) _ := S354.pick [1, 2, 3, 4, 5, 6, 7, 8, 9, 0, 10, 11, 12, 13, 14, 15] (by decide) rfl
                  exact ⟨((mput st2.1 y350 (decide (y341.1 = (1 : Int)))), y341.2), F343, (putK v327 (Sum.inl y350) (V.bl (decide (y341.1 = (1 : Int))))), v347, _, rfl, (s324.trans s345), S355, hl353, hl348, hm⟩
                · revert hm; refine ifFI c339 fun hm => ?_
                  refine goF c339 ?_
                  exact ⟨(st2.1, st2.2), F323, v327, v329, _, rfl, s324, S325, hl328, hl330, hm⟩
              · rintro σ H2 ⟨st2, F323, v327, v329, o326, rfl, s324, S325, hl328, hl330, hm⟩
                rw [LR.dropEnd hl88, m_law_l2] at hm
                obtain rfl := Option.some.inj hm
                have hm := hm302
                refine hN299 _ _ ?_
                refine seqI fun N356 hN357 => ?_
                revert hm; refine bndI fun y358 e359 hm => ?_
                refine ⟨_, rfl, _, rfl, F323, ([(a294, HO.dK v327), (a278, HO.dK v279), (a235, HO.ins T.a_Encoding dx236 (fl_Encoding (V.ref a250) (V.ref a253) (V.ref a39))), (a250, HO.dK v251), (a253, HO.lst v254), (a39, HO.ins T.a_Gates dx40 (fl_Gates (V.ref a81) (V.ref a84))), (a81, HO.lst v82), (a84, HO.dT v85), (a229, HO.lst (v206 ++ [V.int y262])), (a5, HO.lst v329), (a160, HO.lst v206), (a139, HO.lst [V.int 1, V.int 2, V.int 4, V.int 900001]), (a114, HO.lst v108), (a95, HO.lst []), (a89, HO.lst v90), (a66, HO.lst v87)] ++ R), a66, v87, y73.2.2.2, a294, v327, st2.1, _, rfl, (SqL.of (S325.getO 15 rfl)), (hl88.mono (s110.trans (s148.trans (s174.trans (s201.trans (s241.trans (s248.trans (s276.trans (s288.trans s324))))))))), (S325.getO 0 rfl), hl328, S325, e359, fun F360 H361 a364 v365 s362 S363 hl366 => ?_⟩
                have S367 : Sta F360 ([(a364, HO.lst v365), (a294, HO.dK v327), (a278, HO.dK v279), (a235, HO.ins T.a_Encoding dx236 (fl_Encoding (V.ref a250) (V.ref a253) (V.ref a39))), (a250, HO.dK v251), (a253, HO.lst v254), (a39, HO.ins T.a_Gates dx40 (fl_Gates (V.ref a81) (V.ref a84))), (a81, HO.lst v82), (a84, HO.dT v85), (a229, HO.lst (v206 ++ [V.int y262])), (a5, HO.lst v329), (a160, HO.lst v206), (a139, HO.lst [V.int 1, V.int 2, V.int 4, V.int 900001]), (a114, HO.lst v108), (a95, HO.lst []), (a89, HO.lst v90), (a66, HO.lst v87)] ++ R) _ := S363
                refine hN357 _ _ ?_
                refine seqI fun N368 hN369 => ?_
                have S370 : Sta F360 ([(a5, HO.lst v329), (a364, HO.lst v365), (a294, HO.dK v327), (a278, HO.dK v279), (a235, HO.ins T.a_Encoding dx236 (fl_Encoding (V.ref a250) (V.ref a253) (V.ref a39))), (a250, HO.dK v251), (a253, HO.lst v254), (a39, HO.ins T.a_Gates dx40 (fl_Gates (V.ref a81) (V.ref a84))), (a81, HO.lst v82), (a84, HO.dT v85), (a229, HO.lst (v206 ++ [V.int y262])), (a160, HO.lst v206), (a139, HO.lst [V.int 1, V.int 2, V.int 4, V.int 900001]), (a114, HO.lst v108), (a95, HO.lst []), (a89, HO.lst v90), (a66, HO.lst v87)] ++ R) _ := S367.pick [10, 0, 1, 2, 3, 4, 5, 6, 7, 8, 9, 11, 12, 13, 14, 15, 16] (by decide) rfl
                revert hm; refine bndI fun y371 e372 hm => ?_
                refine ⟨_, rfl, _, _, _, _, _, rfl, (S367.get 3 rfl), T.cl_Encoding, T.n_Encoding_clauses, fl_Encoding_clauses, _, rfl, _, rfl, _, rfl, _, rfl, _, rfl, F360, ([(a364, HO.lst v365), (a294, HO.dK v327), (a278, HO.dK v279), (a235, HO.ins T.a_Encoding dx236 (fl_Encoding (V.ref a250) (V.ref a253) (V.ref a39))), (a250, HO.dK v251), (a253, HO.lst v254), (a39, HO.ins T.a_Gates dx40 (fl_Gates (V.ref a81) (V.ref a84))), (a81, HO.lst v82), (a84, HO.dT v85), (a229, HO.lst (v206 ++ [V.int y262])), (a160, HO.lst v206), (a139, HO.lst [V.int 1, V.int 2, V.int 4, V.int 900001]), (a114, HO.lst v108), (a95, HO.lst []), (a89, HO.lst v90), (a66, HO.lst v87)] ++ R), a_script0, v_script0, x_script0, a5, v329, st2.2, (60 : Int), _, rfl, (SqL.mono hs_script0 (s15.trans (s21.trans (s45.trans (s49.trans (s63.trans (s77.trans (s110.trans (s148.trans (s174.trans (s201.trans (s241.trans (s248.trans (s276.trans (s288.trans (s324.trans s362)))))))))))))))), ((hl_script0.mono (s15.trans (s21.trans (s45.trans (s49.trans (s63.trans (s77.trans (s110.trans (s148.trans (s174.trans (s201.trans (s241.trans (s248.trans (s276.trans (s288.trans (s324.trans s362))))))))))))))))), (hl330.mono s362), S370, e372, fun F373 H374 v377 s375 S376 hl378 => ?_⟩
                clear S363 S367
                have S379 : Sta F373 ([(a5, HO.lst v377), (a364, HO.lst v365), (a294, HO.dK v327), (a278, HO.dK v279), (a235, HO.ins T.a_Encoding dx236 (fl_Encoding (V.ref a250) (V.ref a253) (V.ref a39))), (a250, HO.dK v251), (a253, HO.lst v254), (a39, HO.ins T.a_Gates dx40 (fl_Gates (V.ref a81) (V.ref a84))), (a81, HO.lst v82), (a84, HO.dT v85), (a229, HO.lst (v206 ++ [V.int y262])), (a160, HO.lst v206), (a139, HO.lst [V.int 1, V.int 2, V.int 4, V.int 900001]), (a114, HO.lst v108), (a95, HO.lst []), (a89, HO.lst v90), (a66, HO.lst v87)] ++ R) _ := S376
                have S380 : Sta F373 ([(a278, HO.dK v279), (a5, HO.lst v377), (a364, HO.lst v365), (a294, HO.dK v327), (a235, HO.ins T.a_Encoding dx236 (fl_Encoding (V.ref a250) (V.ref a253) (V.ref a39))), (a250, HO.dK v251), (a253, HO.lst v254), (a39, HO.ins T.a_Gates dx40 (fl_Gates (V.ref a81) (V.ref a84))), (a81, HO.lst v82), (a84, HO.dT v85), (a229, HO.lst (v206 ++ [V.int y262])), (a160, HO.lst v206), (a139, HO.lst [V.int 1, V.int 2, V.int 4, V.int 900001]), (a114, HO.lst v108), (a95, HO.lst []), (a89, HO.lst v90), (a66, HO.lst v87)] ++ R) _ := S379.pick [3, 0, 1, 2, 4, 5, 6, 7, 8, 9, 10, 11, 12, 13, 14, 15, 16] (by decide) rfl
                revert hm; refine bndI fun y381 e382 hm => ?_
                refine ⟨F373, ([(a5, HO.lst v377), (a364, HO.lst v365), (a294, HO.dK v327), (a235, HO.ins T.a_Encoding dx236 (fl_Encoding (V.ref a250) (V.ref a253) (V.ref a39))), (a250, HO.dK v251), (a253, HO.lst v254), (a39, HO.ins T.a_Gates dx40 (fl_Gates (V.ref a81) (V.ref a84))), (a81, HO.lst v82), (a84, HO.dT v85), (a229, HO.lst (v206 ++ [V.int y262])), (a160, HO.lst v206), (a139, HO.lst [V.int 1, V.int 2, V.int 4, V.int 900001]), (a114, HO.lst v108), (a95, HO.lst []), (a89, HO.lst v90), (a66, HO.lst v87)] ++ R), a253, v254, y244.clauses, a278, v279, y272, a364, v365, y358, a294, v327, st2.1, y371.1, _, rfl, (SqL.of (S380.tl.getO 5 rfl)), (hl255.mono (s276.trans (s288.trans (s324.trans (s362.trans s375))))), (KR.mono hl280 (s288.trans (s324.trans (s362.trans s375)))), (SqL.of (S380.tl.getO 1 rfl)), (hl366.mono s375), (S380.tl.getO 2 rfl), (KR.mono hl328 (s362.trans s375)), S380, e382, fun F383 H384 s385 S386 => ?_⟩
                clear S376 S379
                have S387 : Sta F383 ([(a278, HO.dK v279), (a5, HO.lst v377), (a364, HO.lst v365), (a294, HO.dK v327), (a235, HO.ins T.a_Encoding dx236 (fl_Encoding (V.ref a250) (V.ref a253) (V.ref a39))), (a250, HO.dK v251), (a253, HO.lst v254), (a39, HO.ins T.a_Gates dx40 (fl_Gates (V.ref a81) (V.ref a84))), (a81, HO.lst v82), (a84, HO.dT v85), (a229, HO.lst (v206 ++ [V.int y262])), (a160, HO.lst v206), (a139, HO.lst [V.int 1, V.int 2, V.int 4, V.int 900001]), (a114, HO.lst v108), (a95, HO.lst []), (a89, HO.lst v90), (a66, HO.lst v87)] ++ R) _ := S386
                refine ⟨_, rfl, ?_⟩
                clear S386
                by_cases c388 : (!y381) = true
                · revert hm; refine ifTI c388 fun hm => ?_
                  cases hm
                · revert hm; refine ifFI c388 fun hm => ?_
                  refine goF c388 ?_
                  refine hN369 _ _ ?_
                  refine seqI fun N389 hN390 => ?_
                  refine ⟨_, rfl, _, rfl, _, rfl, _, rfl, _, _, rfl, .inl (SqL.of (S387.get 15 rfl)), ?_⟩
                  rw [LR.length (hl91.mono (s110.trans (s148.trans (s174.trans (s201.trans (s241.trans (s248.trans (s276.trans (s288.trans (s324.trans (s362.trans (s375.trans s385))))))))))))]
                  have S391 : Sta F383 ([(a5, HO.lst v377), (a278, HO.dK v279), (a364, HO.lst v365), (a294, HO.dK v327), (a235, HO.ins T.a_Encoding dx236 (fl_Encoding (V.ref a250) (V.ref a253) (V.ref a39))), (a250, HO.dK v251), (a253, HO.lst v254), (a39, HO.ins T.a_Gates dx40 (fl_Gates (V.ref a81) (V.ref a84))), (a81, HO.lst v82), (a84, HO.dT v85), (a229, HO.lst (v206 ++ [V.int y262])), (a160, HO.lst v206), (a139, HO.lst [V.int 1, V.int 2, V.int 4, V.int 900001]), (a114, HO.lst v108), (a95, HO.lst []), (a89, HO.lst v90), (a66, HO.lst v87)] ++ R) _ := S387.pick [1, 0, 2, 3, 4, 5, 6, 7, 8, 9, 10, 11, 12, 13, 14, 15, 16] (by decide) rfl
                  revert hm; refine bndI fun y392 e393 hm => ?_
                  refine ⟨F383, ([(a278, HO.dK v279), (a364, HO.lst v365), (a294, HO.dK v327), (a235, HO.ins T.a_Encoding dx236 (fl_Encoding (V.ref a250) (V.ref a253) (V.ref a39))), (a250, HO.dK v251), (a253, HO.lst v254), (a39, HO.ins T.a_Gates dx40 (fl_Gates (V.ref a81) (V.ref a84))), (a81, HO.lst v82), (a84, HO.dT v85), (a229, HO.lst (v206 ++ [V.int y262])), (a160, HO.lst v206), (a139, HO.lst [V.int 1, V.int 2, V.int 4, V.int 900001]), (a114, HO.lst v108), (a95, HO.lst []), (a89, HO.lst v90), (a66, HO.lst v87)] ++ R), a_script0, v_script0, x_script0, a5, v377, y371.2, (y73.1.length : Int), _, rfl, (SqL.mono hs_script0 (s15.trans (s21.trans (s45.trans (s49.trans (s63.trans (s77.trans (s110.trans (s148.trans (s174.trans (s201.trans (s241.trans (s248.trans (s276.trans (s288.trans (s324.trans (s362.trans (s375.trans s385)))))))))))))))))), ((hl_script0.mono (s15.trans (s21.trans (s45.trans (s49.trans (s63.trans (s77.trans (s110.trans (s148.trans (s174.trans (s201.trans (s241.trans (s248.trans (s276.trans (s288.trans (s324.trans (s362.trans (s375.trans s385))))))))))))))))))), (hl378.mono s385), S391, e393, fun F394 H395 v398 s396 S397 hl399 => ?_⟩
                  clear S387
                  have S400 : Sta F394 ([(a5, HO.lst v398), (a278, HO.dK v279), (a364, HO.lst v365), (a294, HO.dK v327), (a235, HO.ins T.a_Encoding dx236 (fl_Encoding (V.ref a250) (V.ref a253) (V.ref a39))), (a250, HO.dK v251), (a253, HO.lst v254), (a39, HO.ins T.a_Gates dx40 (fl_Gates (V.ref a81) (V.ref a84))), (a81, HO.lst v82), (a84, HO.dT v85), (a229, HO.lst (v206 ++ [V.int y262])), (a160, HO.lst v206), (a139, HO.lst [V.int 1, V.int 2, V.int 4, V.int 900001]), (a114, HO.lst v108), (a95, HO.lst []), (a89, HO.lst v90), (a66, HO.lst v87)] ++ R) _ := S397
                  revert hm; refine bndI fun y401 e402 hm => ?_
                  obtain ⟨v403, ev404, rv405⟩ := LR.atI hl91 e402
                  obtain rfl := rInt_e rv405
                  refine ⟨_, _, _, _, rfl, rfl, (SqL.of (S400.get 15 rfl)), ev404, ?_⟩
                  clear S397
                  refine hN390 _ _ ?_
                  refine seqI fun N406 hN407 => ?_
                  refine ⟨_, rfl, _, rfl, _, _, rfl, .inl (SqL.of (S400.get 15 rfl)), ?_⟩
                  rw [LR.length (hl91.mono (s110.trans (s148.trans (s174.trans (s201.trans (s241.trans (s248.trans (s276.trans (s288.trans (s324.trans (s362.trans (s375.trans (s385.trans s396)))))))))))))]
                  revert hm; refine bndI fun y411 e412 hm => ?_
                  obtain ⟨v413, ev414, rv415⟩ := LR.atI hl91 e412
                  obtain rfl := rInt_e rv415
                  refine ⟨_, _, rfl, rfl, _, _, _, _, rfl, rfl, (SqL.of (S400.get 15 rfl)), ev414, _, rfl, (by show 4 ≤ sizeLine; decide), ?_⟩
                  intro a416 np417
                  have hl418 : LR (rInt F394) [V.int 0, V.int 1, V.int y411, V.int y401] ([(0 : Int), (1 : Int), y411, y401] : (List Int)) := ⟨rfl, rfl, rfl, rfl, trivial⟩
                  have S419 : Sta F394 ([(a416, HO.lst [V.int 0, V.int 1, V.int y411, V.int y401]), (a5, HO.lst v398), (a278, HO.dK v279), (a364, HO.lst v365), (a294, HO.dK v327), (a235, HO.ins T.a_Encoding dx236 (fl_Encoding (V.ref a250) (V.ref a253) (V.ref a39))), (a250, HO.dK v251), (a253, HO.lst v254), (a39, HO.ins T.a_Gates dx40 (fl_Gates (V.ref a81) (V.ref a84))), (a81, HO.lst v82), (a84, HO.dT v85), (a229, HO.lst (v206 ++ [V.int y262])), (a160, HO.lst v206), (a139, HO.lst [V.int 1, V.int 2, V.int 4, V.int 900001]), (a114, HO.lst v108), (a95, HO.lst []), (a89, HO.lst v90), (a66, HO.lst v87)] ++ R) _ := S400.new np417 _
                  revert hm; refine bndI fun y408 e409 hm410 => ?_
                  refine ⟨_, rfl, ⟨_, (SqL.of (S419.get 0 rfl))⟩, for_list (K := K) (a := a416) (xs := [V.int 0, V.int 1, V.int y411, V.int y401]) (fun i σ H2 => ∃ (st3 : Unit) (F438 : Hp) (o441 : Option V) (o442 : Option V) (o443 : Option V), σ = [some (V.ref a_script0), some (V.ref a5), some (V.int y25.1), some (V.ref a39), some (V.ref a66), some (V.ref a89), o326, some (V.int ((maxL y133) + y153)), some (V.ref a160), o203, some (V.ref a229), some (V.ref a235), some (V.ref a278), some (V.ref a294), some (V.ref a364), some (V.int y401), o441, o442, o443] ∧ Same F394 F438 ∧ Sta F438 ([(a416, HO.lst [V.int 0, V.int 1, V.int y411, V.int y401]), (a5, HO.lst v398), (a278, HO.dK v279), (a364, HO.lst v365), (a294, HO.dK v327), (a235, HO.ins T.a_Encoding dx236 (fl_Encoding (V.ref a250) (V.ref a253) (V.ref a39))), (a250, HO.dK v251), (a253, HO.lst v254), (a39, HO.ins T.a_Gates dx40 (fl_Gates (V.ref a81) (V.ref a84))), (a81, HO.lst v82), (a84, HO.dT v85), (a229, HO.lst (v206 ++ [V.int y262])), (a160, HO.lst v206), (a139, HO.lst [V.int 1, V.int 2, V.int 4, V.int 900001]), (a114, HO.lst v108), (a95, HO.lst []), (a89, HO.lst v90), (a66, HO.lst v87)] ++ R) H2 ∧ m_law_l3 y73 y133 y153 st2 y358 (List.drop i ([(0 : Int), (1 : Int), y411, y401] : (List Int))) st3 = some y408) ⟨(), F394, _, _, _, rfl, (Same.refl _), S419, e409⟩ (by rintro i σ H2 _ ⟨st3, F438, o441, o442, o443, rfl, s439, S440, _⟩; exact (SqL.of (S440.get 0 rfl))) ?_ ?_⟩
                  clear S400
                  · rintro i v445 σ H2 hi ⟨st3, F438, o441, o442, o443, rfl, s439, S440, hm⟩
                    obtain ⟨x444, hx446, rx447⟩ := LR.getV hl418 hi
                    rw [drop_cons hx446, m_law_l3] at hm
                    obtain rfl := rInt_e rx447
                    refine seqI fun N448 hN449 => ?_
                    have S450 : Sta F438 ([(a39, HO.ins T.a_Gates dx40 (fl_Gates (V.ref a81) (V.ref a84))), (a81, HO.lst v82), (a84, HO.dT v85), (a416, HO.lst [V.int 0, V.int 1, V.int y411, V.int y401]), (a5, HO.lst v398), (a278, HO.dK v279), (a364, HO.lst v365), (a294, HO.dK v327), (a235, HO.ins T.a_Encoding dx236 (fl_Encoding (V.ref a250) (V.ref a253) (V.ref a39))), (a250, HO.dK v251), (a253, HO.lst v254), (a229, HO.lst (v206 ++ [V.int y262])), (a160, HO.lst v206), (a139, HO.lst [V.int 1, V.int 2, V.int 4, V.int 900001]), (a114, HO.lst v108), (a95, HO.lst []), (a89, HO.lst v90), (a66, HO.lst v87)] ++ R) _ := S440.pick [8, 9, 10, 0, 1, 2, 3, 4, 5, 6, 7, 11, 12, 13, 14, 15, 16, 17] (by decide) rfl
                    revert hm; refine bndI fun y451 e452 hm => ?_
                    refine ⟨_, rfl, _, rfl, _, rfl, F438, ([(a416, HO.lst [V.int 0, V.int 1, V.int y411, V.int y401]), (a5, HO.lst v398), (a278, HO.dK v279), (a364, HO.lst v365), (a294, HO.dK v327), (a235, HO.ins T.a_Encoding dx236 (fl_Encoding (V.ref a250) (V.ref a253) (V.ref a39))), (a250, HO.dK v251), (a253, HO.lst v254), (a229, HO.lst (v206 ++ [V.int y262])), (a160, HO.lst v206), (a139, HO.lst [V.int 1, V.int 2, V.int 4, V.int 900001]), (a114, HO.lst v108), (a95, HO.lst []), (a89, HO.lst v90), (a66, HO.lst v87)] ++ R), a39, dx40, (M_Gates.mk y73.2.2.1.rows y73.2.2.1.known), a81, v82, a84, v85, x444, ((maxL y133) + y153), _, rfl, (hl83.mono (s110.trans (s148.trans (s174.trans (s201.trans (s241.trans (s248.trans (s276.trans (s288.trans (s324.trans (s362.trans (s375.trans (s385.trans (s396.trans s439)))))))))))))), (KR.mono hl86 (s110.trans (s148.trans (s174.trans (s201.trans (s241.trans (s248.trans (s276.trans (s288.trans (s324.trans (s362.trans (s375.trans (s385.trans (s396.trans s439)))))))))))))), S450, e452, fun F453 H454 a457 v458 s455 S456 hl459 => ?_⟩
                    clear S440
                    have S460 : Sta F453 ([(a457, HO.lst v458), (a39, HO.ins T.a_Gates dx40 (fl_Gates (V.ref a81) (V.ref a84))), (a81, HO.lst v82), (a84, HO.dT v85), (a416, HO.lst [V.int 0, V.int 1, V.int y411, V.int y401]), (a5, HO.lst v398), (a278, HO.dK v279), (a364, HO.lst v365), (a294, HO.dK v327), (a235, HO.ins T.a_Encoding dx236 (fl_Encoding (V.ref a250) (V.ref a253) (V.ref a39))), (a250, HO.dK v251), (a253, HO.lst v254), (a229, HO.lst (v206 ++ [V.int y262])), (a160, HO.lst v206), (a139, HO.lst [V.int 1, V.int 2, V.int 4, V.int 900001]), (a114, HO.lst v108), (a95, HO.lst []), (a89, HO.lst v90), (a66, HO.lst v87)] ++ R) _ := S456
                    refine hN449 _ _ ?_
                    refine seqI fun N461 hN462 => ?_
                    revert hm; refine bndI fun y463 e464 hm => ?_
                    refine ⟨_, rfl, _, rfl, _, rfl, _, rfl, F453, ([(a457, HO.lst v458), (a39, HO.ins T.a_Gates dx40 (fl_Gates (V.ref a81) (V.ref a84))), (a81, HO.lst v82), (a84, HO.dT v85), (a416, HO.lst [V.int 0, V.int 1, V.int y411, V.int y401]), (a5, HO.lst v398), (a278, HO.dK v279), (a364, HO.lst v365), (a294, HO.dK v327), (a235, HO.ins T.a_Encoding dx236 (fl_Encoding (V.ref a250) (V.ref a253) (V.ref a39))), (a250, HO.dK v251), (a253, HO.lst v254), (a229, HO.lst (v206 ++ [V.int y262])), (a160, HO.lst v206), (a139, HO.lst [V.int 1, V.int 2, V.int 4, V.int 900001]), (a114, HO.lst v108), (a95, HO.lst []), (a89, HO.lst v90), (a66, HO.lst v87)] ++ R), a66, v87, y73.2.2.2, x444, ((maxL y133) + y153), _, rfl, (SqL.of (S460.getO 18 rfl)), (hl88.mono (s110.trans (s148.trans (s174.trans (s201.trans (s241.trans (s248.trans (s276.trans (s288.trans (s324.trans (s362.trans (s375.trans (s385.trans (s396.trans (s439.trans s455))))))))))))))), S460, e464, fun F465 H466 a469 v470 s467 S468 hl471 => ?_⟩
                    clear S456
                    have S472 : Sta F465 ([(a469, HO.lst v470), (a457, HO.lst v458), (a39, HO.ins T.a_Gates dx40 (fl_Gates (V.ref a81) (V.ref a84))), (a81, HO.lst v82), (a84, HO.dT v85), (a416, HO.lst [V.int 0, V.int 1, V.int y411, V.int y401]), (a5, HO.lst v398), (a278, HO.dK v279), (a364, HO.lst v365), (a294, HO.dK v327), (a235, HO.ins T.a_Encoding dx236 (fl_Encoding (V.ref a250) (V.ref a253) (V.ref a39))), (a250, HO.dK v251), (a253, HO.lst v254), (a229, HO.lst (v206 ++ [V.int y262])), (a160, HO.lst v206), (a139, HO.lst [V.int 1, V.int 2, V.int 4, V.int 900001]), (a114, HO.lst v108), (a95, HO.lst []), (a89, HO.lst v90), (a66, HO.lst v87)] ++ R) _ := S468
                    revert hm; refine bndI fun y473 e474 hm => ?_
                    refine ⟨F465, ([(a469, HO.lst v470), (a457, HO.lst v458), (a39, HO.ins T.a_Gates dx40 (fl_Gates (V.ref a81) (V.ref a84))), (a81, HO.lst v82), (a84, HO.dT v85), (a416, HO.lst [V.int 0, V.int 1, V.int y411, V.int y401]), (a5, HO.lst v398), (a278, HO.dK v279), (a364, HO.lst v365), (a294, HO.dK v327), (a235, HO.ins T.a_Encoding dx236 (fl_Encoding (V.ref a250) (V.ref a253) (V.ref a39))), (a250, HO.dK v251), (a253, HO.lst v254), (a229, HO.lst (v206 ++ [V.int y262])), (a160, HO.lst v206), (a139, HO.lst [V.int 1, V.int 2, V.int 4, V.int 900001]), (a114, HO.lst v108), (a95, HO.lst []), (a89, HO.lst v90), (a66, HO.lst v87)] ++ R), a457, v458, y451, a469, v470, y463, _, rfl, (SqL.of (S472.getO 1 rfl)), (hl459.mono s467), (SqL.of (S472.getO 0 rfl)), hl471, S472, e474, _, rfl, ?_⟩
                    clear S468
                    by_cases c475 : (!y473) = true
                    · revert hm; refine ifTI c475 fun hm => ?_
                      cases hm
                    · revert hm; refine ifFI c475 fun hm => ?_
                      refine goF c475 ?_
                      refine hN462 _ _ ?_
                      refine seqI fun N476 hN477 => ?_
                      refine ⟨_, rfl, _, rfl, _, rfl, (by show 1 ≤ sizeLine; decide), ?_⟩
                      intro a478 np479
                      have hl480 : LR (rInt F465) [V.int x444] ([x444] : (List Int)) := ⟨rfl, trivial⟩
                      have S481 : Sta F465 ([(a478, HO.lst [V.int x444]), (a469, HO.lst v470), (a457, HO.lst v458), (a39, HO.ins T.a_Gates dx40 (fl_Gates (V.ref a81) (V.ref a84))), (a81, HO.lst v82), (a84, HO.dT v85), (a416, HO.lst [V.int 0, V.int 1, V.int y411, V.int y401]), (a5, HO.lst v398), (a278, HO.dK v279), (a364, HO.lst v365), (a294, HO.dK v327), (a235, HO.ins T.a_Encoding dx236 (fl_Encoding (V.ref a250) (V.ref a253) (V.ref a39))), (a250, HO.dK v251), (a253, HO.lst v254), (a229, HO.lst (v206 ++ [V.int y262])), (a160, HO.lst v206), (a139, HO.lst [V.int 1, V.int 2, V.int 4, V.int 900001]), (a114, HO.lst v108), (a95, HO.lst []), (a89, HO.lst v90), (a66, HO.lst v87)] ++ R) _ := S472.new np479 _
                      revert hm; refine bndI fun y482 e483 hm => ?_
                      refine ⟨_, rfl, F465, ([(a478, HO.lst [V.int x444]), (a469, HO.lst v470), (a457, HO.lst v458), (a39, HO.ins T.a_Gates dx40 (fl_Gates (V.ref a81) (V.ref a84))), (a81, HO.lst v82), (a84, HO.dT v85), (a416, HO.lst [V.int 0, V.int 1, V.int y411, V.int y401]), (a5, HO.lst v398), (a278, HO.dK v279), (a364, HO.lst v365), (a294, HO.dK v327), (a235, HO.ins T.a_Encoding dx236 (fl_Encoding (V.ref a250) (V.ref a253) (V.ref a39))), (a250, HO.dK v251), (a253, HO.lst v254), (a229, HO.lst (v206 ++ [V.int y262])), (a160, HO.lst v206), (a139, HO.lst [V.int 1, V.int 2, V.int 4, V.int 900001]), (a114, HO.lst v108), (a95, HO.lst []), (a89, HO.lst v90), (a66, HO.lst v87)] ++ R), a66, v87, y73.2.2.2, a478, [V.int x444], ([x444] : (List Int)), ((maxL y133) + y153), _, rfl, (SqL.of (S481.getO 20 rfl)), (hl88.mono (s110.trans (s148.trans (s174.trans (s201.trans (s241.trans (s248.trans (s276.trans (s288.trans (s324.trans (s362.trans (s375.trans (s385.trans (s396.trans (s439.trans (s455.trans s467)))))))))))))))), (SqL.of (S481.getO 0 rfl)), hl480, S481, e483, fun F484 H485 a488 v489 s486 S487 hl490 => ?_⟩
                      clear S472
                      have S491 : Sta F484 ([(a488, HO.dK v489), (a478, HO.lst [V.int x444]), (a469, HO.lst v470), (a457, HO.lst v458), (a39, HO.ins T.a_Gates dx40 (fl_Gates (V.ref a81) (V.ref a84))), (a81, HO.lst v82), (a84, HO.dT v85), (a416, HO.lst [V.int 0, V.int 1, V.int y411, V.int y401]), (a5, HO.lst v398), (a278, HO.dK v279), (a364, HO.lst v365), (a294, HO.dK v327), (a235, HO.ins T.a_Encoding dx236 (fl_Encoding (V.ref a250) (V.ref a253) (V.ref a39))), (a250, HO.dK v251), (a253, HO.lst v254), (a229, HO.lst (v206 ++ [V.int y262])), (a160, HO.lst v206), (a139, HO.lst [V.int 1, V.int 2, V.int 4, V.int 900001]), (a114, HO.lst v108), (a95, HO.lst []), (a89, HO.lst v90), (a66, HO.lst v87)] ++ R) _ := S487
                      revert hm; refine bndI fun y492 e493 hm => ?_
                      refine ⟨_, rfl, F484, ([(a478, HO.lst [V.int x444]), (a469, HO.lst v470), (a457, HO.lst v458), (a39, HO.ins T.a_Gates dx40 (fl_Gates (V.ref a81) (V.ref a84))), (a81, HO.lst v82), (a84, HO.dT v85), (a416, HO.lst [V.int 0, V.int 1, V.int y411, V.int y401]), (a5, HO.lst v398), (a278, HO.dK v279), (a364, HO.lst v365), (a294, HO.dK v327), (a235, HO.ins T.a_Encoding dx236 (fl_Encoding (V.ref a250) (V.ref a253) (V.ref a39))), (a250, HO.dK v251), (a253, HO.lst v254), (a229, HO.lst (v206 ++ [V.int y262])), (a160, HO.lst v206), (a139, HO.lst [V.int 1, V.int 2, V.int 4, V.int 900001]), (a114, HO.lst v108), (a95, HO.lst []), (a89, HO.lst v90), (a66, HO.lst v87)] ++ R), a364, v365, y358, a488, v489, y482, a294, v327, st2.1, _, rfl, (SqL.of (S491.tl.getO 9 rfl)), (hl366.mono (s375.trans (s385.trans (s396.trans (s439.trans (s455.trans (s467.trans s486))))))), hl490, (S491.tl.getO 10 rfl), (KR.mono hl328 (s362.trans (s375.trans (s385.trans (s396.trans (s439.trans (s455.trans (s467.trans s486)))))))), S491, e493, fun F494 H495 a498 v499 s496 S497 hl500 => ?_⟩
                      clear S487
                      have S501 : Sta F494 ([(a498, HO.dK v499), (a488, HO.dK v489), (a478, HO.lst [V.int x444]), (a469, HO.lst v470), (a457, HO.lst v458), (a39, HO.ins T.a_Gates dx40 (fl_Gates (V.ref a81) (V.ref a84))), (a81, HO.lst v82), (a84, HO.dT v85), (a416, HO.lst [V.int 0, V.int 1, V.int y411, V.int y401]), (a5, HO.lst v398), (a278, HO.dK v279), (a364, HO.lst v365), (a294, HO.dK v327), (a235, HO.ins T.a_Encoding dx236 (fl_Encoding (V.ref a250) (V.ref a253) (V.ref a39))), (a250, HO.dK v251), (a253, HO.lst v254), (a229, HO.lst (v206 ++ [V.int y262])), (a160, HO.lst v206), (a139, HO.lst [V.int 1, V.int 2, V.int 4, V.int 900001]), (a114, HO.lst v108), (a95, HO.lst []), (a89, HO.lst v90), (a66, HO.lst v87)] ++ R) _ := S497
                      refine hN477 _ _ ?_
                      revert hm; refine bndI fun y502 e503 hm => ?_
                      refine ⟨_, rfl, _, rfl, F494, ([(a498, HO.dK v499), (a488, HO.dK v489), (a478, HO.lst [V.int x444]), (a469, HO.lst v470), (a457, HO.lst v458), (a39, HO.ins T.a_Gates dx40 (fl_Gates (V.ref a81) (V.ref a84))), (a81, HO.lst v82), (a84, HO.dT v85), (a416, HO.lst [V.int 0, V.int 1, V.int y411, V.int y401]), (a5, HO.lst v398), (a278, HO.dK v279), (a364, HO.lst v365), (a294, HO.dK v327), (a235, HO.ins T.a_Encoding dx236 (fl_Encoding (V.ref a250) (V.ref a253) (V.ref a39))), (a250, HO.dK v251), (a253, HO.lst v254), (a229, HO.lst (v206 ++ [V.int y262])), (a160, HO.lst v206), (a139, HO.lst [V.int 1, V.int 2, V.int 4, V.int 900001]), (a114, HO.lst v108), (a95, HO.lst []), (a89, HO.lst v90), (a66, HO.lst v87)] ++ R), a457, v458, y451, a498, v499, y492, _, rfl, (SqL.of (S501.getO 4 rfl)), (hl459.mono (s467.trans (s486.trans s496))), (S501.getO 0 rfl), hl500, S501, e503, fun F504 H505 s506 S507 => ?_⟩
                      clear S497
                      have S508 : Sta F504 ([(a498, HO.dK v499), (a488, HO.dK v489), (a478, HO.lst [V.int x444]), (a469, HO.lst v470), (a457, HO.lst v458), (a39, HO.ins T.a_Gates dx40 (fl_Gates (V.ref a81) (V.ref a84))), (a81, HO.lst v82), (a84, HO.dT v85), (a416, HO.lst [V.int 0, V.int 1, V.int y411, V.int y401]), (a5, HO.lst v398), (a278, HO.dK v279), (a364, HO.lst v365), (a294, HO.dK v327), (a235, HO.ins T.a_Encoding dx236 (fl_Encoding (V.ref a250) (V.ref a253) (V.ref a39))), (a250, HO.dK v251), (a253, HO.lst v254), (a229, HO.lst (v206 ++ [V.int y262])), (a160, HO.lst v206), (a139, HO.lst [V.int 1, V.int 2, V.int 4, V.int 900001]), (a114, HO.lst v108), (a95, HO.lst []), (a89, HO.lst v90), (a66, HO.lst v87)] ++ R) _ := S507
                      revert hm; refine bndI fun y509 e510 hm => ?_
                      refine ⟨_, rfl, _, rfl, F504, ([(a498, HO.dK v499), (a488, HO.dK v489), (a478, HO.lst [V.int x444]), (a469, HO.lst v470), (a457, HO.lst v458), (a39, HO.ins T.a_Gates dx40 (fl_Gates (V.ref a81) (V.ref a84))), (a81, HO.lst v82), (a84, HO.dT v85), (a416, HO.lst [V.int 0, V.int 1, V.int y411, V.int y401]), (a5, HO.lst v398), (a278, HO.dK v279), (a364, HO.lst v365), (a294, HO.dK v327), (a235, HO.ins T.a_Encoding dx236 (fl_Encoding (V.ref a250) (V.ref a253) (V.ref a39))), (a250, HO.dK v251), (a253, HO.lst v254), (a229, HO.lst (v206 ++ [V.int y262])), (a160, HO.lst v206), (a139, HO.lst [V.int 1, V.int 2, V.int 4, V.int 900001]), (a114, HO.lst v108), (a95, HO.lst []), (a89, HO.lst v90), (a66, HO.lst v87)] ++ R), a364, v365, y358, x444, _, rfl, (SqL.of (S508.getO 11 rfl)), (hl366.mono (s375.trans (s385.trans (s396.trans (s439.trans (s455.trans (s467.trans (s486.trans (s496.trans s506))))))))), S508, e510, _, _, rfl, rfl, _, rfl, ?_⟩
                      clear S507
                      by_cases c511 : (!decide (y502 = y509)) = true
                      · revert hm; refine ifTI c511 fun hm => ?_
                        cases hm
                      · revert hm; refine ifFI c511 fun hm => ?_
                        refine goF c511 ?_
                        have S512 : Sta F504 ([(a416, HO.lst [V.int 0, V.int 1, V.int y411, V.int y401]), (a5, HO.lst v398), (a278, HO.dK v279), (a364, HO.lst v365), (a294, HO.dK v327), (a235, HO.ins T.a_Encoding dx236 (fl_Encoding (V.ref a250) (V.ref a253) (V.ref a39))), (a250, HO.dK v251), (a253, HO.lst v254), (a39, HO.ins T.a_Gates dx40 (fl_Gates (V.ref a81) (V.ref a84))), (a81, HO.lst v82), (a84, HO.dT v85), (a229, HO.lst (v206 ++ [V.int y262])), (a160, HO.lst v206), (a139, HO.lst [V.int 1, V.int 2, V.int 4, V.int 900001]), (a114, HO.lst v108), (a95, HO.lst []), (a89, HO.lst v90), (a66, HO.lst v87)] ++ R) _ := S508.pick [8, 9, 10, 11, 12, 13, 14, 15, 5, 6, 7, 16, 17, 18, 19, 20, 21, 22] (by decide) rfl
                        exact ⟨(), F504, _, _, _, rfl, (s439.trans (s455.trans (s467.trans (s486.trans (s496.trans s506))))), S512, hm⟩
                  · rintro σ H2 ⟨st3, F438, o441, o442, o443, rfl, s439, S440, hm⟩
                    rw [LR.dropEnd hl418, m_law_l3] at hm
                    obtain rfl := Option.some.inj hm
                    have hm := hm410
                    refine hN407 _ _ ?_
                    revert hm; refine bndI fun b513 e514 hm => ?_
                    refine ⟨fun b H' => ∃ (F515 : Hp), Same F438 F515 ∧ Sta F515 ([(a416, HO.lst [V.int 0, V.int 1, V.int y411, V.int y401]), (a5, HO.lst v398), (a278, HO.dK v279), (a364, HO.lst v365), (a294, HO.dK v327), (a235, HO.ins T.a_Encoding dx236 (fl_Encoding (V.ref a250) (V.ref a253) (V.ref a39))), (a250, HO.dK v251), (a253, HO.lst v254), (a39, HO.ins T.a_Gates dx40 (fl_Gates (V.ref a81) (V.ref a84))), (a81, HO.lst v82), (a84, HO.dT v85), (a229, HO.lst (v206 ++ [V.int y262])), (a160, HO.lst v206), (a139, HO.lst [V.int 1, V.int 2, V.int 4, V.int 900001]), (a114, HO.lst v108), (a95, HO.lst []), (a89, HO.lst v90), (a66, HO.lst v87)] ++ R) H' ∧ V.bl b513 = b, ?_, ?_⟩
                    · clear hm
                      have hm := e514
                      clear e514
                      revert hm; refine grdI fun g518 hm => ?_
                      revert hm; refine grdI fun g519 hm => ?_
                      refine ⟨_, rfl, _, _, _, _, _, rfl, (S440.get 8 rfl), T.cl_Gates, T.n_Gates_rows, fl_Gates_rows, _, rfl, _, _, (dat_dp (K := K) (r := (rLst K rKT)) ⟨_, _, rfl, (SqL.of (S440.get 9 rfl)), LR.mono (hl83.mono (s110.trans (s148.trans (s174.trans (s201.trans (s241.trans (s248.trans (s276.trans (s288.trans (s324.trans (s362.trans (s375.trans (s385.trans (s396.trans s439)))))))))))))) S440.sub⟩), (dat_dp (K := K) (r := (rLst K rKT)) ⟨_, _, rfl, (SqL.of (S440.get 17 rfl)), LR.mono (hl88.mono (s110.trans (s148.trans (s174.trans (s201.trans (s241.trans (s248.trans (s276.trans (s288.trans (s324.trans (s362.trans (s375.trans (s385.trans (s396.trans s439)))))))))))))) S440.sub⟩), (dat_shaped (K := K) (r := (rLst K rKT)) (Nat.le_of_ble_eq_true rfl) _ g518), (dat_shaped (K := K) (r := (rLst K rKT)) (Nat.le_of_ble_eq_true rfl) _ g519), ?_⟩
                      rw [dat_eqv (K := K) (r := (rLst K rKT)) y73.2.2.1.rows y73.2.2.2]
                      refine ⟨_, rfl, ?_⟩
                      by_cases c520 : (decide (y73.2.2.1.rows = y73.2.2.2)) = true
                      · revert hm; refine ifTI c520 fun hm => ?_
                        refine goT c520 ?_
                        have S521 : Sta F438 ([(a278, HO.dK v279), (a416, HO.lst [V.int 0, V.int 1, V.int y411, V.int y401]), (a5, HO.lst v398), (a364, HO.lst v365), (a294, HO.dK v327), (a235, HO.ins T.a_Encoding dx236 (fl_Encoding (V.ref a250) (V.ref a253) (V.ref a39))), (a250, HO.dK v251), (a253, HO.lst v254), (a39, HO.ins T.a_Gates dx40 (fl_Gates (V.ref a81) (V.ref a84))), (a81, HO.lst v82), (a84, HO.dT v85), (a229, HO.lst (v206 ++ [V.int y262])), (a160, HO.lst v206), (a139, HO.lst [V.int 1, V.int 2, V.int 4, V.int 900001]), (a114, HO.lst v108), (a95, HO.lst []), (a89, HO.lst v90), (a66, HO.lst v87)] ++ R) _ := S440.pick [2, 0, 1, 3, 4, 5, 6, 7, 8, 9, 10, 11, 12, 13, 14, 15, 16, 17] (by decide) rfl
                        revert hm; refine bndI fun y522 e523 hm => ?_
                        refine ⟨_, rfl, _, rfl, _, rfl, F438, ([(a416, HO.lst [V.int 0, V.int 1, V.int y411, V.int y401]), (a5, HO.lst v398), (a364, HO.lst v365), (a294, HO.dK v327), (a235, HO.ins T.a_Encoding dx236 (fl_Encoding (V.ref a250) (V.ref a253) (V.ref a39))), (a250, HO.dK v251), (a253, HO.lst v254), (a39, HO.ins T.a_Gates dx40 (fl_Gates (V.ref a81) (V.ref a84))), (a81, HO.lst v82), (a84, HO.dT v85), (a229, HO.lst (v206 ++ [V.int y262])), (a160, HO.lst v206), (a139, HO.lst [V.int 1, V.int 2, V.int 4, V.int 900001]), (a114, HO.lst v108), (a95, HO.lst []), (a89, HO.lst v90), (a66, HO.lst v87)] ++ R), a235, dx236, (M_Encoding.mk y244.letters y244.clauses (M_Gates.mk y73.2.2.1.rows y73.2.2.1.known)), a250, v251, a253, v254, a39, dx40, a81, v82, a84, v85, a66, v87, y73.2.2.2, a278, v279, y272, _, rfl, (S521.tl.getO 4 rfl), (S521.tl.getO 5 rfl), (KR.mono hl252 (s276.trans (s288.trans (s324.trans (s362.trans (s375.trans (s385.trans (s396.trans s439)))))))), (SqL.of (S521.tl.getO 6 rfl)), (hl255.mono (s276.trans (s288.trans (s324.trans (s362.trans (s375.trans (s385.trans (s396.trans s439)))))))), (S521.tl.getO 7 rfl), (SqL.of (S521.tl.getO 8 rfl)), (hl83.mono (s110.trans (s148.trans (s174.trans (s201.trans (s241.trans (s248.trans (s276.trans (s288.trans (s324.trans (s362.trans (s375.trans (s385.trans (s396.trans s439)))))))))))))), (S521.tl.getO 9 rfl), (KR.mono hl86 (s110.trans (s148.trans (s174.trans (s201.trans (s241.trans (s248.trans (s276.trans (s288.trans (s324.trans (s362.trans (s375.trans (s385.trans (s396.trans s439)))))))))))))), (SqL.of (S521.tl.getO 16 rfl)), (hl88.mono (s110.trans (s148.trans (s174.trans (s201.trans (s241.trans (s248.trans (s276.trans (s288.trans (s324.trans (s362.trans (s375.trans (s385.trans (s396.trans s439)))))))))))))), (KR.mono hl280 (s288.trans (s324.trans (s362.trans (s375.trans (s385.trans (s396.trans s439))))))), S521, e523, fun F524 H525 s526 S527 => ?_⟩
                        clear S440
                        have S528 : Sta F524 ([(a278, HO.dK v279), (a416, HO.lst [V.int 0, V.int 1, V.int y411, V.int y401]), (a5, HO.lst v398), (a364, HO.lst v365), (a294, HO.dK v327), (a235, HO.ins T.a_Encoding dx236 (fl_Encoding (V.ref a250) (V.ref a253) (V.ref a39))), (a250, HO.dK v251), (a253, HO.lst v254), (a39, HO.ins T.a_Gates dx40 (fl_Gates (V.ref a81) (V.ref a84))), (a81, HO.lst v82), (a84, HO.dT v85), (a229, HO.lst (v206 ++ [V.int y262])), (a160, HO.lst v206), (a139, HO.lst [V.int 1, V.int 2, V.int 4, V.int 900001]), (a114, HO.lst v108), (a95, HO.lst []), (a89, HO.lst v90), (a66, HO.lst v87)] ++ R) _ := S527
                        obtain rfl := Option.some.inj hm
                        have S529 : Sta F524 ([(a416, HO.lst [V.int 0, V.int 1, V.int y411, V.int y401]), (a5, HO.lst v398), (a278, HO.dK v279), (a364, HO.lst v365), (a294, HO.dK v327), (a235, HO.ins T.a_Encoding dx236 (fl_Encoding (V.ref a250) (V.ref a253) (V.ref a39))), (a250, HO.dK v251), (a253, HO.lst v254), (a39, HO.ins T.a_Gates dx40 (fl_Gates (V.ref a81) (V.ref a84))), (a81, HO.lst v82), (a84, HO.dT v85), (a229, HO.lst (v206 ++ [V.int y262])), (a160, HO.lst v206), (a139, HO.lst [V.int 1, V.int 2, V.int 4, V.int 900001]), (a114, HO.lst v108), (a95, HO.lst []), (a89, HO.lst v90), (a66, HO.lst v87)] ++ R) _ := S528.pick [1, 2, 0, 3, 4, 5, 6, 7, 8, 9, 10, 11, 12, 13, 14, 15, 16, 17] (by decide) rfl
                        exact ⟨F524, s526, S529, rfl⟩
                      · revert hm; refine ifFI c520 fun hm => ?_
                        obtain rfl := Option.some.inj hm
                        exact goF c520 ⟨F438, (Same.refl _), S440, rfl⟩
                    rintro b530 H531 ⟨F515, s516, S517, rfl⟩
                    obtain rfl := Option.some.inj hm
                    have S532 : Sta F515 ([] ++ R) _ := S517.pick [] (by decide) rfl
                    exact kk _ _ (s15.trans (s21.trans (s45.trans (s49.trans (s63.trans (s77.trans (s110.trans (s148.trans (s174.trans (s201.trans (s241.trans (s248.trans (s276.trans (s288.trans (s324.trans (s362.trans (s375.trans (s385.trans (s396.trans (s439.trans s516)))))))))))))))))))) S532

end
end G

namespace G
open PySem PySem.Spec PyProof.Rows L2
def spTop (K : PySem.W.Frag) : Sp := fun vs H Q _ => ∃ (a : Addr) (ns : List Int), vs = [V.ref a] ∧ SqL K H a (ns.map V.int) ∧ ns.length ≤ 63 ∧ ∀ H', Q (.bl true) H'
theorem top_of {P : Program} {w : World} {K : PySem.W.Frag} {mg : Str → Option Value} {base : Heap} (T : Txt K mg) : FnOk P w K mg base CX0 6 T.a_law T.d_law ["script"] (spTop K) :=
  (ok_law T).imp fun vs H Q E ⟨a, ns, e, hs, hl, k⟩ => by
    subst e
    refine ⟨H, [], a, ns.map V.int, ns, true, rfl, hs, lr_ints ns, sta0 H, law_true ns hl, ?_⟩
    first
      | exact k _
      | (intro F1 H1 _ _; exact k _)
theorem all_mk {l : PySem.W.OpenLaw} {w : World} {K : PySem.W.Frag} {h : Heap} {mg : Str → Option Value} {fa a_law a_law_seed a_law_take a_Gates_init a_law_letter a_law_row a_Gates_edge_of a_Gates_leaf a_law_opposite a_law_both a_opposite a_Gates_both a_law_build a_Gates_cone a_Gates_gate_rows a_Encoding_literal a_normal_clause a_Encoding_init a_law_reached a_law_letters a_law_is_literal a_law_literal a_law_same a_law_clauses a_law_is_encoding a_law_value a_law_truths a_law_full a_law_all_true a_law_means a_truth_clauses a_law_truth a_Gates a_Encoding : Addr} (X : K.In h) (G : h.Ns mainGlobals mg) (hfa : mg "law" = some (.ref fa))
    {od_law_seed an_law_seed od_law_take an_law_take od_Gates_init an_Gates_init od_law_letter an_law_letter od_law_row an_law_row od_Gates_edge_of an_Gates_edge_of od_Gates_leaf an_Gates_leaf od_law_opposite an_law_opposite od_law_both an_law_both od_opposite an_opposite od_Gates_both an_Gates_both od_law_build an_law_build od_Gates_cone an_Gates_cone od_Gates_gate_rows an_Gates_gate_rows od_Encoding_literal an_Encoding_literal od_normal_clause an_normal_clause od_Encoding_init an_Encoding_init od_law_reached an_law_reached od_law_letters an_law_letters od_law_is_literal an_law_is_literal od_law_literal an_law_literal od_law_same an_law_same od_law_clauses an_law_clauses od_law_is_encoding an_law_is_encoding od_law_value an_law_value od_law_truths an_law_truths od_law_full an_law_full od_law_all_true an_law_all_true od_law_means an_law_means od_truth_clauses an_truth_clauses od_law_truth an_law_truth od_law an_law : Option Addr} {sl_law_seed sl_law_take sl_Gates_init sl_law_letter sl_law_row sl_Gates_edge_of sl_Gates_leaf sl_law_opposite sl_law_both sl_opposite sl_Gates_both sl_law_build sl_Gates_cone sl_Gates_gate_rows sl_Encoding_literal sl_normal_clause sl_Encoding_init sl_law_reached sl_law_letters sl_law_is_literal sl_law_literal sl_law_same sl_law_clauses sl_law_is_encoding sl_law_value sl_law_truths sl_law_full sl_law_all_true sl_law_means sl_truth_clauses sl_law_truth sl_law : Array (Option Value)} {oc_law_seed kV_law_seed dc_law_seed pm_law_seed cd_law_seed ct_law_seed oc_law_take kV_law_take dc_law_take pm_law_take cd_law_take ct_law_take oc_Gates_init kV_Gates_init dc_Gates_init pm_Gates_init cd_Gates_init ct_Gates_init oc_law_letter kV_law_letter dc_law_letter pm_law_letter cd_law_letter ct_law_letter oc_law_row kV_law_row dc_law_row pm_law_row cd_law_row ct_law_row oc_Gates_edge_of kV_Gates_edge_of dc_Gates_edge_of pm_Gates_edge_of cd_Gates_edge_of ct_Gates_edge_of oc_Gates_leaf kV_Gates_leaf dc_Gates_leaf pm_Gates_leaf cd_Gates_leaf ct_Gates_leaf oc_law_opposite kV_law_opposite dc_law_opposite pm_law_opposite cd_law_opposite ct_law_opposite oc_law_both kV_law_both dc_law_both pm_law_both cd_law_both ct_law_both oc_opposite kV_opposite dc_opposite pm_opposite cd_opposite ct_opposite oc_Gates_both kV_Gates_both dc_Gates_both pm_Gates_both cd_Gates_both ct_Gates_both oc_law_build kV_law_build dc_law_build pm_law_build cd_law_build ct_law_build oc_Gates_cone kV_Gates_cone dc_Gates_cone pm_Gates_cone cd_Gates_cone ct_Gates_cone oc_Gates_gate_rows kV_Gates_gate_rows dc_Gates_gate_rows pm_Gates_gate_rows cd_Gates_gate_rows ct_Gates_gate_rows oc_Encoding_literal kV_Encoding_literal dc_Encoding_literal pm_Encoding_literal cd_Encoding_literal ct_Encoding_literal oc_normal_clause kV_normal_clause dc_normal_clause pm_normal_clause cd_normal_clause ct_normal_clause oc_Encoding_init kV_Encoding_init dc_Encoding_init pm_Encoding_init cd_Encoding_init ct_Encoding_init oc_law_reached kV_law_reached dc_law_reached pm_law_reached cd_law_reached ct_law_reached oc_law_letters kV_law_letters dc_law_letters pm_law_letters cd_law_letters ct_law_letters oc_law_is_literal kV_law_is_literal dc_law_is_literal pm_law_is_literal cd_law_is_literal ct_law_is_literal oc_law_literal kV_law_literal dc_law_literal pm_law_literal cd_law_literal ct_law_literal oc_law_same kV_law_same dc_law_same pm_law_same cd_law_same ct_law_same oc_law_clauses kV_law_clauses dc_law_clauses pm_law_clauses cd_law_clauses ct_law_clauses oc_law_is_encoding kV_law_is_encoding dc_law_is_encoding pm_law_is_encoding cd_law_is_encoding ct_law_is_encoding oc_law_value kV_law_value dc_law_value pm_law_value cd_law_value ct_law_value oc_law_truths kV_law_truths dc_law_truths pm_law_truths cd_law_truths ct_law_truths oc_law_full kV_law_full dc_law_full pm_law_full cd_law_full ct_law_full oc_law_all_true kV_law_all_true dc_law_all_true pm_law_all_true cd_law_all_true ct_law_all_true oc_law_means kV_law_means dc_law_means pm_law_means cd_law_means ct_law_means oc_truth_clauses kV_truth_clauses dc_truth_clauses pm_truth_clauses cd_truth_clauses ct_truth_clauses oc_law_truth kV_law_truth dc_law_truth pm_law_truth cd_law_truth ct_law_truth oc_law kV_law dc_law pm_law cd_law ct_law : Value} {t_NO t_YES : Tok}
    (qc_Gates : PySem.W.nsIn K mainGlobals "Gates" = some (some (.ref a_Gates)))
    (qc_Encoding : PySem.W.nsIn K mainGlobals "Encoding" = some (some (.ref a_Encoding)))
    (q_law_seed : PySem.W.nsIn K mainGlobals "_law_seed" = some (some (.ref a_law_seed)))
    (l_law_seed : K.lookup a_law_seed = some ⟨oc_law_seed, od_law_seed, .func (PySem.W.fnOf "_law_seed" "_law_seed" (defArgs s_law_seed) (defBody s_law_seed) (defScope s_law_seed) .none kV_law_seed dc_law_seed pm_law_seed an_law_seed cd_law_seed ct_law_seed), sl_law_seed⟩)
    (c_law_seed : PySem.W.codeIn K cd_law_seed "_law_seed" = true)
    (k_law_seed : PySem.W.keepIn K (.ref a_law_seed) = true)
    (q_law_take : PySem.W.nsIn K mainGlobals "_law_take" = some (some (.ref a_law_take)))
    (l_law_take : K.lookup a_law_take = some ⟨oc_law_take, od_law_take, .func (PySem.W.fnOf "_law_take" "_law_take" (defArgs s_law_take) (defBody s_law_take) (defScope s_law_take) .none kV_law_take dc_law_take pm_law_take an_law_take cd_law_take ct_law_take), sl_law_take⟩)
    (c_law_take : PySem.W.codeIn K cd_law_take "_law_take" = true)
    (k_law_take : PySem.W.keepIn K (.ref a_law_take) = true)
    (q_Gates_init : PySem.W.findIn K (.ref a_Gates) "__init__" = some (some (.ref a_Gates_init)))
    (i_Gates_init : PySem.W.isFn K (.ref a_Gates_init) = true)
    (l_Gates_init : K.lookup a_Gates_init = some ⟨oc_Gates_init, od_Gates_init, .func (PySem.W.fnOf "__init__" "Gates.__init__" (defArgs s_Gates_init) (defBody s_Gates_init) (defScope s_Gates_init) .none kV_Gates_init dc_Gates_init pm_Gates_init an_Gates_init cd_Gates_init ct_Gates_init), sl_Gates_init⟩)
    (c_Gates_init : PySem.W.codeIn K cd_Gates_init "Gates.__init__" = true)
    (k_Gates_init : PySem.W.keepIn K (.ref a_Gates_init) = true)
    (q_law_letter : PySem.W.nsIn K mainGlobals "_law_letter" = some (some (.ref a_law_letter)))
    (l_law_letter : K.lookup a_law_letter = some ⟨oc_law_letter, od_law_letter, .func (PySem.W.fnOf "_law_letter" "_law_letter" (defArgs s_law_letter) (defBody s_law_letter) (defScope s_law_letter) .none kV_law_letter dc_law_letter pm_law_letter an_law_letter cd_law_letter ct_law_letter), sl_law_letter⟩)
    (c_law_letter : PySem.W.codeIn K cd_law_letter "_law_letter" = true)
    (k_law_letter : PySem.W.keepIn K (.ref a_law_letter) = true)
    (q_law_row : PySem.W.nsIn K mainGlobals "_law_row" = some (some (.ref a_law_row)))
    (l_law_row : K.lookup a_law_row = some ⟨oc_law_row, od_law_row, .func (PySem.W.fnOf "_law_row" "_law_row" (defArgs s_law_row) (defBody s_law_row) (defScope s_law_row) .none kV_law_row dc_law_row pm_law_row an_law_row cd_law_row ct_law_row), sl_law_row⟩)
    (c_law_row : PySem.W.codeIn K cd_law_row "_law_row" = true)
    (k_law_row : PySem.W.keepIn K (.ref a_law_row) = true)
    (q_Gates_edge_of : PySem.W.findIn K (.ref a_Gates) "_edge_of" = some (some (.ref a_Gates_edge_of)))
    (i_Gates_edge_of : PySem.W.isFn K (.ref a_Gates_edge_of) = true)
    (l_Gates_edge_of : K.lookup a_Gates_edge_of = some ⟨oc_Gates_edge_of, od_Gates_edge_of, .func (PySem.W.fnOf "_edge_of" "Gates._edge_of" (defArgs s_Gates_edge_of) (defBody s_Gates_edge_of) (defScope s_Gates_edge_of) .none kV_Gates_edge_of dc_Gates_edge_of pm_Gates_edge_of an_Gates_edge_of cd_Gates_edge_of ct_Gates_edge_of), sl_Gates_edge_of⟩)
    (c_Gates_edge_of : PySem.W.codeIn K cd_Gates_edge_of "Gates._edge_of" = true)
    (k_Gates_edge_of : PySem.W.keepIn K (.ref a_Gates_edge_of) = true)
    (q_Gates_leaf : PySem.W.findIn K (.ref a_Gates) "leaf" = some (some (.ref a_Gates_leaf)))
    (i_Gates_leaf : PySem.W.isFn K (.ref a_Gates_leaf) = true)
    (l_Gates_leaf : K.lookup a_Gates_leaf = some ⟨oc_Gates_leaf, od_Gates_leaf, .func (PySem.W.fnOf "leaf" "Gates.leaf" (defArgs s_Gates_leaf) (defBody s_Gates_leaf) (defScope s_Gates_leaf) .none kV_Gates_leaf dc_Gates_leaf pm_Gates_leaf an_Gates_leaf cd_Gates_leaf ct_Gates_leaf), sl_Gates_leaf⟩)
    (c_Gates_leaf : PySem.W.codeIn K cd_Gates_leaf "Gates.leaf" = true)
    (k_Gates_leaf : PySem.W.keepIn K (.ref a_Gates_leaf) = true)
    (q_law_opposite : PySem.W.nsIn K mainGlobals "_law_opposite" = some (some (.ref a_law_opposite)))
    (l_law_opposite : K.lookup a_law_opposite = some ⟨oc_law_opposite, od_law_opposite, .func (PySem.W.fnOf "_law_opposite" "_law_opposite" (defArgs s_law_opposite) (defBody s_law_opposite) (defScope s_law_opposite) .none kV_law_opposite dc_law_opposite pm_law_opposite an_law_opposite cd_law_opposite ct_law_opposite), sl_law_opposite⟩)
    (c_law_opposite : PySem.W.codeIn K cd_law_opposite "_law_opposite" = true)
    (k_law_opposite : PySem.W.keepIn K (.ref a_law_opposite) = true)
    (q_law_both : PySem.W.nsIn K mainGlobals "_law_both" = some (some (.ref a_law_both)))
    (l_law_both : K.lookup a_law_both = some ⟨oc_law_both, od_law_both, .func (PySem.W.fnOf "_law_both" "_law_both" (defArgs s_law_both) (defBody s_law_both) (defScope s_law_both) .none kV_law_both dc_law_both pm_law_both an_law_both cd_law_both ct_law_both), sl_law_both⟩)
    (c_law_both : PySem.W.codeIn K cd_law_both "_law_both" = true)
    (k_law_both : PySem.W.keepIn K (.ref a_law_both) = true)
    (q_opposite : PySem.W.nsIn K mainGlobals "opposite" = some (some (.ref a_opposite)))
    (l_opposite : K.lookup a_opposite = some ⟨oc_opposite, od_opposite, .func (PySem.W.fnOf "opposite" "opposite" (defArgs s_opposite) (defBody s_opposite) (defScope s_opposite) .none kV_opposite dc_opposite pm_opposite an_opposite cd_opposite ct_opposite), sl_opposite⟩)
    (c_opposite : PySem.W.codeIn K cd_opposite "opposite" = true)
    (k_opposite : PySem.W.keepIn K (.ref a_opposite) = true)
    (q_Gates_both : PySem.W.findIn K (.ref a_Gates) "both" = some (some (.ref a_Gates_both)))
    (i_Gates_both : PySem.W.isFn K (.ref a_Gates_both) = true)
    (l_Gates_both : K.lookup a_Gates_both = some ⟨oc_Gates_both, od_Gates_both, .func (PySem.W.fnOf "both" "Gates.both" (defArgs s_Gates_both) (defBody s_Gates_both) (defScope s_Gates_both) .none kV_Gates_both dc_Gates_both pm_Gates_both an_Gates_both cd_Gates_both ct_Gates_both), sl_Gates_both⟩)
    (c_Gates_both : PySem.W.codeIn K cd_Gates_both "Gates.both" = true)
    (k_Gates_both : PySem.W.keepIn K (.ref a_Gates_both) = true)
    (q_law_build : PySem.W.nsIn K mainGlobals "_law_build" = some (some (.ref a_law_build)))
    (l_law_build : K.lookup a_law_build = some ⟨oc_law_build, od_law_build, .func (PySem.W.fnOf "_law_build" "_law_build" (defArgs s_law_build) (defBody s_law_build) (defScope s_law_build) .none kV_law_build dc_law_build pm_law_build an_law_build cd_law_build ct_law_build), sl_law_build⟩)
    (c_law_build : PySem.W.codeIn K cd_law_build "_law_build" = true)
    (k_law_build : PySem.W.keepIn K (.ref a_law_build) = true)
    (q_Gates_cone : PySem.W.findIn K (.ref a_Gates) "cone" = some (some (.ref a_Gates_cone)))
    (i_Gates_cone : PySem.W.isFn K (.ref a_Gates_cone) = true)
    (l_Gates_cone : K.lookup a_Gates_cone = some ⟨oc_Gates_cone, od_Gates_cone, .func (PySem.W.fnOf "cone" "Gates.cone" (defArgs s_Gates_cone) (defBody s_Gates_cone) (defScope s_Gates_cone) .none kV_Gates_cone dc_Gates_cone pm_Gates_cone an_Gates_cone cd_Gates_cone ct_Gates_cone), sl_Gates_cone⟩)
    (c_Gates_cone : PySem.W.codeIn K cd_Gates_cone "Gates.cone" = true)
    (k_Gates_cone : PySem.W.keepIn K (.ref a_Gates_cone) = true)
    (q_Gates_gate_rows : PySem.W.findIn K (.ref a_Gates) "gate_rows" = some (some (.ref a_Gates_gate_rows)))
    (i_Gates_gate_rows : PySem.W.isFn K (.ref a_Gates_gate_rows) = true)
    (l_Gates_gate_rows : K.lookup a_Gates_gate_rows = some ⟨oc_Gates_gate_rows, od_Gates_gate_rows, .func (PySem.W.fnOf "gate_rows" "Gates.gate_rows" (defArgs s_Gates_gate_rows) (defBody s_Gates_gate_rows) (defScope s_Gates_gate_rows) .none kV_Gates_gate_rows dc_Gates_gate_rows pm_Gates_gate_rows an_Gates_gate_rows cd_Gates_gate_rows ct_Gates_gate_rows), sl_Gates_gate_rows⟩)
    (c_Gates_gate_rows : PySem.W.codeIn K cd_Gates_gate_rows "Gates.gate_rows" = true)
    (k_Gates_gate_rows : PySem.W.keepIn K (.ref a_Gates_gate_rows) = true)
    (q_Encoding_literal : PySem.W.findIn K (.ref a_Encoding) "literal" = some (some (.ref a_Encoding_literal)))
    (i_Encoding_literal : PySem.W.isFn K (.ref a_Encoding_literal) = true)
    (l_Encoding_literal : K.lookup a_Encoding_literal = some ⟨oc_Encoding_literal, od_Encoding_literal, .func (PySem.W.fnOf "literal" "Encoding.literal" (defArgs s_Encoding_literal) (defBody s_Encoding_literal) (defScope s_Encoding_literal) .none kV_Encoding_literal dc_Encoding_literal pm_Encoding_literal an_Encoding_literal cd_Encoding_literal ct_Encoding_literal), sl_Encoding_literal⟩)
    (c_Encoding_literal : PySem.W.codeIn K cd_Encoding_literal "Encoding.literal" = true)
    (k_Encoding_literal : PySem.W.keepIn K (.ref a_Encoding_literal) = true)
    (q_normal_clause : PySem.W.nsIn K mainGlobals "normal_clause" = some (some (.ref a_normal_clause)))
    (l_normal_clause : K.lookup a_normal_clause = some ⟨oc_normal_clause, od_normal_clause, .func (PySem.W.fnOf "normal_clause" "normal_clause" (defArgs s_normal_clause) (defBody s_normal_clause) (defScope s_normal_clause) .none kV_normal_clause dc_normal_clause pm_normal_clause an_normal_clause cd_normal_clause ct_normal_clause), sl_normal_clause⟩)
    (c_normal_clause : PySem.W.codeIn K cd_normal_clause "normal_clause" = true)
    (k_normal_clause : PySem.W.keepIn K (.ref a_normal_clause) = true)
    (q_Encoding_init : PySem.W.findIn K (.ref a_Encoding) "__init__" = some (some (.ref a_Encoding_init)))
    (i_Encoding_init : PySem.W.isFn K (.ref a_Encoding_init) = true)
    (l_Encoding_init : K.lookup a_Encoding_init = some ⟨oc_Encoding_init, od_Encoding_init, .func (PySem.W.fnOf "__init__" "Encoding.__init__" (defArgs s_Encoding_init) (defBody s_Encoding_init) (defScope s_Encoding_init) .none kV_Encoding_init dc_Encoding_init pm_Encoding_init an_Encoding_init cd_Encoding_init ct_Encoding_init), sl_Encoding_init⟩)
    (c_Encoding_init : PySem.W.codeIn K cd_Encoding_init "Encoding.__init__" = true)
    (k_Encoding_init : PySem.W.keepIn K (.ref a_Encoding_init) = true)
    (q_law_reached : PySem.W.nsIn K mainGlobals "_law_reached" = some (some (.ref a_law_reached)))
    (l_law_reached : K.lookup a_law_reached = some ⟨oc_law_reached, od_law_reached, .func (PySem.W.fnOf "_law_reached" "_law_reached" (defArgs s_law_reached) (defBody s_law_reached) (defScope s_law_reached) .none kV_law_reached dc_law_reached pm_law_reached an_law_reached cd_law_reached ct_law_reached), sl_law_reached⟩)
    (c_law_reached : PySem.W.codeIn K cd_law_reached "_law_reached" = true)
    (k_law_reached : PySem.W.keepIn K (.ref a_law_reached) = true)
    (q_law_letters : PySem.W.nsIn K mainGlobals "_law_letters" = some (some (.ref a_law_letters)))
    (l_law_letters : K.lookup a_law_letters = some ⟨oc_law_letters, od_law_letters, .func (PySem.W.fnOf "_law_letters" "_law_letters" (defArgs s_law_letters) (defBody s_law_letters) (defScope s_law_letters) .none kV_law_letters dc_law_letters pm_law_letters an_law_letters cd_law_letters ct_law_letters), sl_law_letters⟩)
    (c_law_letters : PySem.W.codeIn K cd_law_letters "_law_letters" = true)
    (k_law_letters : PySem.W.keepIn K (.ref a_law_letters) = true)
    (q_law_is_literal : PySem.W.nsIn K mainGlobals "_law_is_literal" = some (some (.ref a_law_is_literal)))
    (l_law_is_literal : K.lookup a_law_is_literal = some ⟨oc_law_is_literal, od_law_is_literal, .func (PySem.W.fnOf "_law_is_literal" "_law_is_literal" (defArgs s_law_is_literal) (defBody s_law_is_literal) (defScope s_law_is_literal) .none kV_law_is_literal dc_law_is_literal pm_law_is_literal an_law_is_literal cd_law_is_literal ct_law_is_literal), sl_law_is_literal⟩)
    (c_law_is_literal : PySem.W.codeIn K cd_law_is_literal "_law_is_literal" = true)
    (k_law_is_literal : PySem.W.keepIn K (.ref a_law_is_literal) = true)
    (q_law_literal : PySem.W.nsIn K mainGlobals "_law_literal" = some (some (.ref a_law_literal)))
    (l_law_literal : K.lookup a_law_literal = some ⟨oc_law_literal, od_law_literal, .func (PySem.W.fnOf "_law_literal" "_law_literal" (defArgs s_law_literal) (defBody s_law_literal) (defScope s_law_literal) .none kV_law_literal dc_law_literal pm_law_literal an_law_literal cd_law_literal ct_law_literal), sl_law_literal⟩)
    (c_law_literal : PySem.W.codeIn K cd_law_literal "_law_literal" = true)
    (k_law_literal : PySem.W.keepIn K (.ref a_law_literal) = true)
    (q_law_same : PySem.W.nsIn K mainGlobals "_law_same" = some (some (.ref a_law_same)))
    (l_law_same : K.lookup a_law_same = some ⟨oc_law_same, od_law_same, .func (PySem.W.fnOf "_law_same" "_law_same" (defArgs s_law_same) (defBody s_law_same) (defScope s_law_same) .none kV_law_same dc_law_same pm_law_same an_law_same cd_law_same ct_law_same), sl_law_same⟩)
    (c_law_same : PySem.W.codeIn K cd_law_same "_law_same" = true)
    (k_law_same : PySem.W.keepIn K (.ref a_law_same) = true)
    (q_law_clauses : PySem.W.nsIn K mainGlobals "_law_clauses" = some (some (.ref a_law_clauses)))
    (l_law_clauses : K.lookup a_law_clauses = some ⟨oc_law_clauses, od_law_clauses, .func (PySem.W.fnOf "_law_clauses" "_law_clauses" (defArgs s_law_clauses) (defBody s_law_clauses) (defScope s_law_clauses) .none kV_law_clauses dc_law_clauses pm_law_clauses an_law_clauses cd_law_clauses ct_law_clauses), sl_law_clauses⟩)
    (c_law_clauses : PySem.W.codeIn K cd_law_clauses "_law_clauses" = true)
    (k_law_clauses : PySem.W.keepIn K (.ref a_law_clauses) = true)
    (q_law_is_encoding : PySem.W.nsIn K mainGlobals "_law_is_encoding" = some (some (.ref a_law_is_encoding)))
    (l_law_is_encoding : K.lookup a_law_is_encoding = some ⟨oc_law_is_encoding, od_law_is_encoding, .func (PySem.W.fnOf "_law_is_encoding" "_law_is_encoding" (defArgs s_law_is_encoding) (defBody s_law_is_encoding) (defScope s_law_is_encoding) .none kV_law_is_encoding dc_law_is_encoding pm_law_is_encoding an_law_is_encoding cd_law_is_encoding ct_law_is_encoding), sl_law_is_encoding⟩)
    (c_law_is_encoding : PySem.W.codeIn K cd_law_is_encoding "_law_is_encoding" = true)
    (k_law_is_encoding : PySem.W.keepIn K (.ref a_law_is_encoding) = true)
    (q_law_value : PySem.W.nsIn K mainGlobals "_law_value" = some (some (.ref a_law_value)))
    (l_law_value : K.lookup a_law_value = some ⟨oc_law_value, od_law_value, .func (PySem.W.fnOf "_law_value" "_law_value" (defArgs s_law_value) (defBody s_law_value) (defScope s_law_value) .none kV_law_value dc_law_value pm_law_value an_law_value cd_law_value ct_law_value), sl_law_value⟩)
    (c_law_value : PySem.W.codeIn K cd_law_value "_law_value" = true)
    (k_law_value : PySem.W.keepIn K (.ref a_law_value) = true)
    (q_law_truths : PySem.W.nsIn K mainGlobals "_law_truths" = some (some (.ref a_law_truths)))
    (l_law_truths : K.lookup a_law_truths = some ⟨oc_law_truths, od_law_truths, .func (PySem.W.fnOf "_law_truths" "_law_truths" (defArgs s_law_truths) (defBody s_law_truths) (defScope s_law_truths) .none kV_law_truths dc_law_truths pm_law_truths an_law_truths cd_law_truths ct_law_truths), sl_law_truths⟩)
    (c_law_truths : PySem.W.codeIn K cd_law_truths "_law_truths" = true)
    (k_law_truths : PySem.W.keepIn K (.ref a_law_truths) = true)
    (q_law_full : PySem.W.nsIn K mainGlobals "_law_full" = some (some (.ref a_law_full)))
    (l_law_full : K.lookup a_law_full = some ⟨oc_law_full, od_law_full, .func (PySem.W.fnOf "_law_full" "_law_full" (defArgs s_law_full) (defBody s_law_full) (defScope s_law_full) .none kV_law_full dc_law_full pm_law_full an_law_full cd_law_full ct_law_full), sl_law_full⟩)
    (c_law_full : PySem.W.codeIn K cd_law_full "_law_full" = true)
    (k_law_full : PySem.W.keepIn K (.ref a_law_full) = true)
    (q_law_all_true : PySem.W.nsIn K mainGlobals "_law_all_true" = some (some (.ref a_law_all_true)))
    (l_law_all_true : K.lookup a_law_all_true = some ⟨oc_law_all_true, od_law_all_true, .func (PySem.W.fnOf "_law_all_true" "_law_all_true" (defArgs s_law_all_true) (defBody s_law_all_true) (defScope s_law_all_true) .none kV_law_all_true dc_law_all_true pm_law_all_true an_law_all_true cd_law_all_true ct_law_all_true), sl_law_all_true⟩)
    (c_law_all_true : PySem.W.codeIn K cd_law_all_true "_law_all_true" = true)
    (k_law_all_true : PySem.W.keepIn K (.ref a_law_all_true) = true)
    (q_law_means : PySem.W.nsIn K mainGlobals "_law_means" = some (some (.ref a_law_means)))
    (l_law_means : K.lookup a_law_means = some ⟨oc_law_means, od_law_means, .func (PySem.W.fnOf "_law_means" "_law_means" (defArgs s_law_means) (defBody s_law_means) (defScope s_law_means) .none kV_law_means dc_law_means pm_law_means an_law_means cd_law_means ct_law_means), sl_law_means⟩)
    (c_law_means : PySem.W.codeIn K cd_law_means "_law_means" = true)
    (k_law_means : PySem.W.keepIn K (.ref a_law_means) = true)
    (q_truth_clauses : PySem.W.nsIn K mainGlobals "truth_clauses" = some (some (.ref a_truth_clauses)))
    (l_truth_clauses : K.lookup a_truth_clauses = some ⟨oc_truth_clauses, od_truth_clauses, .func (PySem.W.fnOf "truth_clauses" "truth_clauses" (defArgs s_truth_clauses) (defBody s_truth_clauses) (defScope s_truth_clauses) .none kV_truth_clauses dc_truth_clauses pm_truth_clauses an_truth_clauses cd_truth_clauses ct_truth_clauses), sl_truth_clauses⟩)
    (c_truth_clauses : PySem.W.codeIn K cd_truth_clauses "truth_clauses" = true)
    (k_truth_clauses : PySem.W.keepIn K (.ref a_truth_clauses) = true)
    (q_law_truth : PySem.W.nsIn K mainGlobals "_law_truth" = some (some (.ref a_law_truth)))
    (l_law_truth : K.lookup a_law_truth = some ⟨oc_law_truth, od_law_truth, .func (PySem.W.fnOf "_law_truth" "_law_truth" (defArgs s_law_truth) (defBody s_law_truth) (defScope s_law_truth) .none kV_law_truth dc_law_truth pm_law_truth an_law_truth cd_law_truth ct_law_truth), sl_law_truth⟩)
    (c_law_truth : PySem.W.codeIn K cd_law_truth "_law_truth" = true)
    (k_law_truth : PySem.W.keepIn K (.ref a_law_truth) = true)
    (q_law : PySem.W.nsIn K mainGlobals "law" = some (some (.ref a_law)))
    (l_law : K.lookup a_law = some ⟨oc_law, od_law, .func (PySem.W.fnOf "law" "law" (defArgs s_law) (defBody s_law) (defScope s_law) .none kV_law dc_law pm_law an_law cd_law ct_law), sl_law⟩)
    (c_law : PySem.W.codeIn K cd_law "law" = true)
    (k_law : PySem.W.keepIn K (.ref a_law) = true)
    (pg_Gates : PySem.W.plainGet K a_Gates Str.empty = true)
    (hd_Gates : PySem.W.hasDictIn K a_Gates = true)
    (po_Gates : PySem.W.plainOver K a_Gates = true)
    (sa_Gates : PySem.W.findIn K (.ref a_Gates) "__setattr__" = some (some (.builtin "object.__setattr__")))
    (mk_Gates : PySem.W.makesIn K a_Gates = true)
    (kc_Gates : PySem.W.keepIn K (.ref a_Gates) = true)
    (nf_Gates_rows : PySem.W.findIn K (.ref a_Gates) "rows" = some none)
    (nf_Gates_known : PySem.W.findIn K (.ref a_Gates) "_known" = some none)
    (pg_Encoding : PySem.W.plainGet K a_Encoding Str.empty = true)
    (hd_Encoding : PySem.W.hasDictIn K a_Encoding = true)
    (po_Encoding : PySem.W.plainOver K a_Encoding = true)
    (sa_Encoding : PySem.W.findIn K (.ref a_Encoding) "__setattr__" = some (some (.builtin "object.__setattr__")))
    (mk_Encoding : PySem.W.makesIn K a_Encoding = true)
    (kc_Encoding : PySem.W.keepIn K (.ref a_Encoding) = true)
    (nf_Encoding_letters : PySem.W.findIn K (.ref a_Encoding) "letters" = some none)
    (nf_Encoding_clauses : PySem.W.findIn K (.ref a_Encoding) "clauses" = some none)
    (nf_Encoding_gates : PySem.W.findIn K (.ref a_Encoding) "_gates" = some none)
    (zz_abs : PySem.W.nsIn K mainGlobals "abs" = some none)
    (zz_bool : PySem.W.nsIn K mainGlobals "bool" = some none)
    (zz_dict : PySem.W.nsIn K mainGlobals "dict" = some none)
    (zz_int : PySem.W.nsIn K mainGlobals "int" = some none)
    (zz_isinstance : PySem.W.nsIn K mainGlobals "isinstance" = some none)
    (zz_len : PySem.W.nsIn K mainGlobals "len" = some none)
    (zz_list : PySem.W.nsIn K mainGlobals "list" = some none)
    (zz_max : PySem.W.nsIn K mainGlobals "max" = some none)
    (zz_min : PySem.W.nsIn K mainGlobals "min" = some none)
    (zz_range : PySem.W.nsIn K mainGlobals "range" = some none)
    (zz_set : PySem.W.nsIn K mainGlobals "set" = some none)
    (zz_sorted : PySem.W.nsIn K mainGlobals "sorted" = some none)
    (zz_tuple : PySem.W.nsIn K mainGlobals "tuple" = some none)
    (gc_NO : PySem.W.nsIn K mainGlobals "NO" = some (some (.int 0 t_NO)))
    (gc_YES : PySem.W.nsIn K mainGlobals "YES" = some (some (.int 1 t_YES))) :
    ∃ fd : FuncData, (∀ (s : Shared) (v : Value), BindsTo s fd ⟨[v], []⟩ [("script", v)]) ∧ ∀ base : Heap, K.In base → base.Ns mainGlobals mg → FnOk l.prog w K mg base CX0 6 fa fd ["script"] (spTop K) := by
  have e := hfa.symm.trans (PySem.W.mg_of X G q_law)
  cases e
  let T : Txt K mg := {
    z_abs := PySem.W.mg_none_of X G zz_abs,
    z_bool := PySem.W.mg_none_of X G zz_bool,
    z_dict := PySem.W.mg_none_of X G zz_dict,
    z_int := PySem.W.mg_none_of X G zz_int,
    z_isinstance := PySem.W.mg_none_of X G zz_isinstance,
    z_len := PySem.W.mg_none_of X G zz_len,
    z_list := PySem.W.mg_none_of X G zz_list,
    z_max := PySem.W.mg_none_of X G zz_max,
    z_min := PySem.W.mg_none_of X G zz_min,
    z_range := PySem.W.mg_none_of X G zz_range,
    z_set := PySem.W.mg_none_of X G zz_set,
    z_sorted := PySem.W.mg_none_of X G zz_sorted,
    z_tuple := PySem.W.mg_none_of X G zz_tuple,
    t_NO := t_NO,
    g_NO := PySem.W.mg_of X G gc_NO,
    t_YES := t_YES,
    g_YES := PySem.W.mg_of X G gc_YES,
    a_law_seed := a_law_seed,
    d_law_seed := _,
    F_law_seed := fun_mk (st := s_law_seed) l_law_seed c_law_seed k_law_seed,
    b_law_seed := (fun_mk (st := s_law_seed) l_law_seed c_law_seed k_law_seed).binds (ps := ["script"]) (fun _ _ _ _ _ _ us hl => match us, hl with | [_], _ => rfl),
    g_law_seed := PySem.W.mg_of X G q_law_seed,
    a_law_take := a_law_take,
    d_law_take := _,
    F_law_take := fun_mk (st := s_law_take) l_law_take c_law_take k_law_take,
    b_law_take := (fun_mk (st := s_law_take) l_law_take c_law_take k_law_take).binds (ps := ["script", "source", "size"]) (fun _ _ _ _ _ _ us hl => match us, hl with | [_, _, _], _ => rfl),
    g_law_take := PySem.W.mg_of X G q_law_take,
    a_Gates_init := a_Gates_init,
    d_Gates_init := _,
    F_Gates_init := fun_mk (st := s_Gates_init) l_Gates_init c_Gates_init k_Gates_init,
    b_Gates_init := (fun_mk (st := s_Gates_init) l_Gates_init c_Gates_init k_Gates_init).binds (ps := ["self"]) (fun _ _ _ _ _ _ us hl => match us, hl with | [_], _ => rfl),
    a_law_letter := a_law_letter,
    d_law_letter := _,
    F_law_letter := fun_mk (st := s_law_letter) l_law_letter c_law_letter k_law_letter,
    b_law_letter := (fun_mk (st := s_law_letter) l_law_letter c_law_letter k_law_letter).binds (ps := ["script", "source"]) (fun _ _ _ _ _ _ us hl => match us, hl with | [_, _], _ => rfl),
    g_law_letter := PySem.W.mg_of X G q_law_letter,
    a_law_row := a_law_row,
    d_law_row := _,
    F_law_row := fun_mk (st := s_law_row) l_law_row c_law_row k_law_row,
    b_law_row := (fun_mk (st := s_law_row) l_law_row c_law_row k_law_row).binds (ps := ["rows", "row"]) (fun _ _ _ _ _ _ us hl => match us, hl with | [_, _], _ => rfl),
    g_law_row := PySem.W.mg_of X G q_law_row,
    a_Gates_edge_of := a_Gates_edge_of,
    d_Gates_edge_of := _,
    F_Gates_edge_of := fun_mk (st := s_Gates_edge_of) l_Gates_edge_of c_Gates_edge_of k_Gates_edge_of,
    b_Gates_edge_of := (fun_mk (st := s_Gates_edge_of) l_Gates_edge_of c_Gates_edge_of k_Gates_edge_of).binds (ps := ["self", "row"]) (fun _ _ _ _ _ _ us hl => match us, hl with | [_, _], _ => rfl),
    a_Gates_leaf := a_Gates_leaf,
    d_Gates_leaf := _,
    F_Gates_leaf := fun_mk (st := s_Gates_leaf) l_Gates_leaf c_Gates_leaf k_Gates_leaf,
    b_Gates_leaf := (fun_mk (st := s_Gates_leaf) l_Gates_leaf c_Gates_leaf k_Gates_leaf).binds (ps := ["self", "letter"]) (fun _ _ _ _ _ _ us hl => match us, hl with | [_, _], _ => rfl),
    a_law_opposite := a_law_opposite,
    d_law_opposite := _,
    F_law_opposite := fun_mk (st := s_law_opposite) l_law_opposite c_law_opposite k_law_opposite,
    b_law_opposite := (fun_mk (st := s_law_opposite) l_law_opposite c_law_opposite k_law_opposite).binds (ps := ["edge"]) (fun _ _ _ _ _ _ us hl => match us, hl with | [_], _ => rfl),
    g_law_opposite := PySem.W.mg_of X G q_law_opposite,
    a_law_both := a_law_both,
    d_law_both := _,
    F_law_both := fun_mk (st := s_law_both) l_law_both c_law_both k_law_both,
    b_law_both := (fun_mk (st := s_law_both) l_law_both c_law_both k_law_both).binds (ps := ["rows", "a", "b"]) (fun _ _ _ _ _ _ us hl => match us, hl with | [_, _, _], _ => rfl),
    g_law_both := PySem.W.mg_of X G q_law_both,
    a_opposite := a_opposite,
    d_opposite := _,
    F_opposite := fun_mk (st := s_opposite) l_opposite c_opposite k_opposite,
    b_opposite := (fun_mk (st := s_opposite) l_opposite c_opposite k_opposite).binds (ps := ["edge"]) (fun _ _ _ _ _ _ us hl => match us, hl with | [_], _ => rfl),
    g_opposite := PySem.W.mg_of X G q_opposite,
    a_Gates_both := a_Gates_both,
    d_Gates_both := _,
    F_Gates_both := fun_mk (st := s_Gates_both) l_Gates_both c_Gates_both k_Gates_both,
    b_Gates_both := (fun_mk (st := s_Gates_both) l_Gates_both c_Gates_both k_Gates_both).binds (ps := ["self", "a", "b"]) (fun _ _ _ _ _ _ us hl => match us, hl with | [_, _, _], _ => rfl),
    a_law_build := a_law_build,
    d_law_build := _,
    F_law_build := fun_mk (st := s_law_build) l_law_build c_law_build k_law_build,
    b_law_build := (fun_mk (st := s_law_build) l_law_build c_law_build k_law_build).binds (ps := ["script", "source", "gates", "rows", "count"]) (fun _ _ _ _ _ _ us hl => match us, hl with | [_, _, _, _, _], _ => rfl),
    g_law_build := PySem.W.mg_of X G q_law_build,
    a_Gates_cone := a_Gates_cone,
    d_Gates_cone := _,
    F_Gates_cone := fun_mk (st := s_Gates_cone) l_Gates_cone c_Gates_cone k_Gates_cone,
    b_Gates_cone := (fun_mk (st := s_Gates_cone) l_Gates_cone c_Gates_cone k_Gates_cone).binds (ps := ["self", "edges"]) (fun _ _ _ _ _ _ us hl => match us, hl with | [_, _], _ => rfl),
    a_Gates_gate_rows := a_Gates_gate_rows,
    d_Gates_gate_rows := _,
    F_Gates_gate_rows := fun_mk (st := s_Gates_gate_rows) l_Gates_gate_rows c_Gates_gate_rows k_Gates_gate_rows,
    b_Gates_gate_rows := (fun_mk (st := s_Gates_gate_rows) l_Gates_gate_rows c_Gates_gate_rows k_Gates_gate_rows).binds (ps := ["self", "edges"]) (fun _ _ _ _ _ _ us hl => match us, hl with | [_, _], _ => rfl),
    a_Encoding_literal := a_Encoding_literal,
    d_Encoding_literal := _,
    F_Encoding_literal := fun_mk (st := s_Encoding_literal) l_Encoding_literal c_Encoding_literal k_Encoding_literal,
    b_Encoding_literal := (fun_mk (st := s_Encoding_literal) l_Encoding_literal c_Encoding_literal k_Encoding_literal).binds (ps := ["self", "edge"]) (fun _ _ _ _ _ _ us hl => match us, hl with | [_, _], _ => rfl),
    a_normal_clause := a_normal_clause,
    d_normal_clause := _,
    F_normal_clause := fun_mk (st := s_normal_clause) l_normal_clause c_normal_clause k_normal_clause,
    b_normal_clause := (fun_mk (st := s_normal_clause) l_normal_clause c_normal_clause k_normal_clause).binds (ps := ["literals"]) (fun _ _ _ _ _ _ us hl => match us, hl with | [_], _ => rfl),
    g_normal_clause := PySem.W.mg_of X G q_normal_clause,
    a_Encoding_init := a_Encoding_init,
    d_Encoding_init := _,
    F_Encoding_init := fun_mk (st := s_Encoding_init) l_Encoding_init c_Encoding_init k_Encoding_init,
    b_Encoding_init := (fun_mk (st := s_Encoding_init) l_Encoding_init c_Encoding_init k_Encoding_init).binds (ps := ["self", "gates", "edges", "first"]) (fun _ _ _ _ _ _ us hl => match us, hl with | [_, _, _, _], _ => rfl),
    a_law_reached := a_law_reached,
    d_law_reached := _,
    F_law_reached := fun_mk (st := s_law_reached) l_law_reached c_law_reached k_law_reached,
    b_law_reached := (fun_mk (st := s_law_reached) l_law_reached c_law_reached k_law_reached).binds (ps := ["rows", "edges"]) (fun _ _ _ _ _ _ us hl => match us, hl with | [_, _], _ => rfl),
    g_law_reached := PySem.W.mg_of X G q_law_reached,
    a_law_letters := a_law_letters,
    d_law_letters := _,
    F_law_letters := fun_mk (st := s_law_letters) l_law_letters c_law_letters k_law_letters,
    b_law_letters := (fun_mk (st := s_law_letters) l_law_letters c_law_letters k_law_letters).binds (ps := ["rows", "edges", "first"]) (fun _ _ _ _ _ _ us hl => match us, hl with | [_, _, _], _ => rfl),
    g_law_letters := PySem.W.mg_of X G q_law_letters,
    a_law_is_literal := a_law_is_literal,
    d_law_is_literal := _,
    F_law_is_literal := fun_mk (st := s_law_is_literal) l_law_is_literal c_law_is_literal k_law_is_literal,
    b_law_is_literal := (fun_mk (st := s_law_is_literal) l_law_is_literal c_law_is_literal k_law_is_literal).binds (ps := ["actual", "due"]) (fun _ _ _ _ _ _ us hl => match us, hl with | [_, _], _ => rfl),
    g_law_is_literal := PySem.W.mg_of X G q_law_is_literal,
    a_law_literal := a_law_literal,
    d_law_literal := _,
    F_law_literal := fun_mk (st := s_law_literal) l_law_literal c_law_literal k_law_literal,
    b_law_literal := (fun_mk (st := s_law_literal) l_law_literal c_law_literal k_law_literal).binds (ps := ["rows", "letters", "edge"]) (fun _ _ _ _ _ _ us hl => match us, hl with | [_, _, _], _ => rfl),
    g_law_literal := PySem.W.mg_of X G q_law_literal,
    a_law_same := a_law_same,
    d_law_same := _,
    F_law_same := fun_mk (st := s_law_same) l_law_same c_law_same k_law_same,
    b_law_same := (fun_mk (st := s_law_same) l_law_same c_law_same k_law_same).binds (ps := ["actual", "due"]) (fun _ _ _ _ _ _ us hl => match us, hl with | [_, _], _ => rfl),
    g_law_same := PySem.W.mg_of X G q_law_same,
    a_law_clauses := a_law_clauses,
    d_law_clauses := _,
    F_law_clauses := fun_mk (st := s_law_clauses) l_law_clauses c_law_clauses k_law_clauses,
    b_law_clauses := (fun_mk (st := s_law_clauses) l_law_clauses c_law_clauses k_law_clauses).binds (ps := ["rows", "letters"]) (fun _ _ _ _ _ _ us hl => match us, hl with | [_, _], _ => rfl),
    g_law_clauses := PySem.W.mg_of X G q_law_clauses,
    a_law_is_encoding := a_law_is_encoding,
    d_law_is_encoding := _,
    F_law_is_encoding := fun_mk (st := s_law_is_encoding) l_law_is_encoding c_law_is_encoding k_law_is_encoding,
    b_law_is_encoding := (fun_mk (st := s_law_is_encoding) l_law_is_encoding c_law_is_encoding k_law_is_encoding).binds (ps := ["encoded", "rows", "letters"]) (fun _ _ _ _ _ _ us hl => match us, hl with | [_, _, _], _ => rfl),
    g_law_is_encoding := PySem.W.mg_of X G q_law_is_encoding,
    a_law_value := a_law_value,
    d_law_value := _,
    F_law_value := fun_mk (st := s_law_value) l_law_value c_law_value k_law_value,
    b_law_value := (fun_mk (st := s_law_value) l_law_value c_law_value k_law_value).binds (ps := ["truths", "edge"]) (fun _ _ _ _ _ _ us hl => match us, hl with | [_, _], _ => rfl),
    g_law_value := PySem.W.mg_of X G q_law_value,
    a_law_truths := a_law_truths,
    d_law_truths := _,
    F_law_truths := fun_mk (st := s_law_truths) l_law_truths c_law_truths k_law_truths,
    b_law_truths := (fun_mk (st := s_law_truths) l_law_truths c_law_truths k_law_truths).binds (ps := ["rows", "choices"]) (fun _ _ _ _ _ _ us hl => match us, hl with | [_, _], _ => rfl),
    g_law_truths := PySem.W.mg_of X G q_law_truths,
    a_law_full := a_law_full,
    d_law_full := _,
    F_law_full := fun_mk (st := s_law_full) l_law_full c_law_full k_law_full,
    b_law_full := (fun_mk (st := s_law_full) l_law_full c_law_full k_law_full).binds (ps := ["truths", "letters", "choices"]) (fun _ _ _ _ _ _ us hl => match us, hl with | [_, _, _], _ => rfl),
    g_law_full := PySem.W.mg_of X G q_law_full,
    a_law_all_true := a_law_all_true,
    d_law_all_true := _,
    F_law_all_true := fun_mk (st := s_law_all_true) l_law_all_true c_law_all_true k_law_all_true,
    b_law_all_true := (fun_mk (st := s_law_all_true) l_law_all_true c_law_all_true k_law_all_true).binds (ps := ["clauses", "choices"]) (fun _ _ _ _ _ _ us hl => match us, hl with | [_, _], _ => rfl),
    g_law_all_true := PySem.W.mg_of X G q_law_all_true,
    a_law_means := a_law_means,
    d_law_means := _,
    F_law_means := fun_mk (st := s_law_means) l_law_means c_law_means k_law_means,
    b_law_means := (fun_mk (st := s_law_means) l_law_means c_law_means k_law_means).binds (ps := ["clauses", "letters", "truths", "choices", "at"]) (fun _ _ _ _ _ _ us hl => match us, hl with | [_, _, _, _, _], _ => rfl),
    g_law_means := PySem.W.mg_of X G q_law_means,
    a_truth_clauses := a_truth_clauses,
    d_truth_clauses := _,
    F_truth_clauses := fun_mk (st := s_truth_clauses) l_truth_clauses c_truth_clauses k_truth_clauses,
    b_truth_clauses := (fun_mk (st := s_truth_clauses) l_truth_clauses c_truth_clauses k_truth_clauses).binds (ps := ["gates", "edge", "first"]) (fun _ _ _ _ _ _ us hl => match us, hl with | [_, _, _], _ => rfl),
    g_truth_clauses := PySem.W.mg_of X G q_truth_clauses,
    a_law_truth := a_law_truth,
    d_law_truth := _,
    F_law_truth := fun_mk (st := s_law_truth) l_law_truth c_law_truth k_law_truth,
    b_law_truth := (fun_mk (st := s_law_truth) l_law_truth c_law_truth k_law_truth).binds (ps := ["rows", "edge", "first"]) (fun _ _ _ _ _ _ us hl => match us, hl with | [_, _, _], _ => rfl),
    g_law_truth := PySem.W.mg_of X G q_law_truth,
    a_law := fa,
    d_law := _,
    F_law := fun_mk (st := s_law) l_law c_law k_law,
    b_law := (fun_mk (st := s_law) l_law c_law k_law).binds (ps := ["script"]) (fun _ _ _ _ _ _ us hl => match us, hl with | [_], _ => rfl),
    g_law := PySem.W.mg_of X G q_law,
    a_Gates := a_Gates,
    cl_Gates := ⟨pg_Gates, hd_Gates, po_Gates, sa_Gates⟩,
    g_Gates := PySem.W.mg_of X G qc_Gates,
    n_Gates_rows := nf_Gates_rows,
    n_Gates_known := nf_Gates_known,
    mk_Gates := ⟨mk_Gates, q_Gates_init, i_Gates_init, kc_Gates⟩,
    h_Gates_edge_of := ⟨q_Gates_edge_of, i_Gates_edge_of, k_Gates_edge_of⟩,
    h_Gates_leaf := ⟨q_Gates_leaf, i_Gates_leaf, k_Gates_leaf⟩,
    h_Gates_both := ⟨q_Gates_both, i_Gates_both, k_Gates_both⟩,
    h_Gates_cone := ⟨q_Gates_cone, i_Gates_cone, k_Gates_cone⟩,
    h_Gates_gate_rows := ⟨q_Gates_gate_rows, i_Gates_gate_rows, k_Gates_gate_rows⟩,
    a_Encoding := a_Encoding,
    cl_Encoding := ⟨pg_Encoding, hd_Encoding, po_Encoding, sa_Encoding⟩,
    g_Encoding := PySem.W.mg_of X G qc_Encoding,
    n_Encoding_letters := nf_Encoding_letters,
    n_Encoding_clauses := nf_Encoding_clauses,
    n_Encoding_gates := nf_Encoding_gates,
    h_Encoding_literal := ⟨q_Encoding_literal, i_Encoding_literal, k_Encoding_literal⟩,
    mk_Encoding := ⟨mk_Encoding, q_Encoding_init, i_Encoding_init, kc_Encoding⟩ }
  exact ⟨T.d_law, fun s v => .of_eq rfl, fun base _ _ => top_of T⟩
theorem walk {l : PySem.W.OpenLaw} {q : Program} {loose : List Str} {XP : (Str → Option Value) → Heap → Prop} {YP : World → Heap → Prop} {d : DefRec} {K : Params → PySem.W.Frag} (hn : l.most = some 63) (hdf : d.params.defaults = [])
    (hY : ∀ (w : World) (h : Heap), YP w h → (K w.params).In h)
    (F : ∀ (w : World) (mg : Str → Option Value) (fa : Addr) (h : Heap), (K w.params).In h → h.Ns mainGlobals mg → mg d.name = some (.ref fa) →
      ∃ fd : FuncData, (∀ (s : Shared) (u : Value), BindsTo s fd ⟨[u], []⟩ [("script", u)]) ∧ ∀ base : Heap, (K w.params).In base → base.Ns mainGlobals mg → FnOk l.prog w (K w.params) mg base CX0 6 fa fd ["script"] (spTop (K w.params))) :
    PySem.W.WalkO q loose XP YP l.row.toRowW d [] (fun f vs => PySem.call f vs) :=
  L2.walk_of (n := 63) (k := 6) (x := "script") (CX := fun _ => CX0) (sp := fun w => spTop (K w.params)) hn (by decide) hdf ⟨rfl, by decide, by decide⟩ hY F (fun _ _ a ns hl _ hS => ⟨a, ns, rfl, hS, hl, fun _ => rfl⟩) fun _ _ _ _ _ z => z
end G
open PySem PySem.W PyProof.Rows
set_option maxRecDepth 100000 in
set_option maxHeartbeats 0 in
theorem PySem.Challenge.cw_someandall_k17_clauses_say_gates_holds : PySem.Challenge.rw_someandall_k17_clauses_say_gates.Holds := by
  w_on; o_law; k_head; (case hw => w_witness2)
  k_fill
  refine G.walk (l := PySem.Challenge.rw_someandall_k17_clauses_say_gates) rfl rfl (fun w h Y => PySem.W.kIn_of Y) ?F
  case F =>
    intro w mg fa h KX G0 hmg
    refine' G.all_mk KX G0 hmg ?qc_Gates ?qc_Encoding ?q_law_seed ?l_law_seed ?c_law_seed ?k_law_seed ?q_law_take ?l_law_take ?c_law_take ?k_law_take ?q_Gates_init ?i_Gates_init ?l_Gates_init ?c_Gates_init ?k_Gates_init ?q_law_letter ?l_law_letter ?c_law_letter ?k_law_letter ?q_law_row ?l_law_row ?c_law_row ?k_law_row ?q_Gates_edge_of ?i_Gates_edge_of ?l_Gates_edge_of ?c_Gates_edge_of ?k_Gates_edge_of ?q_Gates_leaf ?i_Gates_leaf ?l_Gates_leaf ?c_Gates_leaf ?k_Gates_leaf ?q_law_opposite ?l_law_opposite ?c_law_opposite ?k_law_opposite ?q_law_both ?l_law_both ?c_law_both ?k_law_both ?q_opposite ?l_opposite ?c_opposite ?k_opposite ?q_Gates_both ?i_Gates_both ?l_Gates_both ?c_Gates_both ?k_Gates_both ?q_law_build ?l_law_build ?c_law_build ?k_law_build ?q_Gates_cone ?i_Gates_cone ?l_Gates_cone ?c_Gates_cone ?k_Gates_cone ?q_Gates_gate_rows ?i_Gates_gate_rows ?l_Gates_gate_rows ?c_Gates_gate_rows ?k_Gates_gate_rows ?q_Encoding_literal ?i_Encoding_literal ?l_Encoding_literal ?c_Encoding_literal ?k_Encoding_literal ?q_normal_clause ?l_normal_clause ?c_normal_clause ?k_normal_clause ?q_Encoding_init ?i_Encoding_init ?l_Encoding_init ?c_Encoding_init ?k_Encoding_init ?q_law_reached ?l_law_reached ?c_law_reached ?k_law_reached ?q_law_letters ?l_law_letters ?c_law_letters ?k_law_letters ?q_law_is_literal ?l_law_is_literal ?c_law_is_literal ?k_law_is_literal ?q_law_literal ?l_law_literal ?c_law_literal ?k_law_literal ?q_law_same ?l_law_same ?c_law_same ?k_law_same ?q_law_clauses ?l_law_clauses ?c_law_clauses ?k_law_clauses ?q_law_is_encoding ?l_law_is_encoding ?c_law_is_encoding ?k_law_is_encoding ?q_law_value ?l_law_value ?c_law_value ?k_law_value ?q_law_truths ?l_law_truths ?c_law_truths ?k_law_truths ?q_law_full ?l_law_full ?c_law_full ?k_law_full ?q_law_all_true ?l_law_all_true ?c_law_all_true ?k_law_all_true ?q_law_means ?l_law_means ?c_law_means ?k_law_means ?q_truth_clauses ?l_truth_clauses ?c_truth_clauses ?k_truth_clauses ?q_law_truth ?l_law_truth ?c_law_truth ?k_law_truth ?q_law ?l_law ?c_law ?k_law ?pg_Gates ?hd_Gates ?po_Gates ?sa_Gates ?mk_Gates ?kc_Gates ?nf_Gates_rows ?nf_Gates_known ?pg_Encoding ?hd_Encoding ?po_Encoding ?sa_Encoding ?mk_Encoding ?kc_Encoding ?nf_Encoding_letters ?nf_Encoding_clauses ?nf_Encoding_gates ?zz_abs ?zz_bool ?zz_dict ?zz_int ?zz_isinstance ?zz_len ?zz_list ?zz_max ?zz_min ?zz_range ?zz_set ?zz_sorted ?zz_tuple ?gc_NO ?gc_YES
    (case qc_Gates => k_is)
    (case qc_Encoding => k_is)
    (case q_law_seed => k_is)
    (case l_law_seed => k_is)
    (case c_law_seed => k_is)
    (case k_law_seed => k_is)
    (case q_law_take => k_is)
    (case l_law_take => k_is)
    (case c_law_take => k_is)
    (case k_law_take => k_is)
    (case q_Gates_init => k_is)
    (case i_Gates_init => k_is)
    (case l_Gates_init => k_is)
    (case c_Gates_init => k_is)
    (case k_Gates_init => k_is)
    (case q_law_letter => k_is)
    (case l_law_letter => k_is)
    (case c_law_letter => k_is)
    (case k_law_letter => k_is)
    (case q_law_row => k_is)
    (case l_law_row => k_is)
    (case c_law_row => k_is)
    (case k_law_row => k_is)
    (case q_Gates_edge_of => k_is)
    (case i_Gates_edge_of => k_is)
    (case l_Gates_edge_of => k_is)
    (case c_Gates_edge_of => k_is)
    (case k_Gates_edge_of => k_is)
    (case q_Gates_leaf => k_is)
    (case i_Gates_leaf => k_is)
    (case l_Gates_leaf => k_is)
    (case c_Gates_leaf => k_is)
    (case k_Gates_leaf => k_is)
    (case q_law_opposite => k_is)
    (case l_law_opposite => k_is)
    (case c_law_opposite => k_is)
    (case k_law_opposite => k_is)
    (case q_law_both => k_is)
    (case l_law_both => k_is)
    (case c_law_both => k_is)
    (case k_law_both => k_is)
    (case q_opposite => k_is)
    (case l_opposite => k_is)
    (case c_opposite => k_is)
    (case k_opposite => k_is)
    (case q_Gates_both => k_is)
    (case i_Gates_both => k_is)
    (case l_Gates_both => k_is)
    (case c_Gates_both => k_is)
    (case k_Gates_both => k_is)
    (case q_law_build => k_is)
    (case l_law_build => k_is)
    (case c_law_build => k_is)
    (case k_law_build => k_is)
    (case q_Gates_cone => k_is)
    (case i_Gates_cone => k_is)
    (case l_Gates_cone => k_is)
    (case c_Gates_cone => k_is)
    (case k_Gates_cone => k_is)
    (case q_Gates_gate_rows => k_is)
    (case i_Gates_gate_rows => k_is)
    (case l_Gates_gate_rows => k_is)
    (case c_Gates_gate_rows => k_is)
    (case k_Gates_gate_rows => k_is)
    (case q_Encoding_literal => k_is)
    (case i_Encoding_literal => k_is)
    (case l_Encoding_literal => k_is)
    (case c_Encoding_literal => k_is)
    (case k_Encoding_literal => k_is)
    (case q_normal_clause => k_is)
    (case l_normal_clause => k_is)
    (case c_normal_clause => k_is)
    (case k_normal_clause => k_is)
    (case q_Encoding_init => k_is)
    (case i_Encoding_init => k_is)
    (case l_Encoding_init => k_is)
    (case c_Encoding_init => k_is)
    (case k_Encoding_init => k_is)
    (case q_law_reached => k_is)
    (case l_law_reached => k_is)
    (case c_law_reached => k_is)
    (case k_law_reached => k_is)
    (case q_law_letters => k_is)
    (case l_law_letters => k_is)
    (case c_law_letters => k_is)
    (case k_law_letters => k_is)
    (case q_law_is_literal => k_is)
    (case l_law_is_literal => k_is)
    (case c_law_is_literal => k_is)
    (case k_law_is_literal => k_is)
    (case q_law_literal => k_is)
    (case l_law_literal => k_is)
    (case c_law_literal => k_is)
    (case k_law_literal => k_is)
    (case q_law_same => k_is)
    (case l_law_same => k_is)
    (case c_law_same => k_is)
    (case k_law_same => k_is)
    (case q_law_clauses => k_is)
    (case l_law_clauses => k_is)
    (case c_law_clauses => k_is)
    (case k_law_clauses => k_is)
    (case q_law_is_encoding => k_is)
    (case l_law_is_encoding => k_is)
    (case c_law_is_encoding => k_is)
    (case k_law_is_encoding => k_is)
    (case q_law_value => k_is)
    (case l_law_value => k_is)
    (case c_law_value => k_is)
    (case k_law_value => k_is)
    (case q_law_truths => k_is)
    (case l_law_truths => k_is)
    (case c_law_truths => k_is)
    (case k_law_truths => k_is)
    (case q_law_full => k_is)
    (case l_law_full => k_is)
    (case c_law_full => k_is)
    (case k_law_full => k_is)
    (case q_law_all_true => k_is)
    (case l_law_all_true => k_is)
    (case c_law_all_true => k_is)
    (case k_law_all_true => k_is)
    (case q_law_means => k_is)
    (case l_law_means => k_is)
    (case c_law_means => k_is)
    (case k_law_means => k_is)
    (case q_truth_clauses => k_is)
    (case l_truth_clauses => k_is)
    (case c_truth_clauses => k_is)
    (case k_truth_clauses => k_is)
    (case q_law_truth => k_is)
    (case l_law_truth => k_is)
    (case c_law_truth => k_is)
    (case k_law_truth => k_is)
    (case q_law => k_is)
    (case l_law => k_is)
    (case c_law => k_is)
    (case k_law => k_is)
    (case pg_Gates => k_is)
    (case hd_Gates => k_is)
    (case po_Gates => k_is)
    (case sa_Gates => k_is)
    (case mk_Gates => k_is)
    (case kc_Gates => k_is)
    (case nf_Gates_rows => k_is)
    (case nf_Gates_known => k_is)
    (case pg_Encoding => k_is)
    (case hd_Encoding => k_is)
    (case po_Encoding => k_is)
    (case sa_Encoding => k_is)
    (case mk_Encoding => k_is)
    (case kc_Encoding => k_is)
    (case nf_Encoding_letters => k_is)
    (case nf_Encoding_clauses => k_is)
    (case nf_Encoding_gates => k_is)
    (case zz_abs => k_is)
    (case zz_bool => k_is)
    (case zz_dict => k_is)
    (case zz_int => k_is)
    (case zz_isinstance => k_is)
    (case zz_len => k_is)
    (case zz_list => k_is)
    (case zz_max => k_is)
    (case zz_min => k_is)
    (case zz_range => k_is)
    (case zz_set => k_is)
    (case zz_sorted => k_is)
    (case zz_tuple => k_is)
    (case gc_NO => k_is)
    (case gc_YES => k_is)
