import PyProof.Rows.All
import Wide.All
import OpenK.AllK
import Wide.FinOn
import HandS.ForMost
import HandS.IsInst
import HandS.Codes
import HandS.More
import HandS.SortInts
import HandS.DictComp
import HandS.Conv
import HandS.Walk
import HandS.SetKeys
import HandS.WideBits
import HandS.Star
import HandS.SetFor
import HandS.Strs
import HandS.Zip
import HandS.GenCall
import HandS.GenList
import HandS.Iter
import PySem.Challenge.RW_someandall_k36_log_lines_exactly
set_option Elab.async false
set_option linter.all false
set_option maxRecDepth 100000
set_option maxHeartbeats 8000000

/-! The own layer over the rules: a frozen heap F, owned cells, their frame; representations of data. -/
namespace G
open PySem PySem.Spec PyProof.Rows L2

abbrev Own := List (Addr × HO)
/-- the frozen heap with the cells over it -/
def ov (F : Hp) : Own → Hp
  | [] => F
  | (a, o) :: cs => upd (ov F cs) a o
/-- the state: frozen part F, owned cells cs, all within H -/
structure Sta (F : Hp) (cs : Own) (H : Hp) : Prop where
  sub : Same F H
  own : ∀ a o, (a, o) ∈ cs → H a = some o ∧ F a = none
  nd : (cs.map (·.1)).Nodup

theorem mem_fst {cs : Own} {a : Addr} {o : HO} (h : (a, o) ∈ cs) : a ∈ cs.map (·.1) := List.mem_map.mpr ⟨_, h, rfl⟩
theorem ov_or {F : Hp} : ∀ {cs : Own} {b : Addr} {o : HO}, ov F cs b = some o → (b, o) ∈ cs ∨ (F b = some o ∧ ∀ u, (b, u) ∉ cs)
  | [], _, _, h => .inr ⟨h, fun _ q => nomatch q⟩
  | (a, u) :: cs, b, o, h => by
    by_cases e : b = a
    · subst e
      have h' : upd (ov F cs) b u b = some o := h
      rw [upd_same] at h'
      cases h'
      exact .inl (.head _)
    · have h' : upd (ov F cs) a u b = some o := h
      rw [upd_ne e] at h'
      rcases ov_or h' with q | ⟨q, n⟩
      · exact .inl (.tail _ q)
      · refine .inr ⟨q, fun v m => ?_⟩
        cases m with
        | head => exact e rfl
        | tail _ m => exact n v m
theorem ov_mem {F : Hp} : ∀ {cs : Own} {b : Addr} {o : HO}, (cs.map (·.1)).Nodup → (b, o) ∈ cs → ov F cs b = some o
  | (a, u) :: cs, b, o, nd, m => by
    have nd' : a ∉ cs.map (·.1) ∧ (cs.map (·.1)).Nodup := List.nodup_cons.mp nd
    cases m with
    | head => exact upd_same
    | tail _ m =>
      have ne : b ≠ a := fun e => nd'.1 (e ▸ mem_fst m)
      show upd (ov F cs) a u b = some o
      rw [upd_ne ne]
      exact ov_mem nd'.2 m
theorem ov_F {F : Hp} : ∀ {cs : Own} {b : Addr} {o : HO}, F b = some o → (∀ a u, (a, u) ∈ cs → F a = none) → ov F cs b = some o
  | [], _, _, h, _ => h
  | (a, u) :: cs, b, o, h, n => by
    have ne : b ≠ a := fun e => by
      have q := n a u (.head _)
      rw [← e, h] at q
      cases q
    show upd (ov F cs) a u b = some o
    rw [upd_ne ne]
    exact ov_F h fun a u m => n a u (.tail _ m)

section
variable {F F0 F' : Hp} {cs R : Own} {H : Hp} {a p : Addr} {o : HO}
theorem Sta.mono0 (S : Sta F cs H) : Sta F cs H := S
/-- what a frame shows stands in the heap -/
theorem Sta.bor (S : Sta F cs H) (f : Same F0 F) (m : ∀ c ∈ R, c ∈ cs) : Same (ov F0 R) H := fun b o h => by
  rcases ov_or h with q | ⟨q, _⟩
  · exact (S.own _ _ (m _ q)).1
  · exact S.sub _ _ (f _ _ q)
/-- .. and in a greater frame -/
theorem Sta.ovR (S : Sta F cs H) (f : Same F0 F) (m : ∀ c ∈ R, c ∈ cs) : Same (ov F0 R) (ov F cs) := fun b o h => by
  rcases ov_or h with q | ⟨q, _⟩
  · exact ov_mem S.nd (m _ q)
  · exact ov_F (f _ _ q) fun a u m => (S.own a u m).2
theorem Sta.ovS (S : Sta F cs H) : Same F (ov F cs) := fun _ _ h => ov_F h fun a u m => (S.own a u m).2
theorem Sta.get (S : Sta F cs H) (i : Nat) (e : cs[i]? = some (a, o)) : H a = some o := (S.own a o (List.mem_of_getElem? e)).1
theorem Sta.getO (S : Sta F cs H) (i : Nat) (e : cs[i]? = some (a, o)) : ov F cs a = some o := ov_mem S.nd (List.mem_of_getElem? e)
theorem nd_set : ∀ {cs : Own} {i : Nat} {a : Addr} {o o' : HO}, cs[i]? = some (a, o) → (cs.set i (a, o')).map (·.1) = cs.map (·.1)
  | [], _, _, _, _, h => by simp at h
  | c :: cs, 0, a, o, o', h => by
    simp at h
    subst h
    rfl
  | c :: cs, i + 1, a, o, o', h => by
    have h' : cs[i]? = some (a, o) := by simpa using h
    show c.1 :: (cs.set i (a, o')).map (·.1) = c.1 :: cs.map (·.1)
    rw [nd_set h']
theorem mem_set : ∀ {cs : Own} {i : Nat} {a : Addr} {o o' : HO} {c : Addr × HO}, (cs.map (·.1)).Nodup → cs[i]? = some (a, o) → c ∈ cs.set i (a, o') → c = (a, o') ∨ (c ∈ cs ∧ c.1 ≠ a)
  | [], _, _, _, _, _, _, h, _ => by simp at h
  | d :: cs, 0, a, o, o', c, nd, h, m => by
    have nd' : d.1 ∉ cs.map (·.1) ∧ (cs.map (·.1)).Nodup := List.nodup_cons.mp nd
    simp at h
    subst h
    have m' : c ∈ (a, o') :: cs := m
    cases m' with
    | head => exact .inl rfl
    | tail _ q => exact .inr ⟨.tail _ q, fun e => nd'.1 (e ▸ mem_fst (o := c.2) q)⟩
  | d :: cs, i + 1, a, o, o', c, nd, h, m => by
    have nd' : d.1 ∉ cs.map (·.1) ∧ (cs.map (·.1)).Nodup := List.nodup_cons.mp nd
    have h' : cs[i]? = some (a, o) := by simpa using h
    have m' : c ∈ d :: cs.set i (a, o') := m
    cases m' with
    | head => exact .inr ⟨.head _, fun e => nd'.1 (e ▸ mem_fst (List.mem_of_getElem? h'))⟩
    | tail _ q =>
      rcases mem_set nd'.2 h' q with z | ⟨z, n⟩
      · exact .inl z
      · exact .inr ⟨.tail _ z, n⟩
theorem Sta.set (S : Sta F cs H) (i : Nat) (e : cs[i]? = some (a, o)) (o' : HO) : Sta F (cs.set i (a, o')) (upd H a o') where
  sub := fun b u h => by
    have ne : b ≠ a := fun q => by
      have z := (S.own a o (List.mem_of_getElem? e)).2
      rw [← q, h] at z
      cases z
    rw [upd_ne ne]
    exact S.sub b u h
  own := fun b u m => by
    rcases mem_set S.nd e m with z | ⟨z, n⟩
    · cases z
      exact ⟨upd_same, (S.own a o (List.mem_of_getElem? e)).2⟩
    · rw [upd_ne n]
      exact S.own b u z
  nd := by
    rw [nd_set e]
    exact S.nd
theorem Sta.noF (S : Sta F cs H) (h : H p = none) : F p = none := S.sub.free h
theorem Sta.noC (S : Sta F cs H) (h : H p = none) {u : HO} : (p, u) ∉ cs := fun m => by
  have z := (S.own p u m).1
  rw [h] at z
  cases z
/-- a new cell -/
theorem Sta.new (S : Sta F cs H) (h : H p = none) (o : HO) : Sta F ((p, o) :: cs) (upd H p o) where
  sub := fun b u q => by
    rw [upd_ne (ne_of_none (S.sub b u q) h)]
    exact S.sub b u q
  own := fun b u m => by
    cases m with
    | head => exact ⟨upd_same, S.noF h⟩
    | tail _ m =>
      rw [upd_ne (ne_of_none (S.own b u m).1 h)]
      exact S.own b u m
  nd := List.nodup_cons.mpr ⟨fun m => by
    obtain ⟨⟨b, u⟩, q, e⟩ := List.mem_map.mp m
    have e' : b = p := e
    subst e'
    exact S.noC h q, S.nd⟩
/-- a new object of the frozen part -/
theorem Sta.newF (S : Sta F cs H) (h : H p = none) (o : HO) : Sta (upd F p o) cs (upd H p o) where
  sub := fun b u q => by
    by_cases e : b = p
    · subst e
      rw [upd_same] at q ⊢
      exact q
    · rw [upd_ne e] at q ⊢
      exact S.sub b u q
  own := fun b u m => by
    have ne : b ≠ p := ne_of_none (S.own b u m).1 h
    rw [upd_ne ne, upd_ne ne]
    exact S.own b u m
  nd := S.nd
theorem Sta.sameF (S : Sta F cs H) (h : H p = none) (o : HO) : Same F (upd F p o) := fun b u q => by
  have ne : b ≠ p := fun e => by
    have z := S.noF h
    rw [← e, q] at z
    cases z
  rw [upd_ne ne]
  exact q
/-- a cell is frozen -/
theorem Sta.frz (S : Sta F ((p, o) :: cs) H) : Sta (upd F p o) cs H where
  sub := fun b u q => by
    by_cases e : b = p
    · subst e
      rw [upd_same] at q
      cases q
      exact (S.own _ _ (.head _)).1
    · rw [upd_ne e] at q
      exact S.sub b u q
  own := fun b u m => by
    have nd' : p ∉ cs.map (·.1) ∧ (cs.map (·.1)).Nodup := List.nodup_cons.mp S.nd
    have ne : b ≠ p := fun e => nd'.1 (e ▸ mem_fst m)
    rw [upd_ne ne]
    exact S.own b u (.tail _ m)
  nd := (List.nodup_cons.mp S.nd).2
theorem Sta.frzS (S : Sta F ((p, o) :: cs) H) : Same F (upd F p o) := fun b u q => by
  have ne : b ≠ p := fun e => by
    have z := (S.own p o (.head _)).2
    rw [← e, q] at z
    cases z
  rw [upd_ne ne]
  exact q
theorem Sta.tl {c : Addr × HO} (S : Sta F (c :: cs) H) : Sta F cs H := ⟨S.sub, fun a o m => S.own a o (.tail _ m), (List.nodup_cons.mp S.nd).2⟩
/-- other cells of the same frame, in another sequence -/
theorem Sta.sel (S : Sta F cs H) {cs' : Own} (nd : (cs'.map (·.1)).Nodup) (m : ∀ c ∈ cs', c ∈ cs) : Sta F cs' H :=
  ⟨S.sub, fun a o q => S.own a o (m _ q), nd⟩
theorem nodup_pick {α : Type} : ∀ {is : List Nat} {xs ys : List α}, xs.Nodup → is.Nodup → is.map (xs[·]?) = ys.map some → ys.Nodup
  | [], _, [], _, _, _ => List.nodup_nil
  | [], _, _ :: _, _, _, e => by simp at e
  | _ :: _, _, [], _, _, e => by simp at e
  | i :: is, xs, y :: ys, hx, hi, e => by
    have hi' := List.nodup_cons.mp hi
    simp at e
    obtain ⟨e1, e2⟩ := e
    refine List.nodup_cons.mpr ⟨fun m => ?_, nodup_pick hx hi'.2 (by simpa using e2)⟩
    have m2 : some y ∈ is.map (xs[·]?) := by
      rw [show is.map (xs[·]?) = ys.map some by simpa using e2]
      exact List.mem_map.mpr ⟨y, m, rfl⟩
    obtain ⟨j, hj, ej⟩ := List.mem_map.mp m2
    obtain ⟨l1, q1⟩ := List.getElem?_eq_some_iff.mp e1
    obtain ⟨l2, q2⟩ := List.getElem?_eq_some_iff.mp (show xs[j]? = some y from ej)
    have : i = j := (List.getElem_inj hx).mp (q1.trans q2.symm)
    exact hi'.1 (this ▸ hj)
/-- the cells at the places is, then the frame -/
theorem Sta.pick (S : Sta F (cs ++ R) H) {cs' : Own} (is : List Nat) (hi : is.Nodup) (e : is.map (cs[·]?) = cs'.map some) : Sta F (cs' ++ R) H := by
  have nd : (cs.map (·.1) ++ R.map (·.1)).Nodup := by
    rw [← List.map_append]
    exact S.nd
  obtain ⟨n1, n2, n3⟩ := List.nodup_append.mp nd
  have sub : ∀ c ∈ cs', c ∈ cs := fun c m => by
    have m2 : some c ∈ is.map (cs[·]?) := by
      rw [e]
      exact List.mem_map.mpr ⟨c, m, rfl⟩
    obtain ⟨j, _, ej⟩ := List.mem_map.mp m2
    exact List.mem_of_getElem? ej
  refine S.sel ?_ fun c m => ?_
  · rw [List.map_append]
    refine List.nodup_append.mpr ⟨nodup_pick (is := is) n1 hi ?_, n2, fun x hx y hy => n3 x ?_ y hy⟩
    · have e2 : (is.map (cs[·]?)).map (Option.map (·.1)) = (cs'.map some).map (Option.map (·.1)) := congrArg _ e
      simpa [List.map_map, Function.comp_def] using e2
    · obtain ⟨c, hc, ec⟩ := List.mem_map.mp hx
      exact List.mem_map.mpr ⟨c, sub c hc, ec⟩
  · rcases List.mem_append.mp m with q | q
    · exact List.mem_append_left _ (sub c q)
    · exact List.mem_append_right _ q
end

/-! ### representations -/
abbrev Rp (α : Type) := Hp → V → α → Prop
class MonoR {α : Type} (r : Rp α) : Prop where
  mono : ∀ {F F' : Hp} {v : V} {x : α}, Same F F' → r F v x → r F' v x
theorem SqL.mono {K : PySem.W.Frag} {H H' : Hp} {a : Addr} {xs : List V} (h : SqL K H a xs) (e : Same H H') : SqL K H' a xs := e.seq h
theorem SqT.mono {K : PySem.W.Frag} {H H' : Hp} {a : Addr} {xs : List V} (h : SqT K H a xs) (e : Same H H') : SqT K H' a xs := by
  rcases h with (h | ⟨o, h⟩) | h
  · exact .inl (.inl (e _ _ h))
  · exact .inl (.inr ⟨o, e _ _ h⟩)
  · exact .inr h
def LR {α : Type} (r : V → α → Prop) : List V → List α → Prop
  | [], [] => True
  | v :: vs, x :: xs => r v x ∧ LR r vs xs
  | _, _ => False
section
variable {α β : Type} {r : V → α → Prop}
theorem LR.length : ∀ {vs : List V} {xs : List α}, LR r vs xs → vs.length = xs.length
  | [], [], _ => rfl
  | _ :: _, _ :: _, h => congrArg (· + 1) (LR.length h.2)
  | [], _ :: _, h => h.elim
  | _ :: _, [], h => h.elim
theorem LR.get : ∀ {vs : List V} {xs : List α} {i : Nat} {x : α}, LR r vs xs → xs[i]? = some x → ∃ v, vs[i]? = some v ∧ r v x
  | [], [], _, _, _, e => by simp at e
  | v :: _, _ :: _, 0, _, h, e => by
    simp at e
    subst e
    exact ⟨v, rfl, h.1⟩
  | _ :: vs, _ :: xs, i + 1, x, h, e => by
    obtain ⟨v, q1, q2⟩ := LR.get (i := i) (x := x) h.2 (by simpa using e)
    exact ⟨v, by simpa using q1, q2⟩
  | [], _ :: _, _, _, h, _ => h.elim
  | _ :: _, [], _, _, h, _ => h.elim
theorem LR.getV : ∀ {vs : List V} {xs : List α} {i : Nat} {v : V}, LR r vs xs → vs[i]? = some v → ∃ x, xs[i]? = some x ∧ r v x
  | [], [], _, _, _, e => by simp at e
  | v :: _, x :: _, 0, _, h, e => by
    simp at e
    subst e
    exact ⟨x, rfl, h.1⟩
  | _ :: vs, _ :: xs, i + 1, v, h, e => by
    obtain ⟨x, q1, q2⟩ := LR.getV (i := i) (v := v) h.2 (by simpa using e)
    exact ⟨x, by simpa using q1, q2⟩
  | [], _ :: _, _, _, h, _ => h.elim
  | _ :: _, [], _, _, h, _ => h.elim
theorem LR.append : ∀ {vs ws : List V} {xs ys : List α}, LR r vs xs → LR r ws ys → LR r (vs ++ ws) (xs ++ ys)
  | [], _, [], _, _, h => h
  | _ :: _, _, _ :: _, _, g, h => ⟨g.1, LR.append g.2 h⟩
  | [], _, _ :: _, _, g, _ => g.elim
  | _ :: _, _, [], _, g, _ => g.elim
theorem LR.snoc {vs : List V} {v : V} {xs : List α} {x : α} (h : LR r vs xs) (g : r v x) : LR r (vs ++ [v]) (xs ++ [x]) := h.append ⟨g, trivial⟩
theorem LR.set : ∀ {vs : List V} {v : V} {xs : List α} {x : α} {i : Nat}, LR r vs xs → r v x → LR r (vs.set i v) (xs.set i x)
  | [], _, [], _, _, _, _ => trivial
  | _ :: _, _, _ :: _, _, 0, h, g => ⟨g, h.2⟩
  | _ :: _, _, _ :: _, _, i + 1, h, g => ⟨h.1, LR.set (i := i) h.2 g⟩
  | [], _, _ :: _, _, _, h, _ => h.elim
  | _ :: _, _, [], _, _, h, _ => h.elim
theorem LR.imp {s : V → α → Prop} (f : ∀ v x, r v x → s v x) : ∀ {vs : List V} {xs : List α}, LR r vs xs → LR s vs xs
  | [], [], _ => trivial
  | _ :: _, _ :: _, h => ⟨f _ _ h.1, LR.imp f h.2⟩
  | [], _ :: _, h => h.elim
  | _ :: _, [], h => h.elim
end
theorem LR.mono {α : Type} {r : Rp α} [m : MonoR r] {F F' : Hp} {vs : List V} {xs : List α} (h : LR (r F) vs xs) (e : Same F F') : LR (r F') vs xs := h.imp fun _ _ q => m.mono e q

def rInt : Rp Int := fun _ v x => v = .int x
def rBool : Rp Bool := fun _ v x => v = .bl x
def rStr : Rp Str := fun _ v x => v = .str x
def rNon : Rp Unit := fun _ v _ => v = .non
instance : MonoR rInt := ⟨fun _ h => h⟩
instance : MonoR rBool := ⟨fun _ h => h⟩
instance : MonoR rStr := ⟨fun _ h => h⟩
instance : MonoR rNon := ⟨fun _ h => h⟩
def rLst {α : Type} (K : PySem.W.Frag) (r : Rp α) : Rp (List α) := fun F v xs => ∃ a vs, v = .ref a ∧ SqL K F a vs ∧ LR (r F) vs xs
def rVT {α : Type} (K : PySem.W.Frag) (r : Rp α) : Rp (List α) := fun F v xs => ∃ a vs, v = .ref a ∧ SqT K F a vs ∧ LR (r F) vs xs
instance {α : Type} {K : PySem.W.Frag} {r : Rp α} [MonoR r] : MonoR (rLst K r) := ⟨fun e ⟨a, vs, h1, h2, h3⟩ => ⟨a, vs, h1, SqL.mono h2 e, h3.mono e⟩⟩
instance {α : Type} {K : PySem.W.Frag} {r : Rp α} [MonoR r] : MonoR (rVT K r) := ⟨fun e ⟨a, vs, h1, h2, h3⟩ => ⟨a, vs, h1, SqT.mono h2 e, h3.mono e⟩⟩
/-- tuples of two, of three -/
def rT2 {α β : Type} (K : PySem.W.Frag) (r : Rp α) (s : Rp β) : Rp (α × β) := fun F v x => ∃ a u w, v = .ref a ∧ SqT K F a [u, w] ∧ r F u x.1 ∧ s F w x.2
def rT3 {α β γ : Type} (K : PySem.W.Frag) (r : Rp α) (s : Rp β) (t : Rp γ) : Rp (α × β × γ) := fun F v x => ∃ a u w z, v = .ref a ∧ SqT K F a [u, w, z] ∧ r F u x.1 ∧ s F w x.2.1 ∧ t F z x.2.2
instance {α β : Type} {K : PySem.W.Frag} {r : Rp α} {s : Rp β} [m : MonoR r] [n : MonoR s] : MonoR (rT2 K r s) :=
  ⟨fun e ⟨a, u, w, h1, h2, h3, h4⟩ => ⟨a, u, w, h1, SqT.mono h2 e, m.mono e h3, n.mono e h4⟩⟩
instance {α β γ : Type} {K : PySem.W.Frag} {r : Rp α} {s : Rp β} {t : Rp γ} [m : MonoR r] [n : MonoR s] [l : MonoR t] : MonoR (rT3 K r s t) :=
  ⟨fun e ⟨a, u, w, z, h1, h2, h3, h4, h5⟩ => ⟨a, u, w, z, h1, SqT.mono h2 e, m.mono e h3, n.mono e h4, l.mono e h5⟩⟩
/-- a tracked tuple of ints and texts (may be a key) -/
def rKT : Rp (List Key) := fun F v ks => ∃ a, v = .ref a ∧ F a = some (.tup (ks.map kV))
instance : MonoR rKT := ⟨fun e ⟨a, h1, h2⟩ => ⟨a, h1, e _ _ h2⟩⟩

/-! ### the mirror's monad: Option; none: nothing is said -/
theorem bnd {α β : Type} {m : Option α} {f : α → Option β} {r : β} (h : m.bind f = some r) : ∃ x, m = some x ∧ f x = some r := by
  cases m with
  | none => cases h
  | some x => exact ⟨x, rfl, h⟩
def grd (b : Bool) : Option Unit := if b then some () else none
theorem grd_ok {b : Bool} {β : Type} {f : Unit → Option β} {r : β} (h : (grd b).bind f = some r) : b = true ∧ f () = some r := by
  cases b with
  | false => cases h
  | true => exact ⟨rfl, h⟩
theorem ifT {α : Type} {c : Bool} {x y : α} {r : α} (h : (if c = true then x else y) = r) (e : c = true) : x = r := by
  rw [if_pos e] at h
  exact h
theorem ifF {α : Type} {c : Bool} {x y : α} {r : α} (h : (if c = true then x else y) = r) (e : ¬ c = true) : y = r := by
  rw [if_neg e] at h
  exact h
theorem bndI {α β : Type} {m : Option α} {f : α → Option β} {r : β} {C : Prop} (k : ∀ x, m = some x → f x = some r → C) : m.bind f = some r → C := fun h => by
  obtain ⟨x, e, h⟩ := bnd h
  exact k x e h
theorem grdI {b : Bool} {β : Type} {f : Unit → Option β} {r : β} {C : Prop} (k : b = true → f () = some r → C) : (grd b).bind f = some r → C := fun h => k (grd_ok h).1 (grd_ok h).2
theorem ifTI {α : Type} {c : Bool} {x y : α} {r : α} {C : Prop} (e : c = true) (k : x = r → C) : (if c = true then x else y) = r → C := fun h => k (ifT h e)
theorem ifFI {α : Type} {c : Bool} {x y : α} {r : α} {C : Prop} (e : ¬ c = true) (k : y = r → C) : (if c = true then x else y) = r → C := fun h => k (ifF h e)
/-- the goals' if -/
theorem goT {c : Bool} {A B : Prop} (e : c = true) (h : A) : if c = true then A else B := by
  rw [if_pos e]
  exact h
theorem goF {c : Bool} {A B : Prop} (e : ¬ c = true) (h : B) : if c = true then A else B := by
  rw [if_neg e]
  exact h
/-- what follows a statement, as a letter -/
theorem seqI {t u : TS} {D : Ends} {σ : L2.St} {H : Hp} (k : ∀ N : L2.St → Hp → Prop, (∀ σ H, u D σ H → N σ H) → t { D with nx := N } σ H) : tSeq t u D σ H := k (u D) fun _ _ h => h
/-- how a loop's turns end -/
inductive Flw (S ρ : Type) where
  | done (s : S)
  | ret (r : ρ)
/-- the state that a caller reads off -/
def small24 : sizeLine = 16777216 := rfl

/-! ### operators by their kinds -/
section
variable {X : Cx}
theorem oI_eq : OpR X (compareOp .Eq) (rI0 fun i j => .bl (decide (i = j))) := by
  intro pins s σ H x y v u Q I rx ry h
  obtain ⟨i, j, rfl, rfl, q⟩ := h
  refine op_eq pins s σ H _ _ v u Q I rx ry ⟨rfl, ?_⟩
  rw [show decide ((V.int i) = V.int j) = decide (i = j) from by by_cases e : i = j <;> simp [e]]
  exact q
theorem oI_ne : OpR X (compareOp .NotEq) (rI0 fun i j => .bl (!decide (i = j))) := by
  intro pins s σ H x y v u Q I rx ry h
  obtain ⟨i, j, rfl, rfl, q⟩ := h
  refine op_ne pins s σ H _ _ v u Q I rx ry ⟨rfl, ?_⟩
  rw [show decide ((V.int i) = V.int j) = decide (i = j) from by by_cases e : i = j <;> simp [e]]
  exact q
def rS0 (g : Str → Str → V) : R2 := fun x y H Q => ∃ i j, x = .str i ∧ y = .str j ∧ Q (g i j) H
theorem oS_eq : OpR X (compareOp .Eq) (rS0 fun i j => .bl (decide (i = j))) := by
  intro pins s σ H x y v u Q I rx ry h
  obtain ⟨i, j, rfl, rfl, q⟩ := h
  refine op_eq pins s σ H _ _ v u Q I rx ry ⟨rfl, ?_⟩
  rw [show decide ((V.str i) = V.str j) = decide (i = j) from by by_cases e : i = j <;> simp [e]]
  exact q
theorem oS_ne : OpR X (compareOp .NotEq) (rS0 fun i j => .bl (!decide (i = j))) := by
  intro pins s σ H x y v u Q I rx ry h
  obtain ⟨i, j, rfl, rfl, q⟩ := h
  refine op_ne pins s σ H _ _ v u Q I rx ry ⟨rfl, ?_⟩
  rw [show decide ((V.str i) = V.str j) = decide (i = j) from by by_cases e : i = j <;> simp [e]]
  exact q
def rB0 (g : Bool → Bool → V) : R2 := fun x y H Q => ∃ i j, x = .bl i ∧ y = .bl j ∧ Q (g i j) H
theorem oB_eq : OpR X (compareOp .Eq) (rB0 fun i j => .bl (decide (i = j))) := by
  intro pins s σ H x y v u Q I rx ry h
  obtain ⟨i, j, rfl, rfl, q⟩ := h
  refine op_eq pins s σ H _ _ v u Q I rx ry ⟨rfl, ?_⟩
  rw [show decide ((V.bl i) = V.bl j) = decide (i = j) from by by_cases e : i = j <;> simp [e]]
  exact q
theorem oB_ne : OpR X (compareOp .NotEq) (rB0 fun i j => .bl (!decide (i = j))) := by
  intro pins s σ H x y v u Q I rx ry h
  obtain ⟨i, j, rfl, rfl, q⟩ := h
  refine op_ne pins s σ H _ _ v u Q I rx ry ⟨rfl, ?_⟩
  rw [show decide ((V.bl i) = V.bl j) = decide (i = j) from by by_cases e : i = j <;> simp [e]]
  exact q
/-- a word between a test (a value) and what follows it -/
@[reducible] def tCutT (t : TT) : TT := fun σ H Q => ∃ P : Bool → Hp → Prop, t σ H P ∧ ∀ b H', P b H' → Q b H'
@[reducible] def tCutE (t : TE) : TE := fun σ H Q => ∃ P : VK, t σ H P ∧ ∀ v H', P v H' → Q v H'
@[reducible] def tPureT (t : TT) : TT := fun σ H Q => ∃ B : Bool, t σ H (fun b H' => b = B ∧ H' = H) ∧ Q B H
@[reducible] def tPureE (t : TE) : TE := fun σ H Q => ∃ B : V, t σ H (fun b H' => b = B ∧ H' = H) ∧ Q B H
theorem pt_cut {e : Expr} {t : TT} (h : PT X e t) : PT X e (tCutT t) := by
  refine ⟨fun pins s σ H Q I q => ?_⟩
  obtain ⟨P, h1, h2⟩ := q
  refine wpAny_mono (h.run pins s σ H P I h1) (fun b s' z => ?_) fun _ _ z => z
  obtain ⟨H', I', p⟩ := z
  exact ⟨H', I', h2 _ _ p⟩
theorem pe_cut {e : Expr} {t : TE} (h : PE X e t) : PE X e (tCutE t) := by
  refine ⟨fun pins s σ H Q I q => ?_⟩
  obtain ⟨P, h1, h2⟩ := q
  refine wpAny_mono (h.run pins s σ H P I h1) (fun b s' z => ?_) fun _ _ z => z
  obtain ⟨v, H', I', r, p⟩ := z
  exact ⟨v, H', I', r, h2 _ _ p⟩
theorem pt_pure {e : Expr} {t : TT} (h : PT X e t) : PT X e (tPureT t) := by
  refine ⟨fun pins s σ H Q I q => ?_⟩
  obtain ⟨B, h1, h2⟩ := q
  exact (pt_cut h).run pins s σ H Q I ⟨_, h1, fun b H' z => by rw [z.1, z.2]; exact h2⟩
theorem pe_pure {e : Expr} {t : TE} (h : PE X e t) : PE X e (tPureE t) := by
  refine ⟨fun pins s σ H Q I q => ?_⟩
  obtain ⟨B, h1, h2⟩ := q
  exact (pe_cut h).run pins s σ H Q I ⟨_, h1, fun b H' z => by rw [z.1, z.2]; exact h2⟩
end
theorem rInt_e {F : Hp} {v : V} {x : Int} (h : rInt F v x) : v = .int x := h
theorem rBool_e {F : Hp} {v : V} {x : Bool} (h : rBool F v x) : v = .bl x := h
theorem rStr_e {F : Hp} {v : V} {x : Str} (h : rStr F v x) : v = .str x := h
theorem rNon_e {F : Hp} {v : V} {x : Unit} (h : rNon F v x) : v = .non := h
/-- None or not -/
def rOpt {α : Type} (r : Rp α) : Rp (Option α) := fun F v x => match x with
  | none => v = .non
  | some y => r F v y
instance {α : Type} {r : Rp α} [m : MonoR r] : MonoR (rOpt r) := ⟨fun {F F' v x} e h => by
  cases x with
  | none => exact h
  | some y => exact m.mono (x := y) e h⟩
theorem rOpt_un {α : Type} {r : Rp α} {F : Hp} {v : V} {x : Option α} {z : α} (e : x = some z) (h : rOpt r F v x) : r F v z := by subst e; exact h
theorem rOpt_some {α : Type} {r : Rp α} {F : Hp} {v : V} {x : α} (h : r F v x) : rOpt r F v (some x) := h

/-! ### checks of the mirror -/
def mulOk (i j : Int) : Bool := decide (-(2 ^ 64) < i ∧ i < 2 ^ 64) || decide (-(2 ^ 64) < j ∧ j < 2 ^ 64)
theorem mulOk_ok {i j : Int} (h : mulOk i j = true) : CMul i j := by
  unfold mulOk at h
  rw [Bool.or_eq_true] at h
  rcases h with h | h
  · exact .inl (of_decide_eq_true h)
  · exact .inr (of_decide_eq_true h)
def divOk (j : Int) : Bool := decide (0 < j ∧ j < 1073741824)
theorem divOk_fdiv {i j : Int} (h : divOk j = true) : CDiv i j := (of_decide_eq_true h : 0 < j ∧ j < 1073741824)
theorem divOk_mod {j : Int} (h : divOk j = true) : 0 < j := (of_decide_eq_true h).1
def rngOk (j : Int) : Bool := decide (-(2 ^ 62) ≤ j ∧ j < 2 ^ 62)
theorem rngOk_lo {j : Int} (h : rngOk j = true) : -(2 ^ 62) ≤ j := (of_decide_eq_true h).1
theorem rngOk_hi {j : Int} (h : rngOk j = true) : j < 2 ^ 62 := (of_decide_eq_true h).2
def rng2Ok (i j : Int) : Bool := decide (-(2 ^ 62) ≤ i ∧ i < 2 ^ 62 ∧ -(2 ^ 62) ≤ j ∧ j < 2 ^ 62)
theorem rng2Ok_ok {i j : Int} (h : rng2Ok i j = true) : -(2 ^ 62) ≤ i ∧ i < 2 ^ 62 ∧ -(2 ^ 62) ≤ j ∧ j < 2 ^ 62 := of_decide_eq_true h

/-! ### lists -/
section
variable {α : Type} {r : V → α → Prop}
theorem LR.isEmpty {vs : List V} {xs : List α} (h : LR r vs xs) : vs.isEmpty = xs.isEmpty := by
  have e := h.length
  cases vs <;> cases xs <;> simp_all
theorem LR.atI {vs : List V} {xs : List α} {i : Int} {x : α} (h : LR r vs xs) (e : atI xs i = some x) : ∃ v, L2.atI vs i = some v ∧ r v x := by
  unfold L2.atI at e ⊢
  rw [h.length]
  cases q : ixN xs.length i with
  | none => rw [q] at e; cases e
  | some j =>
    rw [q] at e
    exact h.get e
theorem LR.dropEnd {vs : List V} {xs : List α} (h : LR r vs xs) : xs.drop vs.length = [] := by rw [h.length, List.drop_length]
end
theorem drop_cons {α : Type} {xs : List α} {i : Nat} {x : α} (h : xs[i]? = some x) : xs.drop i = x :: xs.drop (i + 1) := by
  obtain ⟨l, e⟩ := List.getElem?_eq_some_iff.mp h
  rw [← e]
  exact List.drop_eq_getElem_cons l
def pyRange (lo : Int) (n : Nat) : List Int := (List.range n).map fun (i : Nat) => lo + (i : Int)
theorem pyRange_get {lo : Int} {n i : Nat} (h : i < n) : (pyRange lo n)[i]? = some (lo + (i : Int)) := by
  unfold pyRange
  rw [List.getElem?_map, List.getElem?_range h]
  rfl
theorem pyRange_len {lo : Int} {n : Nat} : (pyRange lo n).length = n := by simp [pyRange]
theorem drop_rng {lo : Int} {n : Nat} : (pyRange lo n).drop n = [] := List.drop_eq_nil_of_le (Nat.le_of_eq pyRange_len)
theorem for_rng {lo : Int} {n : Nat} {g : TG} {tb : TS} {D : Ends} {σ : L2.St} {H : Hp} (Pv : Nat → L2.St → Hp → Prop) (h0 : Pv 0 σ H)
    (hs : ∀ i x σ H, (pyRange lo n)[i]? = some x → Pv i σ H → g (.int x) σ H fun σ2 H2 => tb { D with nx := Pv (i + 1), ct := Pv (i + 1), bk := D.nx } σ2 H2) (hd : ∀ σ H, Pv n σ H → D.nx σ H) :
    ∃ W : Nat → Nat → L2.St → Hp → Prop, (∃ m, W 0 m σ H) ∧ ∀ i m σ H, W i m σ H →
      ((Itr lo n).stop i H ∧ D.nx σ H) ∨ ((Itr lo n).go i H ∧ ∃ N : L2.St → Hp → Prop, (∀ σ' H', N σ' H' → ∃ m', m' < m ∧ W (i + 1) m' σ' H') ∧ ∀ x H', (Itr lo n).yld i H x H' → g x σ H' fun σ2 H2 => tb { D with nx := N, ct := N, bk := D.nx } σ2 H2) :=
  for_range Pv h0 (fun i σ H hi p => hs i _ σ H (pyRange_get hi) p) hd
/-- for over a dict's keys -/
theorem for_keys {d : Addr} {od : Obj} {kvs : List (Key × V)} {g : TG} {tb : TS} {D : Ends} {σ : L2.St} {H : Hp} (Pv : Nat → L2.St → Hp → Prop) (h0 : Pv 0 σ H) (hl : ∀ i σ H, Pv i σ H → H d = some (.frz od (.dK kvs)))
    (hs : ∀ i x σ H, (kvs.map fun kv => kV kv.1)[i]? = some x → Pv i σ H → g x σ H fun σ2 H2 => tb { D with nx := Pv (i + 1), ct := Pv (i + 1), bk := D.nx } σ2 H2) (hd : ∀ σ H, Pv (kvs.map fun kv => kV kv.1).length σ H → D.nx σ H) :
    ∃ W : Nat → Nat → L2.St → Hp → Prop, (∃ m, W 0 m σ H) ∧ ∀ i m σ H, W i m σ H →
      ((Itk d od kvs).stop i H ∧ D.nx σ H) ∨ ((Itk d od kvs).go i H ∧ ∃ N : L2.St → Hp → Prop, (∀ σ' H', N σ' H' → ∃ m', m' < m ∧ W (i + 1) m' σ' H') ∧ ∀ x H', (Itk d od kvs).yld i H x H' → g x σ H' fun σ2 H2 => tb { D with nx := N, ct := N, bk := D.nx } σ2 H2) := by
  refine ⟨fun i m σ H => m = kvs.length - i ∧ i ≤ kvs.length ∧ Pv i σ H, ⟨kvs.length, by simp, Nat.zero_le _, h0⟩, ?_⟩
  rintro i m σ H ⟨rfl, hi, p⟩
  have q := hl i σ H p
  by_cases hlt : i < kvs.length
  · refine .inr ⟨⟨q, hlt⟩, Pv (i + 1), fun σ' H' p' => ⟨kvs.length - (i + 1), by omega, rfl, hlt, p'⟩, fun x H' y => ?_⟩
    obtain ⟨e, k, v, e1, e2⟩ := y
    subst e
    exact hs i x σ _ (by rw [List.getElem?_map, e1, e2]; rfl) p
  · have e : i = kvs.length := by omega
    subst e
    exact .inl ⟨⟨q, Nat.le_refl _⟩, hd σ H (by rw [List.length_map]; exact p)⟩
/-- range with any step -/
def pyRangeC (lo c : Int) (n : Nat) : List Int := (List.range n).map fun (i : Nat) => lo + (i : Int) * c
theorem pyRangeC_get {lo c : Int} {n i : Nat} (h : i < n) : (pyRangeC lo c n)[i]? = some (lo + (i : Int) * c) := by
  unfold pyRangeC
  rw [List.getElem?_map, List.getElem?_range h]
  rfl
theorem pyRangeC_len {lo c : Int} {n : Nat} : (pyRangeC lo c n).length = n := by simp [pyRangeC]
theorem drop_rngC {lo c : Int} {n : Nat} : (pyRangeC lo c n).drop n = [] := List.drop_eq_nil_of_le (Nat.le_of_eq pyRangeC_len)
theorem for_rngC {lo c : Int} {n : Nat} {g : TG} {tb : TS} {D : Ends} {σ : L2.St} {H : Hp} (Pv : Nat → L2.St → Hp → Prop) (h0 : Pv 0 σ H)
    (hs : ∀ i x σ H, (pyRangeC lo c n)[i]? = some x → Pv i σ H → g (.int x) σ H fun σ2 H2 => tb { D with nx := Pv (i + 1), ct := Pv (i + 1), bk := D.nx } σ2 H2) (hd : ∀ σ H, Pv n σ H → D.nx σ H) :
    ∃ W : Nat → Nat → L2.St → Hp → Prop, (∃ m, W 0 m σ H) ∧ ∀ i m σ H, W i m σ H →
      ((Itc lo c n).stop i H ∧ D.nx σ H) ∨ ((Itc lo c n).go i H ∧ ∃ N : L2.St → Hp → Prop, (∀ σ' H', N σ' H' → ∃ m', m' < m ∧ W (i + 1) m' σ' H') ∧ ∀ x H', (Itc lo c n).yld i H x H' → g x σ H' fun σ2 H2 => tb { D with nx := N, ct := N, bk := D.nx } σ2 H2) :=
  for_rangeC Pv h0 (fun i σ H hi p => hs i _ σ H (pyRangeC_get hi) p) hd
theorem rng2_neg {i j : Int} (h : rng2Ok i j = true) : RgC i j (-1) (i - j).toNat := RgC.neg (rng2Ok_ok h).1 (rng2Ok_ok h).2.1 (rng2Ok_ok h).2.2.1 (rng2Ok_ok h).2.2.2
/-- the turns that a while's mirror may take -/
@[irreducible] def fuel : Nat := 1000000000
/-- while, the mirror's fuel its measure -/
theorem while_fuel {c : TT} {tb : TS} {D : Ends} {σ : L2.St} {H : Hp} (Pv : Nat → L2.St → Hp → Prop) (n : Nat) (h0 : Pv n σ H)
    (hs : ∀ m σ H, Pv (m + 1) σ H → c σ H fun b H1 => if b = true then ∃ N : L2.St → Hp → Prop, (∀ σ' H', N σ' H' → ∃ m', m' < m + 1 ∧ Pv m' σ' H') ∧ tb { D with nx := N, ct := N, bk := D.nx } σ H1 else D.nx σ H1)
    (hz : ∀ σ H, Pv 0 σ H → False) : tWhile c tb D σ H := by
  refine ⟨Pv, ⟨n, h0⟩, fun m => ?_⟩
  cases m with
  | zero => exact fun σ H p => (hz σ H p).elim
  | succ m => exact hs m
theorem wh_in {Pv : Nat → L2.St → Hp → Prop} {m : Nat} {tb : TS} {D : Ends} {σ : L2.St} {H : Hp} (h : tb { D with nx := Pv m, ct := Pv m, bk := D.nx } σ H) :
    ∃ N : L2.St → Hp → Prop, (∀ σ' H', N σ' H' → ∃ m', m' < m + 1 ∧ Pv m' σ' H') ∧ tb { D with nx := N, ct := N, bk := D.nx } σ H :=
  ⟨Pv m, fun _ _ p => ⟨m, Nat.lt_succ_self m, p⟩, h⟩

/-! ### dicts: by pairs in order -/
section
variable {κ ν α : Type}
def KR (f : κ → ν) (r : V → α → Prop) : List (ν × V) → List (κ × α) → Prop
  | [], [] => True
  | p :: ps, q :: qs => (p.1 = f q.1 ∧ r p.2 q.2) ∧ KR f r ps qs
  | _, _ => False
def mget [DecidableEq κ] (xs : List (κ × α)) (k : κ) : Option α := (xs.find? fun p => decide (p.1 = k)).map (·.2)
def mput [DecidableEq κ] (xs : List (κ × α)) (k : κ) (x : α) : List (κ × α) :=
  if (xs.any fun p => decide (p.1 = k)) = true then xs.map (fun p => if p.1 = k then (p.1, x) else p) else xs ++ [(k, x)]
theorem kinj_K : ∀ a b : List Key, id a = id b → a = b := fun _ _ h => h
theorem kinj_int : ∀ a b : Int, (Sum.inl a : Key) = Sum.inl b → a = b := fun _ _ h => Sum.inl.inj h
theorem kinj_str : ∀ a b : Str, (Sum.inr a : Key) = Sum.inr b → a = b := fun _ _ h => Sum.inr.inj h
variable {f : κ → ν} {r : V → α → Prop}
theorem KR.nil : KR f r [] [] := trivial
theorem KR.cons {p : ν × V} {q : κ × α} {ps : List (ν × V)} {qs : List (κ × α)} (h1 : p.1 = f q.1) (h2 : r p.2 q.2) (h : KR f r ps qs) : KR f r (p :: ps) (q :: qs) := ⟨⟨h1, h2⟩, h⟩
theorem KR.length : ∀ {ps : List (ν × V)} {qs : List (κ × α)}, KR f r ps qs → ps.length = qs.length
  | [], [], _ => rfl
  | _ :: _, _ :: _, h => congrArg (· + 1) (KR.length h.2)
  | [], _ :: _, h => h.elim
  | _ :: _, [], h => h.elim
theorem KR.imp {s : V → α → Prop} (g : ∀ v x, r v x → s v x) : ∀ {ps : List (ν × V)} {qs : List (κ × α)}, KR f r ps qs → KR f s ps qs
  | [], [], _ => trivial
  | _ :: _, _ :: _, h => ⟨⟨h.1.1, g _ _ h.1.2⟩, KR.imp g h.2⟩
  | [], _ :: _, h => h.elim
  | _ :: _, [], h => h.elim
theorem KR.append : ∀ {ps ps' : List (ν × V)} {qs qs' : List (κ × α)}, KR f r ps qs → KR f r ps' qs' → KR f r (ps ++ ps') (qs ++ qs')
  | [], _, [], _, _, h => h
  | _ :: _, _, _ :: _, _, g, h => ⟨g.1, KR.append g.2 h⟩
  | [], _, _ :: _, _, g, _ => g.elim
  | _ :: _, _, [], _, g, _ => g.elim
variable [DecidableEq κ] [DecidableEq ν]
theorem KR.find (inj : ∀ a b, f a = f b → a = b) (k : κ) : ∀ {ps : List (ν × V)} {qs : List (κ × α)}, KR f r ps qs →
    (mget qs k = none ∧ valV ps (f k) = none) ∨ ∃ x v, mget qs k = some x ∧ valV ps (f k) = some v ∧ r v x
  | [], [], _ => .inl ⟨rfl, rfl⟩
  | p :: ps, q :: qs, h => by
    by_cases e : q.1 = k
    · refine .inr ⟨q.2, p.2, ?_, ?_, h.1.2⟩
      · simp [mget, List.find?_cons, e]
      · exact valV_pos (by rw [h.1.1, e])
    · have e2 : ¬ p.1 = f k := fun z => e (inj _ _ (h.1.1.symm.trans z))
      have e3 : mget (q :: qs) k = mget qs k := by simp [mget, List.find?_cons, e]
      rw [e3, valV_neg e2]
      exact KR.find inj k h.2
  | [], _ :: _, h => h.elim
  | _ :: _, [], h => h.elim
theorem KR.get {ps : List (ν × V)} {qs : List (κ × α)} {k : κ} {x : α} (h : KR f r ps qs) (inj : ∀ a b, f a = f b → a = b) (e : mget qs k = some x) : ∃ v, valV ps (f k) = some v ∧ r v x := by
  rcases h.find inj k with ⟨q, _⟩ | ⟨y, v, q, q2, q3⟩
  · rw [q] at e; cases e
  · rw [q] at e; cases e; exact ⟨v, q2, q3⟩
theorem KR.some_eq {ps : List (ν × V)} {qs : List (κ × α)} (h : KR f r ps qs) (inj : ∀ a b, f a = f b → a = b) (k : κ) : (valV ps (f k)).isSome = (mget qs k).isSome := by
  rcases h.find inj k with ⟨q, q2⟩ | ⟨y, v, q, q2, q3⟩
  · rw [q, q2]; rfl
  · rw [q, q2]; rfl
theorem KR.any (inj : ∀ a b, f a = f b → a = b) (k : κ) : ∀ {ps : List (ν × V)} {qs : List (κ × α)}, KR f r ps qs → (ps.any fun p => decide (p.1 = f k)) = (qs.any fun p => decide (p.1 = k))
  | [], [], _ => rfl
  | p :: ps, q :: qs, h => by
    have e : decide (p.1 = f k) = decide (q.1 = k) := by
      by_cases e : q.1 = k
      · rw [decide_eq_true e, decide_eq_true (by rw [h.1.1, e])]
      · rw [decide_eq_false e, decide_eq_false fun z => e (inj _ _ (h.1.1.symm.trans z))]
    simp only [List.any_cons, e, KR.any inj k h.2]
  | [], _ :: _, h => h.elim
  | _ :: _, [], h => h.elim
theorem KR.map (inj : ∀ a b, f a = f b → a = b) (k : κ) {v : V} {x : α} (g : r v x) : ∀ {ps : List (ν × V)} {qs : List (κ × α)}, KR f r ps qs →
    KR f r (ps.map fun kv => if kv.1 = f k then (kv.1, v) else kv) (qs.map fun p => if p.1 = k then (p.1, x) else p)
  | [], [], _ => trivial
  | p :: ps, q :: qs, h => by
    refine ⟨?_, KR.map inj k g h.2⟩
    dsimp only
    by_cases e : q.1 = k
    · rw [if_pos e, if_pos (show p.1 = f k by rw [h.1.1, e])]
      exact ⟨h.1.1, g⟩
    · rw [if_neg e, if_neg (show ¬ p.1 = f k from fun z => e (inj _ _ (h.1.1.symm.trans z)))]
      exact h.1
  | [], _ :: _, h => h.elim
  | _ :: _, [], h => h.elim
theorem KR.put {ps : List (ν × V)} {qs : List (κ × α)} {k : κ} {v : V} {x : α} (h : KR f r ps qs) (inj : ∀ a b, f a = f b → a = b) (g : r v x) : KR f r (putK ps (f k) v) (mput qs k x) := by
  unfold putK mput
  rw [h.any inj k]
  by_cases c : (qs.any fun p => decide (p.1 = k)) = true
  · rw [if_pos c, if_pos c]
    exact h.map inj k g
  · rw [if_neg c, if_neg c]
    exact h.append ⟨⟨rfl, g⟩, trivial⟩
end
theorem KR.mono {κ ν α : Type} {f : κ → ν} {r : Rp α} [m : MonoR r] {F F' : Hp} {ps : List (ν × V)} {qs : List (κ × α)} (h : KR f (r F) ps qs) (e : Same F F') : KR f (r F') ps qs := h.imp fun _ _ q => m.mono e q
theorem dget_of {H : Hp} {a : Addr} {y : V} {o o' : Option V} (h : DGet H a y o) (e : o = o') : DGet H a y o' := e ▸ h

/-! ### data of any depth, for == -/
class DOk (α : Type) where
  ok : α → Bool
instance : DOk Int := ⟨fun _ => true⟩
instance : DOk Bool := ⟨fun _ => true⟩
instance : DOk Unit := ⟨fun _ => true⟩
instance : DOk Str := ⟨fun x => PyData.strOk x⟩
instance : DOk Key := ⟨fun x => match x with | .inl _ => true | .inr y => PyData.strOk y⟩
instance {α : Type} [DOk α] : DOk (List α) := ⟨fun xs => xs.all DOk.ok⟩
instance {α β : Type} [DOk α] [DOk β] : DOk (α × β) := ⟨fun p => DOk.ok p.1 && DOk.ok p.2⟩
class DPl (α : Type) [DOk α] : Prop where
  pl : ∀ x : α, DOk.ok x = true
instance : DPl Int := ⟨fun _ => rfl⟩
instance : DPl Bool := ⟨fun _ => rfl⟩
instance {α : Type} [DOk α] [DPl α] : DPl (List α) := ⟨fun xs => List.all_eq_true.mpr fun x _ => DPl.pl x⟩
instance {α β : Type} [DOk α] [DOk β] [DPl α] [DPl β] : DPl (α × β) := ⟨fun p => Bool.and_eq_true_iff.mpr ⟨DPl.pl p.1, DPl.pl p.2⟩⟩
class DatR {α : Type} [DecidableEq α] [DOk α] (K : PySem.W.Frag) (r : Rp α) where
  d : α → PyData
  dp : ∀ {H : Hp} {v : V} {x : α}, r H v x → Dp K H v (d x)
  eqv : ∀ x y : α, PyData.eqv (d x) (d y) = decide (x = y)
  shp : ∀ x : α, DOk.ok x = true → (d x).canLay0 = true
  n : Nat
  dep : ∀ x : α, (d x).depth ≤ n
instance {K : PySem.W.Frag} : DatR K rInt := ⟨fun i => .int i, fun {H v x} h => by rw [rInt_e h]; exact .int x, fun x y => by simp [PyData.eqv, BEq.beq], fun _ _ => rfl, 1, fun _ => by simp [PyData.depth]⟩
instance {K : PySem.W.Frag} : DatR K rBool := ⟨fun i => .bool i, fun {H v x} h => by rw [rBool_e h]; exact .bl x, fun x y => by cases x <;> cases y <;> rfl, fun _ _ => rfl, 1, fun _ => by simp [PyData.depth]⟩
instance {K : PySem.W.Frag} : DatR K rStr := ⟨fun i => .str i, fun {H v x} h => by rw [rStr_e h]; exact .str x, fun x y => by
  by_cases e : x = y
  · subst e; simp [PyData.eqv]
  · simp [PyData.eqv, e], fun x h => by simp only [PyData.canLay0]; exact h, 1, fun _ => by simp [PyData.depth]⟩
section
variable {α : Type} [DecidableEq α] [DOk α] {K : PySem.W.Frag} {r : Rp α}
theorem dpAll [D : DatR K r] {H : Hp} : ∀ {vs : List V} {xs : List α}, LR (r H) vs xs → DpAll K H vs (xs.map D.d)
  | [], [], _ => .nil
  | _ :: _, _ :: _, h => .cons (D.dp h.1) (dpAll h.2)
  | [], _ :: _, h => h.elim
  | _ :: _, [], h => h.elim
theorem eqvAll [D : DatR K r] : ∀ xs ys : List α, PyData.eqvAll (xs.map D.d) (ys.map D.d) = decide (xs = ys)
  | [], [] => rfl
  | [], _ :: _ => rfl
  | _ :: _, [] => rfl
  | x :: xs, y :: ys => by
    show (PyData.eqv (D.d x) (D.d y) && PyData.eqvAll (xs.map D.d) (ys.map D.d)) = _
    rw [D.eqv, eqvAll xs ys]
    by_cases e : x = y <;> by_cases e2 : xs = ys <;> simp [e, e2]
theorem shpAll [D : DatR K r] : ∀ xs : List α, DOk.ok xs = true → PyData.canLayAll0 (xs.map D.d) = true
  | [], _ => rfl
  | x :: xs, h => by
    have h' := Bool.and_eq_true_iff.mp (show (DOk.ok x && xs.all DOk.ok) = true from h)
    show (PyData.canLay0 (D.d x) && PyData.canLayAll0 (xs.map D.d)) = true
    rw [D.shp x h'.1, shpAll xs h'.2]
    rfl
theorem depAll [D : DatR K r] : ∀ xs : List α, PyData.depthAll (xs.map D.d) ≤ D.n
  | [] => by simp [PyData.depthAll]
  | x :: xs => by
    have h1 := D.dep x
    have h2 := depAll xs
    simp only [List.map_cons, PyData.depthAll]
    omega
instance [D : DatR K r] : DatR K (rLst K r) := ⟨fun xs => .list (xs.map D.d), fun {H v x} ⟨a, vs, h1, h2, h3⟩ => by rw [h1]; exact .lst h2 (dpAll h3), fun x y => eqvAll x y, fun x h => shpAll x h, D.n + 1, fun x => by
  have := depAll (D := D) x
  simp only [PyData.depth]
  omega⟩
instance [D : DatR K r] : DatR K (rVT K r) := ⟨fun xs => .tuple (xs.map D.d), fun {H v x} ⟨a, vs, h1, h2, h3⟩ => by rw [h1]; exact .tup h2 (dpAll h3), fun x y => eqvAll x y, fun x h => shpAll x h, D.n + 1, fun x => by
  have := depAll (D := D) x
  simp only [PyData.depth]
  omega⟩
theorem dat_shaped [D : DatR K r] (hn : D.n ≤ 64) (x : α) (h : DOk.ok x = true) : SeqAt.shaped (D.d x) = true :=
  Bool.and_eq_true_iff.mpr ⟨D.shp x h, decide_eq_true (Nat.le_trans (D.dep x) hn)⟩
theorem dat_dp [D : DatR K r] {H : Hp} {v : V} {x : α} (h : r H v x) : Dp K H v (D.d x) := D.dp h
theorem dat_eqv [D : DatR K r] (x y : α) : PyData.eqv (D.d x) (D.d y) = decide (x = y) := D.eqv x y
end
instance {K : PySem.W.Frag} : DatR K rKT := ⟨fun ks => .tuple (ks.map fun k => match k with | .inl i => .int i | .inr x => .str x),
  fun {H v x} ⟨a, h1, h2⟩ => by
    rw [h1]
    refine .tup (xs := x.map kV) (.inl (.inl h2)) ?_
    have q : ∀ ks : List Key, DpAll K H (ks.map kV) (ks.map fun k => match k with | .inl i => .int i | .inr x => .str x) := by
      intro ks
      induction ks with
      | nil => exact .nil
      | cons k t ih => cases k with
        | inl i => exact .cons (.int i) ih
        | inr y => exact .cons (.str y) ih
    exact q x,
  fun x y => by
    show PyData.eqvAll _ _ = _
    induction x generalizing y with
    | nil => cases y <;> rfl
    | cons k t ih =>
      cases y with
      | nil => rfl
      | cons l u =>
        show (PyData.eqv _ _ && PyData.eqvAll _ _) = _
        rw [ih u]
        cases k <;> cases l
        · rename_i a b; by_cases e : a = b <;> by_cases e2 : t = u <;> simp [PyData.eqv, e, e2]
        · simp [PyData.eqv]
        · simp [PyData.eqv]
        · rename_i a b; by_cases e : a = b <;> by_cases e2 : t = u <;> simp [PyData.eqv, e, e2],
  fun x h => by
    show PyData.canLayAll0 _ = true
    induction x with
    | nil => rfl
    | cons k t ih =>
      have h' := Bool.and_eq_true_iff.mp (show (DOk.ok k && t.all DOk.ok) = true from h)
      show (PyData.canLay0 _ && PyData.canLayAll0 _) = true
      rw [ih h'.2]
      cases k with
      | inl i => rfl
      | inr y =>
        simp only [PyData.canLay0, Bool.and_true]
        exact h'.1,
  2, fun x => by
    have : ∀ ks : List Key, PyData.depthAll (ks.map fun k => match k with | .inl i => .int i | .inr x => .str x) ≤ 1 := by
      intro ks
      induction ks with
      | nil => simp [PyData.depthAll]
      | cons k t ih => cases k <;> simp [PyData.depthAll, PyData.depth] <;> exact ih
    have := this x
    simp only [PyData.depth]
    omega⟩
theorem tyx_list {K : PySem.W.Frag} {H : Hp} {a : Addr} {xs : List V} (h : SqL K H a xs) : TyX K H (.ref a) (.type "list") := by
  rcases h with (h | ⟨o, h⟩) | ⟨o, _, _, h1, h2, _⟩
  · exact .base (.lst h)
  · exact .base (.frz h)
  · exact .kList h1 h2
theorem tyx_tup {K : PySem.W.Frag} {H : Hp} {a : Addr} {xs : List V} (h : SqT K H a xs) : TyX K H (.ref a) (.type "tuple") := by
  rcases h with (h | ⟨o, h⟩) | ⟨o, _, _, h1, h2, _⟩
  · exact .base (.tup h)
  · exact .fTuple h
  · exact .kTuple h1 h2
/-! ### fields -/
theorem fewl {fs : List (Str × V)} {f : Str} {v : V} {n : Nat} (h : fs.length ≤ n) : (putF f v fs).length ≤ n + 1 := by
  have q : ∀ fs : List (Str × V), (putF f v fs).length ≤ fs.length + 1 := by
    intro fs
    induction fs with
    | nil => exact Nat.le_refl _
    | cons p t ih =>
      show (if p.1 = f then (p.1, v) :: t else p :: putF f v t).length ≤ _
      by_cases e : p.1 = f
      · rw [if_pos e]; exact Nat.le_succ _
      · rw [if_neg e]; exact Nat.succ_le_succ ih
  exact Nat.le_trans (q fs) (Nat.succ_le_succ h)
/-! ### the law's start -/
theorem lr_ints {F : Hp} : ∀ ns : List Int, LR (rInt F) (ns.map V.int) ns
  | [] => trivial
  | _ :: ns => ⟨rfl, lr_ints ns⟩
theorem sta0 (H : Hp) : Sta H ([] ++ ([] : Own)) H := ⟨Same.refl H, (fun _ _ m => nomatch m), List.nodup_nil⟩
section
variable {X : Cx}
/-- sorted(d), a dict with int keys, any number of them -/
def rSortD : List V → Hp → VK → Prop := fun xs H Q => ∃ (a : Addr) (kvs : List (Key × V)) (ks : List Int), xs = [.ref a] ∧ Rd H a (.dK kvs) ∧ kvs.map (·.1) = ks.map Sum.inl ∧
    ∀ (ys : List Int) (p : Addr), ys.Perm ks → ys.Pairwise (· ≤ ·) → H p = none → Q (.ref p) (upd H p (.lst (ys.map V.int)))
theorem call_sortD (hc : X.calm = true) : CallR X (.builtin "sorted") rSortD := by
  intro pins s σ H xs us Q I r ⟨a, kvs, ks, ex, hd, hks, q⟩
  subst ex
  obtain ⟨u, eu, rx⟩ := vals1 r; subst eu; cases rx
  obtain ⟨z, lo, vs, rel, dd⟩ := dk_rd I.hok hd
  obtain ⟨ep, hat⟩ := dd.dictAt
  have hkeys : vs.map (·.1) = ks.map Sum.inl := rel.keys.symm.trans hks
  have hl : vs.length = ks.length := by simpa using congrArg List.length hkeys
  have hkl : kvs.length = ks.length := by simpa using congrArg List.length hks
  have hz : ks.length ≤ sizeLine := by rw [← hkl]; exact z
  refine Calls.call_function_entry kind_sorted plain_sorted entry_sorted
    (args_sorted1 _) ?_
  unfold Builtin.«sorted»
  refine wpAny_bind (m := checkCount "sorted" 1 1 _)
    (wpAny_pure ?_)
  refine wpAny_bind (PySem.W.kdu_collect (A := X.A.in1) (PySem.W.kdl_dict (knd := mixKind X.prog X.w) (kvs := vs) (ep := ep) lo)
    (I.ok.hd hc) hat (by rw [hl]; exact hz) fun h' tk acc hk hacc => ?_)
  have hal : acc.toList.length = ks.length := by rw [Array.length_toList, hacc.1, hl]
  have hS : IntsAre acc.toList ks := by
    refine ints_each hal fun j v e => ?_
    obtain ⟨k, x, e1, e2⟩ := hacc.2 j v (by rw [← Array.getElem?_toList]; exact e)
    have e3 : (ks.map (Sum.inl : Int → Key))[j]? = some k := by rw [← hkeys, List.getElem?_map, e1]; rfl
    rw [List.getElem?_map] at e3
    cases e4 : ks[j]? with
    | none => rw [e4] at e3; cases e3
    | some y =>
      rw [e4] at e3
      cases e3
      rcases keyIs_shape (show keyIs (Sum.inl y) v = true from e2) with ⟨i, t, ek, ev⟩ | ⟨w', t, ek, ev⟩
      · cases ek; exact ⟨y, t, rfl, ev⟩
      · cases ek
  have I1 : Inv X pins σ H { s with heap := h', toks := tk } := I.kept hk
  refine wpAny_bind (wpAny_newList ?_ (by rw [hal]; exact hz))
  have hoL : (h'.push (seqObj "list" acc.toList.toArray 0)).get? h'.objs.size = some (seqObj "list" acc.toList.toArray 0) := Heap.get?_push_size _ rfl
  show wpAny _ _ _ _ _ { s with heap := h'.push (seqObj "list" acc.toList.toArray 0), toks := tk }
  refine wpAny_bind (wpAny_holding (wpAny_call_entry slot_list_sort ⟨_, hoL, rfl⟩ entry_list_sort
    (SrtO.list_sort_ord SrtO.swo_int hoL (by rw [hal]; exact hz) (fun h2 => SrtO.ints_sortable hS h2) fun out g1 g2 => ⟨_, rfl, ?_⟩) (args_list_sort _)))
  obtain ⟨k1, k2, k3⟩ := SrtO.ints_out hS g1 g2
  obtain ⟨e', he'⟩ := sortedHeap_at (vs := acc.toList) (out := out.toArray) hoL
  have hlen : ((out.map SrtO.iv).map V.int).length ≤ sizeLine := by rw [List.length_map, k2.length_eq]; exact hz
  refine wpAny_pure ⟨_, rfl, .ref h'.objs.size, upd H h'.objs.size (.lst ((out.map SrtO.iv).map V.int)), I1.laid (t' := tk) (fun b u e => ?_) (Nat.le_refl _)
    (show ObjOk X.prog X.w _ _ _ (.lst ((out.map SrtO.iv).map V.int)) from ⟨hlen, out, e', vals_of_ints k1, he'⟩), rfl, q _ _ k2 k3 (I1.hok.fresh (Nat.le_refl _))⟩
  have hb : b < h'.objs.size := Heap.lt_size e
  rw [sortedHeap_old (Nat.ne_of_lt hb) (by rw [size_push']; exact Nat.lt_succ_of_lt hb)]
  exact Heap.get?_push_of_some _ e
end
/-- sorted ints are one list -/
theorem sorted_uniq : ∀ {xs ys : List Int}, xs.Perm ys → xs.Pairwise (· ≤ ·) → ys.Pairwise (· ≤ ·) → xs = ys
  | [], ys, h, _, _ => (List.nil_perm.mp h).symm
  | x :: xs, [], h, _, _ => absurd h.length_eq (by simp)
  | x :: xs, y :: ys, h, hx, hy => by
    have h1 := List.pairwise_cons.mp hx
    have h2 := List.pairwise_cons.mp hy
    have e : x = y := by
      have m1 : x ∈ y :: ys := h.mem_iff.mp (.head _)
      have m2 : y ∈ x :: xs := h.mem_iff.mpr (.head _)
      have l1 : y ≤ x := by
        cases m1 with
        | head => exact Int.le_refl _
        | tail _ m => exact h2.1 x m
      have l2 : x ≤ y := by
        cases m2 with
        | head => exact Int.le_refl _
        | tail _ m => exact h1.1 y m
      exact Int.le_antisymm l2 l1
    subst e
    rw [sorted_uniq (List.Perm.cons_inv h) h1.2 h2.2]
def sortI (xs : List Int) : List Int := xs.mergeSort fun a b => decide (a ≤ b)
theorem sortI_perm (xs : List Int) : (sortI xs).Perm xs := List.mergeSort_perm _ _
theorem sortI_sorted (xs : List Int) : (sortI xs).Pairwise (· ≤ ·) := by
  have h := List.pairwise_mergeSort (le := fun (a b : Int) => decide (a ≤ b)) (fun a b c h1 h2 => by simp at *; omega) (fun a b => by simp; omega) xs
  exact h.imp fun h => by simpa using h
theorem sortI_eq {xs ys : List Int} (h : ys.Perm xs) (s : ys.Pairwise (· ≤ ·)) : ys = sortI xs := sorted_uniq (h.trans (sortI_perm xs).symm) s (sortI_sorted xs)
theorem lr_map {F : Hp} : ∀ {vs : List V} {xs : List Int}, LR (rInt F) vs xs → vs = xs.map V.int
  | [], [], _ => rfl
  | _ :: _, _ :: _, h => by rw [rInt_e h.1, lr_map h.2]; rfl
  | [], _ :: _, h => h.elim
  | _ :: _, [], h => h.elim
theorem LR.dropLast {α : Type} {r : V → α → Prop} : ∀ {vs : List V} {xs : List α}, LR r vs xs → LR r vs.dropLast xs.dropLast
  | [], [], _ => trivial
  | [_], [_], _ => trivial
  | _ :: _ :: _, _ :: _ :: _, h => ⟨h.1, LR.dropLast h.2⟩
  | [], _ :: _, h => h.elim
  | _ :: _, [], h => h.elim
  | [_], _ :: _ :: _, h => h.2.elim
  | _ :: _ :: _, [_], h => h.2.elim
theorem LR.last {α : Type} {r : V → α → Prop} {vs : List V} {xs : List α} {x : α} (h : LR r vs xs) (e : xs.getLast? = some x) : ∃ v, vs[vs.length - 1]? = some v ∧ r v x := by
  rw [List.getLast?_eq_getElem?] at e
  rw [h.length]
  exact h.get e
theorem LR.reverse {α : Type} {r : V → α → Prop} : ∀ {vs : List V} {xs : List α}, LR r vs xs → LR r vs.reverse xs.reverse
  | [], [], _ => trivial
  | _ :: _, _ :: _, h => by
    rw [List.reverse_cons, List.reverse_cons]
    exact (LR.reverse h.2).snoc h.1
  | [], _ :: _, h => h.elim
  | _ :: _, [], h => h.elim
theorem LR.take {α : Type} {r : V → α → Prop} : ∀ (n : Nat) {vs : List V} {xs : List α}, LR r vs xs → LR r (vs.take n) (xs.take n)
  | 0, _, _, _ => trivial
  | _ + 1, [], [], _ => trivial
  | n + 1, _ :: _, _ :: _, h => ⟨h.1, LR.take n h.2⟩
  | _ + 1, [], _ :: _, h => h.elim
  | _ + 1, _ :: _, [], h => h.elim
theorem LR.drop {α : Type} {r : V → α → Prop} : ∀ (n : Nat) {vs : List V} {xs : List α}, LR r vs xs → LR r (vs.drop n) (xs.drop n)
  | 0, _, _, h => h
  | _ + 1, [], [], _ => trivial
  | n + 1, _ :: _, _ :: _, h => LR.drop n h.2
  | _ + 1, [], _ :: _, h => h.elim
  | _ + 1, _ :: _, [], h => h.elim
/-- slices -/
def cutL {α : Type} (xs : List α) (lo hi : Option Int) : List α := (xs.drop (HT.sIx xs.length 0 lo)).take (HT.sIx xs.length xs.length hi - HT.sIx xs.length 0 lo)
theorem LR.cut {α : Type} {r : V → α → Prop} {vs : List V} {xs : List α} (h : LR r vs xs) (lo hi : Option Int) : LR r (cutV vs lo hi) (cutL xs lo hi) := by
  unfold cutV cutL
  rw [h.length]
  exact (h.drop _).take _
theorem KR.keysI {α : Type} {r : V → α → Prop} : ∀ {ps : List (Key × V)} {qs : List (Int × α)}, KR Sum.inl r ps qs → ps.map (·.1) = (qs.map (·.1)).map Sum.inl
  | [], [], _ => rfl
  | p :: ps, q :: qs, h => by
    show p.1 :: ps.map (·.1) = Sum.inl q.1 :: (qs.map (·.1)).map Sum.inl
    rw [h.1.1, KR.keysI h.2]
  | [], _ :: _, h => h.elim
  | _ :: _, [], h => h.elim
theorem KR.keysLI {α : Type} {r : V → α → Prop} {F : Hp} : ∀ {ps : List (Key × V)} {qs : List (Int × α)}, KR Sum.inl r ps qs → LR (rInt F) (ps.map fun kv => kV kv.1) (qs.map (·.1))
  | [], [], _ => trivial
  | p :: ps, q :: qs, h => ⟨by show kV p.1 = V.int q.1; rw [h.1.1]; rfl, KR.keysLI h.2⟩
  | [], _ :: _, h => h.elim
  | _ :: _, [], h => h.elim
/-! ### keys as rows: a text first, then numbers -/
def kStr (ks : List Key) (i : Int) : Option Str := (atI ks i).bind fun k => match k with | .inr s => some s | .inl _ => none
def kInt (ks : List Key) (i : Int) : Option Int := (atI ks i).bind fun k => match k with | .inl s => some s | .inr _ => none
theorem atI_map {α β : Type} {xs : List α} {i : Int} {x : α} (f : α → β) (h : atI xs i = some x) : atI (xs.map f) i = some (f x) := by
  unfold L2.atI at h ⊢
  rw [List.length_map]
  cases q : ixN xs.length i with
  | none => rw [q] at h; cases h
  | some j =>
    rw [q] at h
    show (xs.map f)[j]? = _
    rw [List.getElem?_map, show xs[j]? = some x from h]
    rfl
theorem kStr_at {ks : List Key} {i : Int} {s : Str} (h : kStr ks i = some s) : atI (ks.map kV) i = some (V.str s) := by
  obtain ⟨k, e, h⟩ := bnd h
  cases k with
  | inl _ => cases h
  | inr z => cases h; exact atI_map kV e
theorem kInt_at {ks : List Key} {i : Int} {s : Int} (h : kInt ks i = some s) : atI (ks.map kV) i = some (V.int s) := by
  obtain ⟨k, e, h⟩ := bnd h
  cases k with
  | inr _ => cases h
  | inl z => cases h; exact atI_map kV e
/-! ### list comprehensions -/
theorem tYesI {σ : L2.St} {H : Hp} {Q : Bool → Hp → Prop} (h : Q true H) : tYes σ H Q := h
theorem ifYes {A B : Prop} (h : A) : if true = true then A else B := by rw [if_pos rfl]; exact h
def lcO {α β : Type} (f : α → Option (Option β)) : List α → Option (List β)
  | [] => some []
  | x :: t => (f x).bind fun y => (lcO f t).bind fun r => some (match y with | none => r | some b => b :: r)
theorem lcI {α β : Type} {f : α → Option (Option β)} {x : α} {t : List α} {r : List β} {C : Prop} (k : ∀ y r', f x = some y → lcO f t = some r' → r = (match y with | none => r' | some b => b :: r') → C) : lcO f (x :: t) = some r → C := fun h => by
  obtain ⟨y, e1, h⟩ := bnd (show ((f x).bind fun y => (lcO f t).bind fun r => some (match y with | none => r | some b => b :: r)) = some r from h)
  obtain ⟨r', e2, h⟩ := bnd h
  exact k y r' e1 e2 (Option.some.inj h).symm
theorem lc_map {α β : Type} (f : α → β) : ∀ xs : List α, lcO (fun x => some (some (f x))) xs = some (xs.map f)
  | [] => rfl
  | x :: t => by
    show ((lcO (fun x => some (some (f x))) t).bind fun r => some (f x :: r)) = _
    rw [lc_map f t]; rfl
theorem lc_filter {α β : Type} (c : α → Bool) (f : α → β) : ∀ xs : List α, lcO (fun x => if c x = true then some (some (f x)) else some none) xs = some ((xs.filter c).map f)
  | [] => rfl
  | x :: t => by
    show ((if c x = true then some (some (f x)) else some none).bind fun y => (lcO (fun x => if c x = true then some (some (f x)) else some none) t).bind fun r => some (match y with | none => r | some b => b :: r)) = _
    rw [lc_filter c f t]
    by_cases h : c x = true
    · rw [if_pos h, List.filter_cons, if_pos h]; rfl
    · rw [if_neg h, List.filter_cons, if_neg h]; rfl
theorem lc_rng {lo : Int} {n : Nat} {g : TG} {tt : TT} {te : TE} {vs : List Nat} {σ : L2.St} {H1 : Hp} {D : Addr} {Qd : Hp → Prop} (Pv : Nat → Hp → Prop) (h0 : Pv 0 (upd H1 D (.lst [])))
    (hs : ∀ i x H, (pyRange lo n)[i]? = some x → Pv i H → g (.int x) (wipe σ vs) H fun σ2 H2 => wipe σ2 vs = wipe σ vs ∧ tt σ2 H2 fun b H3 =>
      if b = true then te σ2 H3 fun y H4 => ∃ acc, H4 D = some (.lst acc) ∧ acc.length < sizeLine ∧ Pv (i + 1) (upd H4 D (.lst (acc ++ [y]))) else Pv (i + 1) H3) (hd : ∀ H, Pv n H → Qd H) :
    ∃ W : Nat → Nat → Hp → Prop, (∃ m, W 0 m (upd H1 D (.lst []))) ∧ ∀ i m H, W i m H →
      ((Itr lo n).stop i H ∧ Qd H) ∨ ((Itr lo n).go i H ∧ ∃ Nx : Hp → Prop, (∀ H', Nx H' → ∃ m', m' < m ∧ W (i + 1) m' H') ∧ ∀ x H', (Itr lo n).yld i H x H' → g x (wipe σ vs) H' fun σ2 H2 => wipe σ2 vs = wipe σ vs ∧ tt σ2 H2 fun b H3 =>
        if b = true then te σ2 H3 fun y H4 => ∃ acc, H4 D = some (.lst acc) ∧ acc.length < sizeLine ∧ Nx (upd H4 D (.lst (acc ++ [y]))) else Nx H3) :=
  lc_range Pv h0 (fun i H hi p => hs i _ H (pyRange_get hi) p) hd
theorem KR.getD_int {κ : Type} [DecidableEq κ] {f : κ → Key} {F : Hp} {ps : List (Key × V)} {qs : List (κ × Int)} (h : KR f (rInt F) ps qs) (inj : ∀ a b, f a = f b → a = b) (k : κ) (x : Int) : (valV ps (f k)).getD (V.int x) = V.int ((mget qs k).getD x) := by
  rcases h.find inj k with ⟨q, q2⟩ | ⟨y, v, q, q2, q3⟩
  · rw [q, q2]; rfl
  · rw [q, q2, rInt_e q3]; rfl
theorem KR.getD_bool {κ : Type} [DecidableEq κ] {f : κ → Key} {F : Hp} {ps : List (Key × V)} {qs : List (κ × Bool)} (h : KR f (rBool F) ps qs) (inj : ∀ a b, f a = f b → a = b) (k : κ) (x : Bool) : (valV ps (f k)).getD (V.bl x) = V.bl ((mget qs k).getD x) := by
  rcases h.find inj k with ⟨q, q2⟩ | ⟨y, v, q, q2, q3⟩
  · rw [q, q2]; rfl
  · rw [q, q2, rBool_e q3]; rfl
/-! ### equal dicts of plain values -/
def dictEq {κ α : Type} [DecidableEq κ] [DecidableEq α] (x y : List (κ × α)) : Bool := decide (x.length = y.length) && x.all fun p => decide (mget y p.1 = some p.2)
theorem dictEq_int {F : Hp} {f : Int → Key} (inj : ∀ a b, f a = f b → a = b) {ps qs : List (Key × V)} {x y : List (Int × Int)} (h : KR f (rInt F) ps x) (g : KR f (rInt F) qs y) (e : dictEq x y = true) :
    ps.length = qs.length ∧ ∀ p ∈ ps, valV qs p.1 = some p.2 ∧ flatB p.2 = true := by
  have e' := Bool.and_eq_true_iff.mp e
  refine ⟨by rw [h.length, g.length]; exact of_decide_eq_true e'.1, ?_⟩
  have all := List.all_eq_true.mp e'.2
  clear e e'
  induction ps generalizing x with
  | nil => exact fun _ m => nomatch m
  | cons p ps ih =>
    cases x with
    | nil => exact h.elim
    | cons q x =>
      intro p' m
      cases m with
      | head =>
        obtain ⟨v, e1, e2⟩ := g.get inj (of_decide_eq_true (all q (.head _)))
        rw [h.1.1, e1, rInt_e h.1.2, rInt_e e2]
        exact ⟨rfl, rfl⟩
      | tail _ m => exact ih h.2 (fun z hz => all z (.tail _ hz)) p' m
theorem dictEq_bool {F : Hp} {f : Int → Key} (inj : ∀ a b, f a = f b → a = b) {ps qs : List (Key × V)} {x y : List (Int × Bool)} (h : KR f (rBool F) ps x) (g : KR f (rBool F) qs y) (e : dictEq x y = true) :
    ps.length = qs.length ∧ ∀ p ∈ ps, valV qs p.1 = some p.2 ∧ flatB p.2 = true := by
  have e' := Bool.and_eq_true_iff.mp e
  refine ⟨by rw [h.length, g.length]; exact of_decide_eq_true e'.1, ?_⟩
  have all := List.all_eq_true.mp e'.2
  clear e e'
  induction ps generalizing x with
  | nil => exact fun _ m => nomatch m
  | cons p ps ih =>
    cases x with
    | nil => exact h.elim
    | cons q x =>
      intro p' m
      cases m with
      | head =>
        obtain ⟨v, e1, e2⟩ := g.get inj (of_decide_eq_true (all q (.head _)))
        rw [h.1.1, e1, rBool_e h.1.2, rBool_e e2]
        exact ⟨rfl, rfl⟩
      | tail _ m => exact ih h.2 (fun z hz => all z (.tail _ hz)) p' m
/-! ### rules that name K (within comprehensions) -/
section
variable {X : Cx} {K : PySem.W.Frag}
theorem pe_fldK (K : PySem.W.Frag) {e : Expr} {f : Str} {ta : TE} {pos : Pos} (ho : PE X e ta) (hb : attributeBase e f X.env (eval e X.env) = eval e X.env) (hK : X.K = K := by rfl) : PE X (.Attribute e f pos) (tFld K ta f) := by
  subst hK
  exact pe_fld ho hb
theorem ix_listK (K : PySem.W.Frag) (hK : X.K = K := by rfl) : IxR X (rIxL K) := by
  subst hK
  exact ix_list
theorem ix_tupK (K : PySem.W.Frag) (hK : X.K = K := by rfl) : IxR X (rIxT K) := by
  subst hK
  exact ix_tup
theorem op_eqDK (K : PySem.W.Frag) (hu : X.A.units + 64 < cLine) (hK : X.K = K := by rfl) : OpR X (compareOp .Eq) (rEqD K) := by
  subst hK
  exact op_eqD hu
theorem op_neDK (K : PySem.W.Frag) (hu : X.A.units + 64 < cLine) (hK : X.K = K := by rfl) : OpR X (compareOp .NotEq) (rNeD K) := by
  subst hK
  exact op_neD hu
theorem len_seqK (K : PySem.W.Frag) (hK : X.K = K := by rfl) : CallR X (.builtin "len") (fun xs H Q => ∃ p ys, xs = [.ref p] ∧ (SqL K H p ys ∨ SqT K H p ys) ∧ Q (.int (ys.length : Nat)) H) := by
  subst hK
  exact call_len_seq
theorem list_ofK (K : PySem.W.Frag) (hK : X.K = K := by rfl) : CallR X (.type "list") (fun xs H Q => ∃ p ys, xs = [.ref p] ∧ (SqL K H p ys ∨ SqT K H p ys) ∧ ∀ l, H l = none → Q (.ref l) (upd H l (.lst ys))) := by
  subst hK
  exact call_list_of
theorem isiK (K : PySem.W.Frag) (hK : X.K = K := by rfl) : CallR X (.builtin "isinstance") (rIsi K) := by
  subst hK
  exact call_isi
theorem pi_listK (K : PySem.W.Frag) {tg l : Expr} {tl : TE} (hl : PE X l tl) (hK : X.K = K := by rfl) : PI X tg l (iList K tl) := by
  subst hK
  exact pi_list hl
end
theorem DGet.kf {H : Hp} {a : Addr} {od : _} {kvs : List (Key × V)} {k : Key} (e : H a = some (.frz od (.dK kvs))) : DGet H a (kV k) (valV kvs k) := .inl ⟨kvs, k, .inr ⟨_, e⟩, rfl, rfl⟩
theorem DGet.tf {H : Hp} {a b : Addr} {od : _} {kvs : List (List Key × V)} {k : List Key} (e : H a = some (.frz od (.dT kvs))) (eb : H b = some (.tup (k.map kV))) : DGet H a (.ref b) (valV kvs k) := .inr ⟨kvs, k, b, .inr ⟨_, e⟩, rfl, eb, rfl⟩
theorem _root_.L2.FnOk.or {P : Program} {w : World} {K : PySem.W.Frag} {mg : Str → Option Value} {base : Heap} {CX : CXT} {k : Nat} {f : Addr} {fd : FuncData} {ps : List Str} {s1 s2 : Sp}
    (F1 : FnOk P w K mg base CX k f fd ps s1) (F2 : FnOk P w K mg base CX k f fd ps s2) : FnOk P w K mg base CX k f fd ps (fun vs H Q E => s1 vs H Q E ∨ s2 vs H Q E) :=
  ⟨fun vs H Q E h => h.elim (F1.len vs H Q E) (F2.len vs H Q E), fun A outer s H args us vs Q E hr he hb hv h => h.elim (F1.run A outer s H args us vs Q E hr he hb hv) (F2.run A outer s H args us vs Q E hr he hb hv)⟩
theorem ints_in {F : Hp} (x : Int) : ∀ {vs : List V} {m : List Int}, LR (rInt F) vs m → inV (V.int x) vs = decide (x ∈ m) ∧ vs.all flatV = true
  | [], [], _ => ⟨by simp [inV], rfl⟩
  | v :: vs, y :: m, h => by
    obtain ⟨h1, h2⟩ := ints_in x h.2
    obtain rfl := rInt_e h.1
    refine ⟨?_, by simp only [List.all_cons, h2]; rfl⟩
    show (eqV (V.int y) (V.int x) || inV (V.int x) vs) = _
    rw [h1]
    show (decide (y = x) || _) = _
    by_cases c : y = x
    · simp [c]
    · have c2 : ¬ x = y := fun e => c e.symm
      simp [c, c2]
theorem strs_in {F : Hp} (x : Str) : ∀ {vs : List V} {m : List Str}, LR (rStr F) vs m → inV (V.str x) vs = decide (x ∈ m) ∧ vs.all flatV = true
  | [], [], _ => ⟨by simp [inV], rfl⟩
  | v :: vs, y :: m, h => by
    obtain ⟨h1, h2⟩ := strs_in x h.2
    obtain rfl := rStr_e h.1
    refine ⟨?_, by simp only [List.all_cons, h2]; rfl⟩
    show (eqV (V.str y) (V.str x) || inV (V.str x) vs) = _
    rw [h1]
    show (decide (y = x) || _) = _
    by_cases c : y = x
    · simp [c]
    · have c2 : ¬ x = y := fun e => c e.symm
      simp [c, c2]
theorem op_in_seqK {X : Cx} (K : PySem.W.Frag) (hK : X.K = K := by rfl) : OpR X (compareOp .In) (rIn K false) := by
  subst hK
  exact op_in_seq
theorem op_notIn_seqK {X : Cx} (K : PySem.W.Frag) (hK : X.K = K := by rfl) : OpR X (compareOp .NotIn) (rIn K true) := by
  subst hK
  exact op_notIn_seq
theorem LR.eraseIdx {α : Type} {r : V → α → Prop} : ∀ {vs : List V} {xs : List α} (j : Nat), LR r vs xs → LR r (vs.eraseIdx j) (xs.eraseIdx j)
  | [], [], _, _ => trivial
  | _ :: _, _ :: _, 0, h => h.2
  | _ :: _, _ :: _, j + 1, h => ⟨h.1, LR.eraseIdx j h.2⟩
theorem LR.insertIdx {α : Type} {r : V → α → Prop} {v : V} {x : α} (e : r v x) : ∀ {vs : List V} {xs : List α} (j : Nat), LR r vs xs → LR r (vs.take j ++ v :: vs.drop j) (xs.take j ++ x :: xs.drop j)
  | [], [], j, _ => by simp; exact ⟨e, trivial⟩
  | _ :: _, _ :: _, 0, h => ⟨e, h⟩
  | _ :: _, _ :: _, j + 1, h => ⟨h.1, LR.insertIdx e j h.2⟩
theorem pop_ix {α : Type} {r : V → α → Prop} {vs : List V} {xs : List α} {i : Int} {j : Nat} (h : LR r vs xs) (e : ixN xs.length i = some j) : seqIndex? i vs.length = some j := by
  rw [h.length]
  exact (ixN_seq e).1
theorem lr_rg {F : Hp} (a b : Int) : LR (rInt F) (rgV a b) (pyRange a (b - a).toNat) := by
  have e : rgV a b = (pyRange a (b - a).toNat).map V.int := by
    unfold rgV pyRange
    rw [List.map_map]
    rfl
  rw [e]
  exact lr_ints _
def rgOk (a b : Int) : Bool := decide (-(2 ^ 62) ≤ a ∧ a < 2 ^ 62 ∧ -(2 ^ 62) ≤ b ∧ b < 2 ^ 62 ∧ (b - a).toNat ≤ 2 ^ 24)
theorem rgOk_t {a b : Int} (h : rgOk a b = true) : RgOk a b := by unfold rgOk at h; unfold RgOk; exact of_decide_eq_true h
def mdrop {κ α : Type} [DecidableEq κ] (xs : List (κ × α)) (k : κ) : List (κ × α) := xs.filter fun p => decide (p.1 ≠ k)
theorem KR.drop {κ ν α : Type} [DecidableEq κ] [DecidableEq ν] {f : κ → ν} {r : V → α → Prop} (inj : ∀ a b, f a = f b → a = b) (k : κ) : ∀ {ps : List (ν × V)} {qs : List (κ × α)}, KR f r ps qs → KR f r (dropK ps (f k)) (mdrop qs k)
  | [], [], _ => trivial
  | p :: ps, q :: qs, h => by
    have ih := KR.drop inj k h.2
    unfold dropK mdrop at ih ⊢
    by_cases c : q.1 = k
    · have c2 : p.1 = f k := by rw [h.1.1, c]
      rw [List.filter_cons_of_neg (by simpa using c2), List.filter_cons_of_neg (by simpa using c)]
      exact ih
    · have c2 : ¬ p.1 = f k := by rw [h.1.1]; exact fun e => c (inj _ _ e)
      rw [List.filter_cons_of_pos (by simpa using c2), List.filter_cons_of_pos (by simpa using c)]
      exact ⟨h.1, ih⟩
theorem sl_listK {X : Cx} (K : PySem.W.Frag) (hK : X.K = K := by rfl) : SlR X (rSlL K) := by
  subst hK
  exact sl_list
theorem lc_keys {d : Addr} {od : Obj} {kvs : List (Key × V)} {g : TG} {tt : TT} {te : TE} {vs : List Nat} {σ : L2.St} {H1 : Hp} {D : Addr} {Qd : Hp → Prop} (Pv : Nat → Hp → Prop) (h0 : Pv 0 (upd H1 D (.lst [])))
    (hl : ∀ i H, i ≤ kvs.length → Pv i H → H d = some (.frz od (.dK kvs)))
    (hs : ∀ i x H, (kvs.map fun kv => kV kv.1)[i]? = some x → Pv i H → g x (wipe σ vs) H fun σ2 H2 => wipe σ2 vs = wipe σ vs ∧ tt σ2 H2 fun b H3 =>
      if b = true then te σ2 H3 fun y H4 => ∃ acc, H4 D = some (.lst acc) ∧ acc.length < sizeLine ∧ Pv (i + 1) (upd H4 D (.lst (acc ++ [y]))) else Pv (i + 1) H3) (hd : ∀ H, Pv (kvs.map fun kv => kV kv.1).length H → Qd H) :
    ∃ W : Nat → Nat → Hp → Prop, (∃ m, W 0 m (upd H1 D (.lst []))) ∧ ∀ i m H, W i m H →
      ((Itk d od kvs).stop i H ∧ Qd H) ∨ ((Itk d od kvs).go i H ∧ ∃ Nx : Hp → Prop, (∀ H', Nx H' → ∃ m', m' < m ∧ W (i + 1) m' H') ∧ ∀ x H', (Itk d od kvs).yld i H x H' → g x (wipe σ vs) H' fun σ2 H2 => wipe σ2 vs = wipe σ vs ∧ tt σ2 H2 fun b H3 =>
        if b = true then te σ2 H3 fun y H4 => ∃ acc, H4 D = some (.lst acc) ∧ acc.length < sizeLine ∧ Nx (upd H4 D (.lst (acc ++ [y]))) else Nx H3) :=
  lc_it walk_keys Pv h0 hl (fun i x H H' hi p y => by
    obtain ⟨rfl, k, v, e1, rfl⟩ := y
    exact hs i _ _ (by rw [List.getElem?_map, e1]; rfl) p) (fun H p => hd H (by rw [List.length_map]; exact p))
theorem rdMap {H H' : Hp} {a : Addr} {u : HO} (f : ∀ v, H a = some v → H' a = some v) (h : Rd H a u) : Rd H' a u := h.elim (fun e => .inl (f _ e)) fun ⟨o, e⟩ => .inr ⟨o, f _ e⟩
theorem DGet.rd {H : Hp} {a : Addr} {kvs : List (Key × V)} {k : Key} (e : Rd H a (.dK kvs)) : DGet H a (kV k) (valV kvs k) := .inl ⟨kvs, k, e, rfl, rfl⟩
def maxL : List Int → Int
  | [] => 0
  | [x] => x
  | x :: y :: t => if maxL (y :: t) > x then maxL (y :: t) else x
theorem maxL_mem : ∀ {ns : List Int}, 0 < ns.length → maxL ns ∈ ns
  | [x], _ => .head _
  | x :: y :: t, _ => by
    have ih := maxL_mem (ns := y :: t) (by simp)
    unfold maxL
    by_cases c : maxL (y :: t) > x
    · rw [if_pos c]; exact .tail _ ih
    · rw [if_neg c]; exact .head _
theorem maxL_ge : ∀ {ns : List Int} {z : Int}, z ∈ ns → z ≤ maxL ns
  | [x], z, h => by
    have := List.mem_singleton.mp h
    subst this
    exact Int.le_refl _
  | x :: y :: t, z, h => by
    unfold maxL
    rcases List.mem_cons.mp h with e | h
    · subst e; split <;> omega
    · have := maxL_ge (ns := y :: t) h
      split <;> omega
theorem maxL_eq {ns : List Int} {m : Int} (h : m ∈ ns) (g : ∀ y, y ∈ ns → y ≤ m) : m = maxL ns := by
  have h1 := maxL_ge h
  have h2 := g _ (maxL_mem (List.length_pos_of_mem h))
  omega
/-! ### own parts within containers: what an item owns -/
abbrev RO (α : Type) := Hp → V → α → Own → Prop
def roF {α : Type} (r : Rp α) : RO α := fun F v x cs => cs = [] ∧ r F v x
def roM {α : Type} (r : Rp α) : RO (List α) := fun F v xs cs => ∃ a vs, v = .ref a ∧ cs = [(a, HO.lst vs)] ∧ LR (r F) vs xs
def roT2 {α β : Type} (K : PySem.W.Frag) (r : RO α) (s : RO β) : RO (α × β) := fun F v x cs => ∃ a u w c1 c2, v = .ref a ∧ SqT K F a [u, w] ∧ r F u x.1 c1 ∧ s F w x.2 c2 ∧ cs = c1 ++ c2
class MonoO {α : Type} (r : RO α) : Prop where
  mono : ∀ {F F' : Hp} {v : V} {x : α} {cs : Own}, Same F F' → r F v x cs → r F' v x cs
instance {α : Type} {r : Rp α} [m : MonoR r] : MonoO (roF r) := ⟨fun e h => ⟨h.1, m.mono e h.2⟩⟩
instance {α : Type} {r : Rp α} [m : MonoR r] : MonoO (roM r) := ⟨fun e ⟨a, vs, h1, h2, h3⟩ => ⟨a, vs, h1, h2, h3.mono e⟩⟩
instance {α β : Type} {K : PySem.W.Frag} {r : RO α} {s : RO β} [m : MonoO r] [n : MonoO s] : MonoO (roT2 K r s) :=
  ⟨fun e ⟨a, u, w, c1, c2, h1, h2, h3, h4, h5⟩ => ⟨a, u, w, c1, c2, h1, SqT.mono h2 e, m.mono e h3, n.mono e h4, h5⟩⟩
def LRO {α : Type} (r : V → α → Own → Prop) : List V → List α → Own → Prop
  | [], [], cs => cs = []
  | v :: vs, x :: xs, cs => ∃ c1 c2, cs = c1 ++ c2 ∧ r v x c1 ∧ LRO r vs xs c2
  | _, _, _ => False
def KRO {κ ν α : Type} (f : κ → ν) (r : V → α → Own → Prop) : List (ν × V) → List (κ × α) → Own → Prop
  | [], [], cs => cs = []
  | p :: ps, q :: qs, cs => ∃ c1 c2, cs = c1 ++ c2 ∧ (p.1 = f q.1 ∧ r p.2 q.2 c1) ∧ KRO f r ps qs c2
  | _, _, _ => False
/-- an item as it stands in the heap G, its frozen parts in F -/
def vw {α : Type} (ro : RO α) (G F : Hp) : V → α → Prop := fun v x => ∃ cs, ro F v x cs ∧ ∀ c ∈ cs, G c.1 = some c.2
section
variable {α κ ν : Type} {r : V → α → Own → Prop} {f : κ → ν}
theorem LRO.length : ∀ {vs : List V} {xs : List α} {cs : Own}, LRO r vs xs cs → vs.length = xs.length
  | [], [], _, _ => rfl
  | _ :: _, _ :: _, _, ⟨_, _, _, _, h⟩ => congrArg (· + 1) (LRO.length h)
  | [], _ :: _, _, h => h.elim
  | _ :: _, [], _, h => h.elim
theorem KRO.length : ∀ {vs : List (ν × V)} {xs : List (κ × α)} {cs : Own}, KRO f r vs xs cs → vs.length = xs.length
  | [], [], _, _ => rfl
  | _ :: _, _ :: _, _, ⟨_, _, _, _, h⟩ => congrArg (· + 1) (KRO.length h)
  | [], _ :: _, _, h => h.elim
  | _ :: _, [], _, h => h.elim
theorem LRO.imp {s : V → α → Own → Prop} (g : ∀ v x cs, r v x cs → s v x cs) : ∀ {vs : List V} {xs : List α} {cs : Own}, LRO r vs xs cs → LRO s vs xs cs
  | [], [], _, h => h
  | _ :: _, _ :: _, _, ⟨c1, c2, e, h1, h2⟩ => ⟨c1, c2, e, g _ _ _ h1, LRO.imp g h2⟩
  | [], _ :: _, _, h => h.elim
  | _ :: _, [], _, h => h.elim
theorem KRO.imp {s : V → α → Own → Prop} (g : ∀ v x cs, r v x cs → s v x cs) : ∀ {vs : List (ν × V)} {xs : List (κ × α)} {cs : Own}, KRO f r vs xs cs → KRO f s vs xs cs
  | [], [], _, h => h
  | _ :: _, _ :: _, _, ⟨c1, c2, e, h1, h2⟩ => ⟨c1, c2, e, ⟨h1.1, g _ _ _ h1.2⟩, KRO.imp g h2⟩
  | [], _ :: _, _, h => h.elim
  | _ :: _, [], _, h => h.elim
theorem LRO.snoc {v : V} {x : α} {c : Own} (g : r v x c) : ∀ {vs : List V} {xs : List α} {cs : Own}, LRO r vs xs cs → LRO r (vs ++ [v]) (xs ++ [x]) (cs ++ c)
  | [], [], _, h => ⟨c, [], by rw [show _ = [] from h]; simp, g, rfl⟩
  | _ :: _, _ :: _, _, ⟨c1, c2, e, h1, h2⟩ => ⟨c1, c2 ++ c, by rw [e, List.append_assoc], h1, LRO.snoc g h2⟩
  | [], _ :: _, _, h => h.elim
  | _ :: _, [], _, h => h.elim
theorem KRO.snoc {v : V} {k : κ} {x : α} {c : Own} (g : r v x c) : ∀ {vs : List (ν × V)} {xs : List (κ × α)} {cs : Own}, KRO f r vs xs cs → KRO f r (vs ++ [(f k, v)]) (xs ++ [(k, x)]) (cs ++ c)
  | [], [], _, h => ⟨c, [], by rw [show _ = [] from h]; simp, ⟨rfl, g⟩, rfl⟩
  | _ :: _, _ :: _, _, ⟨c1, c2, e, h1, h2⟩ => ⟨c1, c2 ++ c, by rw [e, List.append_assoc], h1, KRO.snoc g h2⟩
  | [], _ :: _, _, h => h.elim
  | _ :: _, [], _, h => h.elim
theorem LRO.toLR {s : V → α → Prop} : ∀ {vs : List V} {xs : List α} {cs : Own}, LRO r vs xs cs → (∀ v x c, r v x c → (∀ y ∈ c, y ∈ cs) → s v x) → LR s vs xs
  | [], [], _, _, _ => trivial
  | v :: vs, x :: xs, cs, ⟨c1, c2, e, h1, h2⟩, g => ⟨g _ _ _ h1 fun y q => by rw [e]; exact List.mem_append_left _ q, LRO.toLR h2 fun v x c q z => g v x c q fun y w => by rw [e]; exact List.mem_append_right _ (z y w)⟩
  | [], _ :: _, _, h, _ => h.elim
  | _ :: _, [], _, h, _ => h.elim
theorem KRO.toKR {s : V → α → Prop} : ∀ {vs : List (ν × V)} {xs : List (κ × α)} {cs : Own}, KRO f r vs xs cs → (∀ v x c, r v x c → (∀ y ∈ c, y ∈ cs) → s v x) → KR f s vs xs
  | [], [], _, _, _ => trivial
  | v :: vs, x :: xs, cs, ⟨c1, c2, e, h1, h2⟩, g => ⟨⟨h1.1, g _ _ _ h1.2 fun y q => by rw [e]; exact List.mem_append_left _ q⟩, KRO.toKR h2 fun v x c q z => g v x c q fun y w => by rw [e]; exact List.mem_append_right _ (z y w)⟩
  | [], _ :: _, _, h, _ => h.elim
  | _ :: _, [], _, h, _ => h.elim
/-- an item taken out, and put back -/
theorem LRO.open_ : ∀ {vs : List V} {xs : List α} {cs : Own} {i : Nat} {x : α}, LRO r vs xs cs → xs[i]? = some x →
    ∃ v c0 c1 c2, vs[i]? = some v ∧ r v x c1 ∧ cs = c0 ++ (c1 ++ c2) ∧ ∀ x' c1', r v x' c1' → LRO r vs (xs.set i x') (c0 ++ (c1' ++ c2))
  | [], [], _, _, _, _, e => by simp at e
  | v :: vs, y :: xs, cs, 0, x, ⟨c1, c2, e, h1, h2⟩, ex => by
    simp at ex
    subst ex
    exact ⟨v, [], c1, c2, rfl, h1, by simpa using e, fun x' c1' q => ⟨c1', c2, by simp, q, h2⟩⟩
  | v :: vs, y :: xs, cs, i + 1, x, ⟨d1, d2, e, h1, h2⟩, ex => by
    obtain ⟨u, c0, c1, c2, q1, q2, q3, q4⟩ := LRO.open_ (i := i) (x := x) h2 (by simpa using ex)
    refine ⟨u, d1 ++ c0, c1, c2, by simpa using q1, q2, by rw [e, q3, List.append_assoc], fun x' c1' q => ⟨d1, c0 ++ (c1' ++ c2), by rw [List.append_assoc], h1, q4 x' c1' q⟩⟩
  | [], _ :: _, _, _, _, h, _ => h.elim
  | _ :: _, [], _, _, _, h, _ => h.elim
def mupd1 [DecidableEq κ] : List (κ × α) → κ → α → List (κ × α)
  | [], _, _ => []
  | q :: qs, k, x => if q.1 = k then (q.1, x) :: qs else q :: mupd1 qs k x
theorem KRO.find [DecidableEq κ] [DecidableEq ν] (inj : ∀ a b, f a = f b → a = b) (k : κ) : ∀ {ps : List (ν × V)} {qs : List (κ × α)} {cs : Own}, KRO f r ps qs cs →
    (mget qs k = none ∧ valV ps (f k) = none) ∨ ∃ x v c0 c1 c2, mget qs k = some x ∧ valV ps (f k) = some v ∧ r v x c1 ∧ cs = c0 ++ (c1 ++ c2) ∧
      ∀ x' c1', r v x' c1' → KRO f r ps (mupd1 qs k x') (c0 ++ (c1' ++ c2))
  | [], [], _, _ => .inl ⟨rfl, rfl⟩
  | p :: ps, q :: qs, cs, ⟨d1, d2, e, h1, h2⟩ => by
    have mc : mget (q :: qs) k = if q.1 = k then some q.2 else mget qs k := by
      unfold mget
      by_cases c : q.1 = k
      · rw [List.find?_cons_of_pos (by simpa using c), if_pos c]; rfl
      · rw [List.find?_cons_of_neg (by simpa using c), if_neg c]
    by_cases c : q.1 = k
    · refine .inr ⟨q.2, p.2, [], d1, d2, by rw [mc, if_pos c], valV_pos (by rw [h1.1, c]), h1.2, by simpa using e, fun x' c1' g => ?_⟩
      unfold mupd1
      rw [if_pos c]
      exact ⟨c1', d2, by simp, ⟨h1.1, g⟩, h2⟩
    · have e2 : ¬ p.1 = f k := fun z => c (inj _ _ (h1.1.symm.trans z))
      rw [mc, if_neg c, valV_neg e2]
      rcases KRO.find inj k h2 with h | ⟨x, v, c0, c1, c2, q1, q2, q3, q4, q5⟩
      · exact .inl h
      · refine .inr ⟨x, v, d1 ++ c0, c1, c2, q1, q2, q3, by rw [e, q4, List.append_assoc], fun x' c1' g => ?_⟩
        unfold mupd1
        rw [if_neg c]
        exact ⟨d1, _, by rw [List.append_assoc], h1, q5 x' c1' g⟩
  | [], _ :: _, _, h => h.elim
  | _ :: _, [], _, h => h.elim
/-- d.setdefault(k, []).append(y) -/
def mapp {β : Type} [DecidableEq κ] (m : List (κ × List β)) (k : κ) (y : β) : List (κ × List β) := match mget m k with
  | some x => mupd1 m k (x ++ [y])
  | none => m ++ [(k, [y])]
end
theorem LRO.mono {α : Type} {r : RO α} [m : MonoO r] {F F' : Hp} {vs : List V} {xs : List α} {cs : Own} (h : LRO (r F) vs xs cs) (e : Same F F') : LRO (r F') vs xs cs := h.imp fun _ _ _ q => m.mono e q
theorem KRO.mono {κ ν α : Type} {f : κ → ν} {r : RO α} [m : MonoO r] {F F' : Hp} {vs : List (ν × V)} {xs : List (κ × α)} {cs : Own} (h : KRO f (r F) vs xs cs) (e : Same F F') : KRO f (r F') vs xs cs := h.imp fun _ _ _ q => m.mono e q
theorem LRO.view {α : Type} {r : RO α} {G F : Hp} {vs : List V} {xs : List α} {cs : Own} (h : LRO (r F) vs xs cs) (g : ∀ c ∈ cs, G c.1 = some c.2) : LR (vw r G F) vs xs := h.toLR fun _ _ c q z => ⟨c, q, fun y w => g y (z y w)⟩
theorem KRO.view {κ ν α : Type} {f : κ → ν} {r : RO α} {G F : Hp} {vs : List (ν × V)} {xs : List (κ × α)} {cs : Own} (h : KRO f (r F) vs xs cs) (g : ∀ c ∈ cs, G c.1 = some c.2) : KR f (vw r G F) vs xs := h.toKR fun _ _ c q z => ⟨c, q, fun y w => g y (z y w)⟩
theorem vw_mono {α : Type} {r : RO α} [m : MonoO r] {G G' F F' : Hp} (eg : Same G G') (ef : Same F F') {v : V} {x : α} (h : vw r G F v x) : vw r G' F' v x := by
  obtain ⟨cs, h1, h2⟩ := h
  exact ⟨cs, m.mono ef h1, fun c q => eg _ _ (h2 c q)⟩
theorem LR.vmono {α : Type} {r : RO α} [MonoO r] {G G' F F' : Hp} {vs : List V} {xs : List α} (h : LR (vw r G F) vs xs) (eg : Same G G') (ef : Same F F') : LR (vw r G' F') vs xs := h.imp fun _ _ q => vw_mono eg ef q
theorem KR.vmono {κ ν α : Type} {f : κ → ν} {r : RO α} [MonoO r] {G G' F F' : Hp} {vs : List (ν × V)} {xs : List (κ × α)} (h : KR f (vw r G F) vs xs) (eg : Same G G') (ef : Same F F') : KR f (vw r G' F') vs xs := h.imp fun _ _ q => vw_mono eg ef q
theorem vw_F {α : Type} {r : Rp α} {G F : Hp} {v : V} {x : α} (h : vw (roF r) G F v x) : r F v x := by obtain ⟨_, h, _⟩ := h; exact h.2
theorem vw_M {α : Type} {K : PySem.W.Frag} {r : Rp α} {G F : Hp} {v : V} {xs : List α} (h : vw (roM r) G F v xs) : ∃ a vs, v = .ref a ∧ SqL K G a vs ∧ LR (r F) vs xs := by
  obtain ⟨_, ⟨a, vs, h1, rfl, h3⟩, g⟩ := h
  exact ⟨a, vs, h1, SqL.of (g _ (.head _)), h3⟩
theorem vw_T2 {α β : Type} {K : PySem.W.Frag} {r : RO α} {s : RO β} {G F : Hp} {v : V} {x : α × β} (h : vw (roT2 K r s) G F v x) : ∃ a u w, v = .ref a ∧ SqT K F a [u, w] ∧ vw r G F u x.1 ∧ vw s G F w x.2 := by
  obtain ⟨_, ⟨a, u, w, c1, c2, h1, h2, h3, h4, rfl⟩, g⟩ := h
  exact ⟨a, u, w, h1, h2, ⟨c1, h3, fun c q => g c (List.mem_append_left _ q)⟩, ⟨c2, h4, fun c q => g c (List.mem_append_right _ q)⟩⟩
/-- frozen: the own parts belong to the frozen heap -/
class FrzO {α : Type} (ro : RO α) (r : Rp α) : Prop where
  frz : ∀ {F : Hp} {v : V} {x : α}, vw ro F F v x → r F v x
instance {α : Type} {r : Rp α} : FrzO (roF r) r := ⟨fun h => vw_F h⟩
instance {α : Type} {K : PySem.W.Frag} {r : Rp α} : FrzO (roM r) (rLst K r) := ⟨fun h => by
  obtain ⟨a, vs, h1, h2, h3⟩ := vw_M (K := K) h
  exact ⟨a, vs, h1, h2, h3⟩⟩
instance {α β : Type} {K : PySem.W.Frag} {ro : RO α} {so : RO β} {r : Rp α} {s : Rp β} [m : FrzO ro r] [n : FrzO so s] : FrzO (roT2 K ro so) (rT2 K r s) := ⟨fun h => by
  obtain ⟨a, u, w, h1, h2, h3, h4⟩ := vw_T2 h
  exact ⟨a, u, w, h1, h2, m.frz h3, n.frz h4⟩⟩
theorem LRO.frz {α : Type} {ro : RO α} {r : Rp α} [m : FrzO ro r] [MonoO ro] {F F' : Hp} {vs : List V} {xs : List α} {cs : Own} (h : LRO (ro F) vs xs cs) (e : Same F F') (g : ∀ c ∈ cs, F' c.1 = some c.2) : LR (r F') vs xs :=
  ((h.mono e).view g).imp fun _ _ q => m.frz q
theorem KRO.frz {κ ν α : Type} {f : κ → ν} {ro : RO α} {r : Rp α} [m : FrzO ro r] [MonoO ro] {F F' : Hp} {vs : List (ν × V)} {xs : List (κ × α)} {cs : Own} (h : KRO f (ro F) vs xs cs) (e : Same F F') (g : ∀ c ∈ cs, F' c.1 = some c.2) : KR f (r F') vs xs :=
  ((h.mono e).view g).imp fun _ _ q => m.frz q
section
variable {F : Hp} {cs ds R : Own} {H : Hp}
theorem Sta.dropL (S : Sta F (cs ++ ds) H) : Sta F ds H := ⟨S.sub, fun a o m => S.own a o (List.mem_append_right _ m), by
  have h := S.nd
  rw [List.map_append] at h
  exact (List.nodup_append.mp h).2.1⟩
theorem Sta.takeL (S : Sta F (cs ++ ds) H) : Sta F cs H := ⟨S.sub, fun a o m => S.own a o (List.mem_append_left _ m), by
  have h := S.nd
  rw [List.map_append] at h
  exact (List.nodup_append.mp h).1⟩
theorem Sta.selfO (S : Sta F cs H) : ∀ c ∈ cs, ov F cs c.1 = some c.2 := fun c q => ov_mem S.nd (show (c.1, c.2) ∈ cs from q)
theorem ov_none : ∀ {cs : Own} {b : Addr}, F b = none → b ∉ cs.map (·.1) → ov F cs b = none
  | [], _, h, _ => h
  | (a, o) :: cs, b, h, n => by
    have n' : ¬ b = a ∧ b ∉ cs.map (·.1) := by simpa using n
    show upd (ov F cs) a o b = none
    rw [upd_ne n'.1]
    exact ov_none h n'.2
/-- cells are frozen all at once -/
theorem Sta.frzL (S : Sta F (cs ++ ds) H) : ∃ F', Same F F' ∧ Sta F' ds H ∧ ∀ c ∈ cs, F' c.1 = some c.2 := by
  have nd := S.nd
  rw [List.map_append] at nd
  obtain ⟨n1, n2, n3⟩ := List.nodup_append.mp nd
  refine ⟨ov F cs, S.takeL.ovS, ⟨S.takeL.bor (Same.refl _) fun _ q => q, fun a o m => ⟨(S.own a o (List.mem_append_right _ m)).1, ov_none (S.own a o (List.mem_append_right _ m)).2 fun q => n3 a q a (mem_fst m) rfl⟩, n2⟩, S.takeL.selfO⟩
def fl : List Own → Own → Own
  | [], R => R
  | s :: ss, R => s ++ fl ss R
theorem fl_eq : ∀ (ss : List Own) (R : Own), fl ss R = ss.flatten ++ R
  | [], _ => rfl
  | s :: ss, R => by
    show s ++ fl ss R = _
    rw [fl_eq ss R, List.flatten_cons, List.append_assoc]
theorem pw_pick {α : Type} {p : α → α → Prop} (sym : ∀ a b, p a b → p b a) {xs : List α} (hx : xs.Pairwise p) : ∀ {is : List Nat} {ys : List α}, is.Nodup → is.map (xs[·]?) = ys.map some → ys.Pairwise p
  | [], [], _, _ => List.Pairwise.nil
  | [], _ :: _, _, e => by simp at e
  | _ :: _, [], _, e => by simp at e
  | i :: is, y :: ys, hi, e => by
    have hi' := List.nodup_cons.mp hi
    simp at e
    obtain ⟨e1, e2⟩ := e
    refine List.Pairwise.cons (fun z hz => ?_) (pw_pick sym hx hi'.2 (by simpa using e2))
    have m2 : some z ∈ is.map (xs[·]?) := by
      rw [show is.map (xs[·]?) = ys.map some by simpa using e2]
      exact List.mem_map.mpr ⟨z, hz, rfl⟩
    obtain ⟨j, hj, ej⟩ := List.mem_map.mp m2
    obtain ⟨l1, q1⟩ := List.getElem?_eq_some_iff.mp e1
    obtain ⟨l2, q2⟩ := List.getElem?_eq_some_iff.mp (show xs[j]? = some z from ej)
    have ne : i ≠ j := fun h => hi'.1 (h ▸ hj)
    subst q1 q2
    rcases Nat.lt_or_gt_of_ne ne with h | h
    · exact List.pairwise_iff_getElem.mp hx i j l1 l2 h
    · exact sym _ _ (List.pairwise_iff_getElem.mp hx j i l2 l1 h)
/-- segments of cells, in another sequence, some left out -/
theorem Sta.pickS {segs segs' : List Own} (is : List Nat) (hi : is.Nodup) (e : is.map (segs[·]?) = segs'.map some) (S : Sta F (fl segs R) H) : Sta F (fl segs' R) H := by
  have sub : ∀ s ∈ segs', s ∈ segs := fun s m => by
    have m2 : some s ∈ is.map (segs[·]?) := by
      rw [e]
      exact List.mem_map.mpr ⟨s, m, rfl⟩
    obtain ⟨j, _, ej⟩ := List.mem_map.mp m2
    exact List.mem_of_getElem? ej
  have nd := S.nd
  rw [fl_eq, List.map_append] at nd
  obtain ⟨n1, n2, n3⟩ := List.nodup_append.mp nd
  have n1' : ((segs.map fun s => s.map (·.1)).flatten).Nodup := by
    rw [← List.map_flatten] ; exact n1
  have pw := List.pairwise_flatten.mp n1'
  have msub : ∀ c, c ∈ segs'.flatten → c ∈ segs.flatten := fun c m => by
    obtain ⟨s, hs, hc⟩ := List.mem_flatten.mp m
    exact List.mem_flatten.mpr ⟨s, sub s hs, hc⟩
  refine S.sel ?_ fun c m => ?_
  · rw [fl_eq, List.map_append]
    refine List.nodup_append.mpr ⟨?_, n2, fun x hx y hy => n3 x ?_ y hy⟩
    · rw [List.map_flatten]
      refine List.pairwise_flatten.mpr ⟨fun l hl => ?_, ?_⟩
      · obtain ⟨s, hs, rfl⟩ := List.mem_map.mp hl
        exact pw.1 _ (List.mem_map.mpr ⟨s, sub s hs, rfl⟩)
      · have h2 := pw.2
        rw [List.pairwise_map] at h2 ⊢
        exact pw_pick (fun a b h x hx y hy => (h y hy x hx).symm) h2 hi e
    · obtain ⟨c, hc, ec⟩ := List.mem_map.mp hx
      exact List.mem_map.mpr ⟨c, msub c hc, ec⟩
  · rw [fl_eq] at m ⊢
    rcases List.mem_append.mp m with q | q
    · exact List.mem_append_left _ (msub c q)
    · exact List.mem_append_right _ q
theorem Sta.jn {a b ys : Own} (S : Sta F (cs ++ (a ++ (b ++ ys))) H) : Sta F (cs ++ ((a ++ b) ++ ys)) H := by
  rw [List.append_assoc]
  exact S
theorem Sta.op3 {a b c ys : Own} (S : Sta F (cs ++ ((a ++ (b ++ c)) ++ ys)) H) : Sta F (b ++ (cs ++ ((a ++ c) ++ ys))) H := by
  rw [List.append_assoc, List.append_assoc] at S
  rw [List.append_assoc]
  exact Sta.pickS (segs := [cs, a, b, c]) (segs' := [b, cs, a, c]) (R := ys) [2, 0, 1, 3] (by decide) rfl S
theorem Sta.cl3 {a b c ys : Own} (S : Sta F (b ++ (cs ++ ((a ++ c) ++ ys))) H) : Sta F (cs ++ ((a ++ (b ++ c)) ++ ys)) H := by
  rw [List.append_assoc] at S
  rw [List.append_assoc, List.append_assoc]
  exact Sta.pickS (segs := [b, cs, a, c]) (segs' := [cs, a, b, c]) (R := ys) [1, 2, 0, 3] (by decide) rfl S
theorem Sta.memO (S : Sta F cs H) (m : ∀ c ∈ R, c ∈ cs) : ∀ c ∈ R, ov F cs c.1 = some c.2 := fun c q => ov_mem S.nd (show (c.1, c.2) ∈ cs from m c q)
end
/-! ### None or not -/
def optE {α β : Type} (m : Option α) (a : β) (f : α → β) : β := match m with
  | none => a
  | some y => f y
theorem optI {α β : Type} {m : Option α} {a : β} {f : α → β} {r : β} {C : Prop} (h0 : m = none → a = r → C) (h1 : ∀ y, m = some y → f y = r → C) : optE m a f = r → C := by
  intro h
  cases m with
  | none => exact h0 rfl h
  | some y => exact h1 y rfl h
theorem rOpt_none {α : Type} {r : Rp α} {F : Hp} {v : V} {x : Option α} (e : x = none) (h : rOpt r F v x) : v = .non := by subst e; exact h
/-- never None -/
class NoNon {α : Type} (r : Rp α) : Prop where
  nn : ∀ {F : Hp} {x : α}, ¬ r F .non x
instance : NoNon rInt := ⟨fun h => by cases rInt_e h⟩
instance : NoNon rBool := ⟨fun h => by cases rBool_e h⟩
instance : NoNon rStr := ⟨fun h => by cases rStr_e h⟩
instance {α : Type} {K : PySem.W.Frag} {r : Rp α} : NoNon (rLst K r) := ⟨fun ⟨_, _, h, _⟩ => by cases h⟩
instance {α : Type} {K : PySem.W.Frag} {r : Rp α} : NoNon (rVT K r) := ⟨fun ⟨_, _, h, _⟩ => by cases h⟩
instance {α β : Type} {K : PySem.W.Frag} {r : Rp α} {s : Rp β} : NoNon (rT2 K r s) := ⟨fun ⟨_, _, _, h, _⟩ => by cases h⟩
instance {α β γ : Type} {K : PySem.W.Frag} {r : Rp α} {s : Rp β} {t : Rp γ} : NoNon (rT3 K r s t) := ⟨fun ⟨_, _, _, _, h, _⟩ => by cases h⟩
instance : NoNon rKT := ⟨fun ⟨_, h, _⟩ => by cases h⟩
theorem opt_isN {α : Type} {r : Rp α} [n : NoNon r] {F : Hp} {v : V} {x : Option α} (h : rOpt r F v x) : decide (v = .non) = x.isNone := by
  cases x with
  | none => obtain rfl := (show v = .non from h); rfl
  | some y => exact decide_eq_false fun e => n.nn (F := F) (x := y) (e ▸ h)
theorem putK_new {ν : Type} [DecidableEq ν] {ps : List (ν × V)} {k : ν} {v : V} (h : valV ps k = none) : putK ps k v = ps ++ [(k, v)] := by
  unfold putK
  rw [if_neg]
  intro c
  obtain ⟨p, hp, e⟩ := List.any_eq_true.mp c
  unfold valV at h
  rw [Option.map_eq_none_iff, List.find?_eq_none] at h
  exact h p hp e
theorem getL {κ ν α : Type} [DecidableEq κ] [DecidableEq ν] {f : κ → ν} {K : PySem.W.Frag} {r : Rp α} {G F : Hp} {kvs : List (ν × V)} {m : List (κ × List α)} (h : KR f (vw (roM r) G F) kvs m) (inj : ∀ a b, f a = f b → a = b) (k : κ) {l : Addr} (hl : SqL K G l []) :
    ∃ a vs, (valV kvs (f k)).getD (V.ref l) = V.ref a ∧ SqL K G a vs ∧ LR (r F) vs ((mget m k).getD []) := by
  rcases h.find inj k with ⟨q, q2⟩ | ⟨x, v, q, q2, q3⟩
  · rw [q, q2]; exact ⟨l, [], rfl, hl, trivial⟩
  · rw [q, q2]
    obtain ⟨a, vs, rfl, h1, h2⟩ := vw_M (K := K) q3
    exact ⟨a, vs, rfl, h1, h2⟩
theorem getLF {κ ν α : Type} [DecidableEq κ] [DecidableEq ν] {f : κ → ν} {K : PySem.W.Frag} {r : Rp α} {F : Hp} {kvs : List (ν × V)} {m : List (κ × List α)} (h : KR f (rLst K r F) kvs m) (inj : ∀ a b, f a = f b → a = b) (k : κ) {l : Addr} (hl : SqL K F l []) :
    ∃ a vs, (valV kvs (f k)).getD (V.ref l) = V.ref a ∧ SqL K F a vs ∧ LR (r F) vs ((mget m k).getD []) := by
  rcases h.find inj k with ⟨q, q2⟩ | ⟨x, v, q, q2, q3⟩
  · rw [q, q2]; exact ⟨l, [], rfl, hl, trivial⟩
  · rw [q, q2]
    obtain ⟨a, vs, rfl, h1, h2⟩ := q3
    exact ⟨a, vs, rfl, h1, h2⟩
/-! ### a list or a tuple: (is it a list, the items) -/
def SqB (K : PySem.W.Frag) (b : Bool) (H : Hp) (a : Addr) (xs : List V) : Prop := if b = true then SqL K H a xs else SqT K H a xs
theorem SqB.mono {K : PySem.W.Frag} {b : Bool} {H H' : Hp} {a : Addr} {xs : List V} (h : SqB K b H a xs) (e : Same H H') : SqB K b H' a xs := by
  cases b with
  | true => exact SqL.mono (show SqL K H a xs from h) e
  | false => exact SqT.mono (show SqT K H a xs from h) e
theorem SqB.or {K : PySem.W.Frag} {b : Bool} {H : Hp} {a : Addr} {xs : List V} (h : SqB K b H a xs) : SqL K H a xs ∨ SqT K H a xs := by
  cases b with
  | true => exact .inl h
  | false => exact .inr h
def rSeq {α : Type} (K : PySem.W.Frag) (r : Rp α) : Rp (Bool × List α) := fun F v x => ∃ a vs, v = .ref a ∧ SqB K x.1 F a vs ∧ LR (r F) vs x.2
instance {α : Type} {K : PySem.W.Frag} {r : Rp α} [MonoR r] : MonoR (rSeq K r) := ⟨fun e ⟨a, vs, h1, h2, h3⟩ => ⟨a, vs, h1, SqB.mono h2 e, h3.mono e⟩⟩
instance {α : Type} {K : PySem.W.Frag} {r : Rp α} : NoNon (rSeq K r) := ⟨fun ⟨_, _, h, _⟩ => by cases h⟩
def roSeq {α : Type} (K : PySem.W.Frag) (r : Rp α) : RO (Bool × List α) := fun F v x cs => ∃ a vs, v = .ref a ∧ (if x.1 = true then cs = [(a, HO.lst vs)] else cs = [] ∧ SqT K F a vs) ∧ LR (r F) vs x.2
instance {α : Type} {K : PySem.W.Frag} {r : Rp α} [MonoR r] : MonoO (roSeq K r) := ⟨fun {F F' v x cs} e ⟨a, vs, h1, h2, h3⟩ => ⟨a, vs, h1, by
  by_cases c : x.1 = true
  · rw [if_pos c] at h2 ⊢; exact h2
  · rw [if_neg c] at h2 ⊢; exact ⟨h2.1, SqT.mono h2.2 e⟩, h3.mono e⟩⟩
theorem vw_S {α : Type} {K : PySem.W.Frag} {r : Rp α} {G F : Hp} (s : Same F G) {v : V} {x : Bool × List α} (h : vw (roSeq K r) G F v x) : ∃ a vs, v = .ref a ∧ SqB K x.1 G a vs ∧ LR (r F) vs x.2 := by
  obtain ⟨cs, ⟨a, vs, h1, h2, h3⟩, g⟩ := h
  refine ⟨a, vs, h1, ?_, h3⟩
  unfold SqB
  by_cases c : x.1 = true
  · rw [if_pos c] at h2 ⊢
    subst h2
    exact SqL.of (g _ (.head _))
  · rw [if_neg c] at h2 ⊢
    exact SqT.mono h2.2 s
instance {α : Type} {K : PySem.W.Frag} {r : Rp α} : FrzO (roSeq K r) (rSeq K r) := ⟨fun h => by
  obtain ⟨a, vs, h1, h2, h3⟩ := vw_S (Same.refl _) h
  exact ⟨a, vs, h1, h2, h3⟩⟩
theorem roSeq_l {α : Type} {K : PySem.W.Frag} {r : Rp α} {F : Hp} {a : Addr} {vs : List V} {xs : List α} (h : LR (r F) vs xs) : roSeq K r F (.ref a) (true, xs) [(a, HO.lst vs)] := ⟨a, vs, rfl, rfl, h⟩
theorem roSeq_t {α : Type} {K : PySem.W.Frag} {r : Rp α} {F : Hp} {a : Addr} {vs : List V} {xs : List α} (hs : SqT K F a vs) (h : LR (r F) vs xs) : roSeq K r F (.ref a) (false, xs) [] := ⟨a, vs, rfl, ⟨rfl, hs⟩, h⟩
instance {α : Type} [DecidableEq α] [DOk α] {K : PySem.W.Frag} {r : Rp α} [D : DatR K r] : DatR K (rSeq K r) := ⟨fun x => if x.1 = true then .list (x.2.map D.d) else .tuple (x.2.map D.d), fun {H v x} ⟨a, vs, h1, h2, h3⟩ => by
    obtain ⟨b, xs⟩ := x
    subst h1
    cases b with
    | true => exact .lst h2 (dpAll h3)
    | false => exact .tup h2 (dpAll h3),
  fun x y => by
    obtain ⟨b, xs⟩ := x
    obtain ⟨c, ys⟩ := y
    cases b <;> cases c
    · exact (eqvAll xs ys).trans (by simp)
    · exact (decide_eq_false fun e => by cases e).symm
    · exact (decide_eq_false fun e => by cases e).symm
    · exact (eqvAll xs ys).trans (by simp),
  fun x h => by
    obtain ⟨b, xs⟩ := x
    have h' : DOk.ok xs = true := (Bool.and_eq_true_iff.mp h).2
    cases b with
    | true => exact shpAll xs h'
    | false => exact shpAll xs h', D.n + 1, fun x => by
    obtain ⟨b, xs⟩ := x
    have := depAll (D := D) xs
    cases b <;> simp only [PyData.depth] <;> simp <;> simp only [PyData.depth] <;> omega⟩
def ItB (K : PySem.W.Frag) (b : Bool) (a : Addr) : It := if b = true then Itl K a else Itt K a
def iSeq (K : PySem.W.Frag) (tl : TE) : TI := fun σ H R => tl σ H fun x H1 => ∃ a b, x = .ref a ∧ (∃ xs, SqB K b H1 a xs) ∧ R (ItB K b a) H1
theorem pi_seq {X : Cx} {tg l : Expr} {tl : TE} (hl : PE X l tl) : PI X tg l (iSeq X.K tl) := by
  refine ⟨fun pins s σ H R I h => ?_⟩
  refine thn (hl.run pins s σ H _ I h) fun v s1 ⟨x, H1, I1, r1, q1⟩ => ?_
  obtain ⟨a, b, e, ⟨xs, hq⟩, q⟩ := q1
  subst e
  cases r1
  cases b with
  | true =>
    obtain ⟨its, rv, p, hz⟩ := I1.list (show SqL X.K H1 a xs from hq)
    refine wpAny_pyIter_list p.isList ?_
    refine ⟨s1.heap.objs.size, [s1.heap.objs.size], _, _, H1, rfl, I1.kept (t' := s1.toks) fun b o e => Heap.get?_push_of_some _ e, turn_list a _, ⟨_, Heap.get?_push_size _ rfl, rfl, rfl⟩, fun b hb => ?_, q⟩
    have e : b = s1.heap.objs.size := by simpa using hb
    subst e
    exact I1.fpOk (Nat.le_refl _) (I1.hok.fresh (Nat.le_refl _))
  | false =>
    obtain ⟨its, rv, p, hz⟩ := I1.tuple (show SqT X.K H1 a xs from hq)
    refine wpAny_pyIter_tuple (show s1.heap.IsTuple a its.toArray from p) ?_
    refine ⟨s1.heap.objs.size, [s1.heap.objs.size], _, _, H1, rfl, I1.kept (t' := s1.toks) fun b o e => Heap.get?_push_of_some _ e, turn_tuple a _, ⟨_, Heap.get?_push_size _ rfl, rfl, rfl⟩, fun b hb => ?_, q⟩
    have e : b = s1.heap.objs.size := by simpa using hb
    subst e
    exact I1.fpOk (Nat.le_refl _) (I1.hok.fresh (Nat.le_refl _))
theorem pi_seqK {X : Cx} (K : PySem.W.Frag) {tg l : Expr} {tl : TE} (hl : PE X l tl) (hK : X.K = K := by rfl) : PI X tg l (iSeq K tl) := by
  subst hK
  exact pi_seq hl
theorem for_seq {K : PySem.W.Frag} {b : Bool} {a : Addr} {xs : List V} {g : TG} {tb : TS} {D : Ends} {σ : L2.St} {H : Hp} (Pv : Nat → L2.St → Hp → Prop) (h0 : Pv 0 σ H) (hl : ∀ i σ H, i ≤ xs.length → Pv i σ H → SqB K b H a xs)
    (hs : ∀ i x σ H, xs[i]? = some x → Pv i σ H → g x σ H fun σ2 H2 => tb { D with nx := Pv (i + 1), ct := Pv (i + 1), bk := D.nx } σ2 H2) (hd : ∀ σ H, Pv xs.length σ H → D.nx σ H) :
    ∃ W : Nat → Nat → L2.St → Hp → Prop, (∃ m, W 0 m σ H) ∧ ∀ i m σ H, W i m σ H →
      ((ItB K b a).stop i H ∧ D.nx σ H) ∨ ((ItB K b a).go i H ∧ ∃ N : L2.St → Hp → Prop, (∀ σ' H', N σ' H' → ∃ m', m' < m ∧ W (i + 1) m' σ' H') ∧ ∀ x H', (ItB K b a).yld i H x H' → g x σ H' fun σ2 H2 => tb { D with nx := N, ct := N, bk := D.nx } σ2 H2) := by
  cases b with
  | true => exact for_list (K := K) (a := a) (xs := xs) Pv h0 hl hs hd
  | false => exact for_tup (K := K) (a := a) (xs := xs) Pv h0 hl hs hd
theorem lc_seq {K : PySem.W.Frag} {b : Bool} {a : Addr} {xs : List V} {g : TG} {tt : TT} {te : TE} {vs : List Nat} {σ : L2.St} {H1 : Hp} {D : Addr} {Qd : Hp → Prop} (Pv : Nat → Hp → Prop) (h0 : Pv 0 (upd H1 D (.lst []))) (hl : ∀ i H, i ≤ xs.length → Pv i H → SqB K b H a xs)
    (hs : ∀ i x H, xs[i]? = some x → Pv i H → g x (wipe σ vs) H fun σ2 H2 => wipe σ2 vs = wipe σ vs ∧ tt σ2 H2 fun b H3 =>
      if b = true then te σ2 H3 fun y H4 => ∃ acc, H4 D = some (.lst acc) ∧ acc.length < sizeLine ∧ Pv (i + 1) (upd H4 D (.lst (acc ++ [y]))) else Pv (i + 1) H3) (hd : ∀ H, Pv xs.length H → Qd H) :
    ∃ W : Nat → Nat → Hp → Prop, (∃ m, W 0 m (upd H1 D (.lst []))) ∧ ∀ i m H, W i m H →
      ((ItB K b a).stop i H ∧ Qd H) ∨ ((ItB K b a).go i H ∧ ∃ Nx : Hp → Prop, (∀ H', Nx H' → ∃ m', m' < m ∧ W (i + 1) m' H') ∧ ∀ x H', (ItB K b a).yld i H x H' → g x (wipe σ vs) H' fun σ2 H2 => wipe σ2 vs = wipe σ vs ∧ tt σ2 H2 fun b H3 =>
        if b = true then te σ2 H3 fun y H4 => ∃ acc, H4 D = some (.lst acc) ∧ acc.length < sizeLine ∧ Nx (upd H4 D (.lst (acc ++ [y]))) else Nx H3) := by
  cases b with
  | true => exact lc_list (K := K) (a := a) (xs := xs) Pv h0 hl hs hd
  | false => exact lc_tup (K := K) (a := a) (xs := xs) Pv h0 hl hs hd
/-- a subscript of either -/
def rIxB (K : PySem.W.Frag) : R2 := fun x y H Q => ∃ b, if b = true then rIxL K x y H Q else rIxT K x y H Q
theorem ix_seqK {X : Cx} (K : PySem.W.Frag) (hK : X.K = K := by rfl) : IxR X (rIxB K) := by
  subst hK
  intro value slice pins s σ H x y v u Q I rx ry h hs
  obtain ⟨b, h⟩ := h
  cases b with
  | true => exact ix_list value slice pins s σ H x y v u Q I rx ry h hs
  | false => exact ix_tup value slice pins s σ H x y v u Q I rx ry h hs
theorem rIxB_mk {K : PySem.W.Frag} {b : Bool} {x : V} {i : Int} {H : Hp} {Q : VK} {p : Addr} {xs : List V} {y : V} (e : x = .ref p) (h : SqB K b H p xs) (a : atI xs i = some y) (q : Q y H) : rIxB K x (V.int i) H Q := by
  cases b with
  | true => exact ⟨true, p, xs, i, y, e, rfl, h, a, q⟩
  | false => exact ⟨false, p, xs, i, y, e, rfl, h, a, q⟩
/-- type tests of either -/
theorem tyx_seq {K : PySem.W.Frag} {b : Bool} {H : Hp} {a : Addr} {xs : List V} (h : SqB K b H a xs) : TyX K H (.ref a) (.type (if b = true then "list" else "tuple")) := by
  cases b with
  | true => exact tyx_list h
  | false => exact tyx_tup h
theorem kit_seqL {K : PySem.W.Frag} (b : Bool) : PySem.W.kitOne K (.type (if b = true then "list" else "tuple")) (.type "list") = some b := by
  cases b with
  | true => exact kit_ty (by decide +kernel)
  | false => exact kit_ty (by decide +kernel)
theorem kit_seqT {K : PySem.W.Frag} (b : Bool) : PySem.W.kitOne K (.type (if b = true then "list" else "tuple")) (.type "tuple") = some (!b) := by
  cases b with
  | true => exact kit_ty (by decide +kernel)
  | false => exact kit_ty (by decide +kernel)
/-! ### an item taken out of a list -/
def msetI {α : Type} (xs : List α) (i : Int) (x : α) : List α := match ixN xs.length i with
  | some j => xs.set j x
  | none => xs
theorem LRO.openI {α : Type} {r : V → α → Own → Prop} {vs : List V} {xs : List α} {cs : Own} {i : Int} {x : α} (h : LRO r vs xs cs) (e : atI xs i = some x) :
    ∃ v c0 c1 c2, atI vs i = some v ∧ r v x c1 ∧ cs = c0 ++ (c1 ++ c2) ∧ ∀ x' c1', r v x' c1' → LRO r vs (msetI xs i x') (c0 ++ (c1' ++ c2)) := by
  unfold L2.atI at e
  cases q : ixN xs.length i with
  | none => rw [q] at e; cases e
  | some j =>
    rw [q] at e
    obtain ⟨v, c0, c1, c2, q1, q2, q3, q4⟩ := LRO.open_ (i := j) (x := x) h e
    refine ⟨v, c0, c1, c2, ?_, q2, q3, fun x' c1' g => ?_⟩
    · unfold L2.atI
      rw [h.length, q]
      exact q1
    · unfold msetI
      rw [q]
      exact q4 x' c1' g
theorem Sta.ovS0 {F0 F : Hp} {cs R : Own} {H : Hp} (S : Sta F cs H) (e : Same F0 F) (m : ∀ c ∈ R, c ∈ cs) : Same F0 (ov F0 R) := fun _ _ h => ov_F h fun a u q => e.free (S.own a u (m _ q)).2
theorem sqB_l {K : PySem.W.Frag} {H : Hp} {a : Addr} {xs : List V} (h : SqL K H a xs) : SqB K true H a xs := h
theorem sqB_t {K : PySem.W.Frag} {H : Hp} {a : Addr} {xs : List V} (h : SqT K H a xs) : SqB K false H a xs := h
theorem tyx_opt {α : Type} {r : Rp α} {T : String} {K : PySem.W.Frag} {F H : Hp} {v : V} {m : Option α} (h : rOpt r F v m) (hT : ∀ {x : α}, r F v x → TyX K H v (.type T)) : TyX K H v (.type (if m.isSome = true then T else "NoneType")) := by
  cases m with
  | none => obtain rfl := (show v = .non from h); exact .base .non
  | some y => exact hT (x := y) h
theorem kit_optY {K : PySem.W.Frag} {T c : String} {s : Bool} (h1 : kitB T c = some true) (h2 : kitB "NoneType" c = some false) : PySem.W.kitOne K (.type (if s = true then T else "NoneType")) (.type c) = some s := by
  cases s with
  | true => exact kit_ty h1
  | false => exact kit_ty h2
theorem kit_optN {K : PySem.W.Frag} {T c : String} {s : Bool} (h1 : kitB T c = some false) (h2 : kitB "NoneType" c = some false) : PySem.W.kitOne K (.type (if s = true then T else "NoneType")) (.type c) = some false := by
  cases s with
  | true => exact kit_ty h1
  | false => exact kit_ty h2
/-- None, or something with own parts -/
def roO {α : Type} (r : RO α) : RO (Option α) := fun F v x cs => match x with
  | none => v = .non ∧ cs = []
  | some y => r F v y cs
instance {α : Type} {r : RO α} [m : MonoO r] : MonoO (roO r) := ⟨fun {F F' v x cs} e h => by
  cases x with
  | none => exact h
  | some y => exact m.mono (x := y) e h⟩
theorem roO_none {α : Type} {r : RO α} {F : Hp} {v : V} {x : Option α} {cs : Own} (e : x = none) (h : roO r F v x cs) : v = .non ∧ cs = [] := by subst e; exact h
theorem roO_some {α : Type} {r : RO α} {F : Hp} {v : V} {x : Option α} {y : α} {cs : Own} (e : x = some y) (h : roO r F v x cs) : r F v y cs := by subst e; exact h
theorem vwO_none {α : Type} {r : RO α} {G F : Hp} {v : V} {x : Option α} (e : x = none) (h : vw (roO r) G F v x) : v = .non := by
  obtain ⟨cs, h, _⟩ := h
  exact (roO_none e h).1
theorem vwO_some {α : Type} {r : RO α} {G F : Hp} {v : V} {x : Option α} {y : α} (e : x = some y) (h : vw (roO r) G F v x) : vw r G F v y := by
  obtain ⟨cs, h, g⟩ := h
  exact ⟨cs, roO_some e h, g⟩
instance {α : Type} {ro : RO α} {r : Rp α} [m : FrzO ro r] : FrzO (roO ro) (rOpt r) := ⟨fun {F v x} h => by
  cases x with
  | none => exact vwO_none rfl h
  | some y => exact m.frz (x := y) (vwO_some rfl h)⟩
class NoNonO {α : Type} (r : RO α) : Prop where
  nn : ∀ {F : Hp} {x : α} {cs : Own}, ¬ r F .non x cs
instance {α : Type} {r : Rp α} : NoNonO (roM r) := ⟨fun ⟨_, _, h, _⟩ => by cases h⟩
theorem optO_isN {α : Type} {r : RO α} [n : NoNonO r] {F : Hp} {v : V} {x : Option α} {cs : Own} (h : roO r F v x cs) : decide (v = .non) = x.isNone := by
  cases x with
  | none => obtain rfl := (show v = .non from h.1); rfl
  | some y => exact decide_eq_false fun e => n.nn (F := F) (x := y) (cs := cs) (e ▸ h)
theorem optV_isN {α : Type} {r : RO α} [n : NoNonO r] {G F : Hp} {v : V} {x : Option α} (h : vw (roO r) G F v x) : decide (v = .non) = x.isNone := by
  obtain ⟨cs, h, _⟩ := h
  exact optO_isN h
theorem tyx_optV {α : Type} {r : RO α} {T : String} {K : PySem.W.Frag} {G F H : Hp} {v : V} {m : Option α} (h : vw (roO r) G F v m) (hT : ∀ {x : α}, vw r G F v x → TyX K H v (.type T)) : TyX K H v (.type (if m.isSome = true then T else "NoneType")) := by
  cases m with
  | none => obtain rfl := vwO_none rfl h; exact .base .non
  | some y => exact hT (x := y) (vwO_some rfl h)
theorem vwO_of {α : Type} {r : RO α} {G F : Hp} {v : V} {x : Option α} {cs : Own} (h : roO r F v x cs) (g : ∀ c ∈ cs, G c.1 = some c.2) : vw (roO r) G F v x := ⟨cs, h, g⟩
theorem LR.insI {α : Type} {r : V → α → Prop} {v : V} {x : α} (e : r v x) {vs : List V} {xs : List α} (j : Nat) (h : LR r vs xs) : LR r (vs.take j ++ [v] ++ vs.drop j) (xs.take j ++ [x] ++ xs.drop j) := by
  rw [List.append_assoc, List.append_assoc]
  exact LR.insertIdx e j h
theorem optE_some {α β : Type} {y : α} {a : β} {f : α → β} : optE (some y) a f = f y := rfl
theorem optE_none {α β : Type} {a : β} {f : α → β} : optE (none : Option α) a f = a := rfl

/-! ### dict comprehensions; turns that give pairs -/
def dcO {κ α β : Type} [DecidableEq κ] (f : α → Option (Option (κ × β))) : List (κ × β) → List α → Option (List (κ × β))
  | m, [] => some m
  | m, x :: t => (f x).bind fun y => dcO f (match y with | none => m | some p => mput m p.1 p.2) t
theorem dcI {κ α β : Type} [DecidableEq κ] {f : α → Option (Option (κ × β))} {m : List (κ × β)} {x : α} {t : List α} {r : List (κ × β)} {C : Prop} (k : ∀ y, f x = some y → dcO f (match y with | none => m | some p => mput m p.1 p.2) t = some r → C) : dcO f m (x :: t) = some r → C := fun h => by
  obtain ⟨y, e1, h⟩ := bnd (show ((f x).bind fun y => dcO f (match y with | none => m | some p => mput m p.1 p.2) t) = some r from h)
  exact k y e1 h
theorem mput_leI {κ α : Type} [DecidableEq κ] {m : List (κ × α)} {k : κ} {x : α} {i : Nat} (h : m.length ≤ i) : (mput m k x).length ≤ i + 1 := by
  unfold mput
  split
  · rw [List.length_map]; omega
  · rw [List.length_append]; show m.length + 1 ≤ i + 1; omega
/-- what a turn of a dict comprehension has to show -/
abbrev DcT (tt : TT) (tk tv : TE) (D : Addr) (vs : List Nat) (σ : L2.St) (N : Hp → Prop) : L2.St → Hp → Prop := fun σ2 H2 => wipe σ2 vs = wipe σ vs ∧ tt σ2 H2 fun b H3 =>
  if b = true then tk σ2 H3 fun y H4 => tv σ2 H4 fun z H5 => ∃ kvs k, y = kV k ∧ H5 D = some (.dK kvs) ∧ kvs.length < sizeLine ∧ N (upd H5 D (.dK (putK kvs k z))) else N H3
theorem dc_it {J : It} {n : Nat} {G : Hp → Prop} {Y : Nat → Hp → V → Hp → Prop} (w : L2.Walk J n G Y) {g : TG} {tt : TT} {tk tv : TE} {vs : List Nat} {σ : L2.St} {H1 : Hp} {D : Addr} {Qd : Hp → Prop} (Pv : Nat → Hp → Prop) (h0 : Pv 0 (upd H1 D (.dK []))) (hG : ∀ i H, i ≤ n → Pv i H → G H)
    (hs : ∀ i x H H', i < n → Pv i H → Y i H x H' → g x (wipe σ vs) H' (DcT tt tk tv D vs σ (Pv (i + 1)))) (hd : ∀ H, Pv n H → Qd H) :
    ∃ W : Nat → Nat → Hp → Prop, (∃ m, W 0 m (upd H1 D (.dK []))) ∧ ∀ i m H, W i m H →
      (J.stop i H ∧ Qd H) ∨ (J.go i H ∧ ∃ Nx : Hp → Prop, (∀ H', Nx H' → ∃ m', m' < m ∧ W (i + 1) m' H') ∧ ∀ x H', J.yld i H x H' → g x (wipe σ vs) H' (DcT tt tk tv D vs σ Nx)) := by
  refine ⟨fun i m H => m = n - i ∧ i ≤ n ∧ Pv i H, ⟨n, by simp, Nat.zero_le _, h0⟩, ?_⟩
  rintro i m H ⟨rfl, hi, p⟩
  have q := hG i H hi p
  by_cases hlt : i < n
  · exact .inr ⟨w.goes i H hlt q, Pv (i + 1), fun H' p' => ⟨n - (i + 1), by omega, rfl, hlt, p'⟩, fun x H' y => hs i x H H' hlt p (w.yields i H x H' hlt q y)⟩
  · have e : i = n := by omega
    subst e
    exact .inl ⟨w.stops H q, hd H p⟩
theorem dc_rng {lo : Int} {n : Nat} {g : TG} {tt : TT} {tk tv : TE} {vs : List Nat} {σ : L2.St} {H1 : Hp} {D : Addr} {Qd : Hp → Prop} (Pv : Nat → Hp → Prop) (h0 : Pv 0 (upd H1 D (.dK [])))
    (hs : ∀ i x H, (pyRange lo n)[i]? = some x → Pv i H → g (.int x) (wipe σ vs) H (DcT tt tk tv D vs σ (Pv (i + 1)))) (hd : ∀ H, Pv n H → Qd H) :
    ∃ W : Nat → Nat → Hp → Prop, (∃ m, W 0 m (upd H1 D (.dK []))) ∧ ∀ i m H, W i m H →
      ((Itr lo n).stop i H ∧ Qd H) ∨ ((Itr lo n).go i H ∧ ∃ Nx : Hp → Prop, (∀ H', Nx H' → ∃ m', m' < m ∧ W (i + 1) m' H') ∧ ∀ x H', (Itr lo n).yld i H x H' → g x (wipe σ vs) H' (DcT tt tk tv D vs σ Nx)) :=
  dc_it walk_range Pv h0 (fun _ _ _ _ => trivial) (fun i x H H' hi p y => by
    obtain ⟨rfl, rfl⟩ := y
    exact hs i _ _ (pyRange_get hi) p) hd
theorem dc_list {K : PySem.W.Frag} {a : Addr} {xs : List V} {g : TG} {tt : TT} {tk tv : TE} {vs : List Nat} {σ : L2.St} {H1 : Hp} {D : Addr} {Qd : Hp → Prop} (Pv : Nat → Hp → Prop) (h0 : Pv 0 (upd H1 D (.dK []))) (hl : ∀ i H, i ≤ xs.length → Pv i H → SqL K H a xs)
    (hs : ∀ i x H, xs[i]? = some x → Pv i H → g x (wipe σ vs) H (DcT tt tk tv D vs σ (Pv (i + 1)))) (hd : ∀ H, Pv xs.length H → Qd H) :
    ∃ W : Nat → Nat → Hp → Prop, (∃ m, W 0 m (upd H1 D (.dK []))) ∧ ∀ i m H, W i m H →
      ((Itl K a).stop i H ∧ Qd H) ∨ ((Itl K a).go i H ∧ ∃ Nx : Hp → Prop, (∀ H', Nx H' → ∃ m', m' < m ∧ W (i + 1) m' H') ∧ ∀ x H', (Itl K a).yld i H x H' → g x (wipe σ vs) H' (DcT tt tk tv D vs σ Nx)) :=
  dc_it walk_list Pv h0 hl (fun i x H H' hi p y => by
    obtain ⟨rfl, e⟩ := y
    exact hs i _ _ e p) hd
theorem dc_keys {d : Addr} {od : Obj} {kvs : List (Key × V)} {g : TG} {tt : TT} {tk tv : TE} {vs : List Nat} {σ : L2.St} {H1 : Hp} {D : Addr} {Qd : Hp → Prop} (Pv : Nat → Hp → Prop) (h0 : Pv 0 (upd H1 D (.dK []))) (hl : ∀ i H, i ≤ kvs.length → Pv i H → H d = some (.frz od (.dK kvs)))
    (hs : ∀ i x H, (kvs.map fun kv => kV kv.1)[i]? = some x → Pv i H → g x (wipe σ vs) H (DcT tt tk tv D vs σ (Pv (i + 1)))) (hd : ∀ H, Pv (kvs.map fun kv => kV kv.1).length H → Qd H) :
    ∃ W : Nat → Nat → Hp → Prop, (∃ m, W 0 m (upd H1 D (.dK []))) ∧ ∀ i m H, W i m H →
      ((Itk d od kvs).stop i H ∧ Qd H) ∨ ((Itk d od kvs).go i H ∧ ∃ Nx : Hp → Prop, (∀ H', Nx H' → ∃ m', m' < m ∧ W (i + 1) m' H') ∧ ∀ x H', (Itk d od kvs).yld i H x H' → g x (wipe σ vs) H' (DcT tt tk tv D vs σ Nx)) :=
  dc_it walk_keys Pv h0 hl (fun i x H H' hi p y => by
    obtain ⟨rfl, k, v, e1, rfl⟩ := y
    exact hs i _ _ (by rw [List.getElem?_map, e1]; rfl) p) (fun H p => hd H (by rw [List.length_map]; exact p))
/-- pairs: two lists of values that hold what the turns give -/
structure PrOk (n : Nat) (X Y : Nat → Option V) (xs ys : List V) : Prop where
  x : ∀ i u, i < n → X i = some u → xs[i]? = some u
  y : ∀ i u, i < n → Y i = some u → ys[i]? = some u
theorem dc_pr {J : It} {n : Nat} {G : Hp → Prop} {X Y : Nat → Option V} {xs ys : List V} (w : L2.Walk J n G (YPair X Y)) (o : PrOk n X Y xs ys) {g : TG} {tt : TT} {tk tv : TE} {vs : List Nat} {σ : L2.St} {H1 : Hp} {D : Addr} {Qd : Hp → Prop} (Pv : Nat → Hp → Prop) (h0 : Pv 0 (upd H1 D (.dK []))) (hl : ∀ i H, i ≤ n → Pv i H → G H)
    (hs : ∀ i u v T H, xs[i]? = some u → ys[i]? = some v → Pv i H → H T = none → g (.ref T) (wipe σ vs) (upd H T (.tup [u, v])) (DcT tt tk tv D vs σ (Pv (i + 1)))) (hd : ∀ H, Pv n H → Qd H) :
    ∃ W : Nat → Nat → Hp → Prop, (∃ m, W 0 m (upd H1 D (.dK []))) ∧ ∀ i m H, W i m H →
      (J.stop i H ∧ Qd H) ∨ (J.go i H ∧ ∃ Nx : Hp → Prop, (∀ H', Nx H' → ∃ m', m' < m ∧ W (i + 1) m' H') ∧ ∀ x H', J.yld i H x H' → g x (wipe σ vs) H' (DcT tt tk tv D vs σ Nx)) :=
  dc_it w Pv h0 hl (fun i x H H' hi p y => by
    obtain ⟨T, u, v, rfl, hT, rfl, e1, e2⟩ := y
    exact hs i u v T H (o.x i u hi e1) (o.y i v hi e2) p hT) hd
theorem lc_pr {J : It} {n : Nat} {G : Hp → Prop} {X Y : Nat → Option V} {xs ys : List V} (w : L2.Walk J n G (YPair X Y)) (o : PrOk n X Y xs ys) {g : TG} {tt : TT} {te : TE} {vs : List Nat} {σ : L2.St} {H1 : Hp} {D : Addr} {Qd : Hp → Prop} (Pv : Nat → Hp → Prop) (h0 : Pv 0 (upd H1 D (.lst []))) (hl : ∀ i H, i ≤ n → Pv i H → G H)
    (hs : ∀ i u v T H, xs[i]? = some u → ys[i]? = some v → Pv i H → H T = none → g (.ref T) (wipe σ vs) (upd H T (.tup [u, v])) fun σ2 H2 => wipe σ2 vs = wipe σ vs ∧ tt σ2 H2 fun b H3 =>
      if b = true then te σ2 H3 fun y H4 => ∃ acc, H4 D = some (.lst acc) ∧ acc.length < sizeLine ∧ Pv (i + 1) (upd H4 D (.lst (acc ++ [y]))) else Pv (i + 1) H3) (hd : ∀ H, Pv n H → Qd H) :
    ∃ W : Nat → Nat → Hp → Prop, (∃ m, W 0 m (upd H1 D (.lst []))) ∧ ∀ i m H, W i m H →
      (J.stop i H ∧ Qd H) ∨ (J.go i H ∧ ∃ Nx : Hp → Prop, (∀ H', Nx H' → ∃ m', m' < m ∧ W (i + 1) m' H') ∧ ∀ x H', J.yld i H x H' → g x (wipe σ vs) H' fun σ2 H2 => wipe σ2 vs = wipe σ vs ∧ tt σ2 H2 fun b H3 =>
        if b = true then te σ2 H3 fun y H4 => ∃ acc, H4 D = some (.lst acc) ∧ acc.length < sizeLine ∧ Nx (upd H4 D (.lst (acc ++ [y]))) else Nx H3) :=
  lc_it w Pv h0 hl (fun i x H H' hi p y => by
    obtain ⟨T, u, v, rfl, hT, rfl, e1, e2⟩ := y
    exact hs i u v T H (o.x i u hi e1) (o.y i v hi e2) p hT) hd
theorem for_pr {J : It} {n : Nat} {G : Hp → Prop} {X Y : Nat → Option V} {xs ys : List V} (w : L2.Walk J n G (YPair X Y)) (o : PrOk n X Y xs ys) {g : TG} {tb : TS} {D : Ends} {σ : L2.St} {H : Hp} (Pv : Nat → L2.St → Hp → Prop) (h0 : Pv 0 σ H) (hl : ∀ i σ H, i ≤ n → Pv i σ H → G H)
    (hs : ∀ i u v T σ H, xs[i]? = some u → ys[i]? = some v → Pv i σ H → H T = none → g (.ref T) σ (upd H T (.tup [u, v])) fun σ2 H2 => tb { D with nx := Pv (i + 1), ct := Pv (i + 1), bk := D.nx } σ2 H2) (hd : ∀ σ H, Pv n σ H → D.nx σ H) :
    ∃ W : Nat → Nat → L2.St → Hp → Prop, (∃ m, W 0 m σ H) ∧ ∀ i m σ H, W i m σ H →
      (J.stop i H ∧ D.nx σ H) ∨ (J.go i H ∧ ∃ N : L2.St → Hp → Prop, (∀ σ' H', N σ' H' → ∃ m', m' < m ∧ W (i + 1) m' σ' H') ∧ ∀ x H', J.yld i H x H' → g x σ H' fun σ2 H2 => tb { D with nx := N, ct := N, bk := D.nx } σ2 H2) :=
  for_it w Pv h0 hl (fun i x σ H H' hi p y => by
    obtain ⟨T, u, v, rfl, hT, rfl, e1, e2⟩ := y
    exact hs i u v T σ H (o.x i u hi e1) (o.y i v hi e2) p hT) hd
theorem LR.atV {α : Type} {r : V → α → Prop} : ∀ {vs : List V} {xs : List α} {i : Nat} {v : V}, LR r vs xs → vs[i]? = some v → ∃ x, xs[i]? = some x ∧ r v x := LR.getV
theorem zget2 {α β : Type} {r : V → α → Prop} {q : V → β → Prop} {xs ys : List V} {m1 : List α} {m2 : List β} {i : Nat} {u v : V} (h1 : LR r xs m1) (h2 : LR q ys m2) (e1 : xs[i]? = some u) (e2 : ys[i]? = some v) : ∃ x, (m1.zip m2)[i]? = some x ∧ r u x.1 ∧ q v x.2 := by
  obtain ⟨x, ex, rx⟩ := LR.getV h1 e1
  obtain ⟨y, ey, ry⟩ := LR.getV h2 e2
  exact ⟨(x, y), by rw [List.getElem?_zip_eq_some]; exact ⟨ex, ey⟩, rx, ry⟩
theorem zdrop {α β : Type} {r : V → α → Prop} {q : V → β → Prop} {xs ys : List V} {m1 : List α} {m2 : List β} {n : Nat} (h1 : LR r xs m1) (h2 : LR q ys m2) (e : n = min xs.length ys.length) : (m1.zip m2).drop n = [] := by
  rw [List.drop_eq_nil_iff, List.length_zip, e, h1.length, h2.length]
  exact Nat.le_refl _
theorem prZip {xs ys : List V} {n : Nat} : PrOk n (fun i => xs[i]?) (fun i => ys[i]?) xs ys := ⟨fun _ _ _ h => h, fun _ _ _ h => h⟩
theorem prEnum {ys : List V} : PrOk ys.length (fun i => some (.int (i : Nat))) (fun i => ys[i]?) ((pyRange 0 ys.length).map V.int) ys := ⟨fun i u hi h => by
  obtain rfl := Option.some.inj h
  rw [List.getElem?_map, pyRange_get hi]
  show some (V.int (0 + (i : Int))) = _
  rw [Int.zero_add], fun _ _ _ h => h⟩
theorem LR.ints {F : Hp} : ∀ xs : List Int, LR (rInt F) (xs.map V.int) xs
  | [] => trivial
  | _ :: t => ⟨rfl, LR.ints t⟩
theorem KR.vals {κ ν α : Type} {f : κ → ν} {r : V → α → Prop} : ∀ {ps : List (ν × V)} {qs : List (κ × α)}, KR f r ps qs → LR r (ps.map Prod.snd) (qs.map Prod.snd)
  | [], [], _ => trivial
  | _ :: _, _ :: _, h => ⟨h.1.2, KR.vals h.2⟩
  | [], _ :: _, h => h.elim
  | _ :: _, [], h => h.elim
/-- a tuple as a target within a comprehension -/
theorem pg_tupK {X : Cx} {es : List Expr} {k : Nat} {t : TGs} {pos : Pos} (K : PySem.W.Frag) (n : Nat) (hc : X.calm = true) (h : PGs X es t) (hK : X.K = K := by rfl)
    (hn : (assignEach es X.env).length = n := by rfl) (hst : (assignEach es X.env).findIdx? (·.1) = none := by rfl) : PG X (.Tuple es k pos) (gTup K n t) := by
  subst hK
  exact pg_tup hc h hn hst
instance {α β : Type} [DecidableEq α] [DOk α] [DecidableEq β] [DOk β] {K : PySem.W.Frag} {r : Rp α} {s : Rp β} [D : DatR K r] [E : DatR K s] : DatR K (rT2 K r s) :=
  ⟨fun p => .tuple [D.d p.1, E.d p.2], fun {H v x} ⟨a, u, w, h1, h2, h3, h4⟩ => by rw [h1]; exact .tup h2 (.cons (D.dp h3) (.cons (E.dp h4) .nil)),
  fun x y => by
    obtain ⟨x1, x2⟩ := x
    obtain ⟨y1, y2⟩ := y
    show (PyData.eqv (D.d x1) (D.d y1) && (PyData.eqv (E.d x2) (E.d y2) && true)) = _
    rw [D.eqv, E.eqv]
    by_cases e : x1 = y1 <;> by_cases e2 : x2 = y2 <;> simp [e, e2],
  fun x h => by
    have h' := Bool.and_eq_true_iff.mp (show (DOk.ok x.1 && DOk.ok x.2) = true from h)
    show (PyData.canLay0 (D.d x.1) && (PyData.canLay0 (E.d x.2) && true)) = true
    rw [D.shp x.1 h'.1, E.shp x.2 h'.2]; rfl,
  D.n + E.n + 1, fun x => by
    have h1 := D.dep x.1
    have h2 := E.dep x.2
    simp only [PyData.depth, PyData.depthAll]
    omega⟩
theorem LR.rep {α : Type} {r : V → α → Prop} {vs : List V} {xs : List α} (h : LR r vs xs) : ∀ n : Nat, LR r (List.replicate n vs).flatten (List.replicate n xs).flatten
  | 0 => trivial
  | n + 1 => by
    rw [List.replicate_succ, List.replicate_succ, List.flatten_cons, List.flatten_cons]
    exact LR.append h (LR.rep h n)
theorem shlOk {i j : Int} (h : decide (0 ≤ j ∧ (Builtin.Int.intBits i : Int) + j ≤ 2 ^ 27) = true) : CShl i j := by
  have h2 : 0 ≤ j ∧ (Builtin.Int.intBits i : Int) + j ≤ 2 ^ 27 := of_decide_eq_true h
  exact h2
/-- list + list, in whatever way they are known -/
def rCatS (K : PySem.W.Frag) : R2 := fun x y H Q => ∃ l b us ws, x = .ref l ∧ y = .ref b ∧ SqL K H l us ∧ SqL K H b ws ∧ us.length + ws.length ≤ sizeLine ∧ ∀ p, H p = none → Q (.ref p) (upd H p (.lst (us ++ ws)))
theorem op_catS {X : Cx} : OpR X (binaryOp .Add) (rCatS X.K) := by
  intro pins s σ H x y v u Q I rx ry h
  obtain ⟨l, b, us, ws, rfl, rfl, h1, h2, hz, q⟩ := h
  cases rx
  cases ry
  obtain ⟨i1, r1, p1, _⟩ := I.list h1
  obtain ⟨i2, r2, p2, _⟩ := I.list h2
  obtain ⟨⟨c1, d1, t1, s1⟩, n1, g1, e1, e2, e3⟩ := p1
  obtain ⟨⟨c2, d2, t2, s2⟩, n2, g2, f1, f2, f3⟩ := p2
  dsimp only at e1 e2 e3 f1 f2 f3
  subst e1 e2 e3 f1 f2 f3
  have k1 := r1.length
  have k2 := r2.length
  have joined : i1.toArray ++ i2.toArray = (i1 ++ i2).toArray := by simp
  have size : i1.toArray.size + i2.toArray.size ≤ sizeLine := by simpa [← k1, ← k2] using hz
  refine concat_meets ⟨_, g1, rfl⟩ ⟨_, g2, rfl⟩ noFill_list_add seq_list_add PySem.F.slot_list_add PySem.F.entry_list_add
    (PySem.F.args_list_add_2 _ _) (list_addW l b i1.toArray i2.toArray n1 n2 none none s1 s2 size) ⟨g1, g2, ?_⟩
  rw [joined]
  refine ⟨.ref _, _, I.lnew (t' := s.toks) (r1.append r2) ?_, rfl, q _ I.fresh⟩
  rw [List.length_append]
  exact hz
/-- an operand that is not reached -/
theorem pt_void {X : Cx} {e : Expr} : PT X e (fun _ _ _ => False) := ⟨fun _ _ _ _ _ _ h => h.elim⟩
theorem pe_void {X : Cx} {e : Expr} : PE X e (fun _ _ _ => False) := ⟨fun _ _ _ _ _ _ h => h.elim⟩
/-- lists of four items of several types -/
def rF4 {α β γ δ : Type} (K : PySem.W.Frag) (r : Rp α) (s : Rp β) (t : Rp γ) (o : Rp δ) : Rp (α × β × γ × δ) := fun F v x => ∃ a u w z y, v = .ref a ∧ SqL K F a [u, w, z, y] ∧ r F u x.1 ∧ s F w x.2.1 ∧ t F z x.2.2.1 ∧ o F y x.2.2.2
instance {α β γ δ : Type} {K : PySem.W.Frag} {r : Rp α} {s : Rp β} {t : Rp γ} {o : Rp δ} [m : MonoR r] [n : MonoR s] [l : MonoR t] [j : MonoR o] : MonoR (rF4 K r s t o) :=
  ⟨fun e ⟨a, u, w, z, y, h1, h2, h3, h4, h5, h6⟩ => ⟨a, u, w, z, y, h1, SqL.mono h2 e, m.mono e h3, n.mono e h4, l.mono e h5, j.mono e h6⟩⟩
/-- frozen dicts -/
def rDI {α : Type} (r : Rp α) : Rp (List (Int × α)) := fun F v x => ∃ a kvs, v = .ref a ∧ F a = some (.dK kvs) ∧ KR Sum.inl (r F) kvs x
def rDS {α : Type} (r : Rp α) : Rp (List (Str × α)) := fun F v x => ∃ a kvs, v = .ref a ∧ F a = some (.dK kvs) ∧ KR Sum.inr (r F) kvs x
instance {α : Type} {r : Rp α} [MonoR r] : MonoR (rDI r) := ⟨fun e ⟨a, kvs, h1, h2, h3⟩ => ⟨a, kvs, h1, e _ _ h2, h3.mono e⟩⟩
instance {α : Type} {r : Rp α} [MonoR r] : MonoR (rDS r) := ⟨fun e ⟨a, kvs, h1, h2, h3⟩ => ⟨a, kvs, h1, e _ _ h2, h3.mono e⟩⟩
end G

namespace G
open PySem PySem.Spec PyProof.Rows L2

/-! ### set(list of ints) with its walk; sorted(set(list)) -/
abbrev obS (w : World) : Obj := { cls := .type "set", dict := none, data := .set #[] 0 (.fresh 0 0 (!w.params.followText "set-order")) }
section
variable {P : Program} {w : World} {A : Around} {E : Value → Shared → Prop} {s : Shared}
theorem intsLen {vs : List Value} {ns : List Int} (h : IntsAre vs ns) : vs.length = ns.length := IntsAre.length h
theorem itemAt {items : Array Value} {ns : List Int} (sz : items.size = ns.length) (hit : IntsAre items.toList ns) {i : Nat} {v : Value} (hv : items[i]? = some v) : ∃ k t, ns[i]? = some k ∧ v = .int k t := by
  have lt : i < ns.length := sz ▸ (Array.getElem?_eq_some_iff.mp hv).1
  obtain ⟨t, e⟩ := PyProof.Rows.IntsAre.int_at hit i v ((Array.getElem?_toList).trans hv)
  exact ⟨ns[i], t, List.getElem?_eq_getElem lt, by rw [e, List.getD_eq_getElem?_getD, List.getElem?_eq_getElem lt]; rfl⟩
/-- the loop of set.update over a list -/
theorem updList {A : Around} {l : Addr} {items : Array Value} {ns : List Int} {R : Result → Shared → Prop} (hd : A.in1.handled = none) (hl : s.heap.IsList l items) (sz : items.size = ns.length) (hit : IntsAre items.toList ns) (hb : ns.length + 1 < scanBound)
    (k : ∀ h' tk c, SetR w h' s.heap.objs.size (fun j => decide (j ∈ ns)) c → c ≤ ns.length → (∀ b o, s.heap.get? b = some o → h'.get? b = some o) → R (.ok (.ret .none)) { s with heap := h', toks := tk }) :
    codeAny (model P w) A (.builtin "set.update.loop" ⟨[.ref s.heap.objs.size, .ref (s.heap.push (obS w)).objs.size], []⟩) R
      { s with heap := (s.heap.push (obS w)).push { cls := .type "list_iterator", data := .fields #[.ref l, .int 0 0] } } := by
  obtain ⟨ol, hol, -⟩ := id hl
  have lS : l < s.heap.objs.size := Heap.lt_size hol
  have z1 : (s.heap.push (obS w)).objs.size = s.heap.objs.size + 1 := Heap.size_push ..
  have n1 : l ≠ (s.heap.push (obS w)).objs.size := by rw [z1]; exact Nat.ne_of_lt (Nat.lt_succ_of_lt lS)
  have n2 : s.heap.objs.size ∉ [(s.heap.push (obS w)).objs.size, l] := by
    rw [z1]; intro q
    rcases List.mem_cons.mp q with q | q
    · exact Nat.ne_of_lt (Nat.lt_succ_self _) q
    · exact Nat.ne_of_gt lS (List.mem_singleton.mp q)
  have l1 : (s.heap.push (obS w)).IsList l items := hl.push _
  refine set_update_ints ((Walks.list hd _ l n1 items).toS) s.heap.objs.size n2 ns sz hb (fun i v hv => itemAt sz hit hv) (items.size - 0) 0 _ (by omega) (Nat.zero_le _)
    ⟨⟨_, Heap.get?_push_size _ rfl, rfl, rfl⟩, l1.push _⟩ ⟨0, Nat.le_refl 0, setR_new_at (Heap.get?_push_of_some _ (Heap.get?_push_size _ rfl))⟩ ?_
  rintro ⟨h', g2, d', tk', os'⟩ c' hm hc' hS'
  obtain rfl : g2 = s.gens := hm.gens
  obtain rfl : d' = s.drawn := hm.drawn
  obtain rfl : os' = s.os := hm.os
  refine k h' tk' c' hS' (sz ▸ hc') fun b o e => ?_
  have b0 : b < s.heap.objs.size := Heap.lt_size e
  exact hm.heap b o (fun q => by
    rcases List.mem_cons.mp q with q | q
    · exact Nat.ne_of_lt b0 q
    · rw [z1] at q; exact Nat.ne_of_lt (Nat.lt_succ_of_lt b0) (List.mem_singleton.mp q)) (Heap.get?_push_of_some _ (Heap.get?_push_of_some _ e))
set_option maxRecDepth 100000 in
theorem setOfList {l : Addr} {items : Array Value} (ns : List Int) {Q : Value → Shared → Prop} (hh : A.handled = none) (hl : s.heap.IsList l items) (hit : IntsAre items.toList ns) (hb : ns.length + 1 < scanBound)
    (k : ∀ h' tk c, SetR w h' s.heap.objs.size (fun j => decide (j ∈ ns)) c → c ≤ ns.length → (∀ b o, s.heap.get? b = some o → h'.get? b = some o) → Q (.ref s.heap.objs.size) { s with heap := h', toks := tk }) :
    wpAny (model P w) A (call (.type "set") [.ref l]) Q E s := by
  have sz : items.size = ns.length := (Array.length_toList (xs := items)).symm.trans (intsLen hit)
  obtain ⟨cm, tm, mro⟩ := F.called_set.mro
  have mk := F.called_set.made
  have su := F.called_set.sub
  refine wpAny_call (codeAny_of_tree ?_)
  show wpAny _ _ (callAny (.type "set") _) _ _ _
  refine wpAny_pure ⟨Code.quiet_builtin _ (by decide +kernel), codeAny_builtin F.entry_type_call ?_⟩
  rw [Around.under_plain (weight_type_call_type "set" [.ref l] []) rfl]
  have nt := F.called_set.notType
  have cc := F.called_set.canCreate
  have ct := F.typeCall_set_1 (.ref l)
  repeat (any_goals (first | assumption | wp_step))
  refine codeAny_mono (code_set_led1 (.ref l) (E := E) (Q₁ := fun o s₁ => o = .ref s.heap.objs.size ∧ s₁ = { s with heap := s.heap.push (obS w) }) ⟨rfl, rfl⟩) fun r s₁ hr => ?_
  cases r with
  | error e => exact hr
  | ok fl =>
  obtain ⟨obj, rfl⟩ : ∃ obj, fl = .ret obj := by
    cases fl <;> first | exact ⟨_, rfl⟩ | exact hr.elim
  obtain ⟨rfl, rfl⟩ := hr
  have gS : (s.heap.push (obS w)).get? s.heap.objs.size = some (obS w) := Heap.get?_push_size _ rfl
  have tS : Shared.TypeIs { s with heap := s.heap.push (obS w) } (.ref s.heap.objs.size) "set" := ⟨_, gS, rfl⟩
  have il := F.called_set.init.lookup
  have ib := F.called_set.init.bind (.ref s.heap.objs.size)
  repeat (any_goals (first | assumption | wp_step))
  refine codeAny_mono (codeAny_call_builtin (R := wants (fun r s₂ => r = .none ∧ ∃ h' tk c, s₂ = { s with heap := h', toks := tk } ∧ SetR w h' s.heap.objs.size (fun j => decide (j ∈ ns)) c ∧ c ≤ ns.length ∧ ∀ b o, s.heap.get? b = some o → h'.get? b = some o) E)
    F.called_set.init.plain F.entry_set_init (check_set_init_1 tS ?_)) fun r₂ s₂ hr₂ => ?_
  · obtain ⟨⟨oc, od, oda, osl⟩, hol, hcl, nl, hdl⟩ := id hl
    simp only at hcl hdl
    subst hcl hdl
    have hol' : (s.heap.push (obS w)).get? l = some { cls := .type "list", dict := od, data := .seq items nl, slots := osl } := Heap.get?_push_of_some _ hol
    have s1 := F.sub_list_set
    have s2 := F.sub_list_frozenset
    have ne : (Value.type "list" == Value.type "dict") = false := by decide
    have hl1 : (s.heap.push (obS w)).IsList l items := ⟨_, hol', rfl, nl, rfl⟩
    unfold Builtin.«set.__init__» noKeywords Builtin.Frozenset.updateFrom
    generalize hPI : pyIter = PI
    wp_walk
    subst hPI
    refine wpAny_pyIter_list hl1 (wpAny_bind (wpAny_runValue ?_))
    have hd : A.in1.in1.in1.handled = none := by simp [hh]
    refine updList hd hl sz hit hb fun h' tk c hS hc hk => ?_
    show wpAny _ _ _ _ _ _
    refine wpAny_pure ?_
    show wpAny _ _ (ret Value.none) _ _ _
    exact wpAny_pure ⟨rfl, h', tk, c, rfl, hS, hc, hk⟩
  · cases r₂ with
    | error e => exact hr₂
    | ok f2 =>
    obtain ⟨v2, rfl⟩ : ∃ v, f2 = .ret v := by
      cases f2 <;> first | exact ⟨_, rfl⟩ | exact hr₂.elim
    obtain ⟨rfl, h', tk, c, rfl, hS, hc, hk⟩ := hr₂
    repeat (any_goals (first | assumption | wp_step))
    exact k h' tk c hS hc hk
/-- sorted(set(e)), e a list of fewer than 64 ints -/
def ddup : List Int → List Int
  | [] => []
  | x :: t => if x ∈ t then ddup t else x :: ddup t
theorem mem_ddup {x : Int} : ∀ {ns : List Int}, x ∈ ddup ns ↔ x ∈ ns
  | [] => Iff.rfl
  | y :: t => by
    unfold ddup
    by_cases c : y ∈ t
    · rw [if_pos c, mem_ddup (ns := t), List.mem_cons]
      exact ⟨.inr, fun h => h.elim (fun e => e ▸ c) id⟩
    · rw [if_neg c, List.mem_cons, List.mem_cons, mem_ddup (ns := t)]
theorem nodup_ddup : ∀ ns : List Int, (ddup ns).Nodup
  | [] => .nil
  | y :: t => by
    unfold ddup
    by_cases c : y ∈ t
    · rw [if_pos c]; exact nodup_ddup t
    · rw [if_neg c]; exact List.nodup_cons.mpr ⟨fun h => c (mem_ddup.mp h), nodup_ddup t⟩
def mset (ns : List Int) : List Int := sortI (ddup ns)
theorem mem_mset {x : Int} {ns : List Int} : x ∈ mset ns ↔ x ∈ ns := (sortI_perm _).mem_iff.trans mem_ddup
theorem mset_strict (ns : List Int) : (mset ns).Pairwise (· < ·) := by
  have nd : (mset ns).Nodup := (sortI_perm _).nodup_iff.mpr (nodup_ddup ns)
  exact (List.Pairwise.and (sortI_sorted (ddup ns)) nd).imp fun {a b} h => by have := h.1; have := h.2; omega
theorem mset_eq {ns ms : List Int} (h : ms.Pairwise (· < ·)) (m : ∀ k : Int, k ∈ ms ↔ k ∈ ns) : ms = mset ns :=
  sorted_uniq ((List.perm_ext_iff_of_nodup (h.imp fun {a b} q => by omega) ((mset_strict ns).imp fun {a b} q => by omega)).mpr fun k => (m k).trans mem_mset.symm) (h.imp fun {a b} q => by omega) ((mset_strict ns).imp fun {a b} q => by omega)
def tSortSet (K : PySem.W.Frag) (ta : TE) : TE := fun σ H Q => ta σ H fun x H1 => ∃ (l : Addr) (ns : List Int), x = .ref l ∧ SqL K H1 l (ns.map V.int) ∧ ns.length < 64 ∧
  ∀ (ms : List Int) (p : Addr), ms.Pairwise (· < ·) → (∀ k : Int, k ∈ ms ↔ k ∈ ns) → H1 p = none → Q (.ref p) (upd H1 p (.lst (ms.map V.int)))
theorem pe_sortSet {X : Cx} {a : Expr} {ta : TE} {p p2 q pos : Pos} (hg : Gl X "sorted") (hm : X.mg "sorted" = none) (hg2 : Gl X "set") (hm2 : X.mg "set" = none) (ha : PE X a ta) (hc : X.calm = true := by rfl)
    (na : starEach [a] X.env = (false, eval a X.env) :: starEach [] X.env := by rfl) : PE X (.Call (.Name "sorted" p) [.Call (.Name "set" p2) [a] [] q] [] pos) (tSortSet X.K ta) := by
  refine ⟨fun pins s σ H Q I h => ?_⟩
  refine Call_ (ld_blt I hg hm (show bootBuiltins "sorted" = some (.builtin "sorted") by decide +kernel) ?_)
  refine PyProof.Rows.callWith_builtin1 (PyProof.Rows.args_cons (Call_ (ld_blt I hg2 hm2 boot_set ?_)) rfl) rfl rfl
  refine PyProof.Rows.callWith_type1 (PyProof.Rows.args_cons (thn (ha.run pins s σ H _ I h) fun v s1 ⟨x, H1, I1, rx, q1⟩ => PyProof.Rows.args_nil ?_) na) na rfl
  obtain ⟨l, ns, rfl, hq, h64, k⟩ := q1
  cases rx
  obtain ⟨its, rv, pl, -⟩ := I1.list hq
  refine setOfList ns (I1.ok.hd hc) pl.isList (by simpa using RZ.intsAre_vals rv) (by unfold scanBound; omega) fun h' tk c hS hcn hk => PyProof.Rows.args_nil ?_
  have I2 : Inv X pins σ H1 { s1 with heap := h', toks := tk } := I1.kept (t' := tk) hk
  have hS2 : SetR X.w ({ s1 with heap := h', toks := tk } : Shared).heap s1.heap.objs.size (fun j => decide (j ∈ ns)) c := hS
  generalize ({ s1 with heap := h', toks := tk } : Shared) = s2 at I2 hS2 ⊢
  refine sorted_set hS2 (I2.ok.hd hc) (by omega) fun s' p out cc ms k1 g o hp hgt hi hs hm hl => ?_
  have hn : H1 p = none := I2.hok.fresh hp
  have J : Inv X pins σ (upd H1 p (.lst (ms.map V.int))) { s2 with heap := s'.heap, gens := s'.gens, drawn := s'.drawn, toks := s'.toks } :=
    I2.call (ch := []) (Un.laid k1 hp hn) (I2.hok.laid k1 hp ⟨by rw [List.length_map, hl, sizeLine_eq]; omega, out.toList, cc, vals_of_ints hi, hgt⟩) (by rw [g]; exact I2.bare) (fun _ z => nomatch z)
  have e : s' = { s2 with heap := s'.heap, gens := s'.gens, drawn := s'.drawn, toks := s'.toks } := by
    cases s'; cases s2; cases o; rfl
  rw [e]
  exact ⟨.ref p, _, J, rfl, k ms p hs (fun j => by simpa using hm j) hn⟩
def tSortSetQ (K : PySem.W.Frag) (ta : TE) : TE := fun σ H Q => ta σ H fun x H1 => ∃ (l : Addr) (b : Bool) (ns : List Int), x = .ref l ∧ SqB K b H1 l (ns.map V.int) ∧ ns.length < 64 ∧
  ∀ (ms : List Int) (p : Addr), ms.Pairwise (· < ·) → (∀ k : Int, k ∈ ms ↔ k ∈ ns) → H1 p = none → Q (.ref p) (upd H1 p (.lst (ms.map V.int)))
theorem setOfSeq {X : Cx} {pins : List (Addr × Obj)} {σ : L2.St} {H : Hp} {s : Shared} {A : Around} {E : Value → Shared → Prop} {l : Addr} {b : Bool} (ns : List Int) {Q : Value → Shared → Prop} (hh : A.handled = none) (I : Inv X pins σ H s) (hq : SqB X.K b H l (ns.map V.int)) (hb : ns.length + 1 < scanBound)
    (k : ∀ h' tk c, SetR X.w h' s.heap.objs.size (fun j => decide (j ∈ ns)) c → c ≤ ns.length → (∀ b o, s.heap.get? b = some o → h'.get? b = some o) → Q (.ref s.heap.objs.size) { s with heap := h', toks := tk }) :
    wpAny (model X.prog X.w) A (call (.type "set") [.ref l]) Q E s := by
  cases b with
  | true =>
    obtain ⟨its, rv, pl, -⟩ := I.list (show SqL X.K H l _ from hq)
    exact setOfList ns hh pl.isList (by simpa using RZ.intsAre_vals rv) hb k
  | false =>
    obtain ⟨its, rv, p, -⟩ := I.tuple (show SqT X.K H l _ from hq)
    exact call_set_tupI ns hh (show s.heap.IsTuple l its.toArray from p) (by simpa using RZ.intsAre_vals rv) hb k
theorem pe_sortSetQ {X : Cx} {a : Expr} {ta : TE} {p p2 q pos : Pos} (hg : Gl X "sorted") (hm : X.mg "sorted" = none) (hg2 : Gl X "set") (hm2 : X.mg "set" = none) (ha : PE X a ta) (hc : X.calm = true := by rfl)
    (na : starEach [a] X.env = (false, eval a X.env) :: starEach [] X.env := by rfl) : PE X (.Call (.Name "sorted" p) [.Call (.Name "set" p2) [a] [] q] [] pos) (tSortSetQ X.K ta) := by
  refine ⟨fun pins s σ H Q I h => ?_⟩
  refine Call_ (ld_blt I hg hm (show bootBuiltins "sorted" = some (.builtin "sorted") by decide +kernel) ?_)
  refine PyProof.Rows.callWith_builtin1 (PyProof.Rows.args_cons (Call_ (ld_blt I hg2 hm2 boot_set ?_)) rfl) rfl rfl
  refine PyProof.Rows.callWith_type1 (PyProof.Rows.args_cons (thn (ha.run pins s σ H _ I h) fun v s1 ⟨x, H1, I1, rx, q1⟩ => PyProof.Rows.args_nil ?_) na) na rfl
  obtain ⟨l, b, ns, rfl, hq, h64, k⟩ := q1
  cases rx
  refine setOfSeq ns (I1.ok.hd hc) I1 hq (by unfold scanBound; omega) fun h' tk c hS hcn hk => PyProof.Rows.args_nil ?_
  have I2 : Inv X pins σ H1 { s1 with heap := h', toks := tk } := I1.kept (t' := tk) hk
  have hS2 : SetR X.w ({ s1 with heap := h', toks := tk } : Shared).heap s1.heap.objs.size (fun j => decide (j ∈ ns)) c := hS
  generalize ({ s1 with heap := h', toks := tk } : Shared) = s2 at I2 hS2 ⊢
  refine sorted_set hS2 (I2.ok.hd hc) (by omega) fun s' p out cc ms k1 g o hp hgt hi hs hm hl => ?_
  have hn : H1 p = none := I2.hok.fresh hp
  have J : Inv X pins σ (upd H1 p (.lst (ms.map V.int))) { s2 with heap := s'.heap, gens := s'.gens, drawn := s'.drawn, toks := s'.toks } :=
    I2.call (ch := []) (Un.laid k1 hp hn) (I2.hok.laid k1 hp ⟨by rw [List.length_map, hl, sizeLine_eq]; omega, out.toList, cc, vals_of_ints hi, hgt⟩) (by rw [g]; exact I2.bare) (fun _ z => nomatch z)
  have e : s' = { s2 with heap := s'.heap, gens := s'.gens, drawn := s'.drawn, toks := s'.toks } := by
    cases s'; cases s2; cases o; rfl
  rw [e]
  exact ⟨.ref p, _, J, rfl, k ms p hs (fun j => by simpa using hm j) hn⟩
end

end G

/-! Sleeping generators stay as they are, whatever a body does that was shown for every table of generators. -/
namespace G
open PySem
open PySem.Sem (wp)

/-- a sleeper that can't be woken -/
def stk : GenState → GenState
  | .suspended _ l c p fs cl => .suspended (fun _ => .unsupported "") l c p fs cl
  | x => x
def isSu : GenState → Prop
  | .suspended .. => True
  | _ => False
/-- no generator runs within it -/
def gfr : GenState → Prop
  | .suspended _ _ _ _ fs _ => splitAtGen fs = none
  | _ => True
def efr : End → Prop
  | .susp _ _ _ _ _ _ fs => splitAtGen fs = none
  | .ret _ => True
theorem stk_seen (x : GenState) : (stk x).seen = x.seen := by cases x <;> rfl
theorem stk_bare (x : GenState) : (stk x).bare = x.bare := by cases x <;> rfl
theorem efr_gfr {e : End} (h : efr e) : gfr e.genState := by
  cases e with
  | ret r => trivial
  | susp v g l k c p fs => exact h
/-- a: the table with the sleepers of D stuck; b: the true one -/
structure PR (D : Nat → Prop) (T : Nat → GenState) (a b : Array GenState) : Prop where
  size : a.size = b.size
  held : ∀ i, D i → a[i]? = some (stk (T i)) ∧ b[i]? = some (T i) ∧ isSu (T i)
  free : ∀ i, ¬ D i → a[i]? = b[i]? ∧ ∀ x, a[i]? = some x → gfr x
section
variable {D : Nat → Prop} {T : Nat → GenState} {a b : Array GenState}
theorem PR.look (r : PR D T a b) {g : Nat} {x : GenState} (h : a[g]? = some x) : ∃ y, b[g]? = some y ∧ y.seen = x.seen := by
  by_cases d : D g
  · obtain ⟨h1, h2, _⟩ := r.held g d
    rw [h1] at h
    cases h
    exact ⟨_, h2, (stk_seen _).symm⟩
  · exact ⟨x, (r.free g d).1 ▸ h, rfl⟩
theorem PR.same (r : PR D T a b) {g : Nat} {x : GenState} (h : a[g]? = some x) (n : ∀ k l c p fs cl, x ≠ .suspended k l c p fs cl) : ¬ D g ∧ b[g]? = some x := by
  by_cases d : D g
  · obtain ⟨h1, _, h3⟩ := r.held g d
    rw [h1] at h
    cases e : T g with
    | suspended k l c p fs cl =>
      rw [e] at h
      exact absurd (Option.some.inj h).symm (n _ _ _ _ _ _)
    | _ => rw [e] at h3; exact h3.elim
  · exact ⟨d, (r.free g d).1 ▸ h⟩
theorem PR.set (r : PR D T a b) {g : Nat} {x : GenState} (d : ¬ D g) (hx : gfr x) : PR D T (a.setIfInBounds g x) (b.setIfInBounds g x) where
  size := by simp [r.size]
  held := fun i hi => by
    have ne : g ≠ i := fun e => d (e ▸ hi)
    rw [Array.getElem?_setIfInBounds_ne ne, Array.getElem?_setIfInBounds_ne ne]
    exact r.held i hi
  free := fun i hi => by
    by_cases ne : g = i
    · subst ne
      by_cases lt : g < a.size
      · have lt2 : g < b.size := by rw [← r.size]; exact lt
        have e1 : (a.setIfInBounds g x)[g]? = some x := by simp [lt]
        have e2 : (b.setIfInBounds g x)[g]? = some x := by simp [lt2]
        rw [e1, e2]
        exact ⟨rfl, fun y hy => by cases hy; exact hx⟩
      · have e1 : (a.setIfInBounds g x)[g]? = none := by simp; omega
        have e2 : (b.setIfInBounds g x)[g]? = none := by simp [← r.size]; omega
        rw [e1, e2]
        exact ⟨rfl, fun y hy => by cases hy⟩
    · rw [Array.getElem?_setIfInBounds_ne ne, Array.getElem?_setIfInBounds_ne ne]
      exact r.free i hi
theorem PR.push (r : PR D T a b) (c : Code) : PR D T (a.push (.fresh c)) (b.push (.fresh c)) where
  size := by simp [r.size]
  held := fun i hi => by
    obtain ⟨h1, h2, h3⟩ := r.held i hi
    have l1 := (Array.getElem?_eq_some_iff.mp h1).1
    have l2 := (Array.getElem?_eq_some_iff.mp h2).1
    rw [Array.getElem?_push_lt l1, Array.getElem?_push_lt l2, ← Array.getElem?_eq_getElem l1, ← Array.getElem?_eq_getElem l2]
    exact ⟨h1, h2, h3⟩
  free := fun i hi => by
    rw [Array.getElem?_push, Array.getElem?_push, ← r.size]
    by_cases e : i = a.size
    · rw [if_pos e, if_pos e]
      exact ⟨rfl, fun x hx => by cases hx; trivial⟩
    · rw [if_neg e, if_neg e]
      exact r.free i hi
end
theorem no_unsupported {M : Model} {Γ : Ctx} {p : Pos} {w : String} {fs : List Frame} {s s' : Shared} {e : End} (h : Runs M Γ p (.unsupported w) fs s e s') : False := by
  have base : ∀ {Γ : Ctx} {p : Pos} {s s' : Shared} {e : End}, ¬ Runs M Γ p (.unsupported w) [] s e s' := fun {Γ p s s' e} h => by cases h
  cases h with
  | segRet h1 _ => exact base h1
  | segGen h1 _ => exact base h1
  | segSuspOut _ h1 => exact base h1
  | segSuspGen _ h1 _ _ => exact base h1
theorem split_cons {F : Frame} {fs : List Frame} (h : splitAtGen (F :: fs) = none) : splitAtGen fs = none := by
  cases F with
  | ret k hd g l c p kp =>
    have h' : (splitAtGen fs).map (fun (x : List Frame × (Nat × (GenResult → Sem PySem.Fin) × Code × Pos) × List Frame) => (Frame.ret k hd g l c p kp :: x.1, x.2.1, x.2.2)) = none := h
    simpa using h'
  | gen g k l c p => cases h
theorem split_app : ∀ {fs gs : List Frame}, splitAtGen fs = none → splitAtGen gs = none → splitAtGen (fs ++ gs) = none
  | [], _, _, h => h
  | F :: fs, gs, h1, h2 => by
    have h3 := split_app (split_cons h1) h2
    cases F with
    | ret k hd g l c p kp =>
      show (splitAtGen (fs ++ gs)).map _ = none
      rw [h3]; rfl
    | gen g k l c p => cases h1
theorem split_ret {k : Result → Sem PySem.Fin} {hd : Option Value} {g : Bool} {l kp : List Value} {c : Code} {p : Pos} : splitAtGen [Frame.ret k hd g l c p kp] = none := rfl
/-- a run, with the true sleepers in the place of the stuck ones -/
theorem runs_true {M : Model} {D : Nat → Prop} {T : Nat → GenState} {Γ : Ctx} {p : Pos} {t : Sem PySem.Fin} {fs : List Frame} {s s' : Shared} {e : End} (h : Runs M Γ p t fs s e s') :
    splitAtGen fs = none → ∀ b, PR D T s.gens b → ∃ b', PR D T s'.gens b' ∧ Runs M Γ p t fs { s with gens := b } e { s' with gens := b' } ∧ efr e := by
  induction h with
  | done => exact fun _ b r => ⟨b, r, .done, trivial⟩
  | raise => exact fun _ b r => ⟨b, r, .raise, trivial⟩
  | again hq _ ih => exact fun f b r => let ⟨b', r', h', e'⟩ := ih f b r; ⟨b', r', .again hq h', e'⟩
  | rule _ ih => exact fun f b r => let ⟨b', r', h', e'⟩ := ih f b r; ⟨b', r', .rule h', e'⟩
  | «at» _ ih => exact fun f b r => let ⟨b', r', h', e'⟩ := ih f b r; ⟨b', r', .at h', e'⟩
  | load ho _ ih => exact fun f b r => let ⟨b', r', h', e'⟩ := ih f b r; ⟨b', r', .load ho h', e'⟩
  | update hs _ ih => exact fun f b r => let ⟨b', r', h', e'⟩ := ih f b r; ⟨b', r', .update hs h', e'⟩
  | loadIfAlive _ ih => exact fun f b r => let ⟨b', r', h', e'⟩ := ih f b r; ⟨b', r', .loadIfAlive h', e'⟩
  | point _ ih => exact fun f b r => let ⟨b', r', h', e'⟩ := ih f b r; ⟨b', r', .point h', e'⟩
  | alloc _ ih => exact fun f b r => let ⟨b', r', h', e'⟩ := ih f b r; ⟨b', r', .alloc h', e'⟩
  | fresh _ ih => exact fun f b r => let ⟨b', r', h', e'⟩ := ih f b r; ⟨b', r', .fresh h', e'⟩
  | ask _ ih => exact fun f b r => let ⟨b', r', h', e'⟩ := ih f b r; ⟨b', r', .ask h', e'⟩
  | choose hn _ ih => exact fun f b r => let ⟨b', r', h', e'⟩ := ih f b r; ⟨b', r', .choose hn h', e'⟩
  | os _ ih => exact fun f b r => let ⟨b', r', h', e'⟩ := ih f b r; ⟨b', r', .os h', e'⟩
  | handled _ ih => exact fun f b r => let ⟨b', r', h', e'⟩ := ih f b r; ⟨b', r', .handled h', e'⟩
  | stack _ ih => exact fun f b r => let ⟨b', r', h', e'⟩ := ih f b r; ⟨b', r', .stack h', e'⟩
  | thread _ ih => exact fun f b r => let ⟨b', r', h', e'⟩ := ih f b r; ⟨b', r', .thread h', e'⟩
  | genState hs _ ih =>
    intro f b r
    obtain ⟨b', r', h', e'⟩ := ih f b r
    obtain ⟨y, hy, es⟩ := r.look hs
    rw [← es] at h'
    exact ⟨b', r', .genState hy h', e'⟩
  | newGen _ ih =>
    intro f b r
    obtain ⟨b', r', h', e'⟩ := ih f _ (r.push _)
    rw [r.size] at h'
    exact ⟨b', r', .newGen h', e'⟩
  | call _ _ ih1 ih2 =>
    intro f b r
    obtain ⟨b1, r1, h1, _⟩ := ih1 rfl b r
    obtain ⟨b2, r2, h2, e2⟩ := ih2 rfl b1 r1
    exact ⟨b2, r2, .call h1 h2, e2⟩
  | callSusp _ ih =>
    intro f b r
    obtain ⟨b1, r1, h1, e1⟩ := ih rfl b r
    exact ⟨b1, r1, .callSusp h1, split_app e1 split_ret⟩
  | yield => exact fun _ b r => ⟨b, r, .yield, rfl⟩
  | resumeFresh hg _ hq _ ih1 ih2 =>
    intro f b r
    obtain ⟨d, hb⟩ := r.same hg (fun _ _ _ _ _ _ => by intro z; cases z)
    obtain ⟨b1, r1, h1, e1⟩ := ih1 rfl _ (r.set (x := .running) d trivial)
    obtain ⟨b2, r2, h2, e2⟩ := ih2 rfl _ (r1.set d (efr_gfr e1))
    exact ⟨b2, r2, .resumeFresh hb h1 hq h2, e2⟩
  | @resumeSuspended Γ p g rs l k s k₀ l₀ c₀ p₀ fs cl e₁ s₁ e s' hg hr hq _ ih1 ih2 =>
    intro f b r
    by_cases d : D g
    · obtain ⟨h1, _, h3⟩ := r.held g d
      rw [hg] at h1
      cases q : T g with
      | suspended k1 l1 c1 p1 fs1 cl1 =>
        rw [q] at h1
        have z := Option.some.inj h1
        cases z
        exact (no_unsupported hr).elim
      | _ => rw [q] at h3; exact h3.elim
    · obtain ⟨h1, h2⟩ := r.free g d
      have gf : splitAtGen fs = none := h2 _ hg
      obtain ⟨b1, r1, k1, e1⟩ := ih1 gf _ (r.set (x := .running) d trivial)
      obtain ⟨b2, r2, k2, e2⟩ := ih2 rfl _ (r1.set d (efr_gfr e1))
      exact ⟨b2, r2, .resumeSuspended (h1 ▸ hg) k1 hq k2, e2⟩
  | resumeJustStarted hg hv _ ih =>
    intro f b r
    obtain ⟨d, hb⟩ := r.same hg (fun _ _ _ _ _ _ => by intro z; cases z)
    obtain ⟨b', r', h', e'⟩ := ih f b r
    exact ⟨b', r', .resumeJustStarted hb hv h', e'⟩
  | resumeThrowFresh hg _ ih =>
    intro f b r
    obtain ⟨d, hb⟩ := r.same hg (fun _ _ _ _ _ _ => by intro z; cases z)
    obtain ⟨b', r', h', e'⟩ := ih f _ (r.set (x := .finished) d trivial)
    exact ⟨b', r', .resumeThrowFresh hb h', e'⟩
  | resumeRunning hg _ ih =>
    intro f b r
    obtain ⟨d, hb⟩ := r.same hg (fun _ _ _ _ _ _ => by intro z; cases z)
    obtain ⟨b', r', h', e'⟩ := ih f b r
    exact ⟨b', r', .resumeRunning hb h', e'⟩
  | resumeFinished hg _ ih =>
    intro f b r
    obtain ⟨d, hb⟩ := r.same hg (fun _ _ _ _ _ _ => by intro z; cases z)
    obtain ⟨b', r', h', e'⟩ := ih f b r
    exact ⟨b', r', .resumeFinished hb h', e'⟩
  | segRet _ _ ih1 ih2 =>
    intro f b r
    obtain ⟨b1, r1, h1, _⟩ := ih1 rfl b r
    obtain ⟨b2, r2, h2, e2⟩ := ih2 (split_cons f) b1 r1
    exact ⟨b2, r2, .segRet h1 h2, e2⟩
  | segGen _ _ _ _ => intro f; cases f
  | segSuspOut hs _ ih =>
    intro f b r
    obtain ⟨b1, r1, h1, e1⟩ := ih rfl b r
    exact ⟨b1, r1, .segSuspOut hs h1, split_app e1 f⟩
  | segSuspGen hs _ _ _ _ _ => intro f; rw [hs] at f; cases f
end G

/-! The same for trees; what a loop's body leaves alone; one segment of a generator. -/
namespace G
open PySem PySem.Spec PyProof.Rows L2
open PySem.Sem (wp)

theorem returns_true {M : Model} {D : Nat → Prop} {T : Nat → GenState} {Γ : PySem.Ctx} {p : Pos} {s s' : Shared} {r : Result} (h : Returns M Γ p s r s') {b : Array GenState} (pr : PR D T s.gens b) :
    ∃ b', PR D T s'.gens b' ∧ Returns M Γ p { s with gens := b } r { s' with gens := b' } := by
  obtain ⟨b', r', h', _⟩ := runs_true h rfl b pr
  exact ⟨b', r', h'⟩
theorem wakes_true {M : Model} {D : Nat → Prop} {T : Nat → GenState} {Γ : PySem.Ctx} {p : Pos} {g : Nat} {r : Resume} {s s' : Shared} {res : GenResult} (h : Wakes M Γ p g r s res s') {b : Array GenState} (pr : PR D T s.gens b) :
    ∃ b', PR D T s'.gens b' ∧ Wakes M Γ p g r { s with gens := b } res { s' with gens := b' } := by
  unfold Wakes at h
  cases q : s.gens[g]? with
  | none => rw [q] at h; exact h.elim
  | some x =>
    rw [q] at h
    cases x with
    | fresh c =>
      obtain ⟨d, hb⟩ := pr.same q (fun _ _ _ _ _ _ => by intro z; cases z)
      have hb' : ({ s with gens := b } : Shared).gens[g]? = some (.fresh c) := hb
      cases r with
      | send v =>
        cases v with
        | none =>
          obtain ⟨e₁, s₁, h1, h2, rfl, rfl⟩ := h
          obtain ⟨b1, r1, k1, e1⟩ := runs_true h1 rfl _ (pr.set (x := .running) d trivial)
          refine ⟨_, r1.set d (efr_gfr e1), ?_⟩
          unfold Wakes
          rw [hb']
          exact ⟨e₁, _, k1, h2, rfl, rfl⟩
        | _ =>
          obtain ⟨rfl, rfl⟩ := h
          refine ⟨b, pr, ?_⟩
          unfold Wakes
          rw [hb']
          exact ⟨rfl, rfl⟩
      | throw v =>
        obtain ⟨rfl, rfl⟩ := h
        refine ⟨_, pr.set (x := .finished) d trivial, ?_⟩
        unfold Wakes
        rw [hb']
        exact ⟨rfl, rfl⟩
    | suspended k l c p₀ fs cl =>
      obtain ⟨e₁, s₁, h1, h2, rfl, rfl⟩ := h
      by_cases d : D g
      · obtain ⟨z1, _, z3⟩ := pr.held g d
        rw [q] at z1
        cases e : T g with
        | suspended k1 l1 c1 p1 fs1 cl1 =>
          rw [e] at z1
          have z := Option.some.inj z1
          cases z
          exact (no_unsupported h1).elim
        | _ => rw [e] at z3; exact z3.elim
      · obtain ⟨z1, z2⟩ := pr.free g d
        have hb' : ({ s with gens := b } : Shared).gens[g]? = some (.suspended k l c p₀ fs cl) := z1 ▸ q
        obtain ⟨b1, r1, k1, e1⟩ := runs_true h1 (z2 _ q) _ (pr.set (x := .running) d trivial)
        refine ⟨_, r1.set d (efr_gfr e1), ?_⟩
        unfold Wakes
        rw [hb']
        exact ⟨e₁, _, k1, h2, rfl, rfl⟩
    | running =>
      obtain ⟨d, hb⟩ := pr.same q (fun _ _ _ _ _ _ => by intro z; cases z)
      have hb' : ({ s with gens := b } : Shared).gens[g]? = some .running := hb
      obtain ⟨h1, h2⟩ := h
      rw [h1, h2]
      refine ⟨b, pr, ?_⟩
      unfold Wakes
      rw [hb']
      exact ⟨rfl, rfl⟩
    | finished =>
      obtain ⟨d, hb⟩ := pr.same q (fun _ _ _ _ _ _ => by intro z; cases z)
      have hb' : ({ s with gens := b } : Shared).gens[g]? = some .finished := hb
      obtain ⟨h1, h2⟩ := h
      rw [h1, h2]
      refine ⟨b, pr, ?_⟩
      unfold Wakes
      rw [hb']
      exact ⟨rfl, rfl⟩
/-- a post over the true table -/
def Tru {α : Type} (D : Nat → Prop) (T : Nat → GenState) (Q : α → Shared → Prop) (a : α) (s2 : Shared) : Prop := ∃ (s1 : Shared) (b' : Array GenState), s2 = { s1 with gens := b' } ∧ PR D T s1.gens b' ∧ Q a s1
theorem wp_true {α : Type} {M : Model} {Γ : PySem.Ctx} {D : Nat → Prop} {T : Nat → GenState} {Q : α → Shared → Prop} {E : Value → Shared → Prop} (t : Sem α) : ∀ (p : Pos) (s : Shared) (b : Array GenState), PR D T s.gens b →
    wp M Γ t (fun a _ s' => Q a s') (fun e _ s' => E e s') p s → wp M Γ t (fun a _ s2 => Tru D T Q a s2) (fun e _ s2 => Tru D T E e s2) p { s with gens := b } := by
  induction t with
  | pure a => exact fun p s b r h => ⟨s, b, rfl, r, h⟩
  | raise e => exact fun p s b r h => ⟨s, b, rfl, r, h⟩
  | unsupported _ => exact fun p s b r h => h
  | finish _ => exact fun p s b r h => h
  | rule _ k ih => exact fun p s b r h => ih () p s b r h
  | «at» p' k ih => exact fun p s b r h => ih () p' s b r h
  | load a _ k ih => exact fun p s b r ⟨o, ho, h⟩ => ⟨o, ho, ih o p s b r h⟩
  | update a _ f k ih => exact fun p s b r h => ⟨h.1, ih () p { s with heap := s.heap.update a f } b r h.2⟩
  | loadIfAlive a k ih => exact fun p s b r h => ih _ p s b r h
  | point _ k ih => exact fun p s b r h => ih () p s b r h
  | register _ _ => exact fun p s b r h => h
  | alloc o k ih => exact fun p s b r h => ih _ p { s with heap := s.heap.push o } b r h
  | fresh k ih => exact fun p s b r h => ih _ p { s with toks := s.toks + 1 } b r h
  | ask k ih => exact fun p s b r h => ih _ p s b r h
  | choose src m k ih => exact fun p s b r h => ⟨h.1, ih _ p { s with drawn := s.drawn.bump src } b r h.2⟩
  | os q _ k ih => exact fun p s b r h => ih _ p { s with os := (Os.step s.os q).1 } b r h
  | call c hd _ _ k ih =>
    intro p s b r h
    obtain ⟨rr, s', hr, h⟩ := h
    obtain ⟨b1, r1, hr'⟩ := returns_true hr r
    exact ⟨rr, _, hr', ih rr p s' b1 r1 h⟩
  | handled own k ih => exact fun p s b r h => ih _ p s b r h
  | genState g k ih =>
    intro p s b r h
    obtain ⟨st, hs, h⟩ := h
    obtain ⟨y, hy, es⟩ := r.look hs
    refine ⟨y, hy, ?_⟩
    rw [es]
    exact ih _ p s b r h
  | newGen c k ih =>
    intro p s b r h
    have h' := ih _ p { s with gens := s.gens.push (.fresh c) } _ (r.push c) h
    rw [r.size] at h'
    exact h'
  | resume g rs _ k ih =>
    intro p s b r h
    obtain ⟨res, s', hw, h⟩ := h
    obtain ⟨b1, r1, hw'⟩ := wakes_true hw r
    exact ⟨res, _, hw', ih res p s' b1 r1 h⟩
  | yield _ _ _ _ => exact fun p s b r h => h
  | stack k ih => exact fun p s b r h => ih _ p s b r h
  | fork _ _ => exact fun p s b r h => h
  | thread k ih => exact fun p s b r h => ih _ p s b r h
  | await _ _ _ _ _ => exact fun p s b r h => h
theorem wpAny_true {α : Type} {M : Model} {A : Around} {D : Nat → Prop} {T : Nat → GenState} {Q : α → Shared → Prop} {E : Value → Shared → Prop} {t : Sem α} {s : Shared} {b : Array GenState} (r : PR D T s.gens b) (h : wpAny M A t Q E s) :
    wpAny M A t (Tru D T Q) (Tru D T E) { s with gens := b } := fun Γ p hΓ => wp_true t p s b r (h Γ p hΓ)

/-! ### from every table to the true one -/
/-- the sleepers of a table -/
def slp (G : Array GenState) (i : Nat) : Prop := ∃ x, G[i]? = some x ∧ isSu x
def tbl (G : Array GenState) (i : Nat) : GenState := G.getD i .finished
theorem pr_start (G : Array GenState) : PR (slp G) (tbl G) (G.map stk) G where
  size := by simp
  held := fun i ⟨x, hx, su⟩ => by
    have e : tbl G i = x := by
      unfold tbl
      rw [Array.getD_eq_getD_getElem?, hx]; rfl
    rw [e, Array.getElem?_map, hx]
    exact ⟨rfl, rfl, su⟩
  free := fun i hi => by
    rw [Array.getElem?_map]
    cases q : G[i]? with
    | none => exact ⟨rfl, fun x hx => by cases hx⟩
    | some x =>
      have n : ¬ isSu x := fun su => hi ⟨x, q, su⟩
      cases x with
      | suspended k l c p fs cl => exact (n trivial).elim
      | _ => exact ⟨rfl, fun y hy => by cases hy; trivial⟩
theorem bare_stk {G : Array GenState} (h : AllBare G) : AllBare (G.map stk) := fun y hy => by
  obtain ⟨x, hx, rfl⟩ := Array.mem_map.mp hy
  rw [stk_bare]
  exact h x hx
theorem bare_true {D : Nat → Prop} {T : Nat → GenState} {a b : Array GenState} (r : PR D T a b) (h : AllBare a) : AllBare b := fun y hy => by
  obtain ⟨i, hi, e⟩ := Array.mem_iff_getElem.mp hy
  have q : b[i]? = some y := by rw [Array.getElem?_eq_getElem hi, e]
  by_cases d : D i
  · obtain ⟨h1, h2, _⟩ := r.held i d
    rw [h2] at q
    cases q
    rw [← stk_bare]
    exact h _ (Array.mem_of_getElem? h1)
  · rw [← (r.free i d).1] at q
    exact h _ (Array.mem_of_getElem? q)
theorem Inv.gens {X : Cx} {pins : List (Addr × Obj)} {σ : L2.St} {H : Hp} {s : Shared} (I : Inv X pins σ H s) {b : Array GenState} (hb : AllBare b) : Inv X pins σ H { s with gens := b } :=
  ⟨I.ok, I.os, hb, I.base, I.loc, I.cell, I.free, I.freeC, I.pin, I.hok, I.len⟩
/-- the sleepers sleep on -/
def Slp (G : Array GenState) (s' : Shared) : Prop := ∀ (i : Nat) (x : GenState), G[i]? = some x → isSu x → s'.gens[i]? = some x
theorem slp_of {G a b : Array GenState} (r : PR (slp G) (tbl G) a b) {s : Shared} : Slp G { s with gens := b } := fun i x hx su => by
  have h := (r.held i ⟨x, hx, su⟩).2.1
  have e : tbl G i = x := by
    unfold tbl
    rw [Array.getD_eq_getD_getElem?, hx]; rfl
  rw [e] at h
  exact h
section
variable {X : Cx} {pins : List (Addr × Obj)} {σ : L2.St} {H : Hp} {s : Shared}
/-- a block that was shown for every table leaves the sleepers alone -/
theorem pss_calm {body : List Stmt} {t : TS} {D : Ends} (hx : ∀ e s, ¬ X.xe e s) (hb : PSs X body t) (I : Inv X pins σ H s) (q : t D σ H) :
    wpAny (model X.prog X.w) X.A (execs body X.env) (fun f s' => SP X pins D f s' ∧ Slp s.gens s') (fun _ _ => False) s := by
  have h := wpAny_true (pr_start s.gens) (hb.run pins { s with gens := s.gens.map stk } σ H D (Inv.gens I (bare_stk I.bare)) q)
  refine wpAny_mono h (fun f s2 hs => ?_) fun e s2 hs => ?_
  · obtain ⟨s1, b', rfl, r, sp⟩ := hs
    refine ⟨?_, slp_of r⟩
    cases f with
    | next => obtain ⟨σ', H', J, q'⟩ := sp; exact ⟨σ', H', Inv.gens J (bare_true r J.bare), q'⟩
    | brk => obtain ⟨σ', H', J, q'⟩ := sp; exact ⟨σ', H', Inv.gens J (bare_true r J.bare), q'⟩
    | cont => obtain ⟨σ', H', J, q'⟩ := sp; exact ⟨σ', H', Inv.gens J (bare_true r J.bare), q'⟩
    | ret u => obtain ⟨v, σ', H', J, rv, q'⟩ := sp; exact ⟨v, σ', H', Inv.gens J (bare_true r J.bare), rv, q'⟩
  · obtain ⟨s1, b', rfl, r, z⟩ := hs
    exact hx _ _ z
theorem pg_calm {tg : Expr} {g : TG} {v : V} {u : Value} {Q : L2.St → Hp → Prop} (hx : ∀ e s, ¬ X.xe e s) (hg : PG X tg g) (I : Inv X pins σ H s) (rv : RelV v u) (q : g v σ H Q) :
    wpAny (model X.prog X.w) X.A (assign tg X.env u) (fun _ s' => (∃ σ' H', Inv X pins σ' H' s' ∧ Q σ' H') ∧ Slp s.gens s') (fun _ _ => False) s := by
  have h := wpAny_true (pr_start s.gens) (hg.run pins { s with gens := s.gens.map stk } σ H v u Q (Inv.gens I (bare_stk I.bare)) rv q)
  refine wpAny_mono h (fun f s2 hs => ?_) fun e s2 hs => ?_
  · obtain ⟨s1, b', rfl, r, σ', H', J, q'⟩ := hs
    exact ⟨⟨σ', H', Inv.gens J (bare_true r J.bare), q'⟩, slp_of r⟩
  · obtain ⟨s1, b', rfl, r, z⟩ := hs
    exact hx _ _ z
end

/-! ### one segment of a generator's run -/
def SR (M : Model) (A : Around) (Φ : End → Shared → Prop) (c : Code) (t : Sem PySem.Fin) (fs : List Frame) (s : Shared) : Prop :=
  ∀ Γ p, Γ.code = c → Γ.Woken A → ∃ e s', Runs M Γ p t fs s e s' ∧ Φ e s'
section
variable {M : Model} {A : Around} {Φ : End → Shared → Prop} {c : Code} {fs : List Frame} {s : Shared}
theorem sr_wrap {α : Type} {m : Sem α} {K : α → Sem PySem.Fin} {J : Value → Sem PySem.Fin} {gd : Bool → Bool} {lv : List Value → List Value}
    (h : wpAny M (A.over c fs) m (fun a s' => SR M A Φ c (K a) fs s') (fun x s' => SR M A Φ c (J x) fs s') s) : SR M A Φ c (m.wrap K J gd lv) fs s := by
  rintro Γ p rfl hΓ
  exact runs_wrap_of_wp K J gd lv m (h (Γ.over fs) p (hΓ.over fs)) (fun a p' s' k => k Γ p' rfl hΓ) (fun x p' s' k => k Γ p' rfl hΓ)
theorem sr_bind {α : Type} {m : Sem α} {K : α → Sem PySem.Fin} (h : wpAny M (A.over c fs) m (fun a s' => SR M A Φ c (K a) fs s') (fun x s' => SR M A Φ c (.raise x) fs s') s) : SR M A Φ c (m >>= K) fs s := by
  rw [Sem.bind_eq_wrap']
  exact sr_wrap h
theorem sr_bind_wrap {α β : Type} {m : Sem α} {f : α → Sem β} {K : β → Sem PySem.Fin} {J : Value → Sem PySem.Fin} {gd : Bool → Bool} {lv : List Value → List Value}
    (h : wpAny M (A.over c fs) m (fun a s' => SR M A Φ c ((f a).wrap K J gd lv) fs s') (fun x s' => SR M A Φ c (J x) fs s') s) : SR M A Φ c ((m >>= f).wrap K J gd lv) fs s := by
  rw [Sem.bind_eq_wrap', Sem.wrap_wrap]
  exact sr_wrap h
theorem sr_at {p' : Pos} {k : Unit → Sem PySem.Fin} (h : SR M A Φ c (k ()) fs s) : SR M A Φ c (.at p' k) fs s :=
  sr_wrap (m := standAt p') (K := k) (J := .raise) (gd := id) (lv := id) (wpAny_standAt h)
theorem sr_point {l : List Value} {k : Unit → Sem PySem.Fin} (h : SR M A Φ c (k ()) fs s) : SR M A Φ c (.point l k) fs s :=
  sr_wrap (m := point) (K := k) (J := .raise) (gd := id) (lv := fun _ => l) (wpAny_point h)
theorem sr_call {c' : Code} {hd : Option Value} {g : Bool} {l : List Value} {k : Result → Sem PySem.Fin} (h : ∀ p, SR M A Φ c' (M.den c') (.ret k hd g l c p [] :: fs) s) : SR M A Φ c (.call c' hd g l k) fs s := by
  rintro Γ p rfl hΓ
  obtain ⟨e, s', hr, he⟩ := h p (Γ.goto c') p rfl (hΓ.goto c')
  exact ⟨e, s', runs_call_seg hr, he⟩
theorem sr_leaf {k : Result → Sem PySem.Fin} {hd : Option Value} {g : Bool} {l kp : List Value} {c₁ : Code} {p₁ : Pos} (r : Result) (h : SR M A Φ c₁ (k r) fs s) : SR M A Φ c (leafOf r) (.ret k hd g l c₁ p₁ kp :: fs) s := by
  rintro Γ p rfl hΓ
  obtain ⟨e, s', hr, he⟩ := h (Γ.goto c₁) p₁ rfl (hΓ.goto c₁)
  exact ⟨e, s', Runs.pop r hr, he⟩
theorem sr_again {c' : Code} (hq : c'.quiet = true) (h : SR M A Φ c' (M.den c') fs s) : SR M A Φ c (.pure (.again c')) fs s := by
  rintro Γ p rfl hΓ
  obtain ⟨e, s', hr, he⟩ := h (Γ.goto c') p rfl (hΓ.goto c')
  exact ⟨e, s', Runs.head (c₁ := c') (fun _ _ x => .again hq x) hr, he⟩
theorem sr_end (r : Result) (h : Φ (.ret r) s) : SR M A Φ c (leafOf r) [] s := by
  rintro Γ p rfl _
  exact ⟨.ret r, s, Runs.leaf r, h⟩
theorem sr_yield {v : Value} {g : Bool} {l : List Value} {k : Resume → Sem PySem.Fin} (hfs : splitAtGen fs = none) (h : ∀ p, Φ (.susp v g l k c p fs) s) : SR M A Φ c (.yield v g l k) fs s := by
  rintro Γ p rfl _
  exact ⟨_, s, Runs.yield' fs hfs, h p⟩
end
end G

/-! A generator def's body, woken ever again by a consumer that does anything between. -/
namespace G
open PySem PySem.Spec PyProof.Rows L2 GenW
open PySem.Sem (wp)

/-- what stays the same through a generator's life; A: where it is woken; pn: its own object -/
structure Gc where
  P : Program
  w : World
  K : PySem.W.Frag
  mg : Str → Option Value
  base : Heap
  N : List Str
  env : Env
  A : Around
  outer : List Env
  pn : List (Addr × Obj)
abbrev Gc.M (C : Gc) : Model := model C.P C.w
/-- its context, from one waking on -/
def Gc.x (C : Gc) (s0 : Shared) (H0 : Hp) : Cx where
  prog := C.P
  w := C.w
  K := C.K
  mg := C.mg
  base := C.base
  A := C.A.deeper C.env
  N := C.N
  s_0 := s0
  H_0 := H0
  env := C.env
  outer := C.outer
  stack := C.env :: C.outer
  ex := []
  fn := fun _ => true
  calm := true
  pn := C.pn
  xe := fun _ _ => False
/-- what is still to come; at the last waking: the frozen heap, the others' cells, what the consumer pinned, the state, the tracked heap -/
structure Gh (α : Type) where
  rem : List α
  F : Hp
  R : Own
  xp : List (Addr × Obj)
  s0 : Shared
  H0 : Hp
def Dj (xp ip : List (Addr × Obj)) : Prop := ∀ p ∈ xp, ∀ q ∈ ip, p.1 ≠ q.1
def GI (C : Gc) (ip xp : List (Addr × Obj)) (s0 : Shared) (H0 : Hp) (σ : L2.St) (H : Hp) (s : Shared) : Prop := (s0.heap.objs.size = C.env.locals ∧ Dj xp ip ∧ ∀ q ∈ ip, C.env.locals ≤ q.1) ∧ Inv (C.x s0 H0) (xp ++ ip) σ H s
section
variable {α : Type} (C : Gc) (r : Rp α)
/-- how a segment ends -/
def Nx : List α → Hp → Own → List (Addr × Obj) → Shared → Hp → End → Shared → Prop
  | [], F, R, xp, s0, H0, e, s => e = .ret (.ok (.ret .none)) ∧ ∃ ip σ H F', GI C ip xp s0 H0 σ H s ∧ Same F F' ∧ Sta F' R H
  | y :: ys, F, R, xp, s0, H0, e, s => ∃ v g l k c p fs, e = .susp v g l k c p fs ∧ e.quiet = true ∧ ∃ x σ H F' cg ip, RelV x v ∧ r F' x y ∧ GI C ip xp s0 H0 σ H s ∧ Same F F' ∧ Sta F' (cg ++ R) H ∧
      ∀ s0' H' F4 R4 xp' s'', GI C ip xp' s0' H' σ H' s'' → Same F' F4 → Sta F4 (cg ++ R4) H' → SR C.M C.A (Nx ys F4 R4 xp' s0' H') c (k (.send .none)) fs s''
end
abbrev Gh.at {α : Type} (γ : Gh α) (C : Gc) (r : Rp α) : End → Shared → Prop := Nx C r γ.rem γ.F γ.R γ.xp γ.s0 γ.H0
/-- what is wanted behind a statement -/
structure GEnds (α : Type) where
  nx : Gh α → L2.St → Hp → Prop
  rt : Gh α → VK
  bk : Gh α → L2.St → Hp → Prop := fun _ _ _ => False
  ct : Gh α → L2.St → Hp → Prop := fun _ _ _ => False
abbrev TGn (α : Type) := GEnds α → Gh α → L2.St → Hp → Prop
def GEnds.at {α : Type} (D : GEnds α) (γ : Gh α) : Ends := { nx := D.nx γ, rt := D.rt γ, bk := D.bk γ, ct := D.ct γ }
abbrev Gh.gi {α : Type} (γ : Gh α) (C : Gc) (ip : List (Addr × Obj)) (σ : L2.St) (H : Hp) (s : Shared) : Prop := GI C ip γ.xp γ.s0 γ.H0 σ H s
section
variable {α : Type} {C : Gc} {r : Rp α}
def GSP (C : Gc) (ip : List (Addr × Obj)) (D : GEnds α) (γ : Gh α) (f : Flow) (s : Shared) : Prop :=
  match f with
  | .next => ∃ σ H, γ.gi C ip σ H s ∧ D.nx γ σ H
  | .brk => ∃ σ H, γ.gi C ip σ H s ∧ D.bk γ σ H
  | .cont => ∃ σ H, γ.gi C ip σ H s ∧ D.ct γ σ H
  | .ret u => ∃ v σ H, γ.gi C ip σ H s ∧ RelV v u ∧ D.rt γ v H
/-- where its code stands -/
structure GC (C : Gc) (c : Code) (fs : List Frame) (gd : Bool → Bool) : Prop where
  over : C.A.over c fs = C.A.deeper C.env
  split : splitAtGen fs = none
  guard : fs.any Frame.guarded = false
  gd : gd false = false
def GK (C : Gc) (r : Rp α) (ip : List (Addr × Obj)) (c : Code) (fs : List Frame) (Kf : Flow → Sem PySem.Fin) (D : GEnds α) : Prop :=
  ∀ (γ : Gh α) (s : Shared) (f : Flow), GSP C ip D γ f s → SR C.M C.A (γ.at C r) c (Kf f) fs s
structure GS (C : Gc) (r : Rp α) (st : Stmt) (t : TGn α) : Prop where
  run : ∀ (ip : List (Addr × Obj)) (c : Code) (fs : List Frame) (Kf : Flow → Sem PySem.Fin) (J : Value → Sem PySem.Fin) (gd : Bool → Bool) (lv : List Value → List Value) (γ : Gh α) (s : Shared) (σ : L2.St) (H : Hp) (D : GEnds α),
    GC C c fs gd → GK C r ip c fs Kf D → γ.gi C ip σ H s → t D γ σ H → SR C.M C.A (γ.at C r) c ((exec st C.env).wrap Kf J gd lv) fs s
structure GSs (C : Gc) (r : Rp α) (st : List Stmt) (t : TGn α) : Prop where
  run : ∀ (ip : List (Addr × Obj)) (c : Code) (fs : List Frame) (Kf : Flow → Sem PySem.Fin) (J : Value → Sem PySem.Fin) (gd : Bool → Bool) (lv : List Value → List Value) (γ : Gh α) (s : Shared) (σ : L2.St) (H : Hp) (D : GEnds α),
    GC C c fs gd → GK C r ip c fs Kf D → γ.gi C ip σ H s → t D γ σ H → SR C.M C.A (γ.at C r) c ((execs st C.env).wrap Kf J gd lv) fs s
/-! ### statements that hand out nothing -/
def tPl (t : Shared → Hp → TS) : TGn α := fun D γ σ H => t γ.s0 γ.H0 (D.at γ) σ H
theorem sp_gsp {ip : List (Addr × Obj)} {γ : Gh α} {s : Shared} {D : GEnds α} {f : Flow} (e : γ.s0.heap.objs.size = C.env.locals ∧ Dj γ.xp ip ∧ ∀ q ∈ ip, C.env.locals ≤ q.1) (h : SP (C.x γ.s0 γ.H0) (γ.xp ++ ip) (D.at γ) f s) : GSP C ip D γ f s := by
  cases f with
  | next => obtain ⟨σ, H, I, q⟩ := h; exact ⟨σ, H, ⟨e, I⟩, q⟩
  | brk => obtain ⟨σ, H, I, q⟩ := h; exact ⟨σ, H, ⟨e, I⟩, q⟩
  | cont => obtain ⟨σ, H, I, q⟩ := h; exact ⟨σ, H, ⟨e, I⟩, q⟩
  | ret u => obtain ⟨v, σ, H, I, r1, q⟩ := h; exact ⟨v, σ, H, ⟨e, I⟩, r1, q⟩
theorem gs_ps {st : Stmt} {t : Shared → Hp → TS} (h : ∀ s0 H0, PS (C.x s0 H0) st (t s0 H0)) : GS C r st (tPl t) := by
  refine ⟨fun ip c fs Kf J gd lv γ s σ H D g k hI ht => ?_⟩
  obtain ⟨e, I⟩ := hI
  refine sr_wrap ?_
  rw [g.over]
  exact wpAny_mono ((h γ.s0 γ.H0).run _ s σ H (D.at γ) I ht) (fun f s' hs => k γ s' f (sp_gsp e hs)) fun x s' hx => hx.elim
theorem gss_pss {st : List Stmt} {t : Shared → Hp → TS} (h : ∀ s0 H0, PSs (C.x s0 H0) st (t s0 H0)) : GSs C r st (tPl t) := by
  refine ⟨fun ip c fs Kf J gd lv γ s σ H D g k hI ht => ?_⟩
  obtain ⟨e, I⟩ := hI
  refine sr_wrap ?_
  rw [g.over]
  exact wpAny_mono ((h γ.s0 γ.H0).run _ s σ H (D.at γ) I ht) (fun f s' hs => k γ s' f (sp_gsp e hs)) fun x s' hx => hx.elim
def tG0 : TGn α := fun D γ σ H => D.nx γ σ H
theorem gss_nil : GSs C r [] (tG0 (α := α)) := ⟨fun ip c fs Kf J gd lv γ s σ H D g k hI ht => k γ s .next ⟨σ, H, hI, ht⟩⟩
def tGSeq (t u : TGn α) : TGn α := fun D γ σ H => t { D with nx := fun γ' σ' H' => u D γ' σ' H' } γ σ H
theorem gss_cons {st : Stmt} {rest : List Stmt} {t u : TGn α} (a : GS C r st t) (b : GSs C r rest u) : GSs C r (st :: rest) (tGSeq t u) := by
  refine ⟨fun ip c fs Kf J gd lv γ s σ H D g k hI ht => ?_⟩
  rw [execs_cons_wrap]
  refine a.run ip c fs _ J gd lv γ s σ H { D with nx := fun γ' σ' H' => u D γ' σ' H' } g (fun γ' s' f hs => ?_) hI ht
  cases f with
  | next =>
    obtain ⟨σ', H', I', q⟩ := hs
    exact b.run ip c fs Kf J gd lv γ' s' σ' H' D g k I' q
  | brk => exact k γ' s' .brk hs
  | cont => exact k γ' s' .cont hs
  | ret u => exact k γ' s' (.ret u) hs
theorem gss_one {st : Stmt} {t : TGn α} (a : GS C r st t) : GSs C r [st] t := by
  refine ⟨fun ip c fs Kf J gd lv γ s σ H D g k hI ht => ?_⟩
  rw [execs_cons_wrap]
  refine a.run ip c fs _ J gd lv γ s σ H D g (fun γ' s' f hs => ?_) hI ht
  cases f with
  | next => exact k γ' s' .next hs
  | brk => exact k γ' s' .brk hs
  | cont => exact k γ' s' .cont hs
  | ret u => exact k γ' s' (.ret u) hs
/-! ### yield -/
def tYield (r : Rp α) (te : Shared → Hp → TE) : TGn α := fun D γ σ H => te γ.s0 γ.H0 σ H fun x H1 => ∃ y ys F' cg, γ.rem = y :: ys ∧ r F' x y ∧ Same γ.F F' ∧ Sta F' (cg ++ γ.R) H1 ∧
  ∀ γ' : Gh α, γ'.rem = ys → Same F' γ'.F → Sta γ'.F (cg ++ γ'.R) γ'.H0 → D.nx γ' σ γ'.H0
theorem gs_yield {e : Expr} {yp pos : Pos} {te : Shared → Hp → TE} (he : ∀ s0 H0, PE (C.x s0 H0) e (te s0 H0)) (hco : C.env.scope.isCoroutine = false := by rfl) (hi : interactive C.env = false := by rfl) :
    GS C r (.Expr (.Yield (some e) yp) pos) (tYield r te) := by
  refine ⟨fun ip c fs Kf J gd lv γ s σ H D g k hI ht => ?_⟩
  obtain ⟨e0, I⟩ := hI
  rw [exec_Expr C.env _ pos hi rfl]
  show SR C.M C.A _ c (.at pos fun _ => ((eval e C.env >>= fun v => (standAt yp >>= fun _ => yieldOut C.env v)) >>= fun x => dropValue (.Yield (some e) yp) pos x).wrap Kf J gd lv) fs s
  have hy : ∀ v, yieldOut C.env v = yieldValue v := fun v => by simp only [yieldOut, hco, Bool.false_eq_true, if_false]
  simp only [hy]
  refine sr_at ?_
  rw [Sem.bind_eq_wrap', Sem.bind_eq_wrap', Sem.wrap_wrap, Sem.wrap_wrap]
  refine sr_wrap ?_
  rw [g.over]
  refine wpAny_mono ((he γ.s0 γ.H0).run _ s σ H _ I ht) (fun v s' hv => ?_) fun x s' hx => hx.elim
  obtain ⟨x, H1, I1, rv, y, ys, F', cg, er, ry, sf, sta, nxt⟩ := hv
  refine sr_at (sr_yield g.split fun p => ?_)
  show Nx C r γ.rem γ.F γ.R γ.xp γ.s0 γ.H0 _ s'
  rw [er]
  refine ⟨_, _, _, _, _, _, _, rfl, ?_, x, σ, H1, F', cg, ip, rv, ry, ⟨e0, I1⟩, sf, sta, fun s0' H' F4 R4 xp' s'' I' sf' sta' => ?_⟩
  · simp [End.quiet, g.gd, g.guard]
  · exact k ⟨ys, F4, R4, xp', s0', H'⟩ s'' .next ⟨σ, H', I', nxt ⟨ys, F4, R4, xp', s0', H'⟩ rfl sf' sta'⟩
end
end G

/-! for in a generator def's body; its begin. -/
namespace G
open PySem PySem.Spec PyProof.Rows L2 GenW
open PySem.Sem (wp)
section
variable {α : Type} {C : Gc} {r : Rp α}
abbrev loopK (env : Env) (Kf : Flow → Sem PySem.Fin) (J : Value → Sem PySem.Fin) (gd : Bool → Bool) (lv : List Value → List Value) : Result → Sem PySem.Fin :=
  fun q => ((match q with | .ok f => (.pure f : Sem Flow) | .error e => .raise e).onRaise (cameBack env)).wrap Kf J gd lv
theorem gc_loop' {c c' : Code} {fs : List Frame} {gd : Bool → Bool} {k : Result → Sem PySem.Fin} {l kp : List Value} {p : Pos} (g : GC C c fs gd) (hw : c'.weight = 0) (hu : c'.cUnits = 0) : GC C c' (.ret k none (gd false) l c p kp :: fs) id where
  over := (over_loop hw hu).trans g.over
  split := by
    show (splitAtGen fs).map _ = none
    rw [g.split]; rfl
  guard := by
    show (gd false || fs.any Frame.guarded) = false
    rw [g.gd, g.guard]; rfl
  gd := rfl
def tGFor (wi : Shared → Hp → TI) (g : TG) (tb : TGn α) : TGn α := fun D γ σ H => wi γ.s0 γ.H0 σ H fun J H1 => ∃ W : Nat → Nat → Gh α → L2.St → Hp → Prop, (∃ m, W 0 m γ σ H1) ∧ ∀ i m γ σ H, W i m γ σ H →
  (J.stop i H ∧ D.nx γ σ H) ∨ (J.go i H ∧ ∃ N : Gh α → L2.St → Hp → Prop, (∀ γ' σ' H', N γ' σ' H' → ∃ m', m' < m ∧ W (i + 1) m' γ' σ' H') ∧ ∀ x H', J.yld i H x H' → g x σ H' fun σ2 H2 => tb { D with nx := N, ct := N, bk := D.nx } γ σ2 H2)
theorem gs_for {tg iter : Expr} {body : List Stmt} {wi : Shared → Hp → TI} {g : TG} {tb : TGn α} {pos : Pos} (hi : ∀ s0 H0, PI (C.x s0 H0) tg iter (wi s0 H0)) (hg : ∀ s0 H0, PG (C.x s0 H0) tg g) (hb : GSs C r body tb)
    (hs : ∀ x, foldedSetIterable iter C.env x = pure x := by intro _; rfl) : GS C r (.For tg iter body [] pos) (tGFor wi g tb) := by
  refine ⟨fun ip c fs Kf J gd lv γ s σ H D gc k hI ht => ?_⟩
  obtain ⟨e0, I⟩ := hI
  rw [exec_For]
  refine sr_bind_wrap (wpAny_standAt ?_)
  refine sr_bind_wrap ?_
  rw [gc.over]
  refine wpAny_mono ((hi γ.s0 γ.H0).run _ s σ H _ I ht) (fun v s1 h1 => ?_) fun x s' hx => hx.elim
  refine sr_bind_wrap (wpAny_of_eq (hs v) ?_)
  refine sr_bind_wrap (wpAny_standAt ?_)
  refine sr_bind_wrap (wpAny_holding ?_)
  rw [gc.over]
  refine wpAny_mono h1 (fun itv s2 h2 => ?_) fun x s' hx => hx.elim
  obtain ⟨it, fp, tn, JI, H2, rfl, I2, T, st2, f2, W, ⟨m0, w0⟩, turn⟩ := h2
  refine sr_call fun p => ?_
  show SR C.M C.A (γ.at C r) (.forLoop tg (.ref it) body [] C.env) (C.M.den (.forLoop tg (.ref it) body [] C.env)) (.ret (loopK C.env Kf J gd lv) none (gd false) (lv []) c p [] :: fs) s2
  have gl : GC C (.forLoop tg (.ref it) body [] C.env) (.ret (loopK C.env Kf J gd lv) none (gd false) (lv []) c p [] :: fs) id := gc_loop' gc rfl rfl
  have gb : GC C (.block [] C.env) (.ret (loopK C.env Kf J gd lv) none (gd false) (lv []) c p [] :: fs) id := gc_loop' gc rfl rfl
  -- what holds of the iterator's objects at every waking
  have stat : ∀ {γ' : Gh α} {σ' : L2.St} {H' : Hp} {s' : Shared}, γ'.gi C ip σ' H' s' → (∀ b ∈ fp, H' b = none) → (∀ b ∈ fp, ∀ p ∈ γ'.xp, p.1 ≠ b) → ∀ b ∈ fp, FpOk (C.x γ'.s0 γ'.H0) (γ'.xp ++ ip) H' b := fun {γ' σ' H' s'} hI' hn hx b hb => by
    obtain ⟨q1, q2, q3, q4, q5, q6⟩ := f2 b hb
    refine ⟨hn b hb, q2, q3, .inr ?_, q5, fun p hp => ?_⟩
    · rcases q4 with z | z
      · cases z
      · show γ'.s0.heap.objs.size ≤ b
        rw [hI'.1.1]
        have z' : γ.s0.heap.objs.size ≤ b := z
        rw [e0.1] at z'
        exact z'
    · rcases List.mem_append.mp hp with z | z
      · exact q6 p (List.mem_append_left _ z)
      · rcases List.mem_append.mp z with z | z
        · exact hx b hb p z
        · exact q6 p (List.mem_append_right _ (List.mem_append_right _ z))
  have old : ∀ b ∈ fp, C.env.locals ≤ b := fun b hb => by
    obtain ⟨_, _, _, q4, _⟩ := f2 b hb
    rcases q4 with z | z
    · cases z
    · have z' : γ.s0.heap.objs.size ≤ b := z
      rw [e0.1] at z'
      exact z'
  have hx0 : ∀ b ∈ fp, ∀ p ∈ γ.xp, p.1 ≠ b := fun b hb p hp => (f2 b hb).2.2.2.2.2 p (List.mem_append_right _ (List.mem_append_left _ hp))
  have loop : ∀ (m i : Nat) (γ : Gh α) (s : Shared) (σ : L2.St) (H : Hp), W i m γ σ H → γ.gi C ip σ H s → tn i s.heap → (∀ b ∈ fp, H b = none) → (∀ b ∈ fp, ∀ p ∈ γ.xp, p.1 ≠ b) →
      SR C.M C.A (γ.at C r) (.forLoop tg (.ref it) body [] C.env) (C.M.den (.forLoop tg (.ref it) body [] C.env)) (.ret (loopK C.env Kf J gd lv) none (gd false) (lv []) c p [] :: fs) s := by
    intro m
    induction m using Nat.strongRecOn with
    | ind m ih =>
      intro i γ s σ H w hI st fr hx
      show SR C.M C.A _ _ ((forTurn tg (.ref it) body [] C.env).onRaise (fun x => do noteFrame x C.env; theTreesLotGoes x)) _ s
      rw [Sem.onRaise_eq_wrap]
      simp only [forTurn]
      refine sr_bind_wrap (wpAny_standAt ?_)
      refine sr_bind_wrap (wpAny_onRaise ?_)
      rw [gl.over]
      rcases turn i m γ σ H w with ⟨stop, qn⟩ | ⟨go, N, hN, step⟩
      · refine wpAny_mono (T.done (C.x γ.s0 γ.H0) rfl rfl rfl rfl i _ s σ H (fun _ _ => False) hI.2 (stat hI fr hx) st stop) (fun q s4 h4 => ?_) fun x s' z => z.elim
        obtain ⟨rfl, I4⟩ := h4
        refine sr_again rfl ?_
        show SR C.M C.A _ _ (.pure (.done .next)) _ s4
        exact sr_leaf (.ok .next) (k γ s4 .next ⟨σ, H, ⟨hI.1, I4⟩, qn⟩)
      · refine wpAny_mono (T.item (C.x γ.s0 γ.H0) rfl rfl rfl rfl i _ s σ H (fun _ _ => False) hI.2 (stat hI fr hx) st go) (fun q s4 h4 => ?_) fun x s' z => z.elim
        obtain ⟨u, rfl, h4⟩ := h4
        refine sr_bind_wrap ?_
        rw [gl.over]
        refine wpAny_mono h4 (fun _ s5 h5 => ?_) fun x s' z => z.elim
        obtain ⟨x, H5, I5, r5, y5, st5, fr5⟩ := h5
        have I5' := I5.pinned (stat (γ' := γ) ⟨hI.1, I5⟩ fr5 hx) (T.obj _ _ st5)
        refine sr_bind_wrap ?_
        rw [gl.over]
        refine wpAny_mono ((hg γ.s0 γ.H0).run _ s5 σ H5 x u _ I5' r5 (step x H5 y5)) (fun _ s6 h6 => ?_) fun x s' z => z.elim
        obtain ⟨σ6, H6, I6, q6⟩ := h6
        rw [Sem.bind_eq_wrap', Sem.wrap_wrap]
        rw [List.append_assoc] at I6
        refine hb.run (ip ++ pinsAt fp s5.heap) _ _ _ _ _ _ γ s6 σ6 H6 _ gl (fun γ' s7 f hs => ?_) ⟨⟨hI.1.1, fun p hp q hq => (List.mem_append.mp hq).elim (hI.1.2.1 p hp q) fun z => hx q.1 (of_pinsAt z).1 p hp, fun q hq => (List.mem_append.mp hq).elim (hI.1.2.2 q) fun z => old q.1 (of_pinsAt z).1⟩, I6⟩ q6
        have dj7 : ∀ {σ7 : L2.St} {H7 : Hp}, γ'.gi C (ip ++ pinsAt fp s5.heap) σ7 H7 s7 → Dj γ'.xp ip ∧ ∀ q ∈ ip, C.env.locals ≤ q.1 := fun I7 => ⟨fun p hp q hq => I7.1.2.1 p hp q (List.mem_append_left _ hq), fun q hq => I7.1.2.2 q (List.mem_append_left _ hq)⟩
        have again : ∀ {σ7 : L2.St} {H7 : Hp}, γ'.gi C (ip ++ pinsAt fp s5.heap) σ7 H7 s7 → N γ' σ7 H7 →
            SR C.M C.A (γ'.at C r) (.forLoop tg (.ref it) body [] C.env) (.pure (.again (.forLoop tg (.ref it) body [] C.env))) (.ret (loopK C.env Kf J gd lv) none (gd false) (lv []) c p [] :: fs) s7 := fun {σ7 H7} I7 n7 => by
          obtain ⟨m', hm, w7⟩ := hN γ' σ7 H7 n7
          have I7' := I7.2
          rw [← List.append_assoc] at I7'
          have pin7 : ∀ b ∈ fp, ∀ o, s5.heap.get? b = some o → _ := fun b hb o e => I7'.pin (b, o) (List.mem_append_right _ (List.mem_append_right _ (mem_pinsAt hb e)))
          refine sr_again rfl (ih m' hm (i + 1) γ' s7 σ7 H7 w7 ⟨⟨I7.1.1, dj7 I7⟩, I7'.unpinned⟩ (T.keep _ _ _ st5 fun b hb o e => (pin7 b hb o e).1) (fun b hb => ?_) fun b hb p hp z => ?_)
          · obtain ⟨o, e, d⟩ := T.obj _ _ st5 b hb
            exact (pin7 b hb o e).2.1
          · obtain ⟨o, e, d⟩ := T.obj _ _ st5 b hb
            exact I7.1.2.1 p hp (b, o) (List.mem_append_right _ (mem_pinsAt hb e)) z
        cases f with
        | next => obtain ⟨σ7, H7, I7, n7⟩ := hs; exact again I7 n7
        | cont => obtain ⟨σ7, H7, I7, n7⟩ := hs; exact again I7 n7
        | brk =>
          obtain ⟨σ7, H7, I7, q7⟩ := hs
          have I7' := I7.2
          rw [← List.append_assoc] at I7'
          exact sr_leaf (.ok .next) (k γ' s7 .next ⟨σ7, H7, ⟨⟨I7.1.1, dj7 I7⟩, I7'.unpinned⟩, q7⟩)
        | ret v =>
          obtain ⟨x7, σ7, H7, I7, r7, q7⟩ := hs
          have I7' := I7.2
          rw [← List.append_assoc] at I7'
          exact sr_leaf (.ok (.ret v)) (k γ' s7 (.ret v) ⟨x7, σ7, H7, ⟨⟨I7.1.1, dj7 I7⟩, I7'.unpinned⟩, r7, q7⟩)
  exact loop m0 0 γ s2 σ H2 w0 ⟨e0, I2⟩ st2 (fun b hb => (f2 b hb).1) hx0
end
end G

/-! A generator's begin; what next does with it. -/
namespace G
open PySem PySem.Spec PyProof.Rows L2 GenW
open PySem.Sem (wp)
section
variable {P : Program} {w : World} {A : Around} {Φ : End → Shared → Prop} {s : Shared}
theorem sr_func {body : List Stmt} {env : Env} (h : SR (model P w) A Φ (.func body env) ((execs body env).wrap (fun f => .pure (.done (.ret (match f with | .ret v => v | _ => .none)))) (fun e => (leaving env e).wrap (fun _ => .raise e) .raise id id) id id) [] s) :
    SR (model P w) A Φ (.func body env) ((model P w).den (.func body env)) [] s := by
  show SR _ A Φ _ (.point [] fun _ => ((execs body env).onRaise (leaving env)) >>= _) [] s
  refine sr_point ?_
  have e : ∀ (Kf : Flow → Sem PySem.Fin), (∀ f, Kf f = .pure (.done (.ret (match f with | .ret v => v | _ => .none)))) → (((execs body env).onRaise (leaving env)) >>= Kf) =
      (execs body env).wrap (fun f => .pure (.done (.ret (match f with | .ret v => v | _ => .none)))) (fun e => (leaving env e).wrap (fun _ => .raise e) .raise id id) id id := fun Kf hK => by
    rw [Sem.onRaise_eq_wrap, Sem.bind_eq_wrap', Sem.wrap_wrap]
    exact Sem.wrap_congr _ _ _ (fun f => hK f) fun x => by rw [Sem.bind_eq_wrap, Sem.wrap_wrap]; rfl
  rw [e _ fun f => by cases f <;> rfl]
  exact h
end
section
variable {α : Type} {C : Gc} {r : Rp α}
/-- what a body is to reach -/
def gEnd : GEnds α := { nx := fun γ _ H => γ.rem = [] ∧ ∃ F', Same γ.F F' ∧ Sta F' γ.R H, rt := fun γ v H => v = .non ∧ γ.rem = [] ∧ ∃ F', Same γ.F F' ∧ Sta F' γ.R H }
theorem gen_start {body : List Stmt} {t : TGn α} {γ : Gh α} {σ : L2.St} (hb : GSs C r body t) (hγ : γ.gi C [] σ γ.H0 s) (ht : t gEnd γ σ γ.H0) : SR C.M C.A (γ.at C r) (.func body C.env) (C.M.den (.func body C.env)) [] s := by
  refine sr_func (hb.run [] _ [] _ _ _ _ γ s σ γ.H0 gEnd ⟨over_func, rfl, rfl, rfl⟩ (fun γ' s' f hs => ?_) hγ ht)
  have fin : ∀ {σ' : L2.St} {H' : Hp}, γ'.gi C [] σ' H' s' → γ'.rem = [] → (∃ F', Same γ'.F F' ∧ Sta F' γ'.R H') → SR C.M C.A (γ'.at C r) (.func body C.env) (.pure (.done (.ret .none))) [] s' := fun {σ' H'} g e ⟨F', q1, q2⟩ => by
    refine sr_end (.ok (.ret .none)) ?_
    show Nx C r γ'.rem γ'.F γ'.R γ'.xp γ'.s0 γ'.H0 _ s'
    rw [e]
    exact ⟨rfl, [], σ', H', F', g, q1, q2⟩
  cases f with
  | next => obtain ⟨σ', H', g, e, q⟩ := hs; exact fin g e q
  | brk => obtain ⟨_, _, _, q⟩ := hs; exact q.elim
  | cont => obtain ⟨_, _, _, q⟩ := hs; exact q.elim
  | ret u =>
    obtain ⟨v, σ', H', g, rv, ev, e, q⟩ := hs
    subst ev
    cases (rv : u = Value.none)
    exact fin g e q
/-- a generator's state, woken by next -/
def Sg (M : Model) (A : Around) (Φ : End → Shared → Prop) (gs : GenState) (s : Shared) : Prop := match gs with
  | .fresh c => SR M A Φ c (M.den c) [] s
  | .suspended k _ c _ fs _ => SR M A Φ c (k (.send .none)) fs s
  | _ => False
/-- it can be woken -/
def Rdy (C : Gc) (r : Rp α) (ip : List (Addr × Obj)) (σ : L2.St) (cg : Own) (F : Hp) (rem : List α) (gs : GenState) : Prop :=
  ∀ (s0 : Shared) (H0 F4 : Hp) (R4 : Own) (xp : List (Addr × Obj)) (s : Shared), GI C ip xp s0 H0 σ H0 s → Same F F4 → Sta F4 (cg ++ R4) H0 → Sg C.M C.A (Nx C r rem F4 R4 xp s0 H0) gs s
end
section
variable {M : Model} {A : Around} {Φ : End → Shared → Prop} {s : Shared}
theorem wpAny_wake {α : Type} {g : Nat} {gs : GenState} {l : List Value} {k : GenResult → Sem α} {Q : α → Shared → Prop} {E : Value → Shared → Prop} (hg : s.gens[g]? = some gs) (hgo : Sg M A Φ gs (s.setGen g .running)) (hq : ∀ e s', Φ e s' → e.quiet = true)
    (h : ∀ e s', Φ e s' → wpAny M A (k e.result) Q E (s'.setGen g e.genState)) : wpAny M A (.resume g (.send .none) l k) Q E s := by
  intro Γ p hΓ
  rw [Sem.wp_resume]
  have hB : ∀ c, (Γ.wake c p).Woken A := fun c => hΓ.wake c p
  cases gs with
  | fresh c =>
    obtain ⟨e, s', hr, he⟩ := hgo (Γ.wake c p) p rfl (hB c)
    refine ⟨_, _, ?_, h e s' he Γ p hΓ⟩
    unfold Wakes
    rw [hg]
    exact ⟨e, s', hr, hq e s' he, rfl, rfl⟩
  | suspended k₀ l₀ c₀ p₀ fs₀ cl =>
    obtain ⟨e, s', hr, he⟩ := hgo (Γ.wake c₀ p) p₀ rfl (hB c₀)
    refine ⟨_, _, ?_, h e s' he Γ p hΓ⟩
    unfold Wakes
    rw [hg]
    exact ⟨e, s', hr, hq e s' he, rfl, rfl⟩
  | running => exact hgo.elim
  | finished => exact hgo.elim
end
section
variable {P : Program} {w : World} {A : Around} {Φ : End → Shared → Prop} {s : Shared}
/-- next: an item, or the end -/
theorem next_S {a : Addr} {g : Nat} {gs : GenState} {Q : Option Value → Shared → Prop} {E : Value → Shared → Prop} (hh : A.handled = none) (hl : s.heap.NoLimit) (hroom : A.depth < recursionLimit) (hg : s.heap.IsGen a g) (hgs : s.gens[g]? = some gs) (hgo : Sg (model P w) A.in1 Φ gs (s.setGen g .running))
    (hΦ : ∀ e s', Φ e s' → e = .ret (.ok (.ret .none)) ∨ ∃ v b l k c p fs, e = .susp v b l k c p fs) (hq : ∀ e s', Φ e s' → e.quiet = true)
    (hY : ∀ v b l k c p fs s₁, Φ (.susp v b l k c p fs) s₁ → Q (some v) (s₁.setGen g (End.susp v b l k c p fs).genState))
    (hP : ∀ s₁, Φ (.ret (.ok (.ret .none))) s₁ → ∀ h', (∀ b o, s₁.heap.get? b = some o → h'.get? b = some o) → Q none { s₁.setGen g .finished with heap := h' }) : wpAny (model P w) A (pyNext (.ref a)) Q E s := by
  unfold pyNext
  refine wpAny_bind (wpAny_attempt (wpAny_callSpecial?_slot (name := Str.ofString "__next__") hg.typeIs slot_gen_next (wpAny_call_entry slot_gen_next hg.typeIs entry_gen_next ?_ (args_gen_next _))))
  show wpAny _ A.in1 (Builtin.Generator.genWake (.ref a) (.send .none)) _ _ s
  unfold Builtin.Generator.genWake
  refine wpAny_bind (wpAny_holding (wpAny_genNumber hg (wpAny_bind (wpAny_genState hgs ?_))))
  cases gs with
  | running => exact hgo.elim
  | finished => exact hgo.elim
  | _ =>
    refine wpAny_bind (wpAny_roomToWake hl hroom ?_)
    show wpAny _ A.in1 (.resume g (.send .none) [] _) _ _ s
    refine wpAny_wake hgs hgo hq fun e s₁ he => ?_
    rcases hΦ e s₁ he with rfl | ⟨v, b, l, k, c, p, fs, rfl⟩
    · show wpAny _ A.in1 (newExc (.type "StopIteration") [] >>= _) _ _ _
      refine wpAny_bind ?_
      simp only [newExc, newTuple]
      refine wpAny_bind (wpAny_newObj_type ?_ (by size_fits))
      refine wpAny_bind (m := firstArgMember _ _) (wpAny_of_eq (a := Value.none) (by first | rfl | (simp only [firstArgMember]; rfl)) ?_)
      refine wpAny_newObj_type ?_ (by size_fits)
      simp only [raiseNew]
      refine wpAny_bind (wpAny_bind (wpAny_handled ?_))
      first | rw [show A.in1.handled = none from hh] | rw [hh]
      refine wpAny_throw ?_
      refine wpAny_bind (wpAny_isInstance (T := "StopIteration") (b := true) ⟨_, Heap.get?_push_size _ rfl, rfl⟩ isSubtype_stop ?_)
      exact wpAny_pure (hP s₁ he _ fun b o hb => Heap.get?_push_of_some _ (Heap.get?_push_of_some _ hb))
    · exact wpAny_pure ⟨v, rfl, wpAny_pure (hY v b l k c p fs s₁ he)⟩
end
end G

/-! A generator and its consumer: how it is woken, what the consumer sees behind a waking. -/
namespace G
open PySem PySem.Spec PyProof.Rows L2 GenW
open PySem.Sem (wp)

/-! ### a heap's first addresses -/
def cutH (h : Heap) (L : Nat) : Heap := { h with objs := h.objs.extract 0 L }
theorem cutH_lt {h : Heap} {L b : Nat} (hb : b < L) : (cutH h L).get? b = h.get? b := by
  have e : (h.objs.extract 0 L)[b]? = h.objs[b]? := by
    rw [Array.getElem?_extract]
    simp only [Nat.zero_add, Nat.sub_zero]
    by_cases q : b < h.objs.size
    · rw [if_pos (by omega)]
    · rw [if_neg (by omega)]; exact (Array.getElem?_eq_none (by omega)).symm
  unfold cutH Heap.get?
  dsimp only
  rw [e]
theorem cutH_size {h : Heap} {L : Nat} (hl : L ≤ h.objs.size) : (cutH h L).objs.size = L := by
  unfold cutH
  simp only [Array.size_extract]
  omega
theorem cutH_some {h : Heap} {L b : Nat} {o : Obj} (hl : L ≤ h.objs.size) (e : (cutH h L).get? b = some o) : b < L ∧ h.get? b = some o := by
  have lt := Heap.lt_size e
  rw [cutH_size hl] at lt
  exact ⟨lt, (cutH_lt lt) ▸ e⟩
def cutS (s : Shared) (L : Nat) : Shared := { s with heap := cutH s.heap L }
theorem ff_cut {h base : Heap} {L : Nat} : ∀ {l : List Env}, (∀ b ∈ frs l, b < L) → h.FunFrames base l → (cutH h L).FunFrames base l
  | [], _, _ => trivial
  | env :: rest, hb, hf => by
    obtain ⟨h1, ⟨a, o, ha, hn, ho, hd⟩, h3⟩ := hf
    have hm : a < L := hb a (by unfold frs; rw [List.filterMap_cons, ha]; exact List.mem_cons_self)
    exact ⟨h1, ⟨a, o, ha, hn, by rw [cutH_lt hm]; exact ho, hd⟩, ff_cut (fun b q => hb b (by unfold frs; rw [List.filterMap_cons, ha]; exact List.mem_cons_of_mem _ q)) h3⟩

/-- what stays the same between a consumer and its generator -/
structure Two (X : Cx) (C : Gc) (a : Addr) (g : Nat) : Prop where
  hP : C.P = X.prog
  hw : C.w = X.w
  hK : C.K = X.K
  hm : C.mg = X.mg
  hb : C.base = X.base
  ho : C.outer = X.stack
  hd : C.A.handled = none
  fr : C.A.frames = some X.stack
  kind : C.env.scope.kind = .function
  glob : C.env.globals = mainGlobals
  blt : C.env.builtins = builtinsNs
  cells : ∀ x, C.env.cells.lookup x = none
  has : ∀ x, ¬ (C.env.kindOf x = some .cell ∨ C.env.kindOf x = some .free)
  frame : C.env.frame = some C.env.locals
  pn : ∃ go nm qn, C.pn = [(a, go)] ∧ go.cls = .type "generator" ∧ go.data = .fields #[.int g 0, nm, qn] ∧ go.slots = #[]
  la : C.env.locals < a
  y0 : X.s_0.heap.objs.size ≤ C.env.locals
  yL : X.env.locals < C.env.locals
  yc : ∀ x c, X.env.cells.lookup x = some c → c < C.env.locals
  yf : ∀ b ∈ frs X.stack, b < C.env.locals
/-- its frame's object, by the values of its names -/
structure Fro (C : Gc) (oL : Obj) (σ : L2.St) : Prop where
  ns : ∃ m : Str → Option Value, ∃ es ep, oL.data = .dict es ep ∧ StrKeys es ∧ (∀ name, nsFind es name = m name) ∧ ∀ (i : Nat) (x : Str) (v : V), C.N[i]? = some x → σ[i]? = some (some v) → Vis C.env.scope x → ∃ u, RelV v u ∧ C.env.kindOf x = some .local ∧ m x = some u
  len : σ.length = C.N.length
section
variable {α : Type} {X : Cx} {C : Gc} {r : Rp α} {a : Addr} {g : Nat} {pins xp ip : List (Addr × Obj)} {σ σc : L2.St} {H H' : Hp} {s s2 : Shared} {oL : Obj}
abbrev gPins (C : Gc) (xp ip : List (Addr × Obj)) (oL : Obj) : List (Addr × Obj) := (C.env.locals, oL) :: (C.pn ++ (xp ++ ip))
theorem Fro.of {s0 : Shared} {H0 : Hp} {pl : List (Addr × Obj)} (T : Two X C a g) (I : Inv (C.x s0 H0) pl σ H s) : ∃ oL, s.heap.get? C.env.locals = some oL ∧ Fro C oL σ := by
  obtain ⟨m, ⟨o, es, ep, ho, hd, sk, fi⟩, hl⟩ := I.loc
  refine ⟨o, ho, ⟨m, es, ep, hd, sk, fi, fun i x v h1 h2 h3 => ?_⟩, I.len⟩
  obtain ⟨u, ru, lk⟩ := hl i x v h1 h2 h3
  rcases lk with ⟨k, e⟩ | ⟨k, _⟩
  · exact ⟨u, ru, k, e⟩
  · exact (T.has x k).elim
/-- the generator's view of the state at a waking -/
theorem wake_gi (T : Two X C a g) (J : Inv X (pins ++ gPins C xp ip oL) σc H s) (fro : Fro C oL σ) (dj : Dj xp ip) (yi : ∀ q ∈ ip, C.env.locals ≤ q.1) (yx : ∀ q ∈ xp, C.env.locals < q.1) (ni : ∀ q ∈ ip, q.1 ≠ C.env.locals) {G : Array GenState} (hG : AllBare G) :
    GI C ip xp (cutS s C.env.locals) H σ H { s with gens := G } := by
  have pin : ∀ p ∈ gPins C xp ip oL, _ := fun p hp => J.pin p (List.mem_append_right _ (List.mem_append_right _ hp))
  have lt : C.env.locals < s.heap.objs.size := Heap.lt_size (pin (C.env.locals, oL) List.mem_cons_self).1
  have sz : (cutS s C.env.locals).heap.objs.size = C.env.locals := cutH_size (Nat.le_of_lt lt)
  have nc : ∀ {x : Str} {c : Addr}, C.env.cells.lookup x = some c → False := fun {x c} e => by rw [T.cells x] at e; cases e
  have fsx : ∀ b ∈ frs C.outer, b ∈ X.env.locals :: X.fs := fun b hb => by rw [T.ho] at hb; exact J.stkSub b hb
  have bsL : C.base.objs.size ≤ C.env.locals := by rw [T.hb]; exact Nat.le_trans J.ok.bsz T.y0
  refine ⟨⟨sz, dj, yi⟩, ⟨⟨?_, T.kind, T.glob, T.blt, Nat.le_of_eq sz, fun x y c e => (nc e).elim, fun x k => (T.has x k).elim, fun x c _ e => (nc e).elim, fun _ => T.hd, ?_, .inr ⟨rfl, T.frame⟩, fun b z => ?_, fun b o e => ?_, ?_, fun b o _ z => ?_, fun b z => ?_, ?_, fun b hb => ?_⟩,
    rfl, hG, ⟨fun b o e n _ _ => ?_, fun b o e n _ _ => ?_, fun b o e n _ => n, fun b o e _ => ?_, fun _ _ e => e, fun _ _ _ e => e, fun b ps e => ⟨#[], by have e' : H b = some (.tbl ps) := e; rw [e']; simp⟩⟩, ?_, fun x c e => (nc e).elim, (pin (C.env.locals, oL) List.mem_cons_self).2.1, fun x c e => (nc e).elim, fun p hp => ?_, ?_, fro.len⟩⟩
  · show Mod C.K C.mg C.base
    rw [T.hK, T.hm, T.hb]; exact J.ok.mod
  · show (C.A.deeper C.env).frames = some (C.env :: C.outer)
    rw [T.ho]; exact Around.frames_deeper T.fr
  · cases z
  · have e' : X.base.get? b = some o := T.hb ▸ e
    have q := J.bs b o e'
    refine ⟨?_, q.2⟩
    show (cutH s.heap C.env.locals).get? b = _
    rw [cutH_lt (Nat.lt_of_lt_of_le (Heap.lt_size e) bsL)]
    exact q.1
  · show C.base.objs.size ≤ (cutS s C.env.locals).heap.objs.size
    rw [sz]; exact bsL
  · cases z
  · cases z
  · show (cutH s.heap C.env.locals).FunFrames C.base C.outer
    rw [T.hb, T.ho]
    exact ff_cut T.yf J.stack
  · have hb' : b ∈ frs C.outer := hb
    rw [T.ho] at hb'
    exact J.stkFree b hb'
  · exact (cutH_some (Nat.le_of_lt lt) e).2
  · exact ⟨o.slots, (cutH_some (Nat.le_of_lt lt) e).2⟩
  · exact ⟨o, (cutH_some (Nat.le_of_lt lt) e).2⟩
  · obtain ⟨m, es, ep, hd, sk, fi, hl⟩ := fro.ns
    refine ⟨m, ⟨oL, es, ep, (pin (C.env.locals, oL) List.mem_cons_self).1, hd, sk, fi⟩, fun i x v h1 h2 h3 => ?_⟩
    obtain ⟨u, ru, k, e⟩ := hl i x v h1 h2 h3
    exact ⟨u, ru, .inl ⟨k, e⟩⟩
  · have hp' : p ∈ gPins C xp ip oL := List.mem_cons_of_mem _ hp
    obtain ⟨q1, q2, q3, q4, q5⟩ := pin p hp'
    refine ⟨q1, q2, ?_, fun z => ?_, q5⟩
    · rcases List.mem_append.mp hp with z | z
      · obtain ⟨go, nm, qn, e, _⟩ := T.pn
        have z' : p ∈ C.pn := z
        rw [e, List.mem_singleton] at z'
        subst z'
        exact Nat.ne_of_gt T.la
      · rcases List.mem_append.mp z with z | z
        · exact Nat.ne_of_gt (yx p z)
        · exact ni p z
    · rcases List.mem_cons.mp (fsx p.1 z) with z | z
      · exact q3 z
      · exact q4 z
  · show HOk C.P C.w H s.heap
    rw [T.hP, T.hw]; exact J.hok
/-- the consumer's view behind a waking -/
theorem back_inv (T : Two X C a g) (J : Inv X (pins ++ gPins C xp ip oL) σc H s) (yp : ∀ p ∈ X.pn ++ pins, p.1 < C.env.locals) {ip' : List (Addr × Obj)} {σ' : L2.St} (I : GI C ip' xp (cutS s C.env.locals) H σ' H' s2) {G : Array GenState} (hG : AllBare G) (yx : ∀ q ∈ xp, C.env.locals < q.1) (ni : ∀ q ∈ ip', q.1 ≠ C.env.locals) :
    ∃ oL', Fro C oL' σ' ∧ Inv X (pins ++ gPins C xp ip' oL') σc H' { s2 with gens := G } := by
  have lt : C.env.locals < s.heap.objs.size := Heap.lt_size (J.pin (C.env.locals, oL) (List.mem_append_right _ (List.mem_append_right _ List.mem_cons_self))).1
  obtain ⟨⟨sz, dj, yi⟩, I⟩ := I
  obtain ⟨oL', heL, fro⟩ := Fro.of T I
  have J0 : Inv X pins σc H s := J.unpinned
  have eo : ∀ {b : Addr}, b ∉ (List.range s.heap.objs.size).filter (fun b => decide (C.env.locals ≤ b)) → ∀ {o : Obj}, s.heap.get? b = some o → b < C.env.locals := fun {b} hb {o} e => by
    by_cases q : C.env.locals ≤ b
    · exact (hb (List.mem_filter.mpr ⟨List.mem_range.mpr (Heap.lt_size e), by simpa using q⟩)).elim
    · exact Nat.lt_of_not_le q
  have ct : ∀ {b : Addr}, b < C.env.locals → (cutS s C.env.locals).heap.get? b = s.heap.get? b := fun h => cutH_lt h
  have U := I.base
  have J1 : Inv X pins σc H' { s2 with gens := G } := by
    refine J0.call' (s' := { s2 with gens := G }) (ch := (List.range s.heap.objs.size).filter (fun b => decide (C.env.locals ≤ b))) I.os ⟨fun b o e n hb hc => ?_, fun b o e n hb hc => ?_, fun b o e n hc => ?_, fun b o e hc => ?_, U.tups, U.frzs, U.tbls⟩ ?_ hG fun b hb => ?_
    · refine U.keep b o ((ct (eo hc e)).trans e) n (fun z => hb ?_) (fun z => by cases z)
      have z' : b ∈ frs C.outer := z
      rw [T.ho] at z'; exact z'
    · refine U.slot b o ((ct (eo hc e)).trans e) n ?_ (fun z => by cases z)
      show b ∈ frs C.outer
      rw [T.ho]; exact hb
    · exact U.free b o ((ct (eo hc e)).trans e) n (fun z => by cases z)
    · exact U.there b o ((ct (eo hc e)).trans e) (fun z => by cases z)
    · have q := I.hok
      have q' : HOk C.P C.w H' s2.heap := q
      rw [T.hP, T.hw] at q'; exact q'
    · have hb' : C.env.locals ≤ b := by simpa using (List.mem_filter.mp hb).2
      refine ⟨.inr (Nat.le_trans T.y0 hb'), Nat.ne_of_gt (Nat.lt_of_lt_of_le T.yL hb'), fun x c e => Nat.ne_of_lt (Nat.lt_of_lt_of_le (T.yc x c e) hb'), fun p hp => Nat.ne_of_lt (Nat.lt_of_lt_of_le (yp p hp) hb')⟩
  refine ⟨oL', fro, J1.pins_of fun p hp => ?_⟩
  rcases List.mem_append.mp hp with z | z
  · exact J1.pin p (List.mem_append_right _ z)
  · have fs : ∀ {b : Addr}, C.env.locals ≤ b → b ≠ X.env.locals ∧ b ∉ X.fs := fun {b} hb => by
      refine ⟨Nat.ne_of_gt (Nat.lt_of_lt_of_le T.yL hb), fun z => ?_⟩
      obtain ⟨_, o, ho, _⟩ := J.ok.funs.mem z
      exact absurd (Nat.lt_of_lt_of_le (Heap.lt_size ho) (Nat.le_trans T.y0 hb)) (Nat.lt_irrefl _)
    rcases List.mem_cons.mp z with rfl | z
    · refine ⟨heL, I.free, (fs (Nat.le_refl _)).1, (fs (Nat.le_refl _)).2, fun v q => ?_⟩
      obtain ⟨m, es, ep, hd, _⟩ := fro.ns
      have q' : oL'.data = .cell v := q
      rw [hd] at q'; cases q'
    · obtain ⟨q1, q2, q3, q4, q5⟩ := I.pin p z
      have hb : C.env.locals ≤ p.1 := by
        rcases List.mem_append.mp z with z | z
        · obtain ⟨go, nm, qn, e, _⟩ := T.pn
          have z' : p ∈ C.pn := z
          rw [e, List.mem_singleton] at z'
          subst z'
          exact Nat.le_of_lt T.la
        · rcases List.mem_append.mp z with z | z
          · exact Nat.le_of_lt (yx p z)
          · exact yi p z
      exact ⟨q1, q2, (fs hb).1, (fs hb).2, q5⟩
end
end G

/-! One turn of a loop over a generator. -/
namespace G
open PySem PySem.Spec PyProof.Rows L2 GenW
open PySem.Sem (wp)
section
variable {α : Type} {X : Cx} {C : Gc} {r : Rp α} {a : Addr} {g : Nat} {pins xp : List (Addr × Obj)} {σc : L2.St} {H : Hp} {s : Shared} {cg R4 : Own} {F F4 : Hp} {rem : List α}
/-- between two turns: the generator gs at a has rem to hand out, cg is its own, F is frozen -/
structure Gst (X : Cx) (C : Gc) (r : Rp α) (g : Nat) (pins xp : List (Addr × Obj)) (σc : L2.St) (H : Hp) (s : Shared) (cg : Own) (F : Hp) (rem : List α) (ip : List (Addr × Obj)) (oL : Obj) (σ : L2.St) (gs : GenState) : Prop where
  inv : Inv X (pins ++ gPins C xp ip oL) σc H s
  fro : Fro C oL σ
  dj : Dj xp ip
  yi : ∀ q ∈ ip, C.env.locals ≤ q.1 ∧ q.1 ≠ C.env.locals
  at' : s.gens[g]? = some gs
  rdy : Rdy C r ip σ cg F rem gs
theorem Gst.gen {ip : List (Addr × Obj)} {oL : Obj} {σ : L2.St} {gs : GenState} (T : Two X C a g) (h : Gst X C r g pins xp σc H s cg F rem ip oL σ gs) : s.heap.IsGen a g := by
  obtain ⟨go, nm, qn, e, h1, h2, h3⟩ := T.pn
  exact ⟨go, nm, qn, (h.inv.pin (a, go) (List.mem_append_right _ (List.mem_append_right _ (List.mem_cons_of_mem _ (List.mem_append_left _ (by rw [e]; exact List.mem_singleton.mpr rfl)))))).1, h1, h2, h3⟩
theorem gi_ne {s0 : Shared} {H0 : Hp} {ip : List (Addr × Obj)} {σ : L2.St} (I : GI C ip xp s0 H0 σ H s) : ∀ q ∈ ip, C.env.locals ≤ q.1 ∧ q.1 ≠ C.env.locals := fun q hq =>
  ⟨I.1.2.2 q hq, (I.2.pin q (List.mem_append_right _ (List.mem_append_right _ hq))).2.2.1⟩
theorem turn_S {A : Around} {ip : List (Addr × Obj)} {oL : Obj} {σ : L2.St} {gs : GenState} {Q : Option Value → Shared → Prop} {E : Value → Shared → Prop} (T : Two X C a g) (hA : C.A = A.in1) (hh : A.handled = none) (hroom : A.depth < recursionLimit) (yp : ∀ p ∈ X.pn ++ pins, p.1 < C.env.locals) (yx : ∀ q ∈ xp, C.env.locals < q.1)
    (h : Gst X C r g pins xp σc H s cg F rem ip oL σ gs) (sf : Same F F4) (S : Sta F4 (cg ++ R4) H)
    (hitem : ∀ y ys v x H' F' cg' s' ip' oL' σ' gs', rem = y :: ys → RelV x v → r F' x y → Same F4 F' → Sta F' (cg' ++ R4) H' → isSu gs' → Gst X C r g pins xp σc H' s' cg' F' ys ip' oL' σ' gs' → Q (some v) s')
    (hend : ∀ H' F' s', rem = [] → Inv X (pins ++ xp) σc H' s' → Same F4 F' → Sta F' R4 H' → Q none s') : wpAny (model X.prog X.w) A (pyNext (.ref a)) Q E s := by
  have gi := wake_gi T h.inv h.fro h.dj (fun q hq => (h.yi q hq).1) yx (fun q hq => (h.yi q hq).2) (G := (s.setGen g .running).gens) (allBare_setGen h.inv.bare rfl)
  have sg := h.rdy _ _ F4 R4 xp _ gi sf S
  rw [hA] at sg
  have lt : g + 1 ≤ s.gens.size := (Array.getElem?_eq_some_iff.mp h.at').1
  rw [← T.hP, ← T.hw]
  refine wpAny_gsz lt (next_S (Φ := Nx C r rem F4 R4 xp (cutS s C.env.locals) H) hh h.inv.nolimit hroom (h.gen T) h.at' sg (fun e s' he => ?_) (fun e s' he => ?_) (fun v b l k c p fs s₁ he hsz => ?_) fun s₁ he h' hk _ => ?_)
  · cases rem with
    | nil => exact .inl he.1
    | cons y ys =>
      obtain ⟨v, b, l, k, c, p, fs, e1, _⟩ := he
      exact .inr ⟨v, b, l, k, c, p, fs, e1⟩
  · cases rem with
    | nil => rw [he.1]; rfl
    | cons y ys =>
      obtain ⟨v, b, l, k, c, p, fs, e1, e2, _⟩ := he
      exact e2
  · cases rem with
    | nil => exact absurd he.1 (by simp)
    | cons y ys =>
      obtain ⟨v', b', l', k', c', p', fs', e1, e2, x, σ', H', F', cg', ip', rv, rx, gi', sf', S', nxt⟩ := he
      cases e1
      have hsz' : g < s₁.gens.size := by
        have q : g + 1 ≤ (s₁.setGen g (End.susp v b l k c p fs).genState).gens.size := hsz
        rw [setGen_size] at q
        exact q
      obtain ⟨oL', fro', J'⟩ := back_inv T h.inv yp gi' (G := (s₁.setGen g (End.susp v b l k c p fs).genState).gens) (allBare_setGen gi'.2.bare (End.bare_of_quiet e2)) yx (fun q hq => (gi_ne gi' q hq).2)
      refine hitem y ys v x H' F' cg' _ ip' oL' σ' (End.susp v b l k c p fs).genState rfl rv rx sf' S' trivial ⟨J', fro', gi'.1.2.1, gi_ne gi', setGen_at hsz', fun s0' H0' F5 R5 xp' s'' g5 sf5 S5 => ?_⟩
      exact nxt s0' H0' F5 R5 xp' s'' g5 sf5 S5
  · cases rem with
    | cons y ys =>
      obtain ⟨v', b', l', k', c', p', fs', e1, _⟩ := he
      cases e1
    | nil =>
      obtain ⟨_, ip', σ', H', F', gi', sf', S'⟩ := he
      obtain ⟨oL', fro', J'⟩ := back_inv T h.inv yp gi' (G := (s₁.setGen g .finished).gens) (allBare_setGen gi'.2.bare rfl) yx (fun q hq => (gi_ne gi' q hq).2)
      have J2 := J'.kept (h' := h') (t' := s₁.toks) hk
      refine hend H' F' _ rfl (J2.pins_of fun p hp => ?_) sf' S'
      rcases List.mem_append.mp hp with z | z
      · exact J2.pin p (List.mem_append_right _ (List.mem_append_left _ z))
      · exact J2.pin p (List.mem_append_right _ (List.mem_append_right _ (List.mem_cons_of_mem _ (List.mem_append_right _ (List.mem_append_left _ z)))))
end
end G

/-! A generator def by its body; for over its call. -/
namespace G
open PySem PySem.Spec PyProof.Rows L2 GenW
open PySem.Sem (wp)
abbrev gcOf (P : Program) (w : World) (K : PySem.W.Frag) (mg : Str → Option Value) (base : Heap) (N : List Str) (qual : Str) (scope : Scope) (f : Addr) (cd : Value) (L : Addr) (A : Around) (outer : List Env) (pn : List (Addr × Obj)) : Gc :=
  ⟨P, w, K, mg, base, N, envOfC qual scope L f cd, A, outer, pn⟩
section
variable {α : Type} {r : Rp α}
/-- a generator that has not begun -/
def Made (X : Cx) (r : Rp α) (k : Nat) (pins : List (Addr × Obj)) (σ : L2.St) (H : Hp) (F : Hp) (ys : List α) (u : Value) (s : Shared) : Prop :=
  ∃ (a : Addr) (g : Nat), u = .ref a ∧ a < s.heap.objs.size ∧ ∀ A', Room k A' → A'.frames = some X.stack → ∃ C oL σg c, C.A = A' ∧ Two X C a g ∧ (∀ p ∈ X.pn ++ pins, p.1 < C.env.locals) ∧ Gst X C r g pins [] σ H s [] F ys [] oL σg (.fresh c)
/-- a generator def's promise -/
structure GFk (P : Program) (w : World) (K : PySem.W.Frag) (mg : Str → Option Value) (base : Heap) (k : Nat) (f : Addr) (fd : FuncData) (ps : List Str) (r : Rp α) (sp : List V → Hp → List α → Prop) : Prop where
  len : ∀ vs F ys, sp vs F ys → vs.length = ps.length
  run : ∀ (X : Cx), X.prog = P → X.w = w → X.K = K → X.mg = mg → X.base = base → Room k X.A → ∀ (pins : List (Addr × Obj)) (σ : L2.St) (H : Hp) (s : Shared) (args : Args) (us : List Value) (vs : List V) (F : Hp) (ys : List α), Inv X pins σ H s → BindsTo s fd args (ps.zip us) → Vals vs us → sp vs F ys →
    codeAny (model P w) X.A (.call (.ref f) args) (fun res s' => match res with | .ok (.ret u) => Made X r k pins σ H F ys u s' | _ => False) s
theorem no_cells {n : Nat} : ∀ {names : List (Str × NameKind)}, (∀ y ∈ names, y.2 ≠ .cell) → cellsFrom n names [] = []
  | [], _ => rfl
  | (x, kd) :: rest, h => by
    have e : (kd == NameKind.cell) = false := by
      cases kd <;> first | rfl | exact absurd rfl (h _ List.mem_cons_self)
    show (if (kd == NameKind.cell) = true then _ else cellsFrom n rest []) = []
    rw [e, if_neg Bool.false_ne_true]
    exact no_cells fun y hy => h y (List.mem_cons_of_mem _ hy)
theorem gfk_of {P : Program} {w : World} {K : PySem.W.Frag} {mg : Str → Option Value} {base : Heap} {k : Nat} {x qual : Str} {st : Stmt} {f : Addr} {fd : FuncData} {N ps : List Str} {sp : List V → Hp → List α → Prop} (F0 : Fun K x qual st f fd) (S : GScope N ps (defScope st)) (nc : ∀ y ∈ (defScope st).names, y.2 ≠ .cell)
    (len : ∀ vs F ys, sp vs F ys → vs.length = ps.length)
    (hbody : ∀ (cdv : Value) (L : Addr) (A : Around) (outer : List Env) (pn : List (Addr × Obj)) (vs : List V) (F : Hp) (ys : List α), Room k (A.deeper (envOfC qual (defScope st) L f cdv)) → sp vs F ys →
      ∃ t, GSs (gcOf P w K mg base N qual (defScope st) f cdv L A outer pn) r (defBody st) t ∧ ∀ γ : Gh α, γ.rem = ys → Same F γ.F → Sta γ.F γ.R γ.H0 → t gEnd γ (start N vs) γ.H0) : GFk P w K mg base (k + 1) f fd ps r sp := by
  obtain ⟨oc, od, kV, doc, pm, an, cdv, ct, osl, rfl, lk, hcd⟩ := F0.ex
  refine ⟨len, fun X hP hw hK hm hB hr pins σ H s args us vs F ys I hb rv hsp => ?_⟩
  subst hP; subst hw; subst hK; subst hm; subst hB
  have hl := len _ _ _ hsp
  have KX : X.K.In s.heap := I.kIn
  have hkind : ∀ y ∈ ps.zip us, (defScope st).names.lookup y.1 = some .local ∨ ((defScope st).names.lookup y.1 = some .cell ∧ ((cellsFrom (s.heap.objs.size + 1) (defScope st).names []).lookup y.1).isSome = true) := fun ⟨n, v⟩ hy => by
    rcases S.par n (List.of_mem_zip hy).1 with q | q
    · exact .inl q
    · exact (nc _ (PySem.mem_of_lookup q) rfl).elim
  refine codeAny_call_generator hr.depth (KX _ _ lk) rfl S.co S.gen rfl (PySem.W.codeRec_of KX hcd) (hb _ _ _ _ (wpAny_newFunctionEnv_cells S.kind hkind fun env he s1 x => ?_))
  subst he
  obtain ⟨h1, tk, es1, hk1⟩ := x.done
  have kp1 : ∀ b o, s.heap.get? b = some o → s1.heap.get? b = some o := x.toInCall.keep
  have lt1 : s.heap.objs.size < s1.heap.objs.size := x.toInCall.ns.lt
  refine ⟨I.nolimit.keeps kp1, ?_⟩
  have main : ∀ (go : Obj) (nm qn : Value) (tk2 : Nat), go.cls = .type "generator" → go.data = .fields #[.int s1.gens.size 0, nm, qn] → go.slots = #[] → (∀ h : Heap, (h.push go).get? h.objs.size = some go) →
      Made X r (k + 1) pins σ H F ys (.ref s1.heap.objs.size) { s1 with gens := s1.gens.push (.fresh (.func (defBody st) (envOfC qual (defScope st) s.heap.objs.size f cdv))), toks := tk2, heap := s1.heap.push go } := by
    intro go nm qn tk2 g1 g2 g3 gp
    refine ⟨s1.heap.objs.size, s1.gens.size, rfl, by show _ < (s1.heap.push go).objs.size; rw [Heap.size_push]; exact Nat.lt_succ_self _, fun A' hr' hf' => ?_⟩
    have kp2 : ∀ b o, s1.heap.get? b = some o → (s1.heap.push go).get? b = some o := fun b o e => Heap.get?_push_of_some _ e
    have J : Inv X pins σ H { s1 with gens := s1.gens.push (.fresh (.func (defBody st) (envOfC qual (defScope st) s.heap.objs.size f cdv))), toks := tk2, heap := s1.heap.push go } :=
      I.call' (ch := []) (by rw [es1]) (Un.kept fun b o e => kp2 b o (kp1 b o e)) (I.hok.kept fun b o e => kp2 b o (kp1 b o e)) (AllBare.push (by rw [es1]; exact I.bare) rfl) fun b z => by simp at z
    have I1 := inv_startG (E := E0) (A := A') (outer := X.stack) S hr'.hd ⟨hf', I.ok.mod, I.bs, Nat.le_trans I.ok.bsz I.sz, I.stack, I.stkFree, I.hok, I.bare⟩ hl rv x
    obtain ⟨m, ⟨oL, es, ep, hoL, hdL, sk, fi⟩, hlook⟩ := I1.loc
    have nl : ∀ y c, (envOfC qual (defScope st) s.heap.objs.size f cdv).cells.lookup y = some c → False := fun y c e => by
      have e' : (cellsFrom (s.heap.objs.size + 1) (defScope st).names []).lookup y = some c := e
      rw [no_cells nc] at e'
      cases e'
    have kn : ∀ y, ¬ ((envOfC qual (defScope st) s.heap.objs.size f cdv).kindOf y = some .cell ∨ (envOfC qual (defScope st) s.heap.objs.size f cdv).kindOf y = some .free) := fun y hy => by
      rcases hy with q | q
      · exact nc _ (PySem.mem_of_lookup q) rfl
      · exact S.nofree _ (PySem.mem_of_lookup q) rfl
    refine ⟨gcOf X.prog X.w X.K X.mg X.base N qual (defScope st) f cdv s.heap.objs.size A' X.stack [(s1.heap.objs.size, go)], oL, start N vs, _, rfl, ⟨rfl, rfl, rfl, rfl, rfl, rfl, hr'.hd, hf', S.kind, rfl, rfl, fun y => ?_, kn, rfl, ⟨go, nm, qn, rfl, g1, g2, g3⟩, lt1, I.sz, I.lt, fun y c e => ?_, fun b hb => ?_⟩, fun p hp => Heap.lt_size (I.pin p hp).1,
      ⟨J.pins_of fun p hp => ?_, ⟨⟨m, es, ep, hdL, sk, fi, fun i y v q1 q2 q3 => ?_⟩, I1.len⟩, (fun p hp => by cases hp), (fun q hq => by cases hq), Array.getElem?_push_size .., fun s0 H0 F4 R4 xp s' gi sf S4 => ?_⟩⟩
    · cases e : (envOfC qual (defScope st) s.heap.objs.size f cdv).cells.lookup y with
      | none => rfl
      | some c => exact (nl y c e).elim
    · obtain ⟨v, q⟩ := I.cell y c e
      exact q.lt
    · rcases List.mem_cons.mp (I.stkSub b hb) with z | z
      · rw [z]; exact I.lt
      · obtain ⟨_, o, ho, _⟩ := I.funs.mem z
        exact Heap.lt_size ho
    · rcases List.mem_append.mp hp with z | z
      · exact J.pin p (List.mem_append_right _ z)
      · rcases List.mem_cons.mp z with rfl | z
        · exact ⟨kp2 _ _ hoL, I.hok.fresh (Nat.le_refl _), Nat.ne_of_gt I.lt, I.nofs (Nat.le_refl _), fun v q => by
            have q' : oL.data = .cell v := q
            rw [hdL] at q'; cases q'⟩
        · have z' : p ∈ [(s1.heap.objs.size, go)] := by simpa using z
          rw [List.mem_singleton] at z'
          subst z'
          exact ⟨gp _, I.hok.fresh (Nat.le_of_lt lt1), Nat.ne_of_gt (Nat.lt_trans I.lt lt1), I.nofs (Nat.le_of_lt lt1), fun v q => by
            have q' : go.data = .cell v := q
            rw [g2] at q'; cases q'⟩
    · obtain ⟨u, ru, lk'⟩ := hlook i y v q1 q2 q3
      rcases lk' with ⟨k1, e⟩ | ⟨k1, _⟩
      · exact ⟨u, ru, k1, e⟩
      · exact (kn y k1).elim
    · obtain ⟨t, ht, hq⟩ := hbody cdv s.heap.objs.size A' X.stack [(s1.heap.objs.size, go)] vs F ys (hr'.deeper _) hsp
      exact gen_start (γ := ⟨ys, F4, R4, xp, s0, H0⟩) ht gi (hq ⟨ys, F4, R4, xp, s0, H0⟩ rfl sf S4)
  exact main _ _ _ _ rfl rfl rfl fun h => Heap.get?_push_size _ rfl
end
/-! ### the consumer -/
/-- a generator def's call -/
abbrev TGe (α : Type) := L2.St → Hp → (Hp → Hp → List α → Prop) → Prop
structure PGe {α : Type} (X : Cx) (r : Rp α) (k : Nat) (e : Expr) (tg : TGe α) : Prop where
  run : ∀ (pins : List (Addr × Obj)) (s : Shared) (σ : L2.St) (H : Hp) (Qc : Hp → Hp → List α → Prop), Inv X pins σ H s → tg σ H Qc → wpAny (model X.prog X.w) X.A (eval e X.env) (fun u s' => ∃ H1 F ys, Qc H1 F ys ∧ Made X r k pins σ H1 F ys u s') X.xe s
section
variable {α : Type} {r : Rp α} {X : Cx} {k : Nat} {f : Addr} {fd : FuncData} {ps : List Str} {sp : List V → Hp → List α → Prop} {x : Str} {p pos : Pos} {e : Expr} {es : List Expr} {t : TA}
def tCallK (sp : List V → Hp → List α → Prop) (t : TA) : TGe α := fun σ H Qc => t σ H fun vs H1 => ∃ F ys, sp vs F ys ∧ Qc H1 F ys
theorem pge_call (F : GFk X.prog X.w X.K X.mg X.base k f fd ps r sp) (hr : Room k X.A) (hg : Gl X x) (hm : X.mg x = some (.ref f)) (hk : PySem.W.keepIn X.K (.ref f) = true) (hb : Binds X.K fd ps []) (ha : PA X (e :: es) t) (hdb : (x == ("__debug__" : Str)) = false := by decide)
    (he : starEach (e :: es) X.env = (false, eval e X.env) :: starEach es X.env := by rfl) (hpl : (backTo pos (starEach es X.env)).any (·.1) = false := by rfl) : PGe X r k (.Call (.Name x p) (e :: es) [] pos) (tCallK sp t) := by
  refine ⟨fun pins s σ H Qc I h => wpAny_Call_Name_kw (ld_glob I hg hm ?_ hdb)⟩
  refine PySem.W.callWith_K (h₀ := X.base) I.ok.mod.kin hk (thn (ha.run pos pins s σ H _ I h) fun us s1 ⟨vs, H1, I1, rv, q⟩ => ⟨I1.kIn, ?_⟩) he hpl
  obtain ⟨F1, ys, hsp, q⟩ := q
  have hl2 : us.length = ps.length := by rw [← rv.length]; exact F.len _ _ _ hsp
  have hb' := hb s1 us I1.kIn (by simpa using hl2)
  rw [List.append_nil] at hb'
  refine wpAny_call (codeAny_mono (F.run X rfl rfl rfl rfl rfl hr pins σ H1 s1 ⟨us, []⟩ us vs F1 ys I1 hb' rv hsp) fun res s' hq => ?_)
  cases res with
  | error e => exact False.elim hq
  | ok fl =>
    cases fl with
    | ret u => exact ⟨H1, F1, ys, q, hq⟩
    | next => exact False.elim hq
    | brk => exact False.elim hq
    | cont => exact False.elim hq
theorem sta_swap {F H : Hp} {a b c : Own} (S : Sta F (a ++ (b ++ c)) H) : Sta F (b ++ (a ++ c)) H := by
  refine S.sel ?_ fun y hy => ?_
  · have pm : (b ++ (a ++ c)).Perm (a ++ (b ++ c)) := by
      rw [← List.append_assoc, ← List.append_assoc]
      exact List.Perm.append_right _ List.perm_append_comm
    exact (pm.map _).nodup_iff.mpr S.nd
  · simp only [List.mem_append] at hy ⊢
    rcases hy with z | z | z
    · exact .inr (.inl z)
    · exact .inl z
    · exact .inr (.inr z)
theorem sta_mid {F H : Hp} {a b c : Own} (S : Sta F (a ++ (b ++ c)) H) : Sta F (a ++ c) H := by
  refine S.sel ?_ fun y hy => ?_
  · refine S.nd.sublist (List.Sublist.map _ ?_)
    exact List.Sublist.append (List.Sublist.refl _) (List.sublist_append_right _ _)
  · simp only [List.mem_append] at hy ⊢
    rcases hy with z | z
    · exact .inl z
    · exact .inr (.inr z)
/-- behind a turn of the body -/
def nxG (Pv : Nat → Hp → Own → L2.St → Prop) (i : Nat) (F' : Hp) (R' : Own) : L2.St → Hp → Prop := fun σ3 H3 => ∃ F3 cs3, Same F' F3 ∧ Sta F3 (cs3 ++ R') H3 ∧ Pv i F3 cs3 σ3
def tForG (tg : TGe α) (r : Rp α) (g : TG) (tb : TS) : TS := fun D σ H => tg σ H fun H1 F ys => ∃ (cs R : Own) (F0 : Hp) (Pv : Nat → Hp → Own → L2.St → Prop), Same F F0 ∧ Sta F0 (cs ++ R) H1 ∧ Pv 0 F0 cs σ ∧
  (∀ i F cs σ y x F' R' H', ys[i]? = some y → Pv i F cs σ → Same F F' → Sta F' (cs ++ R') H' → (∀ F'' cs'' H'', Sta F'' (cs'' ++ R') H'' → Sta F'' (cs'' ++ R) H'') → r F' x y → g x σ H' fun σ2 H2 => tb { D with nx := nxG Pv (i + 1) F' R', ct := nxG Pv (i + 1) F' R', bk := D.nx } σ2 H2) ∧
  (∀ F cs σ F' H', Pv ys.length F cs σ → Same F F' → Sta F' (cs ++ R) H' → D.nx σ H')
theorem ps_forG {tg : Expr} {body : List Stmt} {wg : TGe α} {g : TG} {tb : TS} (hx : ∀ e s, ¬ X.xe e s) (hp : PassesOwn (model X.prog X.w) X.A X.env X.xe) (hi : PGe X r k e wg) (hr : Room (k + 1) X.A) (hg : PG X tg g) (hb : PSs X body tb)
    (hs : ∀ x, foldedSetIterable e X.env x = pure x := by intro _; rfl) : PS X (.For tg e body [] pos) (tForG wg r g tb) := by
  refine ⟨fun pins s σ H D I h => wpAny_For (thn (hi.run pins s σ H _ I h) fun v s1 h1 => ?_) hs⟩
  obtain ⟨H1, F1, ys, ⟨cs, R, F0, Pv, sf0, S0, p0, step, dn⟩, a, gi, rfl, ha, mk⟩ := h1
  obtain ⟨C, oL, σg, c, hCA, T, yp, G0⟩ := mk X.A.in1 hr.in1 (by show X.A.frames = _; exact I.ok.frames)
  refine wpAny_pyIter_gen (G0.gen T) ?_
  refine codeAny_forLoop_any (fun n s' => ∃ i σ' H' F cs cg Fg ip oL σg gs, n = ys.length - i ∧ i ≤ ys.length ∧ Gst X C r gi pins [] σ' H' s' cg Fg (ys.drop i) ip oL σg gs ∧ Same Fg F ∧ Sta F (cg ++ (cs ++ R)) H' ∧ Pv i F cs σ') ?_ (ys.length)
    ⟨0, σ, H1, F0, cs, [], F1, [], oL, σg, _, rfl, Nat.zero_le _, G0, sf0, S0, p0⟩
  rintro n s3 ⟨i, σ3, H3, F3, cs3, cg3, Fg3, ip3, oL3, σg3, gs3, rfl, hi3, G3, sf3, S3, p3⟩
  refine wpAny_passesOwn hp (turn_S T hCA hr.hd hr.depth yp (fun q hq => by cases hq) G3 sf3 S3 (fun y ys' v x H' F' cg' s4 ip' oL' σ' gs' er rv rx sf' S' su G4 => ?_) fun H' F' s4 er J sf' S' => ?_)
  · have hlt : i < ys.length := by
      rcases Nat.lt_or_ge i ys.length with z | z
      · exact z
      · rw [List.drop_eq_nil_of_le z] at er; cases er
    have hy : ys[i]? = some y := by
      have e2 : (ys.drop i)[0]? = some y := by rw [er]; rfl
      rw [List.getElem?_drop] at e2
      exact e2
    have hys : ys.drop (i + 1) = ys' := by
      have e2 : (ys.drop i).drop 1 = ys' := by rw [er]; rfl
      rw [List.drop_drop] at e2
      exact e2
    obtain ⟨go, nm, qn, ego, g1, g2, g3⟩ := T.pn
    have hgo : s4.heap.get? a = some go := (G4.inv.pin (a, go) (List.mem_append_right _ (List.mem_append_right _ (List.mem_cons_of_mem _ (List.mem_append_left _ (by rw [ego]; exact List.mem_singleton.mpr rfl)))))).1
    refine wpAny_passesOwn hp (go_of hgo g1 g2 (by decide) ?_)
    refine wpAny_passesOwn hp (wpAny_mono (pg_calm hx hg G4.inv rv (step i F3 cs3 σ3 y x F' (cg' ++ R) H' hy p3 sf' (sta_swap S') (fun F'' cs'' H'' z => sta_mid z) rx)) (fun _ s5 h5 => ?_) fun _ _ z => z.elim)
    obtain ⟨⟨σ5, H5, I5, q5⟩, sl5⟩ := h5
    refine wpAny_passesOwn hp (wpAny_mono (pss_calm hx hb I5 q5) (fun fl s6 h6 => ?_) fun _ _ z => z.elim)
    obtain ⟨sp6, sl6⟩ := h6
    have at6 : s6.gens[gi]? = some gs' := sl6 gi gs' (sl5 gi gs' G4.at' su) su
    have again : ∀ {σ6 : L2.St} {H6 : Hp}, Inv X (pins ++ gPins C [] ip' oL') σ6 H6 s6 → nxG Pv (i + 1) F' (cg' ++ R) σ6 H6 → ∃ m, m < ys.length - i ∧ ∃ i σ' H' F cs cg Fg ip oL σg gs, m = ys.length - i ∧ i ≤ ys.length ∧ Gst X C r gi pins [] σ' H' s6 cg Fg (ys.drop i) ip oL σg gs ∧ Same Fg F ∧ Sta F (cg ++ (cs ++ R)) H' ∧ Pv i F cs σ' := fun {σ6 H6} I6 ⟨F6, cs6, sf6, S6, p6⟩ =>
      ⟨ys.length - (i + 1), by omega, i + 1, σ6, H6, F6, cs6, cg', F', ip', oL', σ', gs', rfl, hlt, ⟨I6, G4.fro, G4.dj, G4.yi, at6, by rw [hys]; exact G4.rdy⟩, sf6, sta_swap S6, p6⟩
    cases fl with
    | next => obtain ⟨σ6, H6, I6, n6⟩ := sp6; exact again I6 n6
    | cont => obtain ⟨σ6, H6, I6, n6⟩ := sp6; exact again I6 n6
    | brk => obtain ⟨σ6, H6, I6, q6⟩ := sp6; exact ⟨σ6, H6, I6.unpinned, q6⟩
    | ret u => obtain ⟨x6, σ6, H6, I6, r6, q6⟩ := sp6; exact ⟨x6, σ6, H6, I6.unpinned, r6, q6⟩
  · have hi' : i = ys.length := by
      have q := congrArg List.length er
      rw [List.length_drop] at q
      have q' : ys.length - i = 0 := q
      omega
    subst hi'
    exact wpAny_execs_nil ⟨σ3, H', J.unpinned, dn F3 cs3 σ3 F' H' p3 sf' S'⟩
end
end G

/-! enumerate over a generator. -/
namespace G
open PySem PySem.Spec PyProof.Rows L2 GenW
open PySem.Sem (wp)
theorem meets_enumG (a : Addr) (go : Obj) (g : Nat) (nm qn : Value) (g1 : go.cls = .type "generator") (g2 : go.data = .fields #[.int g 0, nm, qn]) (g3 : go.slots = #[]) :
    Meets (Builtin.«enumerate.__new__» ⟨[.type "enumerate", .ref a], []⟩) (fun _ R s => s.heap.get? a = some go ∧ R (.ok (.ret (.ref s.heap.objs.size)))
      { s with heap := s.heap.push { cls := .type "enumerate", data := .fields #[.none, .bool false, .ref a, rawInt 0, .none, .none] } }) :=
  .of_wp fun prog w A R s h => by
    obtain ⟨hp, g', d, tk, os⟩ := s
    obtain ⟨hl, h⟩ := h
    have hsub := sub_enumerate
    have hL : Heap.IsGen (Shared.heap ⟨hp, g', d, tk, os⟩) a g := ⟨_, nm, qn, hl, g1, g2, g3⟩
    wp_walk using AutoSeq1.wpAny_loadPart' hl
    refine wpAny_stack_any fun st => wpAny_pure ?_
    split
    · rename_i c _ _ _ _ _
      cases (c == Value.type "enumerate")
      · wp_walk using AutoSeq1.wpAny_loadPart' hl, wpAny_pyIter_gen hL
        exact ⟨_, rfl, h⟩
      · wp_walk using AutoSeq1.wpAny_loadPart' hl, wpAny_pyIter_gen hL
        exact ⟨_, rfl, h⟩
    · wp_walk using AutoSeq1.wpAny_loadPart' hl, wpAny_pyIter_gen hL
      exact ⟨_, rfl, h⟩

section
variable {P : Program} {w : World} {A : Around} {Φ : End → Shared → Prop} {s : Shared}
/-- the item, or StopIteration goes out -/
theorem special_S {a : Addr} {g : Nat} {gs : GenState} {Q : Option Value → Shared → Prop} {E : Value → Shared → Prop} (hh : A.handled = none) (hl : s.heap.NoLimit) (hroom : A.depth < recursionLimit) (hg : s.heap.IsGen a g) (hgs : s.gens[g]? = some gs) (hgo : Sg (model P w) A.in1 Φ gs (s.setGen g .running))
    (hΦ : ∀ e s', Φ e s' → e = .ret (.ok (.ret .none)) ∨ ∃ v b l k c p fs, e = .susp v b l k c p fs) (hq : ∀ e s', Φ e s' → e.quiet = true)
    (hY : ∀ v b l k c p fs s₁, Φ (.susp v b l k c p fs) s₁ → Q (some v) (s₁.setGen g (End.susp v b l k c p fs).genState))
    (hP : ∀ s₁, Φ (.ret (.ok (.ret .none))) s₁ → ∀ h' z, (∀ b o, s₁.heap.get? b = some o → h'.get? b = some o) → (∃ o, h'.get? z = some o ∧ o.cls = .type "StopIteration") → E (.ref z) { s₁.setGen g .finished with heap := h' }) : wpAny (model P w) A (callSpecial? (.ref a) "__next__") Q E s := by
  refine wpAny_callSpecial?_slot (name := Str.ofString "__next__") hg.typeIs slot_gen_next (wpAny_call_entry slot_gen_next hg.typeIs entry_gen_next ?_ (args_gen_next _))
  show wpAny _ A.in1 (Builtin.Generator.genWake (.ref a) (.send .none)) _ _ s
  unfold Builtin.Generator.genWake
  refine wpAny_bind (wpAny_holding (wpAny_genNumber hg (wpAny_bind (wpAny_genState hgs ?_))))
  cases gs with
  | running => exact hgo.elim
  | finished => exact hgo.elim
  | _ =>
    refine wpAny_bind (wpAny_roomToWake hl hroom ?_)
    show wpAny _ A.in1 (.resume g (.send .none) [] _) _ _ s
    refine wpAny_wake hgs hgo hq fun e s₁ he => ?_
    rcases hΦ e s₁ he with rfl | ⟨v, b, l, k, c, p, fs, rfl⟩
    · show wpAny _ A.in1 (newExc (.type "StopIteration") [] >>= _) _ _ _
      refine wpAny_bind ?_
      simp only [newExc, newTuple]
      refine wpAny_bind (wpAny_newObj_type ?_ (by size_fits))
      refine wpAny_bind (m := firstArgMember _ _) (wpAny_of_eq (a := Value.none) (by first | rfl | (simp only [firstArgMember]; rfl)) ?_)
      refine wpAny_newObj_type ?_ (by size_fits)
      simp only [raiseNew]
      refine wpAny_bind (wpAny_bind (wpAny_handled ?_))
      first | rw [show A.in1.handled = none from hh] | rw [hh]
      refine wpAny_throw ?_
      exact hP s₁ he _ _ (fun b o hb => Heap.get?_push_of_some _ (Heap.get?_push_of_some _ hb)) ⟨_, Heap.get?_push_size _ rfl, rfl⟩
    · exact wpAny_pure ⟨v, rfl, hY v b l k c p fs s₁ he⟩
end
section
variable {α : Type} {X : Cx} {C : Gc} {r : Rp α} {a : Addr} {g : Nat} {pins xp : List (Addr × Obj)} {σc : L2.St} {H : Hp} {s : Shared} {cg R4 : Own} {F F4 : Hp} {rem : List α}
theorem turnN_S {A : Around} {ip : List (Addr × Obj)} {oL : Obj} {σ : L2.St} {gs : GenState} {Q : Value → Shared → Prop} {E : Value → Shared → Prop} (T : Two X C a g) (hA : C.A = A.in1) (hh : A.handled = none) (hroom : A.depth < recursionLimit) (yp : ∀ p ∈ X.pn ++ pins, p.1 < C.env.locals) (yx : ∀ q ∈ xp, C.env.locals < q.1)
    (h : Gst X C r g pins xp σc H s cg F rem ip oL σ gs) (sf : Same F F4) (S : Sta F4 (cg ++ R4) H)
    (hitem : ∀ y ys v x H' F' cg' s' ip' oL' σ' gs', rem = y :: ys → RelV x v → r F' x y → Same F4 F' → Sta F' (cg' ++ R4) H' → isSu gs' → Gst X C r g pins xp σc H' s' cg' F' ys ip' oL' σ' gs' → Q v s')
    (hend : ∀ H' F' s' z, rem = [] → Inv X (pins ++ xp) σc H' s' → Same F4 F' → Sta F' R4 H' → (∃ o, s'.heap.get? z = some o ∧ o.cls = .type "StopIteration") → E (.ref z) s') : wpAny (model X.prog X.w) A (Builtin.SmallTypes.nextOf (.ref a)) Q E s := by
  have gi := wake_gi T h.inv h.fro h.dj (fun q hq => (h.yi q hq).1) yx (fun q hq => (h.yi q hq).2) (G := (s.setGen g .running).gens) (allBare_setGen h.inv.bare rfl)
  have sg := h.rdy _ _ F4 R4 xp _ gi sf S
  rw [hA] at sg
  have lt : g + 1 ≤ s.gens.size := (Array.getElem?_eq_some_iff.mp h.at').1
  rw [← T.hP, ← T.hw]
  unfold Builtin.SmallTypes.nextOf
  refine wpAny_bind (wpAny_gsz lt (special_S (Φ := Nx C r rem F4 R4 xp (cutS s C.env.locals) H) hh h.inv.nolimit hroom (h.gen T) h.at' sg (fun e s' he => ?_) (fun e s' he => ?_) (fun v b l k c p fs s₁ he hsz => ?_) fun s₁ he h' z hk hz _ => ?_))
  · cases rem with
    | nil => exact .inl he.1
    | cons y ys =>
      obtain ⟨v, b, l, k, c, p, fs, e1, _⟩ := he
      exact .inr ⟨v, b, l, k, c, p, fs, e1⟩
  · cases rem with
    | nil => rw [he.1]; rfl
    | cons y ys =>
      obtain ⟨v, b, l, k, c, p, fs, e1, e2, _⟩ := he
      exact e2
  · cases rem with
    | nil => exact absurd he.1 (by simp)
    | cons y ys =>
      obtain ⟨v', b', l', k', c', p', fs', e1, e2, x, σ', H', F', cg', ip', rv, rx, gi', sf', S', nxt⟩ := he
      cases e1
      have hsz' : g < s₁.gens.size := by
        have q : g + 1 ≤ (s₁.setGen g (End.susp v b l k c p fs).genState).gens.size := hsz
        rw [setGen_size] at q
        exact q
      obtain ⟨oL', fro', J'⟩ := back_inv T h.inv yp gi' (G := (s₁.setGen g (End.susp v b l k c p fs).genState).gens) (allBare_setGen gi'.2.bare (End.bare_of_quiet e2)) yx (fun q hq => (gi_ne gi' q hq).2)
      refine wpAny_pure (hitem y ys v x H' F' cg' _ ip' oL' σ' (End.susp v b l k c p fs).genState rfl rv rx sf' S' trivial ⟨J', fro', gi'.1.2.1, gi_ne gi', setGen_at hsz', fun s0' H0' F5 R5 xp' s'' g5 sf5 S5 => ?_⟩)
      exact nxt s0' H0' F5 R5 xp' s'' g5 sf5 S5
  · cases rem with
    | cons y ys =>
      obtain ⟨v', b', l', k', c', p', fs', e1, _⟩ := he
      cases e1
    | nil =>
      obtain ⟨_, ip', σ', H', F', gi', sf', S'⟩ := he
      obtain ⟨oL', fro', J'⟩ := back_inv T h.inv yp gi' (G := (s₁.setGen g .finished).gens) (allBare_setGen gi'.2.bare rfl) yx (fun q hq => (gi_ne gi' q hq).2)
      have J2 := J'.kept (h' := h') (t' := s₁.toks) hk
      refine hend H' F' _ z rfl (J2.pins_of fun p hp => ?_) sf' S' hz
      rcases List.mem_append.mp hp with z | z
      · exact J2.pin p (List.mem_append_right _ (List.mem_append_left _ z))
      · exact J2.pin p (List.mem_append_right _ (List.mem_append_right _ (List.mem_cons_of_mem _ (List.mem_append_right _ (List.mem_append_left _ z)))))
end
section
variable {prog : Program} {w : World} {A : Around} {E : Value → Shared → Prop} {s : Shared}
/-- what enumerate does behind its item -/
theorem enum_next {e a : Addr} {i : Nat} {old : Value} {Q : Value → Shared → Prop} (he : IsEnum s.heap e a i old)
    (hN : wpAny (model prog w) A (Builtin.SmallTypes.nextOf (.ref a)) (fun x s1 => IsEnum s1.heap e a i old ∧ ∀ h', IsEnumOut h' e a ((i : Int) + 1) x s1.heap.objs.size → h'.get? s1.heap.objs.size = some { cls := .type "tuple", data := .seq #[.int i s1.toks, x] } →
      (∀ b o, b ≠ e → s1.heap.get? b = some o → h'.get? b = some o) → Q (.ref s1.heap.objs.size) { s1 with heap := h', toks := s1.toks + 1 }) E s) :
    wpAny (model prog w) A (Builtin.«enumerate.__next__» ⟨[.ref e], []⟩) (fun fin s' => ∃ v, fin = .done (.ret v) ∧ Q v s') E s := by
  show wpAny _ _ (field (.ref e) 2 >>= _) _ _ _
  refine wpAny_bind (wpAny_field he rfl (x := .ref a) rfl (wpAny_bind (wpAny_mono hN (fun x s1 h1 => ?_) fun _ _ z => z)))
  obtain ⟨hp, gt, d, tk, os⟩ := s1
  obtain ⟨he1, hq⟩ := h1
  show wpAny _ _ (field (.ref e) 3 >>= _) _ _ _
  refine wpAny_bind (wpAny_field he1 rfl (x := rawInt i) rfl ?_)
  show wpAny _ _ (field (.ref e) 4 >>= _) _ _ _
  refine wpAny_bind (wpAny_field he1 rfl (x := .none) rfl ?_)
  show wpAny _ _ (mkInt i >>= _) _ _ _
  refine wpAny_bind (wpAny_mkInt ?_)
  refine wpAny_bind (m := setField (.ref e) 3 (rawInt ((i : Int) + 1))) (wpAny_setField_rec he1 (by simp) fun h2 e2 s2 => ?_)
  have s2' : Heap.SameBut e hp h2 := s2
  have e2' : IsEnum h2 e a ((i : Int) + 1) old := e2
  refine wpAny_bind (m := setField (.ref e) 4 .none) (wpAny_setField_rec (s := ⟨h2, gt, d, tk + 1, os⟩) e2' (by simp) fun h3 e3 s3 => ?_)
  have s3' : Heap.SameBut e h2 h3 := s3
  have e3' : IsEnum h3 e a ((i : Int) + 1) old := e3
  refine wpAny_bind (m := newTuple [.int i tk, x]) (wpAny_newTuple ?_)
  have z3 : h3.objs.size = hp.objs.size := by rw [s3'.1, s2'.1]
  have lte : e < hp.objs.size := Heap.lt_size he1
  have e4 : IsEnum (h3.push { cls := .type "tuple", data := .seq #[.int i tk, x] }) e a ((i : Int) + 1) old := Heap.get?_push_of_some _ e3'
  have t4 : (h3.push { cls := .type "tuple", data := .seq #[.int i tk, x] }).get? hp.objs.size = some { cls := .type "tuple", data := .seq #[.int i tk, x] } := by rw [← z3]; exact Heap.get?_push_size _ rfl
  have k4 : ∀ b o, b ≠ e → hp.get? b = some o → (h3.push { cls := .type "tuple", data := .seq #[.int i tk, x] }).get? b = some o := fun b o hb eb => Heap.get?_push_of_some _ (s3'.extBut b o hb (s2'.extBut b o hb eb))
  show wpAny _ _ (Builtin.SmallTypes.ownedTupleIsFree (.ref e) >>= _) _ _ ⟨h3.push { cls := .type "tuple", data := .seq #[.int i tk, x] }, gt, d, tk + 1, os⟩
  generalize h3.push { cls := .type "tuple", data := .seq #[.int i tk, x] } = h4 at e4 t4 k4
  show wpAny _ _ (Builtin.SmallTypes.ownedTupleIsFree (.ref e) >>= _) _ _ ⟨h4, gt, d, tk + 1, os⟩
  refine wpAny_bind ?_
  unfold Builtin.SmallTypes.ownedTupleIsFree
  refine wpAny_bind (wpAny_field (s := ⟨h4, gt, d, tk + 1, os⟩) e4 rfl (x := .none) rfl (wpAny_pure ?_))
  simp only [if_true]
  refine wpAny_bind (wpAny_rule (wpAny_bind (wpAny_field (s := ⟨h4, gt, d, tk + 1, os⟩) e4 rfl (x := old) rfl ?_)))
  refine wpAny_bind (wpAny_setField_rec (s := ⟨h4, gt, d, tk + 1, os⟩) e4 (by simp) fun h5 e5 s5 => ?_)
  have s5' : Heap.SameBut e h4 h5 := s5
  have e5' : IsEnum h5 e a ((i : Int) + 1) x := e5
  rw [z3]
  show wpAny _ _ (Builtin.SmallTypes.ownedTupleHandOut (.ref e) (.ref hp.objs.size) >>= _) _ _ ⟨h5, gt, d, tk + 1, os⟩
  refine wpAny_bind ?_
  unfold Builtin.SmallTypes.ownedTupleHandOut
  refine wpAny_bind (wpAny_setField_rec (s := ⟨h5, gt, d, tk + 1, os⟩) e5' (by simp) fun h6 e6 s6 => ?_)
  have s6' : Heap.SameBut e h5 h6 := s6
  have e6' : IsEnumOut h6 e a ((i : Int) + 1) x hp.objs.size := e6
  refine wpAny_setField_rec (s := ⟨h6, gt, d, tk + 1, os⟩) e6' (by simp) fun h7 e7 s7 => ?_
  have s7' : Heap.SameBut e h6 h7 := s7
  have nt : hp.objs.size ≠ e := Nat.ne_of_gt lte
  exact wpAny_bind (wpAny_letGo (wpAny_pure ⟨_, rfl, hq h7 e7 (s7'.extBut _ _ nt (s6'.extBut _ _ nt (s5'.extBut _ _ nt t4))) fun b o hb eb => s7'.extBut b o hb (s6'.extBut b o hb (s5'.extBut b o hb (k4 b o hb eb)))⟩))
end
end G

/-! for k, x in enumerate(generator): one turn, the loop. -/
namespace G
open PySem PySem.Spec PyProof.Rows L2 GenW
open PySem.Sem (wp)
/-- the enumerate object at its i-th turn -/
abbrev enO (a : Addr) (i : Int) (old : Value) : Obj := { cls := .type "enumerate", dict := none, data := .fields #[.none, .bool false, .ref a, rawInt i, .none, old], slots := #[] }
section
variable {α : Type} {X : Cx} {C : Gc} {r : Rp α} {a e : Addr} {g i : Nat} {pins : List (Addr × Obj)} {σc : L2.St} {H : Hp} {s : Shared} {cg R4 : Own} {F F4 : Hp} {rem : List α} {old : Value}
theorem turnE_S {A : Around} {ip : List (Addr × Obj)} {oL : Obj} {σ : L2.St} {gs : GenState} {elts : List Expr} {kk : Nat} {tpos : Pos} {Q : Option Value → Shared → Prop} {E : Value → Shared → Prop} (T : Two X C a g) (hA : C.A = A.in1.in1) (hh : A.handled = none) (hroom : A.depth < recursionLimit) (yp : ∀ p ∈ X.pn ++ pins, p.1 < C.env.locals) (ye : a < e)
    (h : Gst X C r g pins [(e, enO a i old)] σc H s cg F rem ip oL σ gs) (sf : Same F F4) (S : Sta F4 (cg ++ R4) H)
    (hitem : ∀ y ys v x H' F' cg' s' t ip' oL' σ' gs', rem = y :: ys → r F' x y → Same F4 F' → Sta F' (cg' ++ R4) H' → isSu gs' → H' t = none → v = .ref t → (∀ Q' : Unit → Shared → Prop, (∀ s'' old', Gst X C r g pins [(e, enO a ((i + 1 : Nat) : Int) old')] σc (upd H' t (.tup [.int (i : Nat), x])) s'' cg' F' ys ip' oL' σ' gs' → Q' () s'') → wpAny (model X.prog X.w) X.A (letOwnedTupleGo (.Tuple elts kk tpos) (.ref e) v) Q' E s') → Q (some v) s')
    (hend : ∀ H' F' s', rem = [] → Inv X (pins ++ [(e, enO a i old)]) σc H' s' → Same F4 F' → Sta F' R4 H' → Q none s') : wpAny (model X.prog X.w) A (pyNext (.ref e)) Q E s := by
  have pinE : ∀ {H : Hp} {s : Shared} {ip : List (Addr × Obj)} {oL o : Obj}, Inv X (pins ++ gPins C [(e, o)] ip oL) σc H s → s.heap.get? e = some o := fun {H s ip oL o} I =>
    (I.pin (e, o) (List.mem_append_right _ (List.mem_append_right _ (List.mem_cons_of_mem _ (List.mem_append_right _ (List.mem_append_left _ (List.mem_singleton.mpr rfl))))))).1
  have he : IsEnum s.heap e a i old := pinE h.inv
  have hT : s.TypeIs (.ref e) "enumerate" := ⟨_, he, rfl⟩
  have yL : C.env.locals < e := Nat.lt_trans T.la ye
  unfold pyNext
  refine wpAny_bind (wpAny_attempt (wpAny_callSpecial?_slot (name := Str.ofString "__next__") hT PySem.F.slot_enumerate_next
    (wpAny_call_entry PySem.F.slot_enumerate_next hT PySem.F.entry_enumerate_next (enum_next he (turnN_S T hA hh (by show A.depth < _; exact hroom) yp (fun q hq => by rw [List.mem_singleton.mp hq]; exact yL) h sf S
      (fun y ys v x H' F' cg' s1 ip' oL' σ' gs' er rv rx sf' S' su G1 => ⟨pinE G1.inv, fun h' e7 t7 k7 => ?_⟩) fun H' F' s1 z er J sf' S' hz => ?_)) (PySem.F.args_enumerate_next_1 _))))
  · have fr1 : H' s1.heap.objs.size = none := G1.inv.hok.fresh (Nat.le_refl _)
    have lte : e < s1.heap.objs.size := Heap.lt_size (pinE G1.inv)
    refine wpAny_pure (hitem y ys _ x H' F' cg' _ s1.heap.objs.size ip' oL' σ' gs' er rx sf' S' su fr1 rfl fun Q' hQ' => ?_)
    refine wpAny_letOwnedTupleGo_enum (s := { s1 with heap := h', toks := s1.toks + 1 }) e7 fun h'' e8 sb => ?_
    have keep : ∀ b o, b ∉ [e] → s1.heap.get? b = some o → h''.get? b = some o := fun b o hb eb => by
      have hb' : b ≠ e := fun z => hb (List.mem_singleton.mpr z)
      exact (sb.2 b hb').trans (k7 b o hb' eb)
    have hT2 : h''.get? s1.heap.objs.size = some { cls := .type "tuple", data := .seq #[.int i s1.toks, v] } := (sb.2 _ (Nat.ne_of_gt lte)).trans t7
    have new : ObjOk X.prog X.w (upd H' s1.heap.objs.size (.tup [.int (i : Nat), x])) h'' s1.heap.objs.size (.tup [.int (i : Nat), x]) :=
      ⟨(by decide : 2 ≤ sizeLine), [.int i s1.toks, v], .cons ⟨_, rfl⟩ (.cons rv .nil), ⟨_, hT2, rfl, _, rfl⟩⟩
    have pinsE : ∀ p ∈ pins ++ gPins C [] ip' oL', p ∈ pins ++ gPins C [(e, enO a i old)] ip' oL' := fun p hp => by
      simp only [gPins, List.mem_append, List.mem_cons, List.not_mem_nil, false_or] at hp ⊢
      rcases hp with z | z | z | z
      · exact .inl z
      · exact .inr (.inl z)
      · exact .inr (.inr (.inl z))
      · exact .inr (.inr (.inr (.inr z)))
    have J0 : Inv X (pins ++ gPins C [] ip' oL') σc H' s1 := G1.inv.pins_of fun p hp => G1.inv.pin p (List.mem_append_right _ (pinsE p hp))
    obtain ⟨q1, q2, q3, q4, q5⟩ := G1.inv.pin (e, enO a i old) (List.mem_append_right _ (List.mem_append_right _ (List.mem_cons_of_mem _ (List.mem_append_right _ (List.mem_append_left _ (List.mem_singleton.mpr rfl))))))
    have J1 := J0.turnedNew (t' := s1.toks + 1) (ch := [e]) keep (fun b hb => by
      rw [List.mem_singleton.mp hb]
      refine ⟨q2, q3, q4, .inr (Nat.le_trans T.y0 (Nat.le_of_lt yL)), fun x c ec => Nat.ne_of_lt (Nat.lt_trans (T.yc x c ec) yL), fun p hp => ?_⟩
      rcases List.mem_append.mp hp with z | z
      · exact Nat.ne_of_lt (Nat.lt_trans (yp p (List.mem_append_left _ z)) yL)
      · rcases List.mem_append.mp z with z | z
        · exact Nat.ne_of_lt (Nat.lt_trans (yp p (List.mem_append_right _ z)) yL)
        · rcases List.mem_cons.mp z with rfl | z
          · exact Nat.ne_of_lt yL
          · rcases List.mem_append.mp z with z | z
            · obtain ⟨go, nm, qn, eg, _⟩ := T.pn
              rw [eg, List.mem_singleton] at z
              subst z
              exact Nat.ne_of_lt ye
            · have z' : p ∈ ip' := by simpa using z
              exact Ne.symm (G1.dj (e, enO a i old) (List.mem_singleton.mpr rfl) p z')) (Nat.le_refl _) new
    refine hQ' _ v ⟨J1.pins_of fun p hp => ?_, G1.fro, fun p hp q hq => ?_, G1.yi, G1.at', G1.rdy⟩
    · have old' : p ∈ pins ++ gPins C [] ip' oL' ∨ p = (e, enO a ((i + 1 : Nat) : Int) v) := by
        simp only [gPins, List.mem_append, List.mem_cons, List.not_mem_nil, false_or, or_false] at hp ⊢
        rcases hp with z | z | z | z | z
        · exact .inl (.inl z)
        · exact .inl (.inr (.inl z))
        · exact .inl (.inr (.inr (.inl z)))
        · exact .inr z
        · exact .inl (.inr (.inr (.inr z)))
      rcases old' with z | rfl
      · exact J1.pin p (List.mem_append_right _ z)
      · refine ⟨?_, ?_, q3, q4, fun v q => by cases q⟩
        · have e1 : ((i + 1 : Nat) : Int) = (i : Int) + 1 := by omega
          show h''.get? e = some (enO a ((i + 1 : Nat) : Int) v)
          rw [e1]; exact e8
        · show upd H' s1.heap.objs.size _ e = none
          rw [upd_ne (Nat.ne_of_lt lte)]; exact q2
    · rw [List.mem_singleton.mp hp]
      exact G1.dj (e, enO a i old) (List.mem_singleton.mpr rfl) q hq
  · obtain ⟨o, ho, hc⟩ := hz
    refine wpAny_bind (wpAny_isInstance (T := "StopIteration") (b := true) ⟨o, ho, hc⟩ isSubtype_stop ?_)
    exact wpAny_pure (hend H' F' s1 er J sf' S')
end

section
variable {α : Type} {r : Rp α} {X : Cx} {k : Nat} {p pos cpos tpos : Pos}
def tForE' (tg : TGe α) (r : Rp α) (g : TG) (tb : TS) : TS := fun D σ H => tg σ H fun H1 F ys => ∃ (cs R : Own) (F0 : Hp) (Pv : Nat → Hp → Own → L2.St → Prop), Same F F0 ∧ Sta F0 (cs ++ R) H1 ∧ Pv 0 F0 cs σ ∧
  (∀ i F cs σ y x t F' R' H', ys[i]? = some y → Pv i F cs σ → Same F F' → Sta F' (cs ++ R') H' → (∀ F'' cs'' H'', Sta F'' (cs'' ++ R') H'' → Sta F'' (cs'' ++ R) H'') → r F' x y → H' t = none → g (.ref t) σ (upd H' t (.tup [.int (i : Nat), x])) fun σ2 H2 => tb { D with nx := nxG Pv (i + 1) F' R', ct := nxG Pv (i + 1) F' R', bk := D.nx } σ2 H2) ∧
  (∀ F cs σ F' H', Pv ys.length F cs σ → Same F F' → Sta F' (cs ++ R) H' → D.nx σ H')
theorem ps_forEnG {e : Expr} {elts : List Expr} {kk : Nat} {body : List Stmt} {wg : TGe α} {g : TG} {tb : TS} (hx : ∀ e s, ¬ X.xe e s) (hp : PassesOwn (model X.prog X.w) X.A X.env X.xe) (hgl : Gl X "enumerate") (hmg : X.mg "enumerate" = none) (hi : PGe X r k e wg) (hr : Room (k + 2) X.A) (hg : PG X (.Tuple elts kk tpos) g) (hb : PSs X body tb)
    (he : starEach [e] X.env = (false, eval e X.env) :: starEach [] X.env := by rfl) (hs : ∀ x, foldedSetIterable (.Call (.Name "enumerate" p) [e] [] cpos) X.env x = pure x := by intro _; rfl) : PS X (.For (.Tuple elts kk tpos) (.Call (.Name "enumerate" p) [e] [] cpos) body [] pos) (tForE' wg r g tb) := by
  refine ⟨fun pins s σ H D I h => wpAny_For (wpAny_Call_Name_kw (ld_blt I hgl hmg boot_enumerate ?_)) hs⟩
  refine PyProof.Rows.callWith_type1 ?_ he rfl
  rw [he]
  refine Calls.spliced_cons (thn (hi.run pins s σ H _ I h) fun v s1 h1 => Calls.spliced_nil ?_)
  obtain ⟨H1, F1, ys, ⟨cs, R, F0, Pv, sf0, S0, p0, step, dn⟩, a, gi, rfl, ha, mk⟩ := h1
  obtain ⟨C, oL, σg, c, hCA, T, yp, G0⟩ := mk X.A.in1.in1 (Room.in1 (Room.in1 hr)) (by show X.A.frames = _; exact I.ok.frames)
  obtain ⟨go, nm, qn, ego, g1, g2, g3⟩ := T.pn
  have pina : ∀ {H : Hp} {s : Shared} {xp ip : List (Addr × Obj)} {oL : Obj} {σ : L2.St}, Inv X (pins ++ gPins C xp ip oL) σ H s → s.heap.get? a = some go := fun {H s xp ip oL σ} J =>
    (J.pin (a, go) (List.mem_append_right _ (List.mem_append_right _ (List.mem_cons_of_mem _ (List.mem_append_left _ (by rw [ego]; exact List.mem_singleton.mpr rfl)))))).1
  have hgo := pina G0.inv
  refine callType_new PySem.F.called_enumerate (by decide) (PySem.F.typeCall_enumerate_1 _) (PySem.F.newCall_enumerate_1 _) (fun obj => PySem.F.args_object_init_2 obj _) PySem.F.entry_enumerate_new (meets_enumG a go gi nm qn g1 g2 g3) ⟨hgo, ?_⟩
  have hen : (s1.heap.push (enO a 0 .none)).get? s1.heap.objs.size = some (enO a 0 .none) := Heap.get?_push_size _ rfl
  show _ ∧ _
  refine ⟨⟨_, hen, rfl⟩, wpAny_pyIter_enum (it := a) (i := 0) (old := .none) hen ?_⟩
  have J0 : Inv X (pins ++ gPins C [] [] oL) σ H1 { s1 with heap := s1.heap.push (enO a 0 .none) } := G0.inv.kept (t' := s1.toks) fun b o e => Heap.get?_push_of_some _ e
  have G1 : Gst X C r gi pins [(s1.heap.objs.size, enO a ((0 : Nat) : Int) .none)] σ H1 { s1 with heap := s1.heap.push (enO a 0 .none) } [] F1 (ys.drop 0) [] oL σg (.fresh c) := by
    refine ⟨J0.pins_of fun q hq => ?_, G0.fro, (fun _ _ q hq => by cases hq), G0.yi, G0.at', G0.rdy⟩
    have hq' : q ∈ pins ++ gPins C [] [] oL ∨ q = (s1.heap.objs.size, enO a ((0 : Nat) : Int) .none) := by
      simp only [gPins, List.mem_append, List.mem_cons, List.not_mem_nil, or_false] at hq ⊢
      rcases hq with z | z | z | z
      · exact .inl (.inl z)
      · exact .inl (.inr (.inl z))
      · exact .inl (.inr (.inr z))
      · exact .inr z
    rcases hq' with z | rfl
    · exact J0.pin q (List.mem_append_right _ z)
    · exact ⟨hen, G0.inv.hok.fresh (Nat.le_refl _), Nat.ne_of_gt G0.inv.lt, G0.inv.nofs (Nat.le_refl _), fun v q => by cases q⟩
  refine codeAny_forLoop_any (fun n s' => ∃ i σ' H' F cs cg Fg ip oL σg gs old, n = ys.length - i ∧ i ≤ ys.length ∧ Gst X C r gi pins [(s1.heap.objs.size, enO a (i : Nat) old)] σ' H' s' cg Fg (ys.drop i) ip oL σg gs ∧ Same Fg F ∧ Sta F (cg ++ (cs ++ R)) H' ∧ Pv i F cs σ') ?_ (ys.length)
    ⟨0, σ, H1, F0, cs, [], F1, [], oL, σg, _, .none, rfl, Nat.zero_le _, G1, sf0, S0, p0⟩
  rintro n s3 ⟨i, σ3, H3, F3, cs3, cg3, Fg3, ip3, oL3, σg3, gs3, old3, rfl, hi3, G3, sf3, S3, p3⟩
  refine wpAny_passesOwn hp (turnE_S (elts := elts) (kk := kk) (tpos := tpos) T hCA hr.hd hr.depth yp ha G3 sf3 S3 (fun y ys' v x H' F' cg' s4 t ip' oL' σ' gs' er rx sf' S' su ht ev hgo4 => ?_) fun H' F' s4 er J sf' S' => ?_)
  · have hlt : i < ys.length := by
      rcases Nat.lt_or_ge i ys.length with z | z
      · exact z
      · rw [List.drop_eq_nil_of_le z] at er; cases er
    have hy : ys[i]? = some y := by
      have e2 : (ys.drop i)[0]? = some y := by rw [er]; rfl
      rw [List.getElem?_drop] at e2
      exact e2
    have hys : ys.drop (i + 1) = ys' := by
      have e2 : (ys.drop i).drop 1 = ys' := by rw [er]; rfl
      rw [List.drop_drop] at e2
      exact e2
    refine wpAny_passesOwn hp (hgo4 _ fun s5 old5 G5 => ?_)
    subst ev
    refine wpAny_passesOwn hp (wpAny_mono (pg_calm (v := .ref t) hx hg G5.inv rfl (step i F3 cs3 σ3 y x t F' (cg' ++ R) H' hy p3 sf' (sta_swap S') (fun F'' cs'' H'' z => sta_mid z) rx ht)) (fun _ s6 h6 => ?_) fun _ _ z => z.elim)
    obtain ⟨⟨σ6, H6, I6, q6⟩, sl6⟩ := h6
    refine wpAny_passesOwn hp (wpAny_mono (pss_calm hx hb I6 q6) (fun fl s7 h7 => ?_) fun _ _ z => z.elim)
    obtain ⟨sp7, sl7⟩ := h7
    have at7 : s7.gens[gi]? = some gs' := sl7 gi gs' (sl6 gi gs' G5.at' su) su
    have again : ∀ {σ7 : L2.St} {H7 : Hp}, Inv X (pins ++ gPins C [(s1.heap.objs.size, enO a ((i + 1 : Nat) : Int) old5)] ip' oL') σ7 H7 s7 → nxG Pv (i + 1) F' (cg' ++ R) σ7 H7 → ∃ m, m < ys.length - i ∧ ∃ i σ' H' F cs cg Fg ip oL σg gs old, m = ys.length - i ∧ i ≤ ys.length ∧ Gst X C r gi pins [(s1.heap.objs.size, enO a (i : Nat) old)] σ' H' s7 cg Fg (ys.drop i) ip oL σg gs ∧ Same Fg F ∧ Sta F (cg ++ (cs ++ R)) H' ∧ Pv i F cs σ' := fun {σ7 H7} I7 ⟨F7, cs7, sf7, S7, p7⟩ =>
      ⟨ys.length - (i + 1), by omega, i + 1, σ7, H7, F7, cs7, cg', F', ip', oL', σ', gs', old5, rfl, hlt, ⟨I7, G5.fro, G5.dj, G5.yi, at7, by rw [hys]; exact G5.rdy⟩, sf7, sta_swap S7, p7⟩
    cases fl with
    | next => obtain ⟨σ7, H7, I7, n7⟩ := sp7; exact again I7 n7
    | cont => obtain ⟨σ7, H7, I7, n7⟩ := sp7; exact again I7 n7
    | brk => obtain ⟨σ7, H7, I7, q7⟩ := sp7; exact ⟨σ7, H7, I7.unpinned, q7⟩
    | ret u => obtain ⟨x7, σ7, H7, I7, r7, q7⟩ := sp7; exact ⟨x7, σ7, H7, I7.unpinned, r7, q7⟩
  · have hi' : i = ys.length := by
      have q := congrArg List.length er
      rw [List.length_drop] at q
      have q' : ys.length - i = 0 := q
      omega
    subst hi'
    exact wpAny_execs_nil ⟨σ3, H', J.unpinned, dn F3 cs3 σ3 F' H' p3 sf' S'⟩
end
end G

/-! What the printed walks of generators use. -/
namespace G
open PySem PySem.Spec PyProof.Rows L2 GenW
section
variable {α : Type}
theorem gseqI {t u : TGn α} {D : GEnds α} {γ : Gh α} {σ : L2.St} {H : Hp} (k : ∀ N : Gh α → L2.St → Hp → Prop, (∀ γ σ H, u D γ σ H → N γ σ H) → t { D with nx := N } γ σ H) : tGSeq t u D γ σ H := k _ fun _ _ _ h => h
theorem gfor_list {K : PySem.W.Frag} {a : Addr} {xs : List V} {g : TG} {tb : TGn α} {D : GEnds α} {γ : Gh α} {σ : L2.St} {H : Hp} (Pv : Nat → Gh α → L2.St → Hp → Prop) (h0 : Pv 0 γ σ H) (hl : ∀ i γ σ H, Pv i γ σ H → SqL K H a xs)
    (hs : ∀ i x γ σ H, xs[i]? = some x → Pv i γ σ H → g x σ H fun σ2 H2 => tb { D with nx := Pv (i + 1), ct := Pv (i + 1), bk := D.nx } γ σ2 H2) (hd : ∀ γ σ H, Pv xs.length γ σ H → D.nx γ σ H) :
    ∃ W : Nat → Nat → Gh α → L2.St → Hp → Prop, (∃ m, W 0 m γ σ H) ∧ ∀ i m γ σ H, W i m γ σ H →
      ((Itl K a).stop i H ∧ D.nx γ σ H) ∨ ((Itl K a).go i H ∧ ∃ N : Gh α → L2.St → Hp → Prop, (∀ γ' σ' H', N γ' σ' H' → ∃ m', m' < m ∧ W (i + 1) m' γ' σ' H') ∧ ∀ x H', (Itl K a).yld i H x H' → g x σ H' fun σ2 H2 => tb { D with nx := N, ct := N, bk := D.nx } γ σ2 H2) := by
  refine ⟨fun i m γ σ H => m = xs.length - i ∧ i ≤ xs.length ∧ Pv i γ σ H, ⟨xs.length, (Nat.sub_zero _).symm, Nat.zero_le _, h0⟩, ?_⟩
  rintro i m γ σ H ⟨rfl, hi, pv⟩
  have q := hl i γ σ H pv
  rcases Nat.lt_or_ge i xs.length with hlt | hge
  · refine .inr ⟨⟨xs, xs[i], q, List.getElem?_eq_getElem hlt⟩, Pv (i + 1), fun γ' σ' H' p' => ⟨xs.length - (i + 1), by omega, rfl, hlt, p'⟩, fun x H' y => ?_⟩
    obtain ⟨rfl, y⟩ := y
    exact hs i x γ σ _ (y xs q) pv
  · obtain rfl : i = xs.length := Nat.le_antisymm hi hge
    exact .inl ⟨⟨xs, q, Nat.le_refl _⟩, hd γ σ H pv⟩
end
theorem enum_at {α : Type} {ys : List α} {i : Nat} {y : α} (h : ys[i]? = some y) : ∃ z, ((pyRange 0 ys.length).zip ys)[i]? = some z ∧ z = ((i : Int), y) := by
  have hi := (List.getElem?_eq_some_iff.mp h).1
  refine ⟨_, ?_, rfl⟩
  rw [List.getElem?_zip_eq_some]
  refine ⟨?_, h⟩
  rw [pyRange_get hi, Int.zero_add]
theorem enum_drop {α : Type} {ys : List α} : ((pyRange 0 ys.length).zip ys).drop ys.length = [] := by
  apply List.drop_eq_nil_of_le
  rw [List.length_zip, pyRange_len, Nat.min_self]
  exact Nat.le_refl _
end G

namespace G
open PySem PySem.Spec PyProof.Rows L2

structure M_Pusher where
  clauses : (List (List Int))
  places : (List (Int × (List Int)))
  starts : (List Int)
  empty : Bool

def m_law_seed_l1 : List Int → Int → Option Int
  | [], st1 => some st1
  | x24 :: t, st1 =>
    m_law_seed_l1 t ((((st1 * (69621 : Int)) + (x24 % (2147483647 : Int))) + (7 : Int)) % (2147483647 : Int))
def m_law_seed (x_script0 : (List Int)) : Option Int :=
  (m_law_seed_l1 x_script0 (1 : Int)).bind fun st1 =>
  some st1

def m_law_take (x_script0 : (List Int)) (x_source0 : (List Int)) (x_size0 : Int) : Option (Int × (List Int)) :=
  (((atI x_source0 (0 : Int)).bind fun y10 =>
      if (decide (y10 = (0 : Int))) = true then ((atI x_source0 (1 : Int)).bind fun y16 =>
      some (decide (y16 < (x_script0.length : Int)))) else (some false)).bind fun b8 =>
    if b8 = true then
      ((atI x_source0 (1 : Int)).bind fun y24 =>
      (atI x_script0 y24).bind fun y29 =>
      (ixN x_source0.length (0 : Int)).bind fun j34 =>
      (atI (x_source0.set j34 (if y29 < 0 then -y29 else y29)) (1 : Int)).bind fun y38 =>
      (ixN (x_source0.set j34 (if y29 < 0 then -y29 else y29)).length (1 : Int)).bind fun j43 =>
      some ((x_source0.set j34 (if y29 < 0 then -y29 else y29)).set j43 (y38 + (1 : Int))))
    else
      (some x_source0)).bind fun y6 =>
  (atI y6 (0 : Int)).bind fun y49 =>
  if (decide (y49 > (0 : Int))) = true then
    ((atI y6 (0 : Int)).bind fun y57 =>
    (grd (divOk x_size0)).bind fun _ =>
    (atI y6 (0 : Int)).bind fun y65 =>
    (grd (divOk x_size0)).bind fun _ =>
    (ixN y6.length (0 : Int)).bind fun j71 =>
    some ((y57 % x_size0), (y6.set j71 (y65 / x_size0))))
  else
    ((atI y6 (3 : Int)).bind fun y77 =>
    (ixN y6.length (3 : Int)).bind fun j82 =>
    (atI (y6.set j82 (y77 + (1 : Int))) (2 : Int)).bind fun y88 =>
    (atI (y6.set j82 (y77 + (1 : Int))) (3 : Int)).bind fun y93 =>
    (ixN (y6.set j82 (y77 + (1 : Int))).length (2 : Int)).bind fun j98 =>
    (atI ((y6.set j82 (y77 + (1 : Int))).set j98 ((((y88 * (48271 : Int)) + (y93 * (16807 : Int))) + (12345 : Int)) % (2147483647 : Int))) (2 : Int)).bind fun y102 =>
    (grd (divOk x_size0)).bind fun _ =>
    some (((y102 / (1009 : Int)) % x_size0), ((y6.set j82 (y77 + (1 : Int))).set j98 ((((y88 * (48271 : Int)) + (y93 * (16807 : Int))) + (12345 : Int)) % (2147483647 : Int)))))

def m_law_letter (x_script0 : (List Int)) (x_source0 : (List Int)) : Option (Int × (List Int)) :=
  (m_law_take x_script0 x_source0 (8 : Int)).bind fun y3 =>
  if (decide (y3.1 = (7 : Int))) = true then
    ((m_law_take x_script0 y3.2 (3 : Int)).bind fun y15 =>
    some (((999999 : Int) - y15.1), y15.2))
  else
    (if (decide (y3.1 > (2 : Int))) = true then
      ((m_law_take x_script0 y3.2 (9 : Int)).bind fun y27 =>
      some (((1 : Int) + y27.1), y27.2))
    else
      ((atI ([(10 : Int), (100 : Int), (100000 : Int)] : (List Int)) y3.1).bind fun y40 =>
      (atI ([(90 : Int), (9900 : Int), (899997 : Int)] : (List Int)) y3.1).bind fun y49 =>
      (m_law_take x_script0 y3.2 y49).bind fun y55 =>
      some ((y40 + y55.1), y55.2)))

def m_law_letters_l2 (st1 : ((List Int) × (List Int))) : Nat → Int → Option Int
  | 0, _ => none
  | t + 1, st2 =>
    if (decide (st2 ∈ st1.1)) = true then
      (m_law_letters_l2 st1 t ((st2 % (999999 : Int)) + (1 : Int)))
    else
      some st2
def m_law_letters_l1 (x_script0 : (List Int)) : List Int → ((List Int) × (List Int)) → Option ((List Int) × (List Int))
  | [], st1 => some st1
  | x45 :: t, st1 =>
    (m_law_letter x_script0 st1.2).bind fun y50 =>
    (m_law_letters_l2 st1 fuel y50.1).bind fun st2 =>
    (grd (decide (st1.1.length < 16777216))).bind fun _ =>
    m_law_letters_l1 x_script0 t ((st1.1 ++ [st2]), y50.2)
def m_law_letters (x_script0 : (List Int)) (x_source0 : (List Int)) (x_count0 : Int) : Option ((List Int) × (List Int)) :=
  (grd (rngOk x_count0)).bind fun _ =>
  (m_law_letters_l1 x_script0 (pyRange 0 x_count0.toNat) (([] : (List Int)), x_source0)).bind fun st1 =>
  some (st1.1, st1.2)

def m_law_split_l1 (x_script0 : (List Int)) (x_letters0 : (List Int)) : List Int → ((List (List Int)) × (List (List Int)) × (List Int)) → Option ((List (List Int)) × (List (List Int)) × (List Int))
  | [], st1 => some st1
  | x77 :: t, st1 =>
    (m_law_take x_script0 st1.2.2 (st1.2.1.length : Int)).bind fun y82 =>
    (atI st1.2.1 y82.1).bind fun y93 =>
    (grd (decide (x_letters0.length < 16777216))).bind fun _ =>
    if (!decide (((x_letters0.filter fun x108 => ((!decide (x108 ∈ y93)) && (!decide (((0 : Int) - x108) ∈ y93)))).map fun x108 => x108) = ([] : (List Int)))) = true then
      ((m_law_take x_script0 y82.2 (((x_letters0.filter fun x108 => ((!decide (x108 ∈ y93)) && (!decide (((0 : Int) - x108) ∈ y93)))).map fun x108 => x108).length : Int)).bind fun y139 =>
      (atI ((x_letters0.filter fun x108 => ((!decide (x108 ∈ y93)) && (!decide (((0 : Int) - x108) ∈ y93)))).map fun x108 => x108) y139.1).bind fun y148 =>
      (grd (decide (st1.1.length < 16777216))).bind fun _ =>
      (grd (decide (y93.length + ([y148] : (List Int)).length ≤ 16777216))).bind fun _ =>
      (ixN st1.2.1.length y82.1).bind fun j173 =>
      (grd (decide (y93.length + ([((0 : Int) - y148)] : (List Int)).length ≤ 16777216))).bind fun _ =>
      (grd (decide ((st1.2.1.set j173 (y93 ++ ([y148] : (List Int)))).length < 16777216))).bind fun _ =>
      m_law_split_l1 x_script0 x_letters0 t ((st1.1 ++ [y93]), ((st1.2.1.set j173 (y93 ++ ([y148] : (List Int)))) ++ [(y93 ++ ([((0 : Int) - y148)] : (List Int)))]), y139.2))
    else
      (m_law_split_l1 x_script0 x_letters0 t (st1.1, st1.2.1, y82.2))
def m_law_split (x_script0 : (List Int)) (x_source0 : (List Int)) (x_letters0 : (List Int)) (x_count0 : Int) : Option (((List (List Int)) × (List (List Int))) × (List Int)) :=
  (grd (rngOk x_count0)).bind fun _ =>
  (m_law_split_l1 x_script0 x_letters0 (pyRange 0 x_count0.toNat) (([] : (List (List Int))), ([([] : (List Int))] : (List (List Int))), x_source0)).bind fun st1 =>
  (grd (rngOk (st1.1.length : Int))).bind fun _ =>
  (grd (decide ((pyRange 0 (st1.1.length : Int).toNat).length < 16777216))).bind fun _ =>
  (lcO (fun x202 => (atI st1.1 (((st1.1.length : Int) - (1 : Int)) - x202)).bind fun y221 =>
        some (some y221)) (pyRange 0 (st1.1.length : Int).toNat)).bind fun y231 =>
  (if (decide (y231 = ([] : (List (List Int))))) = true then
      (some ([([] : (List Int))] : (List (List Int))))
    else
      (some y231)).bind fun y239 =>
  some ((st1.2.1, y239), st1.2.2)

def m_law_handed_l1 (x_rows0 : (List (List Int))) : List Int → (List (Bool × List Int)) → Option (List (Bool × List Int))
  | [], st1 => some st1
  | x39 :: t, st1 =>
    if (decide ((x39 % (3 : Int)) = (1 : Int))) = true then
      ((atI x_rows0 x39).bind fun y42 =>
      (grd (decide (st1.length < 16777216))).bind fun _ =>
      m_law_handed_l1 x_rows0 t (st1 ++ [(false, y42)]))
    else
      ((atI x_rows0 x39).bind fun y61 =>
      (grd (decide (y61.length < 16777216))).bind fun _ =>
      (grd (decide (st1.length < 16777216))).bind fun _ =>
      m_law_handed_l1 x_rows0 t (st1 ++ [(true, (y61.map fun x74 => x74))]))
def m_law_handed (x_rows0 : (List (List Int))) : Option (List (Bool × List Int)) :=
  (grd (rngOk (x_rows0.length : Int))).bind fun _ =>
  (m_law_handed_l1 x_rows0 (pyRange 0 (x_rows0.length : Int).toNat) ([] : (List (Bool × List Int)))).bind fun st1 =>
  some st1

def m_law_forced_l1 : List Int → (List (Int × Bool)) → Option (List (Int × Bool))
  | [], st1 => some st1
  | x34 :: t, st1 =>
    (grd (decide (st1.length < 16777216))).bind fun _ =>
    m_law_forced_l1 t (mput st1 x34 true)
def m_law_forced_l3 : List (List Int) → (List (Int × Bool)) → Option (Flw (List (Int × Bool)) (Option (List Int)))
  | [], st3 => some (.done st3)
  | x93 :: t, st3 =>
    (grd (decide (x93.length < 16777216))).bind fun _ =>
    if (decide (((x93.filter fun x107 => (!(mget st3 ((0 : Int) - x107)).isSome)).map fun x107 => x107) = ([] : (List Int)))) = true then
      (some (.ret none))
    else
      ((grd (decide (((x93.filter fun x107 => (!(mget st3 ((0 : Int) - x107)).isSome)).map fun x107 => x107).length < 16777216))).bind fun _ =>
      (lcO (fun x141 => (atI ((x93.filter fun x107 => (!(mget st3 ((0 : Int) - x107)).isSome)).map fun x107 => x107) (0 : Int)).bind fun y160 =>
            if (!decide (x141 = y160)) = true then (some (some x141)) else some none) ((x93.filter fun x107 => (!(mget st3 ((0 : Int) - x107)).isSome)).map fun x107 => x107)).bind fun y167 =>
      if (decide (y167 = ([] : (List Int)))) = true then
        ((atI ((x93.filter fun x107 => (!(mget st3 ((0 : Int) - x107)).isSome)).map fun x107 => x107) (0 : Int)).bind fun y174 =>
        (grd (decide (st3.length < 16777216))).bind fun _ =>
        m_law_forced_l3 t (mput st3 y174 true))
      else
        (m_law_forced_l3 t st3))
def m_law_forced_l2 (x_clauses0 : (List (List Int))) : List Int → (List (Int × Bool)) → Option (Flw (List (Int × Bool)) (Option (List Int)))
  | [], st2 => some (.done st2)
  | x54 :: t, st2 =>
    (m_law_forced_l3 x_clauses0 st2).bind fun y60 =>
    match y60 with
    | .ret r => some (.ret r)
    | .done st3 =>
    if (decide ((st3.length : Int) = (st2.length : Int))) = true then
      (some (.done st3))
    else
      (m_law_forced_l2 x_clauses0 t st3)
def m_law_forced_l4 (st2 : (List (Int × Bool))) : List Int → Unit → Option (Flw Unit (Option (List Int)))
  | [], st4 => some (.done st4)
  | x208 :: t, st4 =>
    if (mget st2 ((0 : Int) - x208)).isSome = true then
      (some (.ret none))
    else
      (m_law_forced_l4 st2 t ())
def m_law_forced (x_clauses0 : (List (List Int))) (x_given0 : (List Int)) : Option (Option (List Int)) :=
  (m_law_forced_l1 x_given0 ([] : (List (Int × Bool)))).bind fun st1 =>
  (m_law_forced_l2 x_clauses0 (pyRange 0 (100 : Int).toNat) st1).bind fun y41 =>
  match y41 with
  | .ret r => some r
  | .done st2 =>
  (m_law_forced_l4 st2 (st2.map fun (q : Int × Bool) => q.1) ()).bind fun y187 =>
  match y187 with
  | .ret r => some r
  | .done st4 =>
  (grd (decide ((st2.map fun (q : Int × Bool) => q.1).length < 16777216))).bind fun _ =>
  some (some (sortI ((st2.map fun (q : Int × Bool) => q.1).map fun x222 => x222)))

def m_law_follows_l1 : List (List Int) → ((List Bool) × (List (List Int))) → Option ((List Bool) × (List (List Int)))
  | [], st1 => some st1
  | x75 :: t, st1 =>
    (grd (decide (x75.length < 16777216))).bind fun _ =>
    (m_law_forced st1.2 (x75.map fun x89 => ((0 : Int) - x89))).bind fun y110 =>
    (grd (decide (st1.1.length < 16777216))).bind fun _ =>
    (grd (decide (st1.2.length < 16777216))).bind fun _ =>
    m_law_follows_l1 t ((st1.1 ++ [(y110).isNone]), (st1.2 ++ [x75]))
def m_law_follows (x_clauses0 : (List (List Int))) (x_log0 : (List (List Int))) : Option (List Bool) :=
  (grd (decide (x_clauses0.length < 16777216))).bind fun _ =>
  (m_law_follows_l1 x_log0 (([] : (List Bool)), (x_clauses0.map fun x7 => x7))).bind fun st1 =>
  some st1.1

def m_Pusher_include_l1 : List Int → M_Pusher → Option M_Pusher
  | [], st1 => some st1
  | x62 :: t, st1 =>
    (grd (decide (st1.places.length < 16777216))).bind fun _ =>
    (grd (decide (((mget st1.places x62).getD []).length < 16777216))).bind fun _ =>
    m_Pusher_include_l1 t (M_Pusher.mk st1.clauses (mapp st1.places x62 (st1.clauses.length : Int)) st1.starts st1.empty)
def m_Pusher_include (x_self0 : M_Pusher) (x_clause0 : (Bool × List Int)) : Option M_Pusher :=
  (grd (decide (x_clause0.2.length < 64))).bind fun _ =>
  (m_Pusher_include_l1 (mset x_clause0.2) (M_Pusher.mk x_self0.clauses x_self0.places x_self0.starts x_self0.empty)).bind fun st1 =>
  (grd (decide (st1.clauses.length < 16777216))).bind fun _ =>
  if (!(!(mset x_clause0.2).isEmpty)) = true then
    (some (M_Pusher.mk (st1.clauses ++ [(mset x_clause0.2)]) st1.places st1.starts true))
  else
    (if (decide (((mset x_clause0.2).length : Int) = (1 : Int))) = true then
      ((atI (mset x_clause0.2) (0 : Int)).bind fun y110 =>
      (grd (decide (st1.starts.length < 16777216))).bind fun _ =>
      some (M_Pusher.mk (st1.clauses ++ [(mset x_clause0.2)]) st1.places (st1.starts ++ [y110]) st1.empty))
    else
      (some (M_Pusher.mk (st1.clauses ++ [(mset x_clause0.2)]) st1.places st1.starts st1.empty)))

def m_Pusher_init_l1 : List (Bool × List Int) → M_Pusher → Option M_Pusher
  | [], st1 => some st1
  | x76 :: t, st1 =>
    (m_Pusher_include (M_Pusher.mk st1.clauses st1.places st1.starts st1.empty) x76).bind fun y85 =>
    m_Pusher_init_l1 t (M_Pusher.mk y85.clauses y85.places y85.starts y85.empty)
def m_Pusher_init (x_clauses0 : (List (Bool × List Int))) : Option M_Pusher :=
  (m_Pusher_init_l1 x_clauses0 (M_Pusher.mk ([] : (List (List Int))) ([] : (List (Int × (List Int)))) ([] : (List Int)) false)).bind fun st1 =>
  some (M_Pusher.mk st1.clauses st1.places st1.starts st1.empty)

def m_Pusher_push_l1 (x_self0 : M_Pusher) (x_literal0 : Int) (x_known0 : (List (Int × Bool))) : List Int → ((List Int) × (List (Int × Int))) → Option ((List Int) × (List (Int × Int)))
  | [], st1 => some st1
  | x60 :: t, st1 =>
    (atI x_self0.clauses x60).bind fun y66 =>
    (grd (decide (st1.2.length < 16777216))).bind fun _ =>
    (mget (mput st1.2 x60 (((mget st1.2 x60).getD (y66.length : Int)) - (1 : Int))) x60).bind fun y78 =>
    if (decide (y78 = (1 : Int))) = true then
      ((atI x_self0.clauses x60).bind fun y84 =>
      (grd (decide (y84.length < 16777216))).bind fun _ =>
      (grd (decide (st1.1.length + ((y84.filter fun x97 => (!(mget (mput x_known0 x_literal0 true) (-x97)).isSome)).map fun x97 => x97).length ≤ 16777216))).bind fun _ =>
      m_Pusher_push_l1 x_self0 x_literal0 x_known0 t ((st1.1 ++ ((y84.filter fun x97 => (!(mget (mput x_known0 x_literal0 true) (-x97)).isSome)).map fun x97 => x97)), (mput st1.2 x60 (((mget st1.2 x60).getD (y66.length : Int)) - (1 : Int)))))
    else
      (m_Pusher_push_l1 x_self0 x_literal0 x_known0 t (st1.1, (mput st1.2 x60 (((mget st1.2 x60).getD (y66.length : Int)) - (1 : Int)))))
def m_Pusher_push (x_self0 : M_Pusher) (x_literal0 : Int) (x_known0 : (List (Int × Bool))) (x_open_counts0 : (List (Int × Int))) : Option ((List Int) × (List (Int × Bool)) × (List (Int × Int))) :=
  (grd (decide (x_known0.length < 16777216))).bind fun _ =>
  (m_Pusher_push_l1 x_self0 x_literal0 x_known0 ((mget x_self0.places (-x_literal0)).getD []) (([] : (List Int)), x_open_counts0)).bind fun st1 =>
  some (st1.1, (mput x_known0 x_literal0 true), st1.2)

def m_Pusher_forced_l1 (x_self0 : M_Pusher) : Nat → ((List Int) × (List (Int × Int)) × (List (Int × Bool))) → Option (Flw ((List Int) × (List (Int × Int)) × (List (Int × Bool))) (Option (List Int)))
  | 0, _ => none
  | t + 1, st1 =>
    if (!st1.1.isEmpty) = true then
      ((st1.1.getLast?).bind fun y44 =>
      if (mget st1.2.2 (-y44)).isSome = true then
        (some (.ret none))
      else
        (if (!(mget st1.2.2 y44).isSome) = true then
          ((m_Pusher_push x_self0 y44 st1.2.2 st1.2.1).bind fun y57 =>
          (grd (decide (st1.1.dropLast.length + y57.1.length ≤ 16777216))).bind fun _ =>
          m_Pusher_forced_l1 x_self0 t ((st1.1.dropLast ++ y57.1), y57.2.2, y57.2.1))
        else
          (m_Pusher_forced_l1 x_self0 t (st1.1.dropLast, st1.2.1, st1.2.2))))
    else
      some (.done (st1.1, st1.2.1, st1.2.2))
def m_Pusher_forced (x_self0 : M_Pusher) (x_literals0 : (List Int)) : Option (Option (List Int)) :=
  if x_self0.empty = true then
    (some none)
  else
    ((grd (decide (x_self0.starts.length + x_literals0.length ≤ 16777216))).bind fun _ =>
    (m_Pusher_forced_l1 x_self0 fuel ((x_self0.starts ++ x_literals0), ([] : (List (Int × Int))), ([] : (List (Int × Bool))))).bind fun y27 =>
    match y27 with
    | .ret r => some r
    | .done st1 =>
    some (some (sortI (st1.2.2.map fun (q : Int × Bool) => q.1))))

def m_checked_lines_l1 : List (Bool × List Int) → M_Pusher → Option (List Bool)
  | [], st1 => some []
  | x78 :: t, st1 =>
    (grd (decide (x78.2.length < 16777216))).bind fun _ =>
    (m_Pusher_forced (M_Pusher.mk st1.clauses st1.places st1.starts st1.empty) (x78.2.map fun x92 => (-x92))).bind fun y113 =>
    ((m_Pusher_include (M_Pusher.mk st1.clauses st1.places st1.starts st1.empty) x78).bind fun y130 =>
      m_checked_lines_l1 t (M_Pusher.mk y130.clauses y130.places y130.starts y130.empty)).bind fun ys =>
    some ((y113).isNone :: ys)
def m_checked_lines (x_clauses0 : (List (Bool × List Int))) (x_log0 : (List (Bool × List Int))) : Option (List Bool) :=
  (m_Pusher_init x_clauses0).bind fun y11 =>
  m_checked_lines_l1 x_log0 (M_Pusher.mk y11.clauses y11.places y11.starts y11.empty)

def m_law_same (x_actual0 : Bool) (x_due0 : Bool) : Bool :=
  (decide (x_actual0 = x_due0))

def m_law_same_v2_l1 (x_actual0 : (List Bool)) (x_due0 : (List Bool)) : List Int → Unit → Option (Flw Unit Bool)
  | [], st1 => some (.done st1)
  | x38 :: t, st1 =>
    (atI x_actual0 x38).bind fun y40 =>
    (atI x_due0 x38).bind fun y45 =>
    if (!(m_law_same y40 y45)) = true then
      (some (.ret false))
    else
      (m_law_same_v2_l1 x_actual0 x_due0 t ())
def m_law_same_v2 (x_actual0 : (List Bool)) (x_due0 : (List Bool)) : Option Bool :=
  if ((!decide (true = true)) || (!decide (false = false))) = true then
    (some false)
  else
    (if (!decide ((x_actual0.length : Int) = (x_due0.length : Int))) = true then
      (some false)
    else
      ((grd (rngOk (x_due0.length : Int))).bind fun _ =>
      (m_law_same_v2_l1 x_actual0 x_due0 (pyRange 0 (x_due0.length : Int).toNat) ()).bind fun y18 =>
      match y18 with
      | .ret r => some r
      | .done st1 =>
      some true))

def m_first_bad_l1 : List (Int × Bool) → Unit → Option (Flw Unit (Option Int))
  | [], st1 => some (.done st1)
  | x28 :: t, st1 =>
    if (!x28.2) = true then
      (some (.ret (some x28.1)))
    else
      (m_first_bad_l1 t ())
def m_first_bad (x_clauses0 : (List (Bool × List Int))) (x_log0 : (List (Bool × List Int))) : Option (Option Int) :=
  (m_checked_lines x_clauses0 x_log0).bind fun y3 =>
  (m_first_bad_l1 ((pyRange 0 y3.length).zip y3) ()).bind fun y5 =>
  match y5 with
  | .ret r => some r
  | .done st1 =>
  some none

def m_law_same_v1 (x_actual0 : (Option Int)) (x_due0 : (Option Int)) : Option Bool :=
  optE (x_due0) (some ((x_actual0).isNone)) (fun z5 =>
    (if (decide (((x_actual0).isSome) = true)) = true then (if (decide (false = false)) = true then ((x_actual0).bind fun z15 =>
      some (decide (z15 = z5))) else (some false)) else (some false)).bind fun b11 =>
    some b11)

def m_refutes (x_clauses0 : (List (Bool × List Int))) (x_log0 : (List (Bool × List Int))) : Option Bool :=
  (if (!(!x_log0.isEmpty)) = true then (some true) else ((atI x_log0 (-(1 : Int))).bind fun y6 =>
    some (decide ((y6.2.length : Int) > (0 : Int))))).bind fun b3 =>
  if b3 = true then
    (some false)
  else
    ((m_first_bad x_clauses0 x_log0).bind fun y16 =>
    some ((y16).isNone))

def m_law_asked_l1 (x_log0 : (List (List Int))) : List Bool → (List Bool) → Option (Flw (List Bool) Bool)
  | [], st1 => some (.done st1)
  | x75 :: t, st1 =>
    (grd (decide (st1.length < 16777216))).bind fun _ =>
    if (decide (((st1 ++ [x75]).length : Int) > (x_log0.length : Int))) = true then
      (some (.ret false))
    else
      (m_law_asked_l1 x_log0 t (st1 ++ [x75]))
def m_law_asked_l2 (y29 : (List Bool)) : List Int → (Option Int) → Option (Option Int)
  | [], st2 => some st2
  | x124 :: t, st2 =>
    (atI y29 x124).bind fun y126 =>
    if (!y126) = true then
      (m_law_asked_l2 y29 t (some x124))
    else
      (m_law_asked_l2 y29 t st2)
def m_law_asked (x_clauses0 : (List (List Int))) (x_log0 : (List (List Int))) : Option Bool :=
  (m_law_handed x_clauses0).bind fun y3 =>
  (m_law_handed x_log0).bind fun y16 =>
  (m_law_follows x_clauses0 x_log0).bind fun y29 =>
  (m_checked_lines y3 y16).bind fun y47 =>
  (m_law_asked_l1 x_log0 y47 ([] : (List Bool))).bind fun y49 =>
  match y49 with
  | .ret r => some r
  | .done st1 =>
  (grd (rng2Ok ((y29.length : Int) - (1 : Int)) (-(1 : Int)))).bind fun _ =>
  (m_law_asked_l2 y29 (pyRangeC ((y29.length : Int) - (1 : Int)) (-1) (((y29.length : Int) - (1 : Int)) - (-(1 : Int))).toNat) none).bind fun st2 =>
  ((m_law_same_v2 st1 y29).bind fun y139 =>
    if (!y139) = true then (some true) else ((m_first_bad y3 y16).bind fun y142 =>
    (m_law_same_v1 y142 st2).bind fun y151 =>
    some (!y151))).bind fun b134 =>
  if b134 = true then
    (some false)
  else
    ((if (!decide (x_log0 = ([] : (List (List Int))))) = true then (if (st2).isNone = true then ((atI x_log0 ((x_log0.length : Int) - (1 : Int))).bind fun y170 =>
      some (decide (y170 = ([] : (List Int))))) else (some false)) else (some false)).bind fun b159 =>
    (m_refutes y3 y16).bind fun y190 =>
    if (!(m_law_same y190 b159)) = true then
      (some false)
    else
      (((m_law_handed x_clauses0).bind fun y204 =>
        if (decide (y3 = y204)) = true then ((m_law_handed x_log0).bind fun y216 =>
        some (decide (y16 = y216))) else (some false)).bind fun b199 =>
      some b199))

def m_law_literal (x_script0 : (List Int)) (x_source0 : (List Int)) (x_letters0 : (List Int)) : Option (Int × (List Int)) :=
  (m_law_take x_script0 x_source0 (x_letters0.length : Int)).bind fun y3 =>
  (atI x_letters0 y3.1).bind fun y12 =>
  (m_law_take x_script0 y3.2 (2 : Int)).bind fun y19 =>
  if (decide (y19.1 = (1 : Int))) = true then
    (some (((0 : Int) - y12), y19.2))
  else
    (some (y12, y19.2))

def m_law_line_l1 (x_script0 : (List Int)) (x_letters0 : (List Int)) : List Int → ((List Int) × (List Int)) → Option ((List Int) × (List Int))
  | [], st1 => some st1
  | x60 :: t, st1 =>
    (m_law_literal x_script0 st1.1 x_letters0).bind fun y62 =>
    (grd (decide (st1.2.length < 16777216))).bind fun _ =>
    m_law_line_l1 x_script0 x_letters0 t (y62.2, (st1.2 ++ [y62.1]))
def m_law_line (x_script0 : (List Int)) (x_source0 : (List Int)) (x_letters0 : (List Int)) : Option ((List Int) × (List Int)) :=
  (m_law_take x_script0 x_source0 (8 : Int)).bind fun y17 =>
  (atI ([(1 : Int), (2 : Int), (0 : Int), (2 : Int), (3 : Int), (1 : Int), (2 : Int), (1 : Int)] : (List Int)) y17.1).bind fun y26 =>
  (grd (rngOk y26)).bind fun _ =>
  (m_law_line_l1 x_script0 x_letters0 (pyRange 0 y26.toNat) (y17.2, ([] : (List Int)))).bind fun st1 =>
  some (st1.2, st1.1)

def m_law_more_l1 (x_script0 : (List Int)) (x_letters0 : (List Int)) (x_clauses0 : (List (List Int))) : List Int → ((List Int) × (List (List Int))) → Option ((List Int) × (List (List Int)))
  | [], st1 => some st1
  | x84 :: t, st1 =>
    (m_law_take x_script0 st1.1 (x_clauses0.length : Int)).bind fun y88 =>
    (atI x_clauses0 y88.1).bind fun y97 =>
    (m_law_take x_script0 y88.2 (4 : Int)).bind fun y108 =>
    (if (decide (y108.1 = (1 : Int))) = true then
        ((m_law_literal x_script0 y108.2 x_letters0).bind fun y129 =>
        (grd (decide (y97.length + ([y129.1] : (List Int)).length ≤ 16777216))).bind fun _ =>
        some ((y97 ++ ([y129.1] : (List Int))), y129.2))
      else
        (some (y97, y108.2))).bind fun y126 =>
    (if (decide (y108.1 > (1 : Int))) = true then
        ((m_law_line x_script0 y126.2 x_letters0).bind fun y164 =>
        (m_law_literal x_script0 y164.2 x_letters0).bind fun y177 =>
        (grd (decide (y164.1.length + ([y177.1] : (List Int)).length ≤ 16777216))).bind fun _ =>
        some ((y164.1 ++ ([y177.1] : (List Int))), y177.2))
      else
        (some (y126.1, y126.2))).bind fun y161 =>
    (m_law_take x_script0 y161.2 ((st1.2.length : Int) + (1 : Int))).bind fun y200 =>
    (grd (decide (st1.2.length < 16777216))).bind fun _ =>
    (grd (decide (0 ≤ y200.1 ∧ y200.1 < 2 ^ 62))).bind fun _ =>
    m_law_more_l1 x_script0 x_letters0 x_clauses0 t (y200.2, (st1.2.take y200.1.toNat ++ [y161.1] ++ st1.2.drop y200.1.toNat))
def m_law_more (x_script0 : (List Int)) (x_source0 : (List Int)) (x_letters0 : (List Int)) (x_clauses0 : (List (List Int))) : Option ((List (List Int)) × (List Int)) :=
  (grd (decide (x_clauses0.length < 16777216))).bind fun _ =>
  (m_law_take x_script0 x_source0 (4 : Int)).bind fun y38 =>
  (grd (rngOk y38.1)).bind fun _ =>
  (m_law_more_l1 x_script0 x_letters0 x_clauses0 (pyRange 0 y38.1.toNat) (y38.2, (x_clauses0.map fun x7 => x7))).bind fun st1 =>
  some (st1.2, st1.1)

def m_law_bent (x_script0 : (List Int)) (x_source0 : (List Int)) (x_letters0 : (List Int)) (x_line0 : (List Int)) : Option ((List Int) × (List Int)) :=
  (m_law_take x_script0 x_source0 (4 : Int)).bind fun y3 =>
  (m_law_literal x_script0 y3.2 x_letters0).bind fun y14 =>
  (if (decide (x_line0 = ([] : (List Int)))) = true then (some true) else (some (decide (y3.1 = (0 : Int))))).bind fun b25 =>
  if b25 = true then
    ((grd (decide (x_line0.length + ([y14.1] : (List Int)).length ≤ 16777216))).bind fun _ =>
    some ((x_line0 ++ ([y14.1] : (List Int))), y14.2))
  else
    ((m_law_take x_script0 y14.2 (x_line0.length : Int)).bind fun y56 =>
    if (decide (y3.1 = (1 : Int))) = true then
      ((grd (decide ((cutL x_line0 none (some y56.1)).length + (cutL x_line0 (some (y56.1 + (1 : Int))) none).length ≤ 16777216))).bind fun _ =>
      some (((cutL x_line0 none (some y56.1)) ++ (cutL x_line0 (some (y56.1 + (1 : Int))) none)), y56.2))
    else
      (if (decide (y3.1 = (2 : Int))) = true then
        ((atI x_line0 y56.1).bind fun y93 =>
        (grd (decide ((cutL x_line0 none (some y56.1)).length + ([((0 : Int) - y93)] : (List Int)).length ≤ 16777216))).bind fun _ =>
        (grd (decide (((cutL x_line0 none (some y56.1)) ++ ([((0 : Int) - y93)] : (List Int))).length + (cutL x_line0 (some (y56.1 + (1 : Int))) none).length ≤ 16777216))).bind fun _ =>
        some ((((cutL x_line0 none (some y56.1)) ++ ([((0 : Int) - y93)] : (List Int))) ++ (cutL x_line0 (some (y56.1 + (1 : Int))) none)), y56.2))
      else
        ((atI x_line0 y56.1).bind fun y121 =>
        (grd (decide (x_line0.length + ([y121] : (List Int)).length ≤ 16777216))).bind fun _ =>
        some ((x_line0 ++ ([y121] : (List Int))), y56.2))))

def m_law_logs_l1 (x_script0 : (List Int)) (x_letters0 : (List Int)) (x_log0 : (List (List Int))) : List Int → ((List (List (List Int))) × (List Int)) → Option ((List (List (List Int))) × (List Int))
  | [], st1 => some st1
  | x176 :: t, st1 =>
    (m_law_take x_script0 st1.2 (x_log0.length : Int)).bind fun y181 =>
    (atI x_log0 y181.1).bind fun y194 =>
    (m_law_bent x_script0 y181.2 x_letters0 y194).bind fun y204 =>
    (grd (decide ((cutL x_log0 none (some y181.1)).length + ([y204.1] : (List (List Int))).length ≤ 16777216))).bind fun _ =>
    (grd (decide (((cutL x_log0 none (some y181.1)) ++ ([y204.1] : (List (List Int)))).length + (cutL x_log0 (some (y181.1 + (1 : Int))) none).length ≤ 16777216))).bind fun _ =>
    (grd (decide (st1.1.length < 16777216))).bind fun _ =>
    m_law_logs_l1 x_script0 x_letters0 x_log0 t ((st1.1 ++ [(((cutL x_log0 none (some y181.1)) ++ ([y204.1] : (List (List Int)))) ++ (cutL x_log0 (some (y181.1 + (1 : Int))) none))]), y204.2)
def m_law_logs (x_script0 : (List Int)) (x_source0 : (List Int)) (x_letters0 : (List Int)) (x_log0 : (List (List Int))) : Option ((List (List (List Int))) × (List Int)) :=
  (m_law_line x_script0 x_source0 x_letters0).bind fun y5 =>
  (m_law_line x_script0 y5.2 x_letters0).bind fun y20 =>
  (grd (decide (x_log0.length + ([y5.1] : (List (List Int))).length ≤ 16777216))).bind fun _ =>
  (m_law_logs_l1 x_script0 x_letters0 x_log0 (pyRange 0 (2 : Int).toNat) (([x_log0, (cutL x_log0 none (some ((x_log0.length : Int) - (1 : Int)))), (x_log0 ++ ([y5.1] : (List (List Int)))), ([y5.1, y5.1, y20.1, y5.1, ([] : (List Int))] : (List (List Int))), ([([] : (List Int)), y20.1, y5.1, ([] : (List Int))] : (List (List Int))), ([([] : (List Int))] : (List (List Int))), ([] : (List (List Int))), ([y5.1, y20.1] : (List (List Int)))] : (List (List (List Int)))), y20.2)).bind fun st1 =>
  (m_law_take x_script0 st1.2 (x_log0.length : Int)).bind fun y246 =>
  (grd (decide ((cutL x_log0 none (some y246.1)).length + (cutL x_log0 (some (y246.1 + (1 : Int))) none).length ≤ 16777216))).bind fun _ =>
  (m_law_take x_script0 y246.2 ((((cutL x_log0 none (some y246.1)) ++ (cutL x_log0 (some (y246.1 + (1 : Int))) none)).length : Int) + (1 : Int))).bind fun y273 =>
  (grd (decide (st1.1.length < 16777216))).bind fun _ =>
  (atI x_log0 y246.1).bind fun y298 =>
  (grd (decide ((cutL ((cutL x_log0 none (some y246.1)) ++ (cutL x_log0 (some (y246.1 + (1 : Int))) none)) none (some y273.1)).length + ([y298] : (List (List Int))).length ≤ 16777216))).bind fun _ =>
  (grd (decide (((cutL ((cutL x_log0 none (some y246.1)) ++ (cutL x_log0 (some (y246.1 + (1 : Int))) none)) none (some y273.1)) ++ ([y298] : (List (List Int)))).length + (cutL ((cutL x_log0 none (some y246.1)) ++ (cutL x_log0 (some (y246.1 + (1 : Int))) none)) (some y273.1) none).length ≤ 16777216))).bind fun _ =>
  (grd (decide ((st1.1 ++ [((cutL x_log0 none (some y246.1)) ++ (cutL x_log0 (some (y246.1 + (1 : Int))) none))]).length < 16777216))).bind fun _ =>
  (atI x_log0 y246.1).bind fun y338 =>
  (grd (decide ((cutL x_log0 none (some y246.1)).length + ([y338] : (List (List Int))).length ≤ 16777216))).bind fun _ =>
  (grd (decide (((cutL x_log0 none (some y246.1)) ++ ([y338] : (List (List Int)))).length + (cutL x_log0 (some y246.1) none).length ≤ 16777216))).bind fun _ =>
  (grd (decide (((st1.1 ++ [((cutL x_log0 none (some y246.1)) ++ (cutL x_log0 (some (y246.1 + (1 : Int))) none))]) ++ [(((cutL ((cutL x_log0 none (some y246.1)) ++ (cutL x_log0 (some (y246.1 + (1 : Int))) none)) none (some y273.1)) ++ ([y298] : (List (List Int)))) ++ (cutL ((cutL x_log0 none (some y246.1)) ++ (cutL x_log0 (some (y246.1 + (1 : Int))) none)) (some y273.1) none))]).length < 16777216))).bind fun _ =>
  (m_law_take x_script0 y273.2 ((x_log0.length : Int) + (1 : Int))).bind fun y375 =>
  (grd (decide ((cutL x_log0 none (some y375.1)).length + ([([] : (List Int))] : (List (List Int))).length ≤ 16777216))).bind fun _ =>
  (grd (decide (((cutL x_log0 none (some y375.1)) ++ ([([] : (List Int))] : (List (List Int)))).length + (cutL x_log0 (some y375.1) none).length ≤ 16777216))).bind fun _ =>
  (grd (decide ((((st1.1 ++ [((cutL x_log0 none (some y246.1)) ++ (cutL x_log0 (some (y246.1 + (1 : Int))) none))]) ++ [(((cutL ((cutL x_log0 none (some y246.1)) ++ (cutL x_log0 (some (y246.1 + (1 : Int))) none)) none (some y273.1)) ++ ([y298] : (List (List Int)))) ++ (cutL ((cutL x_log0 none (some y246.1)) ++ (cutL x_log0 (some (y246.1 + (1 : Int))) none)) (some y273.1) none))]) ++ [(((cutL x_log0 none (some y246.1)) ++ ([y338] : (List (List Int)))) ++ (cutL x_log0 (some y246.1) none))]).length < 16777216))).bind fun _ =>
  some (((((st1.1 ++ [((cutL x_log0 none (some y246.1)) ++ (cutL x_log0 (some (y246.1 + (1 : Int))) none))]) ++ [(((cutL ((cutL x_log0 none (some y246.1)) ++ (cutL x_log0 (some (y246.1 + (1 : Int))) none)) none (some y273.1)) ++ ([y298] : (List (List Int)))) ++ (cutL ((cutL x_log0 none (some y246.1)) ++ (cutL x_log0 (some (y246.1 + (1 : Int))) none)) (some y273.1) none))]) ++ [(((cutL x_log0 none (some y246.1)) ++ ([y338] : (List (List Int)))) ++ (cutL x_log0 (some y246.1) none))]) ++ [(((cutL x_log0 none (some y375.1)) ++ ([([] : (List Int))] : (List (List Int)))) ++ (cutL x_log0 (some y375.1) none))]), y375.2)

def m_law_l1 (y85 : (((List (List Int)) × (List (List Int))) × (List Int))) (y159 : (Int × (List Int))) (y170 : ((List (List Int)) × (List Int))) : List (List (List Int)) → Unit → Option (Flw Unit Bool)
  | [], st1 => some (.done st1)
  | x239 :: t, st1 =>
    ((m_law_asked y170.1 x239).bind fun y252 =>
      if (!y252) = true then (some true) else ((m_law_asked ((cutL y85.1.1 none (some y159.1)) ++ (cutL y85.1.1 (some (y159.1 + (1 : Int))) none)) x239).bind fun y260 =>
      some (!y260))).bind fun b247 =>
    if b247 = true then
      (none)
    else
      (m_law_l1 y85 y159 y170 t ())
def m_law (x_script0 : (List Int)) : Option Bool :=
  (m_law_seed x_script0).bind fun y3 =>
  (m_law_take x_script0 ([(0 : Int), (0 : Int), y3, (0 : Int)] : (List Int)) (8 : Int)).bind fun y16 =>
  (atI ([(4 : Int), (3 : Int), (5 : Int), (2 : Int), (4 : Int), (6 : Int), (3 : Int), (1 : Int)] : (List Int)) y16.1).bind fun y25 =>
  (m_law_take x_script0 y16.2 (8 : Int)).bind fun y37 =>
  (atI ([(4 : Int), (3 : Int), (5 : Int), (2 : Int), (6 : Int), (7 : Int), (1 : Int), (0 : Int)] : (List Int)) y37.1).bind fun y46 =>
  ((m_law_take x_script0 y37.2 (8 : Int)).bind fun y58 =>
    if (decide (y58.1 = (5 : Int))) = true then
      (some ((y46 + (8 : Int)), y58.2))
    else
      (some (y46, y58.2))).bind fun y56 =>
  (m_law_letters x_script0 y56.2 y25).bind fun y70 =>
  (m_law_split x_script0 y70.2 y70.1 y56.1).bind fun y85 =>
  ((m_law_asked y85.1.1 y85.1.2).bind fun y117 =>
    if (!y117) = true then (some true) else ((m_law_handed y85.1.1).bind fun y125 =>
    (m_law_handed y85.1.2).bind fun y136 =>
    (m_refutes y125 y136).bind fun y147 =>
    some (!(m_law_same y147 true)))).bind fun b112 =>
  if b112 = true then
    (none)
  else
    ((m_law_take x_script0 y85.2 (y85.1.1.length : Int)).bind fun y159 =>
    (m_law_more x_script0 y159.2 y70.1 y85.1.1).bind fun y170 =>
    (grd (decide ((cutL y85.1.1 none (some y159.1)).length + (cutL y85.1.1 (some (y159.1 + (1 : Int))) none).length ≤ 16777216))).bind fun _ =>
    (m_law_logs x_script0 y170.2 y70.1 y85.1.2).bind fun y211 =>
    (m_law_l1 y85 y159 y170 y211.1 ()).bind fun y207 =>
    match y207 with
    | .ret r => some r
    | .done st1 =>
    some true)
end G

namespace G
open PySem PySem.Spec PyProof.Rows L2

theorem atI_lt {α : Type} {xs : List α} {i : Int} (h0 : 0 ≤ i) (h1 : i < xs.length) : ∃ x, atI xs i = some x ∧ x ∈ xs ∧ xs[i.toNat]? = some x := by
  have hl : i.toNat < xs.length := by omega
  refine ⟨xs[i.toNat], ?_, List.getElem_mem hl, by simp [hl]⟩
  have e := atI_nat (xs := xs) (j := i.toNat) (v := xs[i.toNat]) (by simp [hl])
  have e2 : ((i.toNat : Nat) : Int) = i := by omega
  rw [e2] at e
  exact e

theorem grd_t {b : Bool} {β : Type} {f : Unit → Option β} (h : b = true) : (grd b).bind f = f () := by subst h; rfl

theorem bs {α β : Type} {m : Option α} {x : α} {f : α → Option β} (h : m = some x) : m.bind f = f x := by rw [h, Option.bind_some]

theorem divOk_t {j : Int} (h : 0 < j) (h2 : j < 1073741824) : divOk j = true := decide_eq_true ⟨h, h2⟩

theorem rngOk_t {j : Int} (h0 : 0 ≤ j) (h1 : j < 16777216) : rngOk j = true := decide_eq_true ⟨by omega, by omega⟩

theorem rngOk_len {n : Nat} (h : n < 16777216) : rngOk (n : Int) = true := decide_eq_true ⟨by omega, by omega⟩

theorem mget_put_new {κ α : Type} [DecidableEq κ] {xs : List (κ × α)} {k : κ} {x : α} (h : mget xs k = none) : mput xs k x = xs ++ [(k, x)] := by
  unfold mput
  rw [if_neg]
  intro c
  obtain ⟨p, hp, e⟩ := List.any_eq_true.mp c
  unfold mget at h
  rw [Option.map_eq_none_iff, List.find?_eq_none] at h
  exact h p hp e

theorem mget_snoc {κ α : Type} [DecidableEq κ] {xs : List (κ × α)} {k j : κ} {x : α} : mget (xs ++ [(k, x)]) j = match mget xs j with
    | some y => some y
    | none => if k = j then some x else none := by
  unfold mget
  rw [List.find?_append]
  cases xs.find? fun p => decide (p.1 = j) with
  | some p => simp
  | none =>
    by_cases c : k = j
    · simp [List.find?_cons, c]
    · simp [List.find?_cons, c]

/-! ## lists, dicts: plain facts -/
theorem nodup_sub : ∀ {l r : List Int}, l.Nodup → (∀ x ∈ l, x ∈ r) → l.length ≤ r.length
  | [], r, _, _ => Nat.zero_le _
  | x :: l, r, h, s => by
    have hx := s x (.head _)
    have h2 := nodup_sub (l := l) (r := r.erase x) (List.nodup_cons.mp h).2 fun y hy =>
      (List.mem_erase_of_ne (by rintro rfl; exact (List.nodup_cons.mp h).1 hy)).mpr (s y (.tail _ hy))
    rw [List.length_erase_of_mem hx] at h2
    have := List.length_pos_of_mem hx
    simp; omega
theorem strict_nodup {xs : List Int} (h : xs.Pairwise (· < ·)) : xs.Nodup := h.imp fun {a b} h => by omega
theorem strict_uniq {xs ys : List Int} (h1 : xs.Pairwise (· < ·)) (h2 : ys.Pairwise (· < ·)) (h : ∀ x, x ∈ xs ↔ x ∈ ys) : xs = ys :=
  sorted_uniq ((List.perm_ext_iff_of_nodup (strict_nodup h1) (strict_nodup h2)).mpr h) (h1.imp fun {a b} h => by omega) (h2.imp fun {a b} h => by omega)
theorem sortI_strict {xs : List Int} (h : xs.Nodup) : (sortI xs).Pairwise (· < ·) := by
  have h1 := sortI_sorted xs
  have h2 : (sortI xs).Nodup := (sortI_perm xs).nodup_iff.mpr h
  exact (List.Pairwise.and h1 h2).imp fun {a b} h => by have := h.1; have := h.2; omega
theorem mem_sortI {xs : List Int} {x : Int} : x ∈ sortI xs ↔ x ∈ xs := (sortI_perm xs).mem_iff
theorem atI_mem {α : Type} {xs : List α} {i : Int} {x : α} (h : atI xs i = some x) : x ∈ xs := by
  unfold atI at h
  cases e : ixN xs.length i with
  | none => rw [e] at h; cases h
  | some j =>
    rw [e] at h
    exact List.mem_of_getElem? h
theorem atI_of {α : Type} {xs : List α} {i : Int} (h0 : 0 ≤ i) : atI xs i = xs[i.toNat]? := by
  unfold atI ixN
  rw [if_pos h0]
  by_cases c : i < xs.length
  · rw [if_pos c]; rfl
  · rw [if_neg c, List.getElem?_eq_none (by omega)]; rfl
theorem atI_app {α : Type} {xs ys : List α} {i : Int} (h0 : 0 ≤ i) (h1 : i < xs.length) : atI (xs ++ ys) i = atI xs i := by
  rw [atI_of h0, atI_of h0, List.getElem?_append_left (by omega)]
theorem atI_last {α : Type} {xs : List α} {x : α} : atI (xs ++ [x]) (xs.length : Int) = some x := by
  rw [atI_of (by omega)]
  simp
theorem atI_bound {α : Type} {xs : List α} {i : Int} {x : α} (h0 : 0 ≤ i) (h : atI xs i = some x) : i < xs.length := by
  rw [atI_of h0] at h
  have := (List.getElem?_eq_some_iff.mp h).1
  omega
theorem ixN_of {n : Nat} {i : Int} (h0 : 0 ≤ i) (h1 : i < n) : ixN n i = some i.toNat := by unfold ixN; rw [if_pos h0, if_pos h1]
theorem atI_set {α : Type} {xs : List α} {i j : Int} {x : α} (h0 : 0 ≤ i) (h1 : i < xs.length) (hj : 0 ≤ j) : atI (xs.set i.toNat x) j = if i = j then some x else atI xs j := by
  rw [atI_of hj, atI_of hj, List.getElem?_set]
  by_cases c : i = j
  · subst c; rw [if_pos rfl, if_pos rfl, if_pos (by omega)]
  · rw [if_neg (by omega), if_neg c]
theorem mem_pyRange {lo : Int} {n : Nat} {x : Int} : x ∈ pyRange lo n ↔ lo ≤ x ∧ x < lo + n := by
  unfold pyRange
  rw [List.mem_map]
  constructor
  · rintro ⟨i, hi, rfl⟩
    have := List.mem_range.mp hi
    omega
  · rintro ⟨h1, h2⟩
    exact ⟨(x - lo).toNat, List.mem_range.mpr (by omega), by omega⟩
theorem pyRange_strict {lo : Int} {n : Nat} : (pyRange lo n).Pairwise (· < ·) := by
  unfold pyRange
  rw [List.pairwise_map]
  exact List.pairwise_lt_range.imp fun {a b} h => by omega
/-! dicts -/
section
variable {κ α : Type} [DecidableEq κ]
theorem mget_cons (p : κ × α) (xs : List (κ × α)) (k : κ) : mget (p :: xs) k = if p.1 = k then some p.2 else mget xs k := by
  unfold mget
  by_cases c : p.1 = k
  · rw [List.find?_cons_of_pos (by simpa using c), if_pos c]; rfl
  · rw [List.find?_cons_of_neg (by simpa using c), if_neg c]
theorem mget_map {xs : List (κ × α)} {k j : κ} {x : α} : mget (xs.map fun p => if p.1 = k then (p.1, x) else p) j = if k = j then (mget xs j).map (fun _ => x) else mget xs j := by
  induction xs with
  | nil => by_cases c : k = j <;> simp [c, mget]
  | cons p xs ih =>
    rw [List.map_cons, mget_cons, mget_cons, ih]
    by_cases c1 : p.1 = k
    · by_cases c : k = j
      · subst c; simp [c1]
      · have : ¬ p.1 = j := fun h => c (c1.symm.trans h)
        simp [c1, c]
    · by_cases c : k = j
      · subst c; simp [c1]
      · simp [c1, c]
theorem mget_none {xs : List (κ × α)} {k : κ} : mget xs k = none ↔ k ∉ xs.map (·.1) := by
  induction xs with
  | nil => simp [mget]
  | cons p xs ih =>
    rw [mget_cons]
    by_cases c : p.1 = k
    · simp [c]
    · rw [if_neg c, ih]
      simp only [List.map_cons, List.mem_cons, not_or]
      exact ⟨fun h => ⟨fun e => c e.symm, h⟩, fun h => h.2⟩
theorem mget_put {xs : List (κ × α)} {k j : κ} {x : α} : mget (mput xs k x) j = if k = j then some x else mget xs j := by
  cases e : mget xs k with
  | none =>
    rw [mget_put_new e, mget_snoc]
    by_cases c : k = j
    · subst c; simp [e]
    · rw [if_neg c, if_neg c]
      cases mget xs j <;> rfl
  | some y =>
    have hm : k ∈ xs.map (·.1) := Classical.byContradiction fun h => by rw [mget_none.mpr h] at e; cases e
    obtain ⟨p, hp, e2⟩ := List.mem_map.mp hm
    unfold mput
    rw [if_pos (List.any_eq_true.mpr ⟨p, hp, decide_eq_true e2⟩), mget_map]
    by_cases c : k = j
    · subst c; rw [if_pos rfl, if_pos rfl, e]; rfl
    · rw [if_neg c, if_neg c]
theorem mput_len {xs : List (κ × α)} {k : κ} {x : α} : (mput xs k x).length ≤ xs.length + 1 := by
  unfold mput
  split <;> simp
theorem mput_len_ge {xs : List (κ × α)} {k : κ} {x : α} : xs.length ≤ (mput xs k x).length := by
  unfold mput
  split <;> simp
end
theorem lcO_congr {α β : Type} {f g : α → Option (Option β)} : ∀ {xs : List α}, (∀ x ∈ xs, f x = g x) → lcO f xs = lcO g xs
  | [], _ => rfl
  | x :: t, h => by
    show ((f x).bind fun y => (lcO f t).bind fun r => some (match y with | none => r | some b => b :: r)) = _
    rw [h x (.head _), lcO_congr fun y hy => h y (.tail _ hy)]
    rfl

theorem rng2Ok_t {i j : Int} (h1 : -16777216 < i) (h2 : i < 16777216) (h3 : -16777216 < j) (h4 : j < 16777216) : rng2Ok i j = true := by
  unfold rng2Ok
  simp
  omega

theorem pyRangeC_succ (lo c : Int) (n : Nat) : pyRangeC lo c (n + 1) = lo :: pyRangeC (lo + c) c n := by
  unfold pyRangeC
  rw [List.range_succ_eq_map, List.map_cons, List.map_map]
  congr 1
  · simp
  · apply List.map_congr_left
    intro i _
    simp only [Function.comp]
    rw [Nat.succ_eq_add_one, Int.natCast_add, Int.add_mul, Int.add_assoc, Int.add_comm ((i : Int) * c)]
    simp

theorem lcO_some {α β : Type} {f : α → Option (Option β)} : ∀ {xs : List α}, (∀ x ∈ xs, ∃ y, f x = some y) → ∃ r, lcO f xs = some r ∧ r.length ≤ xs.length
  | [], _ => ⟨[], rfl, Nat.le_refl _⟩
  | x :: t, h => by
    obtain ⟨y, hy⟩ := h x (.head _)
    obtain ⟨r, e, hl⟩ := lcO_some (f := f) fun z hz => h z (.tail _ hz)
    have e2 : lcO f (x :: t) = ((f x).bind fun y => (lcO f t).bind fun r => some (match y with | none => r | some b => b :: r)) := rfl
    rw [e2, bs hy, bs e]
    refine ⟨_, rfl, ?_⟩
    cases y with
    | none => simp; omega
    | some b => simp; exact hl

theorem sortI_len (xs : List Int) : (sortI xs).length = xs.length := (sortI_perm xs).length_eq
end G

namespace G
open PySem PySem.Spec PyProof.Rows L2

/-! ## the draws, with a count of the draws -/
theorem seed_l1 : ∀ (ns : List Int) (s : Int), 0 ≤ s → ∃ y, m_law_seed_l1 ns s = some y ∧ 0 ≤ y
  | [], s, h => ⟨s, rfl, h⟩
  | n :: ns, s, h => by
    rw [m_law_seed_l1]
    exact seed_l1 ns _ (by omega)
theorem seed_ok (ns : List Int) : ∃ y, m_law_seed ns = some y ∧ 0 ≤ y := by
  obtain ⟨y, h1, h2⟩ := seed_l1 ns 1 (by decide)
  exact ⟨y, by simp [m_law_seed, h1], h2⟩
/-- the drawing state -/
def Src (l : List Int) : Prop := ∃ p q s u : Int, l = [p, q, s, u] ∧ 0 ≤ p ∧ 0 ≤ q ∧ 0 ≤ s ∧ 0 ≤ u
theorem at0 (p q s u : Int) : atI [p, q, s, u] 0 = some p := rfl
theorem at1 (p q s u : Int) : atI [p, q, s, u] 1 = some q := rfl
theorem at2 (p q s u : Int) : atI [p, q, s, u] 2 = some s := rfl
theorem at3 (p q s u : Int) : atI [p, q, s, u] 3 = some u := rfl
theorem ix0 (p q s u : Int) : ixN [p, q, s, u].length 0 = some 0 := rfl
theorem ix1 (p q s u : Int) : ixN [p, q, s, u].length 1 = some 1 := rfl
theorem ix2 (p q s u : Int) : ixN [p, q, s, u].length 2 = some 2 := rfl
theorem ix3 (p q s u : Int) : ixN [p, q, s, u].length 3 = some 3 := rfl
theorem take_ok (ns src : List Int) (size : Int) (h : Src src) (h0 : 0 < size) (h1 : size < 1073741824) :
    ∃ d src', m_law_take ns src size = some (d, src') ∧ 0 ≤ d ∧ d < size ∧ Src src' := by
  obtain ⟨p, q, s, u, rfl, hp, hq, hs, hu⟩ := h
  have mid : ∀ p q : Int, 0 ≤ p → 0 ≤ q → ∃ d src', ((some [p, q, s, u] : Option (List Int)).bind fun y6 =>
      (atI y6 (0 : Int)).bind fun y49 =>
      if (decide (y49 > (0 : Int))) = true then
        ((atI y6 (0 : Int)).bind fun y57 => (grd (divOk size)).bind fun _ => (atI y6 (0 : Int)).bind fun y65 => (grd (divOk size)).bind fun _ => (ixN y6.length (0 : Int)).bind fun j71 =>
        some ((y57 % size), (y6.set j71 (y65 / size))))
      else
        ((atI y6 (3 : Int)).bind fun y77 => (ixN y6.length (3 : Int)).bind fun j82 => (atI (y6.set j82 (y77 + (1 : Int))) (2 : Int)).bind fun y88 => (atI (y6.set j82 (y77 + (1 : Int))) (3 : Int)).bind fun y93 =>
        (ixN (y6.set j82 (y77 + (1 : Int))).length (2 : Int)).bind fun j98 =>
        (atI ((y6.set j82 (y77 + (1 : Int))).set j98 ((((y88 * (48271 : Int)) + (y93 * (16807 : Int))) + (12345 : Int)) % (2147483647 : Int))) (2 : Int)).bind fun y102 =>
        (grd (divOk size)).bind fun _ =>
        some (((y102 / (1009 : Int)) % size), ((y6.set j82 (y77 + (1 : Int))).set j98 ((((y88 * (48271 : Int)) + (y93 * (16807 : Int))) + (12345 : Int)) % (2147483647 : Int)))))) = some (d, src') ∧ 0 ≤ d ∧ d < size ∧ Src src' := by
    intro p q hp hq
    rw [Option.bind_some, bs (at0 p q s u)]
    by_cases c : p > 0
    · rw [if_pos (decide_eq_true c), bs (at0 p q s u), grd_t (divOk_t h0 h1), bs (at0 p q s u), grd_t (divOk_t h0 h1), bs (ix0 p q s u)]
      exact ⟨_, _, rfl, Int.emod_nonneg _ (by omega), Int.emod_lt_of_pos _ h0, p / size, q, s, u, rfl, Int.ediv_nonneg hp (by omega), hq, hs, hu⟩
    · rw [if_neg (by simpa using c), bs (at3 p q s u), bs (ix3 p q s u)]
      have e : ([p, q, s, u] : List Int).set 3 (u + 1) = [p, q, s, u + 1] := rfl
      rw [e, bs (at2 p q s (u + 1)), bs (at3 p q s (u + 1)), bs (ix2 p q s (u + 1))]
      have e2 : ([p, q, s, u + 1] : List Int).set 2 ((s * 48271 + (u + 1) * 16807 + 12345) % 2147483647) = [p, q, (s * 48271 + (u + 1) * 16807 + 12345) % 2147483647, u + 1] := rfl
      rw [e2, bs (at2 p q _ (u + 1)), grd_t (divOk_t h0 h1)]
      exact ⟨_, _, rfl, Int.emod_nonneg _ (by omega), Int.emod_lt_of_pos _ h0, p, q, _, u + 1, rfl, hp, hq, Int.emod_nonneg _ (by decide), by omega⟩
  unfold m_law_take
  rw [at0, at1]
  simp only [Option.bind_some]
  by_cases c : p = 0 ∧ q < ns.length
  · obtain ⟨c1, c2⟩ := c
    rw [if_pos (decide_eq_true c1)]
    simp only [Option.bind_some]
    rw [if_pos (decide_eq_true c2)]
    obtain ⟨x, hx, _⟩ := atI_lt hq c2
    rw [hx, ix0]
    simp only [Option.bind_some]
    have e : ([p, q, s, u] : List Int).set 0 (if x < 0 then -x else x) = [if x < 0 then -x else x, q, s, u] := rfl
    rw [e, bs (at1 _ q s u), bs (ix1 _ q s u)]
    exact mid (if x < 0 then -x else x) (q + 1) (by split <;> omega) (by omega)
  · have e : (if (decide (p = (0 : Int))) = true then (some (decide (q < (ns.length : Int)))) else (some false)) = some false := by
      by_cases c1 : p = 0
      · rw [if_pos (decide_eq_true c1)]
        have : ¬ q < (ns.length : Int) := fun z => c ⟨c1, z⟩
        rw [decide_eq_false this]
      · rw [if_neg (by simpa using c1)]
    first
      | (rw [bs e, if_neg (by simp)]; exact mid p q hp hq)
      | (simp only [e, Option.bind_some]; rw [if_neg (by simp)]; exact mid p q hp hq)
end G

namespace G
open PySem PySem.Spec PyProof.Rows L2

/-! ## what clauses force -/
inductive Frc (cs : List (List Int)) (gs : List Int) : Int → Prop
  | giv {l : Int} : l ∈ gs → Frc cs gs l
  | stp {c : List Int} {l : Int} : c ∈ cs → l ∈ c → (∀ x ∈ c, x ≠ l → Frc cs gs (-x)) → Frc cs gs l
def Cnf (cs : List (List Int)) (gs : List Int) : Prop := (∃ c ∈ cs, ∀ x ∈ c, Frc cs gs (-x)) ∨ ∃ l, Frc cs gs l ∧ Frc cs gs (-l)
/-- the answer to what is forced -/
def Out (cs : List (List Int)) (gs : List Int) (r : Option (List Int)) : Prop := (Cnf cs gs ∧ r = none) ∨ (¬ Cnf cs gs ∧ ∃ ks, r = some ks ∧ ks.Pairwise (· < ·) ∧ ∀ x, x ∈ ks ↔ Frc cs gs x)
theorem Out.uniq {cs : List (List Int)} {gs : List Int} {r s : Option (List Int)} (h : Out cs gs r) (g : Out cs gs s) : r = s := by
  rcases h with ⟨h, rfl⟩ | ⟨h, ks, rfl, h1, h2⟩
  · rcases g with ⟨_, rfl⟩ | ⟨g, _⟩
    · rfl
    · exact (g h).elim
  · rcases g with ⟨g, _⟩ | ⟨_, ls, rfl, g1, g2⟩
    · exact (h g).elim
    · rw [strict_uniq h1 g1 fun x => (h2 x).trans (g2 x).symm]
theorem Frc.mono {cs ds : List (List Int)} {gs hs : List Int} (h1 : ∀ c ∈ cs, ∃ d ∈ ds, ∀ x, x ∈ c ↔ x ∈ d) (h2 : ∀ x ∈ gs, x ∈ hs) {l : Int} (h : Frc cs gs l) : Frc ds hs l := by
  induction h with
  | giv h => exact .giv (h2 _ h)
  | stp hc hl _ ih =>
    obtain ⟨d, hd, e⟩ := h1 _ hc
    exact .stp hd ((e _).mp hl) fun x hx n => ih x ((e x).mpr hx) n
theorem Cnf.mono {cs ds : List (List Int)} {gs hs : List Int} (h1 : ∀ c ∈ cs, ∃ d ∈ ds, ∀ x, x ∈ c ↔ x ∈ d) (h2 : ∀ x ∈ gs, x ∈ hs) (h : Cnf cs gs) : Cnf ds hs := by
  rcases h with ⟨c, hc, h⟩ | ⟨l, a, b⟩
  · obtain ⟨d, hd, e⟩ := h1 _ hc
    exact .inl ⟨d, hd, fun x hx => (h x ((e x).mpr hx)).mono h1 h2⟩
  · exact .inr ⟨l, a.mono h1 h2, b.mono h1 h2⟩
/-- the same clauses as sets, the same given ones -/
theorem Out.congr {cs ds : List (List Int)} {gs hs : List Int} (h1 : ∀ c ∈ cs, ∃ d ∈ ds, ∀ x, x ∈ c ↔ x ∈ d) (h2 : ∀ c ∈ ds, ∃ d ∈ cs, ∀ x, x ∈ c ↔ x ∈ d) (g : ∀ x, x ∈ gs ↔ x ∈ hs) {r : Option (List Int)} (h : Out cs gs r) : Out ds hs r := by
  have c1 : Cnf cs gs ↔ Cnf ds hs := ⟨fun h => h.mono h1 fun x q => (g x).mp q, fun h => h.mono h2 fun x q => (g x).mpr q⟩
  rcases h with ⟨h, e⟩ | ⟨h, ks, e, k1, k2⟩
  · exact .inl ⟨c1.mp h, e⟩
  · exact .inr ⟨fun q => h (c1.mpr q), ks, e, k1, fun x => (k2 x).trans ⟨fun q => q.mono h1 fun x z => (g x).mp z, fun q => q.mono h2 fun x z => (g x).mpr z⟩⟩

/-! ## places of literals -/
def ixs (l : Int) : Int → List (List Int) → List Int
  | _, [] => []
  | i, c :: t => if l ∈ c then i :: ixs l (i + 1) t else ixs l (i + 1) t
theorem ixs_snoc (l : Int) (c : List Int) : ∀ (i : Int) (xs : List (List Int)), ixs l i (xs ++ [c]) = ixs l i xs ++ if l ∈ c then [i + (xs.length : Int)] else []
  | i, [] => by
    show (if l ∈ c then i :: [] else []) = _
    by_cases h : l ∈ c <;> simp [h, ixs]
  | i, x :: xs => by
    show (if l ∈ x then i :: ixs l (i + 1) (xs ++ [c]) else ixs l (i + 1) (xs ++ [c])) = (if l ∈ x then i :: ixs l (i + 1) xs else ixs l (i + 1) xs) ++ _
    rw [ixs_snoc l c (i + 1) xs, show i + 1 + (xs.length : Int) = i + ((x :: xs).length : Int) by simp; omega]
    by_cases h : l ∈ x <;> simp [h]
theorem mem_ixs {l k : Int} : ∀ {i : Int} {xs : List (List Int)}, k ∈ ixs l i xs ↔ ∃ (j : Nat) (c : List Int), k = i + (j : Int) ∧ xs[j]? = some c ∧ l ∈ c
  | i, [] => by simp [ixs]
  | i, x :: xs => by
    have ih := mem_ixs (l := l) (k := k) (i := i + 1) (xs := xs)
    show (k ∈ if l ∈ x then i :: ixs l (i + 1) xs else ixs l (i + 1) xs) ↔ _
    constructor
    · intro h
      by_cases c : l ∈ x
      · rw [if_pos c] at h
        rcases List.mem_cons.mp h with rfl | h
        · exact ⟨0, x, by simp, rfl, c⟩
        · obtain ⟨j, d, e1, e2, e3⟩ := ih.mp h
          exact ⟨j + 1, d, by omega, by simpa using e2, e3⟩
      · rw [if_neg c] at h
        obtain ⟨j, d, e1, e2, e3⟩ := ih.mp h
        exact ⟨j + 1, d, by omega, by simpa using e2, e3⟩
    · rintro ⟨j, d, e1, e2, e3⟩
      cases j with
      | zero =>
        simp at e2
        subst e2
        rw [if_pos e3, show k = i by simpa using e1]
        exact .head _
      | succ j =>
        have := ih.mpr ⟨j, d, by omega, by simpa using e2, e3⟩
        by_cases c : l ∈ x
        · rw [if_pos c]; exact .tail _ this
        · rw [if_neg c]; exact this
theorem ixs_nodup (l : Int) : ∀ (i : Int) (xs : List (List Int)), (ixs l i xs).Nodup
  | _, [] => List.nodup_nil
  | i, x :: xs => by
    show (if l ∈ x then i :: ixs l (i + 1) xs else ixs l (i + 1) xs).Nodup
    by_cases c : l ∈ x
    · rw [if_pos c]
      refine List.nodup_cons.mpr ⟨fun h => ?_, ixs_nodup l (i + 1) xs⟩
      obtain ⟨j, d, e, _⟩ := mem_ixs.mp h
      omega
    · rw [if_neg c]; exact ixs_nodup l (i + 1) xs
theorem ixs_len (l : Int) : ∀ (i : Int) (xs : List (List Int)), (ixs l i xs).length ≤ xs.length
  | _, [] => Nat.le_refl _
  | i, x :: xs => by
    have := ixs_len l (i + 1) xs
    show (if l ∈ x then i :: ixs l (i + 1) xs else ixs l (i + 1) xs).length ≤ xs.length + 1
    by_cases c : l ∈ x
    · rw [if_pos c]; simp; omega
    · rw [if_neg c]; omega
section
variable {κ : Type} [DecidableEq κ] {β : Type}
theorem mget_mupd1 {α : Type} {qs : List (κ × α)} {k j : κ} {x : α} : mget (mupd1 qs k x) j = if k = j then (mget qs k).map (fun _ => x) else mget qs j := by
  induction qs with
  | nil => by_cases c : k = j <;> simp [c, mupd1, mget]
  | cons q qs ih =>
    unfold mupd1
    by_cases c : q.1 = k
    · rw [if_pos c, mget_cons, mget_cons, mget_cons, c]
      by_cases c2 : k = j
      · rw [if_pos c2, if_pos c2, if_pos rfl]; rfl
      · rw [if_neg c2, if_neg c2, if_neg c2]
    · rw [if_neg c, mget_cons, ih, mget_cons, mget_cons, if_neg c]
      by_cases c2 : k = j
      · rw [if_pos c2, if_pos c2, if_neg (fun e => c (e.trans c2.symm))]
      · rw [if_neg c2, if_neg c2]
theorem mget_mapp {m : List (κ × List β)} {k j : κ} {y : β} : (mget (mapp m k y) j).getD [] = if k = j then (mget m k).getD [] ++ [y] else (mget m j).getD [] := by
  unfold mapp
  cases e : mget m k with
  | some x =>
    show (mget (mupd1 m k (x ++ [y])) j).getD [] = _
    rw [mget_mupd1, e]
    by_cases c : k = j
    · rw [if_pos c, if_pos c]; rfl
    · rw [if_neg c, if_neg c]
  | none =>
    show (mget (m ++ [(k, [y])]) j).getD [] = _
    rw [mget_snoc]
    by_cases c : k = j
    · subst c; rw [e, if_pos rfl, if_pos rfl]; rfl
    · rw [if_neg c, if_neg c]
      cases mget m j <;> rfl
theorem mupd1_len {α : Type} {qs : List (κ × α)} {k : κ} {x : α} : (mupd1 qs k x).length = qs.length := by
  induction qs with
  | nil => rfl
  | cons q qs ih =>
    unfold mupd1
    split <;> simp [ih]
theorem mapp_len {m : List (κ × List β)} {k : κ} {y : β} : (mapp m k y).length ≤ m.length + 1 := by
  unfold mapp
  split
  · rw [mupd1_len]; omega
  · simp
end
/-! ## the pusher's word -/
def tot (cs : List (List Int)) : Nat := (cs.map List.length).sum
theorem tot_app (cs : List (List Int)) (c : List Int) : tot (cs ++ [c]) = tot cs + c.length := by simp [tot]
theorem tot_ge {cs : List (List Int)} {c : List Int} (h : c ∈ cs) : c.length ≤ tot cs := by
  induction cs with
  | nil => cases h
  | cons d cs ih =>
    show c.length ≤ d.length + tot cs
    rcases List.mem_cons.mp h with rfl | h
    · omega
    · have := ih h; omega
theorem mset_len (c : List Int) : (mset c).length ≤ c.length := nodup_sub (strict_nodup (mset_strict c)) fun x h => mem_mset.mp h
structure PInv (P : M_Pusher) (cs : List (List Int)) : Prop where
  cl : P.clauses = cs.map mset
  pl : ∀ l, (mget P.places l).getD [] = ixs l 0 (cs.map mset)
  pn : P.places.length ≤ tot cs
  st : ∀ l, l ∈ P.starts ↔ ∃ c ∈ cs, mset c = [l]
  sn : P.starts.length ≤ cs.length
  em : P.empty = true ↔ ∃ c ∈ cs, mset c = []
theorem pinv_nil : PInv (M_Pusher.mk ([] : List (List Int)) ([] : List (Int × List Int)) ([] : List Int) false) [] :=
  ⟨rfl, fun l => rfl, Nat.le_refl _, by simp, Nat.le_refl _, by simp⟩
theorem include_l1 (cl : List (List Int)) (st : List Int) (em : Bool) : ∀ (ls : List Int) (pl : List (Int × List Int)), ls.Nodup → pl.length + ls.length < 16777216 → (∀ l ∈ ls, ((mget pl l).getD []).length < 16777216) →
    ∃ pl', m_Pusher_include_l1 ls (M_Pusher.mk cl pl st em) = some (M_Pusher.mk cl pl' st em) ∧ pl'.length ≤ pl.length + ls.length ∧ ∀ j, (mget pl' j).getD [] = (mget pl j).getD [] ++ if j ∈ ls then [(cl.length : Int)] else []
  | [], pl, _, _, _ => ⟨pl, rfl, Nat.le_refl _, fun j => by simp⟩
  | l :: ls, pl, nd, hl, hg => by
    have nd2 := List.nodup_cons.mp nd
    have hl' : pl.length + (ls.length + 1) < 16777216 := hl
    have hm := mapp_len (m := pl) (k := l) (y := (cl.length : Int))
    obtain ⟨pl', h1, h2, h3⟩ := include_l1 cl st em ls (mapp pl l (cl.length : Int)) nd2.2 (by omega) fun x hx => by
      rw [mget_mapp, if_neg (by rintro rfl; exact nd2.1 hx)]
      exact hg x (.tail _ hx)
    refine ⟨pl', ?_, by simp; omega, fun j => ?_⟩
    · rw [m_Pusher_include_l1, grd_t (decide_eq_true (by show pl.length < _; omega)), grd_t (decide_eq_true (hg l (.head _)))]
      exact h1
    · rw [h3, mget_mapp]
      by_cases c : l = j
      · subst c
        rw [if_pos rfl, if_neg nd2.1, if_pos (.head _), List.append_nil]
      · rw [if_neg c]
        by_cases c2 : j ∈ ls
        · rw [if_pos c2, if_pos (.tail _ c2)]
        · rw [if_neg c2, if_neg (by intro h; rcases List.mem_cons.mp h with e | h; exact c e.symm; exact c2 h)]
theorem include_ok {P : M_Pusher} {cs : List (List Int)} (I : PInv P cs) (q : Bool × List Int) (h64 : q.2.length < 64) (hc : cs.length < 10000000) (ht : tot cs < 10000000) :
    ∃ P', m_Pusher_include P q = some P' ∧ PInv P' (cs ++ [q.2]) := by
  obtain ⟨b, c⟩ := q
  have hml := mset_len c
  have h64' : c.length < 64 := h64
  obtain ⟨pl', h1, h2, h3⟩ := include_l1 P.clauses P.starts P.empty (mset c) P.places (strict_nodup (mset_strict c)) (by have := I.pn; omega) fun l _ => by
    rw [I.pl l]
    have := ixs_len l 0 (cs.map mset)
    simp at this
    omega
  have hcl : P.clauses.length = cs.length := by rw [I.cl, List.length_map]
  have pl2 : ∀ l, (mget pl' l).getD [] = ixs l 0 ((cs ++ [c]).map mset) := by
    intro l
    rw [h3, I.pl, List.map_append, List.map_singleton, ixs_snoc, hcl, List.length_map, Int.zero_add]
  have base : ∀ st em, (∀ l, l ∈ st ↔ ∃ d ∈ cs ++ [c], mset d = [l]) → st.length ≤ cs.length + 1 → (em = true ↔ ∃ d ∈ cs ++ [c], mset d = []) → PInv (M_Pusher.mk (P.clauses ++ [mset c]) pl' st em) (cs ++ [c]) :=
    fun st em q1 q2 q3 => ⟨by show P.clauses ++ [mset c] = _; rw [I.cl, List.map_append]; rfl, pl2, by rw [tot_app]; have := I.pn; show pl'.length ≤ _; omega, q1, by simpa using q2, q3⟩
  unfold m_Pusher_include
  rw [grd_t (decide_eq_true h64), bs (show m_Pusher_include_l1 (mset c) (M_Pusher.mk P.clauses P.places P.starts P.empty) = _ from h1), grd_t (decide_eq_true (by show P.clauses.length < _; omega))]
  have stold : (∀ l, mset c ≠ [l]) → ∀ l, l ∈ P.starts ↔ ∃ d ∈ cs ++ [c], mset d = [l] := fun n l => by
    rw [I.st]
    constructor
    · rintro ⟨d, hd, e⟩; exact ⟨d, List.mem_append_left _ hd, e⟩
    · rintro ⟨d, hd, e⟩
      rcases List.mem_append.mp hd with hd | hd
      · exact ⟨d, hd, e⟩
      · rw [List.mem_singleton.mp hd] at e; exact (n l e).elim
  have emold : mset c ≠ [] → (P.empty = true ↔ ∃ d ∈ cs ++ [c], mset d = []) := fun n => by
    rw [I.em]
    constructor
    · rintro ⟨d, hd, e⟩; exact ⟨d, List.mem_append_left _ hd, e⟩
    · rintro ⟨d, hd, e⟩
      rcases List.mem_append.mp hd with hd | hd
      · exact ⟨d, hd, e⟩
      · rw [List.mem_singleton.mp hd] at e; exact (n e).elim
  have hsn := I.sn
  cases e : mset c with
  | nil =>
    rw [if_pos (by rfl)]
    have b := base P.starts true (stold fun l q => by rw [e] at q; cases q) (by omega) ⟨fun _ => ⟨c, by simp, e⟩, fun _ => rfl⟩
    rw [e] at b
    exact ⟨_, rfl, b⟩
  | cons x t =>
    rw [if_neg (by simp)]
    cases t with
    | nil =>
      rw [if_pos (by simp), bs (x := x) (by rw [atI_of (by omega)]; rfl), grd_t (decide_eq_true (by show P.starts.length < _; omega))]
      have b := base (P.starts ++ [x]) P.empty (fun l => by
        rw [List.mem_append, I.st, List.mem_singleton]
        constructor
        · rintro (⟨d, hd, q⟩ | rfl)
          · exact ⟨d, List.mem_append_left _ hd, q⟩
          · exact ⟨c, by simp, e⟩
        · rintro ⟨d, hd, q⟩
          rcases List.mem_append.mp hd with hd | hd
          · exact .inl ⟨d, hd, q⟩
          · rw [List.mem_singleton.mp hd, e] at q
            exact .inr (by cases q; rfl)) (by simp; omega) (emold (by rw [e]; simp))
      rw [e] at b
      exact ⟨_, rfl, b⟩
    | cons y t =>
      rw [if_neg (by simp; omega)]
      have b := base P.starts P.empty (stold fun l q => by rw [e] at q; cases q) (by omega) (emold (by rw [e]; simp))
      rw [e] at b
      exact ⟨_, rfl, b⟩
theorem init_l1 : ∀ (qs : List (Bool × List Int)) {P : M_Pusher} {cs : List (List Int)}, PInv P cs → (∀ q ∈ qs, q.2.length < 64) → cs.length + qs.length < 10000000 → tot cs + tot (qs.map (·.2)) < 10000000 →
    ∃ P', m_Pusher_init_l1 qs P = some P' ∧ PInv P' (cs ++ qs.map (·.2))
  | [], P, cs, I, _, _, _ => ⟨P, rfl, by simpa using I⟩
  | q :: qs, P, cs, I, h, h1, h2 => by
    have h1' : cs.length + (qs.length + 1) < 10000000 := h1
    have h2' : tot cs + (q.2.length + tot (qs.map (·.2))) < 10000000 := h2
    obtain ⟨P1, e1, I1⟩ := include_ok I q (h q (.head _)) (by omega) (by omega)
    obtain ⟨P2, e2, I2⟩ := init_l1 qs I1 (fun x hx => h x (.tail _ hx)) (by simp; omega) (by rw [tot_app]; omega)
    refine ⟨P2, ?_, by simpa using I2⟩
    rw [m_Pusher_init_l1, bs (show m_Pusher_include (M_Pusher.mk P.clauses P.places P.starts P.empty) q = _ from e1)]
    exact e2
theorem init_ok (qs : List (Bool × List Int)) (h : ∀ q ∈ qs, q.2.length < 64) (h1 : qs.length < 10000000) (h2 : tot (qs.map (·.2)) < 10000000) : ∃ P, m_Pusher_init qs = some P ∧ PInv P (qs.map (·.2)) := by
  obtain ⟨P, e, I⟩ := init_l1 qs pinv_nil h (by simpa using h1) (by simpa [tot] using h2)
  unfold m_Pusher_init
  rw [bs e]
  exact ⟨_, rfl, by simpa using I⟩

/-! ## the pushing -/
/-- how many of a clause's literals are false -/
def cnt (kn : List (Int × Bool)) (c : List Int) : Nat := c.countP fun x => (mget kn (-x)).isSome
abbrev Kn (kn : List (Int × Bool)) (x : Int) : Prop := x ∈ kn.map (·.1)
theorem kn_some {kn : List (Int × Bool)} {x : Int} : (mget kn x).isSome = true ↔ Kn kn x := by
  constructor
  · intro h
    exact Classical.byContradiction fun n => by rw [mget_none.mpr n] at h; cases h
  · intro h
    cases e : mget kn x with
    | some y => rfl
    | none => exact (mget_none.mp e h).elim
section
variable {P : M_Pusher} {cs : List (List Int)} {gs : List Int}
/-- the counts stand right -/
def OcOk (cs : List (List Int)) (kn : List (Int × Bool)) (oc : List (Int × Int)) : Prop := ∀ (k : Nat) (c : List Int), (cs.map mset)[k]? = some c → (mget oc (k : Int)).getD (c.length : Int) = (c.length : Int) - (cnt kn c : Int)
theorem cnt_le (kn : List (Int × Bool)) (c : List Int) : cnt kn c ≤ c.length := List.countP_le_length
theorem snoc_some {kn : List (Int × Bool)} {l j : Int} : (mget (kn ++ [(l, true)]) j).isSome = ((mget kn j).isSome || decide (l = j)) := by
  rw [mget_snoc]
  cases mget kn j with
  | some y => rfl
  | none =>
    by_cases c : l = j
    · simp [c]
    · simp [c]
theorem cnt_new {kn : List (Int × Bool)} {l : Int} (hn : mget kn l = none) : ∀ {c : List Int}, c.Nodup → cnt (kn ++ [(l, true)]) c = cnt kn c + if -l ∈ c then 1 else 0
  | [], _ => rfl
  | x :: c, nd => by
    have nd2 := List.nodup_cons.mp nd
    have ih := cnt_new (kn := kn) (l := l) hn (c := c) nd2.2
    unfold cnt at ih ⊢
    rw [List.countP_cons, List.countP_cons, ih, snoc_some]
    by_cases c1 : l = -x
    · subst c1
      rw [Int.neg_neg, if_neg nd2.1, hn]
      simp
    · have c2 : ¬ -l = x := by omega
      rw [decide_eq_false c1, Bool.or_false]
      by_cases c3 : -l ∈ c
      · rw [if_pos c3, if_pos (List.mem_cons_of_mem _ c3)]; omega
      · have c4 : ¬ -l ∈ x :: c := fun h => by rcases List.mem_cons.mp h with h | h; exact c2 h; exact c3 h
        rw [if_neg c3, if_neg c4]
        omega
theorem cnt_split (kn : List (Int × Bool)) (c : List Int) : c.length = cnt kn c + (c.filter fun x => decide (¬ Kn kn (-x))).length := by
  unfold cnt
  rw [← List.countP_eq_length_filter, List.length_eq_countP_add_countP (p := fun x => (mget kn (-x)).isSome)]
  congr 1
  apply List.countP_congr
  intro x _
  simp only [decide_eq_true_eq, ← kn_some]
theorem one_left {kn : List (Int × Bool)} {c : List Int} (nd : c.Nodup) (h : (c.length : Int) - (cnt kn c : Int) = 1) {x : Int} (hx : x ∈ c) (hn : ¬ Kn kn (-x)) : ∀ y ∈ c, y ≠ x → Kn kn (-y) := by
  intro y hy ne
  refine Classical.byContradiction fun hk => ?_
  have h1 := cnt_split kn c
  have h2 := nodup_sub (l := [x, y]) (r := c.filter fun x => decide (¬ Kn kn (-x))) (by simp; exact fun e => ne e.symm) fun z hz => by
    simp only [List.mem_cons, List.not_mem_nil, or_false] at hz
    rcases hz with rfl | rfl
    · exact List.mem_filter.mpr ⟨hx, decide_eq_true hn⟩
    · exact List.mem_filter.mpr ⟨hy, decide_eq_true hk⟩
  rw [show [x, y].length = 2 from rfl] at h2
  omega
theorem all_but {kn : List (Int × Bool)} {c : List Int} (nd : c.Nodup) {m : Int} (hm : m ∈ c) (hn : ¬ Kn kn (-m)) (h : ∀ y ∈ c, y ≠ m → Kn kn (-y)) : (c.length : Int) - (cnt kn c : Int) = 1 := by
  have h1 := cnt_split kn c
  have h2 := nodup_sub (l := [m]) (r := c.filter fun x => decide (¬ Kn kn (-x))) (by simp) fun z hz => by
    rw [List.mem_singleton.mp hz]
    exact List.mem_filter.mpr ⟨hm, decide_eq_true hn⟩
  have h3 := nodup_sub (l := c.filter fun x => decide (¬ Kn kn (-x))) (r := [m]) (nd.filter _) fun z hz => by
    obtain ⟨q1, q2⟩ := List.mem_filter.mp hz
    rw [List.mem_singleton]
    exact Classical.byContradiction fun ne => (of_decide_eq_true q2) (h z q1 ne)
  rw [show [m].length = 1 from rfl] at h2 h3
  omega
theorem push_l1 {L : Nat} (I : PInv P cs) (kn : List (Int × Bool)) (l : Int) (kn' : List (Int × Bool)) (hk : kn' = mput kn l true) : ∀ (ks : List Int) (fd : List Int) (oc : List (Int × Int)), ks.Nodup → (∀ k ∈ ks, ∃ (j : Nat) (c : List Int), k = (j : Int) ∧ (cs.map mset)[j]? = some c) →
    oc.length + ks.length < 16777216 → (∀ c ∈ cs, c.length ≤ L) → fd.length + ks.length * L < 16777216 →
    ∃ fd' oc', m_Pusher_push_l1 P l kn ks (fd, oc) = some (fd', oc') ∧ oc'.length ≤ oc.length + ks.length ∧
      (∀ (k : Nat) (c : List Int), (cs.map mset)[k]? = some c → (mget oc' (k : Int)).getD (c.length : Int) = (mget oc (k : Int)).getD (c.length : Int) - if (k : Int) ∈ ks then 1 else 0) ∧
      (∀ x, x ∈ fd' ↔ x ∈ fd ∨ ∃ (k : Nat) (c : List Int), (k : Int) ∈ ks ∧ (cs.map mset)[k]? = some c ∧ (mget oc' (k : Int)).getD (c.length : Int) = 1 ∧ x ∈ c ∧ ¬ Kn kn' (-x)) ∧
      fd'.length ≤ fd.length + ks.length * L
  | [], fd, oc, _, _, _, _, _ => ⟨fd, oc, rfl, Nat.le_refl _, fun k c _ => by simp, fun x => by simp, by simp⟩
  | k :: ks, fd, oc, nd, hks, h1, h2, h3 => by
    have nd2 := List.nodup_cons.mp nd
    have h1' : oc.length + (ks.length + 1) < 16777216 := h1
    have h3' : fd.length + (ks.length * L + L) < 16777216 := by rw [← Nat.succ_mul]; exact h3
    obtain ⟨j, c, rfl, hc⟩ := hks k (.head _)
    have hat : atI P.clauses (j : Int) = some c := by rw [I.cl, atI_of (by omega)]; simpa using hc
    have hcl : c.length ≤ L := by
      obtain ⟨d, hd, rfl⟩ := List.mem_map.mp (List.mem_of_getElem? hc)
      have := mset_len d
      have := h2 d hd
      omega
    generalize hv : ((mget oc (j : Int)).getD (c.length : Int)) - (1 : Int) = v
    have hm := mput_len (xs := oc) (k := (j : Int)) (x := v)
    have fin : ∀ fd1 : List Int, fd1.length ≤ fd.length + c.length → (∀ x, x ∈ fd1 ↔ x ∈ fd ∨ (v = 1 ∧ x ∈ c ∧ ¬ Kn kn' (-x))) → ∃ fd' oc', m_Pusher_push_l1 P l kn ks (fd1, mput oc (j : Int) v) = some (fd', oc') ∧ oc'.length ≤ oc.length + (ks.length + 1) ∧
        (∀ (k : Nat) (c : List Int), (cs.map mset)[k]? = some c → (mget oc' (k : Int)).getD (c.length : Int) = (mget oc (k : Int)).getD (c.length : Int) - if (k : Int) ∈ (j : Int) :: ks then 1 else 0) ∧
        (∀ x, x ∈ fd' ↔ x ∈ fd ∨ ∃ (k : Nat) (c : List Int), (k : Int) ∈ (j : Int) :: ks ∧ (cs.map mset)[k]? = some c ∧ (mget oc' (k : Int)).getD (c.length : Int) = 1 ∧ x ∈ c ∧ ¬ Kn kn' (-x)) ∧
        fd'.length ≤ fd.length + (ks.length + 1) * L := by
      intro fd1 hf1 hf2
      obtain ⟨fd', oc', g1, g2, g3, g4, g5⟩ := push_l1 I kn l kn' hk ks fd1 (mput oc (j : Int) v) nd2.2 (fun x hx => hks x (.tail _ hx)) (by omega) h2 (by omega)
      have oc3 : ∀ (k : Nat) (d : List Int), (cs.map mset)[k]? = some d → (mget oc' (k : Int)).getD (d.length : Int) = (mget oc (k : Int)).getD (d.length : Int) - if (k : Int) ∈ (j : Int) :: ks then 1 else 0 := by
        intro k d hd
        rw [g3 k d hd, mget_put]
        by_cases e : (j : Int) = (k : Int)
        · have e2 : j = k := by omega
          subst e2
          rw [hc] at hd; cases hd
          rw [if_pos rfl, if_neg nd2.1, if_pos (.head _), ← hv]; simp
        · rw [if_neg e]
          by_cases e2 : (k : Int) ∈ ks
          · rw [if_pos e2, if_pos (.tail _ e2)]
          · rw [if_neg e2, if_neg (by intro h; rcases List.mem_cons.mp h with h | h; exact e h.symm; exact e2 h)]
      refine ⟨fd', oc', g1, by omega, oc3, fun x => ?_, by rw [Nat.succ_mul]; omega⟩
      rw [g4 x, hf2 x]
      constructor
      · rintro ((h | ⟨h, hx, hn⟩) | ⟨k, d, q1, q2, q3, q4, q5⟩)
        · exact .inl h
        · refine .inr ⟨j, c, .head _, hc, ?_, hx, hn⟩
          rw [oc3 j c hc, if_pos (.head _), hv, h]
        · exact .inr ⟨k, d, .tail _ q1, q2, q3, q4, q5⟩
      · rintro (h | ⟨k, d, q1, q2, q3, q4, q5⟩)
        · exact .inl (.inl h)
        · rcases List.mem_cons.mp q1 with e | q1
          · have e2 : k = j := by omega
            subst e2
            rw [hc] at q2; cases q2
            refine .inl (.inr ⟨?_, q4, q5⟩)
            rw [oc3 k c hc, if_pos (.head _), hv] at q3
            exact q3
          · exact .inr ⟨k, d, q1, q2, q3, q4, q5⟩
    rw [m_Pusher_push_l1, bs hat, grd_t (decide_eq_true (by show oc.length < _; omega))]
    dsimp only
    rw [hv, bs (x := v) (by rw [mget_put, if_pos rfl])]
    by_cases e : v = 1
    · rw [if_pos (decide_eq_true e), bs hat, grd_t (decide_eq_true (by omega))]
      have hfl : ((c.filter fun x => (!(mget (mput kn l true) (-x)).isSome)).map fun x => x).length ≤ c.length := by
        rw [List.map_id']; exact List.length_filter_le _ _
      rw [grd_t (decide_eq_true (by omega))]
      refine fin _ (by simp only [List.length_append]; omega) fun x => ?_
      rw [List.mem_append, List.map_id', List.mem_filter, ← hk]
      constructor
      · rintro (h | ⟨h, g⟩)
        · exact .inl h
        · refine .inr ⟨e, h, fun q => ?_⟩
          rw [kn_some.mpr q] at g; cases g
      · rintro (h | ⟨_, h, g⟩)
        · exact .inl h
        · refine .inr ⟨h, ?_⟩
          cases q : (mget kn' (-x)).isSome with
          | false => rfl
          | true => exact (g (kn_some.mp q)).elim
    · rw [if_neg (by simpa using e)]
      exact fin fd (by omega) fun x => ⟨.inl, fun h => h.elim id fun h => (e h.1).elim⟩
/-- the state of the stack -/
structure FInv (cs : List (List Int)) (gs : List Int) (todo : List Int) (oc : List (Int × Int)) (kn : List (Int × Bool)) : Prop where
  t : ∀ x ∈ todo, Frc cs gs x
  k : ∀ x, Kn kn x → Frc cs gs x
  g : ∀ x ∈ gs, x ∈ todo ∨ Kn kn x
  u : ∀ c ∈ cs, ∀ l, mset c = [l] → l ∈ todo ∨ Kn kn l
  no : ∀ x, Kn kn x → ¬ Kn kn (-x)
  nd : (kn.map (·.1)).Nodup
  oc : OcOk cs kn oc
  c : (∃ x ∈ todo, Kn kn (-x)) ∨ ∀ c ∈ cs, ∀ l ∈ c, (∃ x ∈ c, x ≠ l) → (∀ x ∈ c, x ≠ l → Kn kn (-x)) → l ∈ todo ∨ Kn kn l
theorem forced_l1 {L : Nat} (I : PInv P cs) (hc : ∀ c ∈ cs, c.length ≤ L) (hn : cs.length < 10000) (U : List Int) (hU : ∀ x, Frc cs gs x → x ∈ U) (hz : ∀ x ∈ U, x ≠ 0) (hB : (U.length + 2) * (cs.length * L + 1) < 5000000) (hU2 : U.length * cs.length < 10000000) :
    ∀ (fl : Nat) (todo : List Int) (oc : List (Int × Int)) (kn : List (Int × Bool)), FInv cs gs todo oc kn → oc.length ≤ kn.length * cs.length → todo.length + (U.length - kn.length) * (cs.length * L + 1) < 6000000 → todo.length + (U.length - kn.length) * (cs.length * L + 1) < fl →
    ∃ r, m_Pusher_forced_l1 P fl (todo, oc, kn) = some r ∧ ((r = .ret none ∧ Cnf cs gs) ∨ ∃ oc' kn', r = .done ([], oc', kn') ∧ FInv cs gs [] oc' kn')
  | 0, _, _, _, _, _, _, h => absurd h (Nat.not_lt_zero _)
  | fl + 1, todo, oc, kn, J, ho, hb, hfl => by
    rw [m_Pusher_forced_l1]
    rcases List.eq_nil_or_concat todo with rfl | ⟨td, l, rfl⟩
    · exact ⟨_, rfl, .inr ⟨oc, kn, rfl, J⟩⟩
    · rw [List.concat_eq_append] at *
      dsimp only
      have hl : Frc cs gs l := J.t l (by simp)
      have hl0 : l ≠ 0 := hz _ (hU _ hl)
      have hlen : (td ++ [l]).length = td.length + 1 := by simp
      rw [if_pos (by simp), bs (x := l) (List.getLast?_concat ..), List.dropLast_concat]
      by_cases c1 : Kn kn (-l)
      · rw [if_pos (kn_some.mpr c1)]
        exact ⟨_, rfl, .inl ⟨rfl, .inr ⟨l, hl, J.k _ c1⟩⟩⟩
      · rw [if_neg (fun q => c1 (kn_some.mp q))]
        by_cases c2 : Kn kn l
        · rw [if_neg (by rw [kn_some.mpr c2]; simp)]
          have out : ∀ x, x ∈ td ++ [l] ∨ Kn kn x → x ∈ td ∨ Kn kn x := by
            rintro x (h | h)
            · rcases List.mem_append.mp h with h | h
              · exact .inl h
              · rw [List.mem_singleton.mp h]; exact .inr c2
            · exact .inr h
          refine forced_l1 I hc hn U hU hz hB hU2 fl td oc kn ⟨fun x hx => J.t x (by simp [hx]), J.k, fun x hx => out x (J.g x hx), fun c hc l hl => out _ (J.u c hc l hl), J.no, J.nd, J.oc, ?_⟩ ho (by omega) (by omega)
          rcases J.c with ⟨x, hx, hk⟩ | h
          · rcases List.mem_append.mp hx with hx | hx
            · exact .inl ⟨x, hx, hk⟩
            · rw [List.mem_singleton.mp hx] at hk; exact (c1 hk).elim
          · exact .inr fun c hc l hl h1 h2 => out _ (h c hc l hl h1 h2)
        · have hnl : mget kn l = none := mget_none.mpr c2
          rw [if_pos (by rw [hnl]; rfl)]
          have hput : mput kn l true = kn ++ [(l, true)] := mget_put_new hnl
          have knl : kn.length < U.length := by
            have h1 := nodup_sub (l := l :: kn.map (·.1)) (r := U) (List.nodup_cons.mpr ⟨c2, J.nd⟩) fun x hx => by
              rcases List.mem_cons.mp hx with rfl | hx
              · exact hU _ hl
              · exact hU _ (J.k x hx)
            have h1' : kn.length + 1 ≤ U.length := by simpa using h1
            omega
          have hpl := I.pl (-l)
          have hixl := ixs_len (-l) 0 (cs.map mset)
          rw [List.length_map] at hixl
          have hkl : kn.length * cs.length + cs.length ≤ U.length * cs.length := by
            have := Nat.mul_le_mul_right cs.length knl
            rw [Nat.succ_mul] at this
            exact this
          have hU3 : U.length + 2 ≤ (U.length + 2) * (cs.length * L + 1) := Nat.le_mul_of_pos_right _ (by omega)
          have hT3 : cs.length * L + 1 ≤ (U.length + 2) * (cs.length * L + 1) := Nat.le_mul_of_pos_left _ (by omega)
          have hixL : (ixs (-l) 0 (cs.map mset)).length * L ≤ cs.length * L := Nat.mul_le_mul_right _ hixl
          obtain ⟨fd, oc', p1, p2, p3, p4, p5⟩ := push_l1 (L := L) I kn l (kn ++ [(l, true)]) hput.symm (ixs (-l) 0 (cs.map mset)) [] oc (ixs_nodup _ _ _) (fun k hk => by
            obtain ⟨j, c, e1, e2, _⟩ := mem_ixs.mp hk
            exact ⟨j, c, by omega, e2⟩) (by omega) hc (by simp; omega)
          have p5' : fd.length ≤ cs.length * L := by simp at p5; omega
          have hpush : m_Pusher_push P l kn oc = some (fd, kn ++ [(l, true)], oc') := by
            unfold m_Pusher_push
            rw [grd_t (decide_eq_true (by omega)), hpl, bs p1, hput]
          rw [bs hpush, grd_t (decide_eq_true (by show td.length + fd.length ≤ _; omega))]
          have kn2 : ∀ x, Kn (kn ++ [(l, true)]) x ↔ Kn kn x ∨ x = l := fun x => by unfold Kn; simp
          have ixc : ∀ (k : Nat) (c : List Int), (cs.map mset)[k]? = some c → ((k : Int) ∈ ixs (-l) 0 (cs.map mset) ↔ -l ∈ c) := by
            intro k c hk
            rw [mem_ixs]
            constructor
            · rintro ⟨j, d, e1, e2, e3⟩
              have : j = k := by omega
              subst this
              rw [hk] at e2; cases e2; exact e3
            · exact fun h => ⟨k, c, by omega, hk, h⟩
          have ofidx : ∀ (k : Nat) (c : List Int), (cs.map mset)[k]? = some c → ∃ d ∈ cs, mset d = c := fun k c hk => List.mem_map.mp (List.mem_of_getElem? hk)
          have oc2 : OcOk cs (kn ++ [(l, true)]) oc' := by
            intro k c hk
            obtain ⟨d, _, rfl⟩ := ofidx k c hk
            rw [p3 k _ hk, J.oc k _ hk, cnt_new hnl (strict_nodup (mset_strict d))]
            by_cases e : -l ∈ mset d
            · rw [if_pos e, if_pos ((ixc k _ hk).mpr e)]; omega
            · rw [if_neg e, if_neg (fun h => e ((ixc k _ hk).mp h))]; omega
          have J2 : FInv cs gs (td ++ fd) oc' (kn ++ [(l, true)]) := by
            refine ⟨fun x hx => ?_, fun x hx => ?_, fun x hx => ?_, fun c hc m hm => ?_, fun x hx hnx => ?_, ?_, oc2, ?_⟩
            · rcases List.mem_append.mp hx with hx | hx
              · exact J.t x (by simp [hx])
              · rcases (p4 x).mp hx with h | ⟨k, c, h1, h2, h3, h4, h5⟩
                · cases h
                · obtain ⟨d, hd, rfl⟩ := ofidx k c h2
                  have hol := one_left (strict_nodup (mset_strict d)) ((oc2 k _ h2).symm.trans h3) h4 h5
                  refine .stp hd (mem_mset.mp h4) fun y hy ne => ?_
                  rcases (kn2 _).mp (hol y (mem_mset.mpr hy) ne) with q | q
                  · exact J.k _ q
                  · rw [q]; exact hl
            · rcases (kn2 x).mp hx with h | rfl
              · exact J.k x h
              · exact hl
            · rcases J.g x hx with h | h
              · rcases List.mem_append.mp h with h | h
                · exact .inl (List.mem_append_left _ h)
                · exact .inr ((kn2 x).mpr (.inr (List.mem_singleton.mp h)))
              · exact .inr ((kn2 x).mpr (.inl h))
            · rcases J.u c hc m hm with h | h
              · rcases List.mem_append.mp h with h | h
                · exact .inl (List.mem_append_left _ h)
                · exact .inr ((kn2 m).mpr (.inr (List.mem_singleton.mp h)))
              · exact .inr ((kn2 m).mpr (.inl h))
            · rcases (kn2 x).mp hx with h | rfl
              · rcases (kn2 _).mp hnx with g | g
                · exact J.no x h g
                · exact c1 (by rw [← g, Int.neg_neg]; exact h)
              · rcases (kn2 _).mp hnx with g | g
                · exact c1 g
                · omega
            · rw [List.map_append]
              refine List.nodup_append.mpr ⟨J.nd, by simp, fun a ha b hb => ?_⟩
              have : b = l := by simpa using hb
              subst this
              rintro rfl
              exact c2 ha
            · rcases J.c with ⟨x, hx, hk⟩ | h
              · rcases List.mem_append.mp hx with hx | hx
                · exact .inl ⟨x, List.mem_append_left _ hx, (kn2 _).mpr (.inl hk)⟩
                · rw [List.mem_singleton.mp hx] at hk; exact (c1 hk).elim
              · by_cases D : ∃ x ∈ td ++ fd, Kn (kn ++ [(l, true)]) (-x)
                · exact .inl D
                · refine .inr fun c hc m hm hex hall => ?_
                  by_cases km : Kn (kn ++ [(l, true)]) m
                  · exact .inr km
                  · by_cases old : ∀ x ∈ c, x ≠ m → Kn kn (-x)
                    · rcases h c hc m hm hex old with q | q
                      · rcases List.mem_append.mp q with q | q
                        · exact .inl (List.mem_append_left _ q)
                        · exact (km ((kn2 m).mpr (.inr (List.mem_singleton.mp q)))).elim
                      · exact (km ((kn2 m).mpr (.inl q))).elim
                    · obtain ⟨x0, hx0⟩ := Classical.not_forall.mp old
                      obtain ⟨hx0c, hx0'⟩ := Classical.not_imp.mp hx0
                      obtain ⟨hx0m, hx0k⟩ := Classical.not_imp.mp hx0'
                      have hx0l : -x0 = l := ((kn2 _).mp (hall x0 hx0c hx0m)).resolve_left hx0k
                      have ex0 : x0 = -l := by omega
                      obtain ⟨k, hk⟩ := List.mem_iff_getElem?.mp (List.mem_map.mpr ⟨c, hc, rfl⟩ : mset c ∈ cs.map mset)
                      by_cases nm : Kn (kn ++ [(l, true)]) (-m)
                      · have nmk : Kn kn (-m) := ((kn2 _).mp nm).resolve_right fun e => hx0m (by omega)
                        rcases h c hc x0 hx0c ⟨m, hm, fun e => hx0m e.symm⟩ (fun y hy ne => by
                          by_cases ym : y = m
                          · rw [ym]; exact nmk
                          · exact ((kn2 _).mp (hall y hy ym)).resolve_right fun e => ne (by omega)) with q | q
                        · rcases List.mem_append.mp q with q | q
                          · exact (D ⟨x0, List.mem_append_left _ q, (kn2 _).mpr (.inr hx0l)⟩).elim
                          · have := List.mem_singleton.mp q
                            omega
                        · rw [ex0] at q; exact (c1 q).elim
                      · refine .inl (List.mem_append_right _ ((p4 m).mpr (.inr ⟨k, mset c, (ixc k _ hk).mpr (mem_mset.mpr (ex0 ▸ hx0c)), hk, ?_, mem_mset.mpr hm, nm⟩)))
                        rw [oc2 k _ hk]
                        exact all_but (strict_nodup (mset_strict c)) (mem_mset.mpr hm) nm fun y hy ne => hall y (mem_mset.mp hy) ne
          have hmul : (U.length - kn.length) * (cs.length * L + 1) = (U.length - (kn ++ [(l, true)]).length) * (cs.length * L + 1) + (cs.length * L + 1) := by
            rw [show U.length - kn.length = (U.length - (kn ++ [(l, true)]).length) + 1 by simp; omega, Nat.succ_mul]
          exact forced_l1 I hc hn U hU hz hB hU2 fl (td ++ fd) oc' (kn ++ [(l, true)]) J2 (by simp only [List.length_append, List.length_singleton]; rw [Nat.succ_mul]; omega) (by rw [List.length_append]; omega) (by rw [List.length_append]; omega)
theorem frc_in {x : Int} (h : Frc cs gs x) : x ∈ gs ++ cs.flatten := by
  cases h with
  | giv h => exact List.mem_append_left _ h
  | stp hc hl _ => exact List.mem_append_right _ (List.mem_flatten.mpr ⟨_, hc, hl⟩)
theorem tot_le {L : Nat} : ∀ {cs : List (List Int)}, (∀ c ∈ cs, c.length ≤ L) → tot cs ≤ cs.length * L
  | [], _ => Nat.zero_le _
  | c :: cs, h => by
    have h1 := h c (.head _)
    have h2 := tot_le (L := L) (cs := cs) fun d hd => h d (.tail _ hd)
    show c.length + tot cs ≤ (cs.length + 1) * L
    rw [Nat.succ_mul]
    omega
theorem forced_ok {L : Nat} (I : PInv P cs) (hc : ∀ c ∈ cs, c.length ≤ L) (hn : cs.length < 10000) (hz : ∀ c ∈ cs, ∀ x ∈ c, x ≠ 0) (hz2 : ∀ x ∈ gs, x ≠ 0) (hB : (gs.length + cs.length * L + 2) * (cs.length * L + 1) < 2500000) (hU2 : (gs.length + cs.length * L) * cs.length < 10000000) :
    ∃ r, m_Pusher_forced P gs = some r ∧ Out cs gs r := by
  unfold m_Pusher_forced
  by_cases e : P.empty = true
  · rw [if_pos e]
    obtain ⟨c, h1, h2⟩ := I.em.mp e
    exact ⟨none, rfl, .inl ⟨.inl ⟨c, h1, fun x hx => by have := mem_mset.mpr hx; rw [h2] at this; cases this⟩, rfl⟩⟩
  · rw [if_neg e]
    have hsn := I.sn
    have hT : cs.length * L + 1 ≤ (gs.length + cs.length * L + 2) * (cs.length * L + 1) := Nat.le_mul_of_pos_left _ (by omega)
    have hG : gs.length + cs.length * L + 2 ≤ (gs.length + cs.length * L + 2) * (cs.length * L + 1) := Nat.le_mul_of_pos_right _ (by omega)
    rw [grd_t (decide_eq_true (by omega))]
    have hul : (gs ++ cs.flatten).length ≤ gs.length + cs.length * L := by
      have := tot_le hc
      rw [List.length_append, List.length_flatten]
      unfold tot at this
      omega
    have hUB : ((gs ++ cs.flatten).length + 2) * (cs.length * L + 1) ≤ (gs.length + cs.length * L + 2) * (cs.length * L + 1) := Nat.mul_le_mul_right _ (by omega)
    have hUB2 : (gs ++ cs.flatten).length * cs.length ≤ (gs.length + cs.length * L) * cs.length := Nat.mul_le_mul_right _ hul
    have hUB3 : (gs ++ cs.flatten).length * (cs.length * L + 1) ≤ ((gs ++ cs.flatten).length + 2) * (cs.length * L + 1) := Nat.mul_le_mul_right _ (by omega)
    have J0 : FInv cs gs (P.starts ++ gs) [] [] := by
      refine ⟨fun x hx => ?_, fun x hx => (by cases hx), fun x hx => .inl (List.mem_append_right _ hx), fun c hc l hl => .inl (List.mem_append_left _ ((I.st l).mpr ⟨c, hc, hl⟩)), fun x hx => (by cases hx), List.nodup_nil, fun k c hk => ?_, .inr fun c hc l hl ⟨x, hx, ne⟩ h => ?_⟩
      · rcases List.mem_append.mp hx with h | h
        · obtain ⟨c, h1, h2⟩ := (I.st x).mp h
          refine .stp h1 (mem_mset.mp (by rw [h2]; exact .head _)) fun y hy ne => ?_
          have := mem_mset.mpr hy
          rw [h2] at this
          exact (ne (List.mem_singleton.mp this)).elim
        · exact .giv h
      · have : cnt [] c = 0 := by
          unfold cnt
          rw [List.countP_eq_zero]
          intro x _
          simp [mget]
        rw [this]
        show (c.length : Int) = _
        omega
      · have := h x hx ne
        cases this
    obtain ⟨r, r1, r2⟩ := forced_l1 (L := L) I hc hn (gs ++ cs.flatten) (fun x h => frc_in h) (fun x hx => by
      rcases List.mem_append.mp hx with h | h
      · exact hz2 x h
      · obtain ⟨c, h1, h2⟩ := List.mem_flatten.mp h
        exact hz c h1 x h2) (by omega) (by omega) fuel (P.starts ++ gs) [] [] J0 (by simp) (by simp only [List.length_append, List.length_nil, Nat.sub_zero] at *; omega) (by simp only [fuel, List.length_append, List.length_nil, Nat.sub_zero] at *; omega)
    rw [bs r1]
    rcases r2 with ⟨rfl, h⟩ | ⟨oc, kn, rfl, J⟩
    · exact ⟨none, rfl, .inl ⟨h, rfl⟩⟩
    · have hcl : ∀ c ∈ cs, ∀ l ∈ c, (∀ x ∈ c, x ≠ l → Kn kn (-x)) → Kn kn l := by
        intro c hc l hl h
        by_cases hex : ∃ x ∈ c, x ≠ l
        · rcases J.c with ⟨x, hx, _⟩ | q
          · cases hx
          · exact (q c hc l hl hex h).resolve_left (by simp)
        · refine (J.u c hc l ?_).resolve_left (by simp)
          refine strict_uniq (mset_strict c) (by simp) fun x => ?_
          rw [mem_mset, List.mem_singleton]
          exact ⟨fun h => Classical.byContradiction fun n => hex ⟨x, h, n⟩, fun h => h ▸ hl⟩
      have all : ∀ x, Frc cs gs x → Kn kn x := by
        intro x hx
        induction hx with
        | giv h => exact (J.g _ h).resolve_left (by simp)
        | stp hc hl _ ih => exact hcl _ hc _ hl ih
      refine ⟨_, rfl, .inr ⟨?_, _, rfl, sortI_strict J.nd, fun x => mem_sortI.trans ⟨J.k x, all x⟩⟩⟩
      rintro (⟨c, hc, h⟩ | ⟨l, h1, h2⟩)
      · cases hcc : c with
        | nil => exact e (I.em.mpr ⟨c, hc, by rw [hcc]; exact List.length_eq_zero_iff.mp (Nat.le_zero.mp (mset_len []))⟩)
        | cons l t =>
          have hl : l ∈ c := by rw [hcc]; exact .head _
          exact J.no l (hcl c hc l hl fun x hx _ => all _ (h x hx)) (all _ (h l hl))
      · exact J.no l (all _ h1) (all _ h2)
end
end G

namespace G
open PySem PySem.Spec PyProof.Rows L2

/-! ## the closure by rounds over all clauses -/
structure LInv (cs : List (List Int)) (gs : List Int) (kn : List (Int × Bool)) : Prop where
  k : ∀ x, Kn kn x → Frc cs gs x
  nd : (kn.map (·.1)).Nodup
  g : ∀ x ∈ gs, Kn kn x
theorem kn_put {kn : List (Int × Bool)} {l x : Int} : Kn (mput kn l true) x ↔ Kn kn x ∨ x = l := by
  rw [← kn_some, ← kn_some, mget_put]
  by_cases c : l = x
  · simp [c]
  · rw [if_neg c]
    constructor
    · exact .inl
    · rintro (h | h)
      · exact h
      · exact (c h.symm).elim
theorem put_nd {kn : List (Int × Bool)} {l : Int} (h : (kn.map (·.1)).Nodup) : ((mput kn l true).map (·.1)).Nodup := by
  unfold mput
  split
  · rw [List.map_map]
    have : ((fun p : Int × Bool => p.1) ∘ fun p => if p.1 = l then (p.1, true) else p) = fun p => p.1 := by
      funext p
      simp only [Function.comp]
      split <;> rfl
    rw [this]
    exact h
  · rename_i hn
    rw [List.map_append]
    refine List.nodup_append.mpr ⟨h, by simp, fun a ha b hb => ?_⟩
    have : b = l := by simpa using hb
    subst this
    rintro rfl
    obtain ⟨p, hp, e⟩ := List.mem_map.mp ha
    exact hn (List.any_eq_true.mpr ⟨p, hp, decide_eq_true e⟩)
theorem put_len_new {kn : List (Int × Bool)} {l : Int} (h : ¬ Kn kn l) : (mput kn l true).length = kn.length + 1 := by
  rw [mget_put_new (mget_none.mpr h)]; simp
theorem put_len_old {kn : List (Int × Bool)} {l : Int} (h : Kn kn l) : (mput kn l true).length = kn.length := by
  unfold mput
  obtain ⟨p, hp, e⟩ := List.mem_map.mp h
  rw [if_pos (List.any_eq_true.mpr ⟨p, hp, decide_eq_true e⟩), List.length_map]
def Closed (S : Int → Prop) (c : List Int) : Prop := ∃ l ∈ c, ¬ S (-l) ∧ ((∀ x ∈ c, ¬ S (-x) → x = l) → S l)
section
variable {cs : List (List Int)} {gs : List Int} {U : List Int}
theorem forced_g : ∀ (ls : List Int) (kn : List (Int × Bool)), (kn.map (·.1)).Nodup → kn.length + ls.length < 16777216 → ∃ kn', m_law_forced_l1 ls kn = some kn' ∧ (kn'.map (·.1)).Nodup ∧ ∀ x, Kn kn' x ↔ Kn kn x ∨ x ∈ ls
  | [], kn, nd, _ => ⟨kn, rfl, nd, fun x => by simp⟩
  | l :: ls, kn, nd, h => by
    have h' : kn.length + (ls.length + 1) < 16777216 := h
    have := mput_len (xs := kn) (k := l) (x := true)
    obtain ⟨kn', h1, h2, h3⟩ := forced_g ls (mput kn l true) (put_nd nd) (by omega)
    refine ⟨kn', ?_, h2, fun x => ?_⟩
    · rw [m_law_forced_l1, grd_t (decide_eq_true (by omega))]; exact h1
    · rw [h3, kn_put, List.mem_cons]
      constructor
      · rintro ((h | h) | h)
        · exact .inl h
        · exact .inr (.inl h)
        · exact .inr (.inr h)
      · rintro (h | h | h)
        · exact .inl (.inl h)
        · exact .inl (.inr h)
        · exact .inr h
theorem LInv.len (hU : ∀ x, Frc cs gs x → x ∈ U) {kn : List (Int × Bool)} (J : LInv cs gs kn) : kn.length ≤ U.length := by
  have := nodup_sub J.nd fun x hx => hU x (J.k x hx)
  rwa [List.length_map] at this
theorem round_l3 (hU : ∀ x, Frc cs gs x → x ∈ U) (hU2 : U.length < 1000000) : ∀ (ds : List (List Int)) (kn : List (Int × Bool)), (∀ c ∈ ds, c ∈ cs ∧ c.length < 16777216) → LInv cs gs kn →
    ∃ r, m_law_forced_l3 ds kn = some r ∧ ((r = .ret none ∧ Cnf cs gs) ∨ ∃ kn', r = .done kn' ∧ LInv cs gs kn' ∧ (∀ x, Kn kn x → Kn kn' x) ∧ kn.length ≤ kn'.length ∧ (kn'.length = kn.length → (∀ x, Kn kn' x → Kn kn x) ∧ ∀ c ∈ ds, Closed (Kn kn) c))
  | [], kn, _, J => ⟨_, rfl, .inr ⟨kn, rfl, J, fun _ h => h, Nat.le_refl _, fun _ => ⟨fun _ h => h, by simp⟩⟩⟩
  | c :: ds, kn, h, J => by
    obtain ⟨hc, hcl⟩ := h c (.head _)
    have hl := J.len hU
    rw [m_law_forced_l3, grd_t (decide_eq_true hcl)]
    generalize hleft : ((c.filter fun x107 => (!(mget kn ((0 : Int) - x107)).isSome)).map fun x107 => x107) = left
    have hleft' : left = c.filter fun x => !(mget kn (-x)).isSome := by
      rw [← hleft, List.map_id']
      simp only [Int.zero_sub]
    have mleft : ∀ x, x ∈ left ↔ x ∈ c ∧ ¬ Kn kn (-x) := by
      intro x
      rw [hleft', List.mem_filter]
      constructor
      · rintro ⟨h1, h2⟩
        exact ⟨h1, fun q => by rw [kn_some.mpr q] at h2; cases h2⟩
      · rintro ⟨h1, h2⟩
        refine ⟨h1, ?_⟩
        cases q : (mget kn (-x)).isSome with
        | false => rfl
        | true => exact (h2 (kn_some.mp q)).elim
    cases hL : left with
    | nil =>
      rw [if_pos (by simp)]
      refine ⟨_, rfl, .inl ⟨rfl, .inl ⟨c, hc, fun x hx => J.k _ (Classical.byContradiction fun n => ?_)⟩⟩⟩
      have := (mleft x).mpr ⟨hx, n⟩
      rw [hL] at this
      cases this
    | cons l0 lt =>
      rw [if_neg (by simp)]
      have hlm : l0 ∈ left := by rw [hL]; exact .head _
      obtain ⟨l0c, l0n⟩ := (mleft l0).mp hlm
      have hlen : (l0 :: lt).length < 16777216 := by
        rw [← hL, hleft']
        exact Nat.lt_of_le_of_lt (List.length_filter_le _ _) hcl
      rw [grd_t (decide_eq_true hlen)]
      have hlc : lcO (fun x141 => (atI (l0 :: lt) (0 : Int)).bind fun y160 => if (!decide (x141 = y160)) = true then (some (some x141)) else some none) (l0 :: lt) = some ((l0 :: lt).filter fun x => !decide (x = l0)) := by
        rw [show (fun x141 : Int => (atI (l0 :: lt) (0 : Int)).bind fun y160 => if (!decide (x141 = y160)) = true then (some (some x141)) else some none) = fun x => if (!decide (x = l0)) = true then some (some x) else some none from funext fun x => by rw [bs (x := l0) (by rw [atI_of (by omega)]; rfl)]]
        rw [lc_filter (fun x => !decide (x = l0)) fun x => x, List.map_id']
      rw [bs hlc]
      by_cases q : ((l0 :: lt).filter fun x => !decide (x = l0)) = []
      · rw [if_pos (decide_eq_true q), bs (x := l0) (by rw [atI_of (by omega)]; rfl), grd_t (decide_eq_true (by omega))]
        have alle : ∀ x ∈ c, ¬ Kn kn (-x) → x = l0 := by
          intro x hx n
          have := (mleft x).mpr ⟨hx, n⟩
          rw [hL] at this
          have h2 := List.filter_eq_nil_iff.mp q x this
          simpa using h2
        have fl0 : Frc cs gs l0 := .stp hc l0c fun x hx ne => J.k _ (Classical.byContradiction fun n => ne (alle x hx n))
        have J1 : LInv cs gs (mput kn l0 true) := ⟨fun x hx => (kn_put.mp hx).elim (J.k x) fun e => e ▸ fl0, put_nd J.nd, fun x hx => kn_put.mpr (.inl (J.g x hx))⟩
        obtain ⟨r, r1, r2⟩ := round_l3 hU hU2 ds (mput kn l0 true) (fun d hd => h d (.tail _ hd)) J1
        refine ⟨r, r1, ?_⟩
        rcases r2 with r2 | ⟨kn', e, K, k1, k2, k3⟩
        · exact .inl r2
        · have hge := mput_len_ge (xs := kn) (k := l0) (x := true)
          refine .inr ⟨kn', e, K, fun x hx => k1 x (kn_put.mpr (.inl hx)), by omega, fun hq => ?_⟩
          have kl : Kn kn l0 := Classical.byContradiction fun n => by
            have := put_len_new n
            omega
          have heq : Kn (mput kn l0 true) = Kn kn := funext fun x => propext ⟨fun h => (kn_put.mp h).elim id fun e => e ▸ kl, fun h => kn_put.mpr (.inl h)⟩
          obtain ⟨s1, s2⟩ := k3 (by rw [put_len_old kl]; exact hq)
          rw [heq] at s1 s2
          refine ⟨s1, fun d hd => ?_⟩
          rcases List.mem_cons.mp hd with rfl | hd
          · exact ⟨l0, l0c, l0n, fun _ => kl⟩
          · exact s2 d hd
      · rw [if_neg (by simpa using q)]
        obtain ⟨r, r1, r2⟩ := round_l3 hU hU2 ds kn (fun d hd => h d (.tail _ hd)) J
        refine ⟨r, r1, ?_⟩
        rcases r2 with r2 | ⟨kn', e, K, k1, k2, k3⟩
        · exact .inl r2
        · refine .inr ⟨kn', e, K, k1, k2, fun hq => ?_⟩
          obtain ⟨s1, s2⟩ := k3 hq
          refine ⟨s1, fun d hd => ?_⟩
          rcases List.mem_cons.mp hd with rfl | hd
          · refine ⟨l0, l0c, l0n, fun hall => (q (List.filter_eq_nil_iff.mpr fun x hx => ?_)).elim⟩
            rw [← hL] at hx
            have := (mleft x).mp hx
            simpa using hall x this.1 this.2
          · exact s2 d hd
theorem rounds_l2 (hU : ∀ x, Frc cs gs x → x ∈ U) (hU2 : U.length < 1000000) (hc : ∀ c ∈ cs, c.length < 16777216) : ∀ (ks : List Int) (kn : List (Int × Bool)), LInv cs gs kn → U.length < kn.length + ks.length →
    ∃ r, m_law_forced_l2 cs ks kn = some r ∧ ((r = .ret none ∧ Cnf cs gs) ∨ ∃ kn', r = .done kn' ∧ LInv cs gs kn' ∧ ∀ c ∈ cs, Closed (Kn kn') c)
  | [], kn, J, h => by
    have := J.len hU
    simp at h
    omega
  | k :: ks, kn, J, h => by
    have h' : U.length < kn.length + (ks.length + 1) := h
    obtain ⟨r, r1, r2⟩ := round_l3 hU hU2 cs kn (fun c q => ⟨q, hc c q⟩) J
    rw [m_law_forced_l2, bs r1]
    rcases r2 with ⟨rfl, r2⟩ | ⟨kn', rfl, K, k1, k2, k3⟩
    · exact ⟨_, rfl, .inl ⟨rfl, r2⟩⟩
    · dsimp only
      by_cases e : kn'.length = kn.length
      · rw [if_pos (decide_eq_true (by omega))]
        obtain ⟨s1, s2⟩ := k3 e
        have heq : Kn kn = Kn kn' := funext fun x => propext ⟨k1 x, s1 x⟩
        rw [heq] at s2
        exact ⟨_, rfl, .inr ⟨kn', rfl, K, s2⟩⟩
      · rw [if_neg (by simp; omega)]
        exact rounds_l2 hU hU2 hc ks kn' K (by omega)
theorem clash_l4 (kn : List (Int × Bool)) : ∀ ls : List Int, m_law_forced_l4 kn ls () = some (if ∃ l ∈ ls, Kn kn (-l) then .ret none else .done ())
  | [] => by simp [m_law_forced_l4]
  | l :: ls => by
    rw [m_law_forced_l4, Int.zero_sub]
    by_cases c : Kn kn (-l)
    · rw [if_pos (kn_some.mpr c), if_pos ⟨l, .head _, c⟩]
    · rw [if_neg (fun q => c (kn_some.mp q)), clash_l4 kn ls]
      by_cases d : ∃ l ∈ ls, Kn kn (-l)
      · obtain ⟨x, hx, hk⟩ := d
        rw [if_pos ⟨x, hx, hk⟩, if_pos ⟨x, .tail _ hx, hk⟩]
      · rw [if_neg d, if_neg]
        rintro ⟨x, hx, hk⟩
        rcases List.mem_cons.mp hx with rfl | hx
        · exact c hk
        · exact d ⟨x, hx, hk⟩
theorem law_forced_ok (hU : ∀ x, Frc cs gs x → x ∈ U) (hU2 : U.length < 100) (hc : ∀ c ∈ cs, c.length < 16777216) (hg : gs.length < 16777216) : ∃ r, m_law_forced cs gs = some r ∧ Out cs gs r := by
  unfold m_law_forced
  obtain ⟨kn, g1, g2, g3⟩ := forced_g gs [] List.nodup_nil (by simpa using hg)
  have J0 : LInv cs gs kn := ⟨fun x hx => ((g3 x).mp hx).elim (fun h => by cases h) .giv, g2, fun x hx => (g3 x).mpr (.inr hx)⟩
  obtain ⟨r, r1, r2⟩ := rounds_l2 hU (by omega) hc (pyRange 0 (100 : Int).toNat) kn J0 (by rw [pyRange_len]; omega)
  rw [bs g1, bs r1]
  rcases r2 with ⟨rfl, r2⟩ | ⟨kn', rfl, K, hcl⟩
  · exact ⟨none, rfl, .inl ⟨r2, rfl⟩⟩
  · have hlen := K.len hU
    have all : ∀ x, Frc cs gs x → Kn kn' x := by
      intro x hx
      induction hx with
      | giv h => exact K.g _ h
      | stp hc hl _ ih =>
        obtain ⟨m, m1, m2, m3⟩ := hcl _ hc
        have : m = _ := Classical.byContradiction fun ne => m2 (ih m m1 ne)
        subst this
        exact m3 fun x hx n => Classical.byContradiction fun ne => n (ih x hx ne)
    dsimp only
    rw [bs (clash_l4 kn' _)]
    by_cases c : ∃ l ∈ kn'.map (fun (q : Int × Bool) => q.1), Kn kn' (-l)
    · rw [if_pos c]
      obtain ⟨l, h1, h2⟩ := c
      exact ⟨none, rfl, .inl ⟨.inr ⟨l, K.k l h1, K.k _ h2⟩, rfl⟩⟩
    · rw [if_neg c]
      dsimp only
      rw [grd_t (decide_eq_true (by rw [List.length_map]; omega)), List.map_id']
      refine ⟨_, rfl, .inr ⟨?_, _, rfl, sortI_strict K.nd, fun x => mem_sortI.trans ⟨K.k x, all x⟩⟩⟩
      rintro (⟨d, hd, h⟩ | ⟨l, h1, h2⟩)
      · obtain ⟨m, m1, m2, _⟩ := hcl d hd
        exact m2 (all _ (h m m1))
      · exact c ⟨l, all _ h1, all _ h2⟩
end
end G

namespace G
open PySem PySem.Spec PyProof.Rows L2

/-! ## letters, literals -/
/-- a literal of the letters -/
def Lit (ls : List Int) (x : Int) : Prop := x ∈ ls ∨ -x ∈ ls
structure Ltr (ls : List Int) : Prop where
  lo : 1 ≤ ls.length
  hi : ls.length ≤ 6
  nz : ∀ x ∈ ls, 1 ≤ x ∧ x ≤ 999999
theorem Lit.neg {ls : List Int} {x : Int} (h : Lit ls x) : Lit ls (-x) := h.elim (fun h => .inr (by rw [Int.neg_neg]; exact h)) .inl
theorem Lit.nz {ls : List Int} (L : Ltr ls) {x : Int} (h : Lit ls x) : x ≠ 0 := by
  rcases h with h | h
  · have := L.nz x h; omega
  · have := L.nz _ h; omega
theorem letter_ok (ns src : List Int) (h : Src src) : ∃ x src', m_law_letter ns src = some (x, src') ∧ Src src' ∧ 1 ≤ x ∧ x ≤ 999999 := by
  obtain ⟨d, src1, t1, t2, t3, t4⟩ := take_ok ns src 8 h (by decide) (by decide)
  unfold m_law_letter
  rw [bs t1]
  by_cases c : d = 7
  · obtain ⟨e, src2, u1, u2, u3, u4⟩ := take_ok ns src1 3 t4 (by decide) (by decide)
    rw [if_pos (decide_eq_true c), bs u1]
    exact ⟨_, _, rfl, u4, by show 1 ≤ 999999 - e; omega, by show 999999 - e ≤ 999999; omega⟩
  · rw [if_neg (by simpa using c)]
    by_cases c2 : d > 2
    · obtain ⟨e, src2, u1, u2, u3, u4⟩ := take_ok ns src1 9 t4 (by decide) (by decide)
      rw [if_pos (decide_eq_true c2), bs u1]
      exact ⟨_, _, rfl, u4, by show 1 ≤ 1 + e; omega, by show 1 + e ≤ 999999; omega⟩
    · rw [if_neg (by simpa using c2)]
      have cases3 : d = 0 ∨ d = 1 ∨ d = 2 := by omega
      rcases cases3 with rfl | rfl | rfl
      · obtain ⟨e, src2, u1, u2, u3, u4⟩ := take_ok ns src1 90 t4 (by decide) (by decide)
        rw [bs (show atI ([(10 : Int), (100 : Int), (100000 : Int)] : List Int) 0 = some 10 from rfl), bs (show atI ([(90 : Int), (9900 : Int), (899997 : Int)] : List Int) 0 = some 90 from rfl), bs u1]
        exact ⟨_, _, rfl, u4, by show 1 ≤ 10 + e; omega, by show 10 + e ≤ 999999; omega⟩
      · obtain ⟨e, src2, u1, u2, u3, u4⟩ := take_ok ns src1 9900 t4 (by decide) (by decide)
        rw [bs (show atI ([(10 : Int), (100 : Int), (100000 : Int)] : List Int) 1 = some 100 from rfl), bs (show atI ([(90 : Int), (9900 : Int), (899997 : Int)] : List Int) 1 = some 9900 from rfl), bs u1]
        exact ⟨_, _, rfl, u4, by show 1 ≤ 100 + e; omega, by show 100 + e ≤ 999999; omega⟩
      · obtain ⟨e, src2, u1, u2, u3, u4⟩ := take_ok ns src1 899997 t4 (by decide) (by decide)
        rw [bs (show atI ([(10 : Int), (100 : Int), (100000 : Int)] : List Int) 2 = some 100000 from rfl), bs (show atI ([(90 : Int), (9900 : Int), (899997 : Int)] : List Int) 2 = some 899997 from rfl), bs u1]
        exact ⟨_, _, rfl, u4, by show 1 ≤ 100000 + e; omega, by show 100000 + e ≤ 999999; omega⟩
/-- the letters behind x, in a ring -/
def orb (x : Int) (j : Nat) : Int := (x - 1 + j) % 999999 + 1
theorem orb0 {x : Int} (h1 : 1 ≤ x) (h2 : x ≤ 999999) : orb x 0 = x := by unfold orb; omega
theorem orb_succ (x : Int) (j : Nat) : orb (x % 999999 + 1) j = orb x (j + 1) := by unfold orb; omega
theorem orb_in (x : Int) (j : Nat) : 1 ≤ orb x j ∧ orb x j ≤ 999999 := by unfold orb; omega
theorem least {p : Nat → Prop} : ∀ (n : Nat), p n → ∃ j, j ≤ n ∧ p j ∧ ∀ i, i < j → ¬ p i := by
  intro n
  induction n using Nat.strongRecOn with
  | ind n ih =>
    intro h
    by_cases c : ∃ i, i < n ∧ p i
    · obtain ⟨i, hi, pi⟩ := c
      obtain ⟨j, h1, h2⟩ := ih i hi pi
      exact ⟨j, by omega, h2⟩
    · exact ⟨n, Nat.le_refl _, h, fun i hi pi => c ⟨i, hi, pi⟩⟩
theorem letters_l2 {acc src : List Int} : ∀ (j : Nat) (x : Int) (f : Nat), j < f → 1 ≤ x → x ≤ 999999 → (∀ i, i < j → ¬ ¬ orb x i ∈ acc) → ¬ orb x j ∈ acc → m_law_letters_l2 (acc, src) f x = some (orb x j)
  | 0, x, f + 1, _, h1, h2, _, hn => by
    rw [orb0 h1 h2] at hn ⊢
    rw [m_law_letters_l2, if_neg (by simpa using hn)]
  | j + 1, x, f + 1, hf, h1, h2, hi, hn => by
    have h0 := Classical.not_not.mp (hi 0 (Nat.succ_pos j))
    rw [orb0 h1 h2] at h0
    rw [m_law_letters_l2, if_pos (by simpa using h0), ← orb_succ]
    rw [← orb_succ] at hn
    exact letters_l2 j _ f (by omega) (by omega) (by omega) (fun i q => by rw [orb_succ]; exact hi (i + 1) (by omega)) hn
theorem fuel_big : 1000 < fuel := by unfold fuel; omega
theorem letters_l1 {ns : List Int} : ∀ (ks acc src : List Int), Src src → (∀ x ∈ acc, 1 ≤ x ∧ x ≤ 999999) → acc.length + ks.length ≤ 6 →
    ∃ ls src', m_law_letters_l1 ns ks (acc, src) = some (ls, src') ∧ Src src' ∧ (∀ x ∈ ls, 1 ≤ x ∧ x ≤ 999999) ∧ ls.length = acc.length + ks.length
  | [], acc, src, hs, ha, _ => ⟨acc, src, rfl, hs, ha, rfl⟩
  | k :: ks, acc, src, hs, ha, hl => by
    have hl' : acc.length + (ks.length + 1) ≤ 6 := hl
    obtain ⟨x, src1, t1, t2, t3, t4⟩ := letter_ok ns src hs
    have ex : ∃ j, j ≤ acc.length ∧ ¬ orb x j ∈ acc := by
      refine Classical.byContradiction fun hn => ?_
      have all : ∀ j, j ≤ acc.length → orb x j ∈ acc := fun j hj => Classical.byContradiction fun q => hn ⟨j, hj, q⟩
      have nd : ((List.range (acc.length + 1)).map (orb x)).Nodup := by
        unfold List.Nodup
        rw [List.pairwise_map]
        refine List.Pairwise.imp_of_mem (fun {a b} ha' hb' hab => ?_) (List.nodup_range (n := acc.length + 1))
        have h1 := List.mem_range.mp ha'
        have h2 := List.mem_range.mp hb'
        unfold orb
        omega
      have := nodup_sub nd fun y hy => by
        obtain ⟨j, hj, rfl⟩ := List.mem_map.mp hy
        exact all j (by have := List.mem_range.mp hj; omega)
      rw [List.length_map, List.length_range] at this
      omega
    obtain ⟨n, hn, hn2⟩ := ex
    obtain ⟨j, hj, hj2, hj3⟩ := least (p := fun j => ¬ orb x j ∈ acc) n hn2
    have e := letters_l2 (acc := acc) (src := src) j x fuel (by have := fuel_big; omega) t3 t4 hj3 hj2
    obtain ⟨ls, src', g1, g2, g3, g4⟩ := letters_l1 ks (acc ++ [orb x j]) src1 t2 (fun y hy => by
      rcases List.mem_append.mp hy with h | h
      · exact ha y h
      · rw [List.mem_singleton.mp h]; exact orb_in x j) (by simp; omega)
    refine ⟨ls, src', ?_, g2, g3, by rw [g4]; simp; omega⟩
    rw [m_law_letters_l1, bs t1]
    rw [bs e, grd_t (decide_eq_true (by show acc.length < _; omega))]
    exact g1
theorem letters_ok (ns src : List Int) (n : Int) (h : Src src) (h1 : 1 ≤ n) (h2 : n ≤ 6) : ∃ ls src', m_law_letters ns src n = some (ls, src') ∧ Src src' ∧ Ltr ls := by
  obtain ⟨ls, src', g1, g2, g3, g4⟩ := letters_l1 (ns := ns) (pyRange 0 n.toNat) [] src h (by simp) (by rw [pyRange_len]; simp; omega)
  rw [pyRange_len] at g4
  unfold m_law_letters
  rw [grd_t (rngOk_t (by omega) (by omega)), bs g1]
  have e4 : ls.length = n.toNat := by simpa using g4
  exact ⟨_, _, rfl, g2, by show 1 ≤ ls.length; omega, by show ls.length ≤ 6; omega, g3⟩
section
variable {ns : List Int} {ls : List Int} (L : Ltr ls)
include L
theorem literal_ok (src : List Int) (h : Src src) : ∃ x src', m_law_literal ns src ls = some (x, src') ∧ Src src' ∧ Lit ls x := by
  have h1 := L.lo
  have h2 := L.hi
  obtain ⟨d, src1, t1, t2, t3, t4⟩ := take_ok ns src (ls.length : Int) h (by omega) (by omega)
  obtain ⟨x, e1, e2, _⟩ := atI_lt t2 t3
  obtain ⟨d2, src2, u1, u2, u3, u4⟩ := take_ok ns src1 2 t4 (by decide) (by decide)
  unfold m_law_literal
  rw [bs t1, bs e1, bs u1]
  by_cases c : d2 = 1
  · rw [if_pos (decide_eq_true c)]
    exact ⟨_, _, rfl, u4, .inr (by rw [Int.zero_sub, Int.neg_neg]; exact e2)⟩
  · rw [if_neg (by simpa using c)]
    exact ⟨_, _, rfl, u4, .inl e2⟩
end
/-- a clause: no more than n literals -/
def Cl (ls : List Int) (n : Nat) (c : List Int) : Prop := c.length ≤ n ∧ ∀ x ∈ c, Lit ls x
theorem Cl.mono {ls : List Int} {n m : Nat} {c : List Int} (h : Cl ls n c) (e : n ≤ m) : Cl ls m c := ⟨Nat.le_trans h.1 e, h.2⟩
theorem Cl.nil {ls : List Int} {n : Nat} : Cl ls n [] := ⟨Nat.zero_le _, by simp⟩
theorem Cl.app {ls : List Int} {n m : Nat} {c d : List Int} (h : Cl ls n c) (g : Cl ls m d) : Cl ls (n + m) (c ++ d) := ⟨by rw [List.length_append]; have := h.1; have := g.1; omega, fun x hx => (List.mem_append.mp hx).elim (h.2 x) (g.2 x)⟩
theorem Cl.one {ls : List Int} {x : Int} (h : Lit ls x) : Cl ls 1 [x] := ⟨Nat.le_refl _, fun y hy => by rw [List.mem_singleton.mp hy]; exact h⟩

/-! ## the splits -/
structure SInv (ls : List Int) (nd cl : List (List Int)) (k : Nat) : Prop where
  c1 : 1 ≤ cl.length
  c2 : cl.length ≤ k + 1
  n2 : nd.length ≤ k
  lc : ∀ c ∈ cl, Cl ls k c
  ln : ∀ c ∈ nd, Cl ls k c
  root : (nd = [] ∧ cl = [[]]) ∨ nd[0]? = some []
  kids : ∀ (i : Nat) (c : List Int), nd[i]? = some c → ∃ x : Int, ∀ y : Int, (y = x ∨ y = -x) → (c ++ [y] ∈ cl ∨ ∃ j, i < j ∧ nd[j]? = some (c ++ [y]))
theorem mem_setL {α : Type} {xs : List α} {j : Nat} {x y z : α} (hj : xs[j]? = some z) (h : y ∈ xs) : y ∈ xs.set j x ∨ y = z := by
  obtain ⟨i, hi⟩ := List.mem_iff_getElem?.mp h
  by_cases e : j = i
  · subst e
    rw [hj] at hi
    exact .inr (Option.some.inj hi).symm
  · refine .inl (List.mem_iff_getElem?.mpr ⟨i, ?_⟩)
    rw [List.getElem?_set_ne e]; exact hi
theorem set_self {α : Type} {xs : List α} {j : Nat} {x z : α} (hj : xs[j]? = some z) : x ∈ xs.set j x := by
  have lt := (List.getElem?_eq_some_iff.mp hj).1
  exact List.mem_iff_getElem?.mpr ⟨j, by rw [List.getElem?_set_self lt]⟩
theorem SInv.step {ls : List Int} {nd cl : List (List Int)} {k : Nat} (I : SInv ls nd cl k) {j : Nat} {c : List Int} {x : Int} (hj : cl[j]? = some c) (hx : Lit ls x) : SInv ls (nd ++ [c]) (cl.set j (c ++ [x]) ++ [c ++ [0 - x]]) (k + 1) := by
  have hc := I.lc c (List.mem_of_getElem? hj)
  have e0 : (0 : Int) - x = -x := Int.zero_sub x
  refine ⟨by simp, by have := I.c2; simp; omega, by have := I.n2; simp; omega, fun d hd => ?_, fun d hd => ?_, .inr ?_, fun i d hi => ?_⟩
  · rcases List.mem_append.mp hd with z | z
    · rcases List.mem_or_eq_of_mem_set z with z | z
      · exact (I.lc d z).mono (by omega)
      · rw [z]; exact hc.app (.one hx)
    · rw [List.mem_singleton.mp z, e0]; exact hc.app (.one hx.neg)
  · rcases List.mem_append.mp hd with z | z
    · exact (I.ln d z).mono (by omega)
    · rw [List.mem_singleton.mp z]; exact hc.mono (by omega)
  · rcases I.root with ⟨h1, h2⟩ | h
    · subst h1
      rw [h2] at hj
      cases j with
      | zero => cases hj; rfl
      | succ j => cases hj
    · have lt := (List.getElem?_eq_some_iff.mp h).1
      rw [List.getElem?_append_left lt]; exact h
  · by_cases lt : i < nd.length
    · rw [List.getElem?_append_left lt] at hi
      obtain ⟨y, hy⟩ := I.kids i d hi
      refine ⟨y, fun z hz => ?_⟩
      rcases hy z hz with q | ⟨m, hm, q⟩
      · rcases mem_setL (x := c ++ [x]) hj q with q | q
        · exact .inl (List.mem_append_left _ q)
        · exact .inr ⟨nd.length, lt, by rw [q]; simp⟩
      · have lm := (List.getElem?_eq_some_iff.mp q).1
        exact .inr ⟨m, hm, by rw [List.getElem?_append_left lm]; exact q⟩
    · have li := (List.getElem?_eq_some_iff.mp hi).1
      rw [List.length_append, List.length_singleton] at li
      have ei : i = nd.length := by omega
      subst ei
      rw [List.getElem?_append_right (Nat.le_refl _), Nat.sub_self] at hi
      cases hi
      refine ⟨x, fun z hz => .inl ?_⟩
      rcases hz with rfl | rfl
      · exact List.mem_append_left _ (set_self hj)
      · exact List.mem_append_right _ (List.mem_singleton.mpr (by rw [e0]))
theorem split_l1 {ns ls : List Int} (L : Ltr ls) : ∀ (ks : List Int) (nd cl : List (List Int)) (src : List Int) (k : Nat), SInv ls nd cl k → Src src → k + ks.length ≤ 15 →
    ∃ nd' cl' src', m_law_split_l1 ns ls ks (nd, cl, src) = some (nd', cl', src') ∧ SInv ls nd' cl' (k + ks.length) ∧ Src src'
  | [], nd, cl, src, k, I, hs, _ => ⟨nd, cl, src, rfl, I, hs⟩
  | x0 :: ks, nd, cl, src, k, I, hs, hk => by
    have hk' : k + (ks.length + 1) ≤ 15 := hk
    have h1 := I.c1
    have h2 := I.c2
    have h3 := I.n2
    have hls := L.hi
    obtain ⟨d, src1, t1, t2, t3, t4⟩ := take_ok ns src (cl.length : Int) hs (by omega) (by omega)
    obtain ⟨c, e1, e2, e3⟩ := atI_lt t2 t3
    have hc := (I.lc c e2).1
    rw [m_law_split_l1, bs t1, bs e1, grd_t (decide_eq_true (by omega))]
    generalize hF : ((ls.filter fun x108 => ((!decide (x108 ∈ c)) && (!decide (((0 : Int) - x108) ∈ c)))).map fun x108 => x108) = F
    have sub : ∀ y ∈ F, y ∈ ls := fun y hy => by
      rw [← hF] at hy
      obtain ⟨z, hz, rfl⟩ := List.mem_map.mp hy
      exact (List.mem_filter.mp hz).1
    have lF : F.length ≤ ls.length := by
      rw [← hF, List.length_map]; exact List.length_filter_le _ _
    have up : ∀ {nd' cl' : List (List Int)}, SInv ls nd' cl' (k + 1) → ∀ src', Src src' → ∃ nd2 cl2 src2, m_law_split_l1 ns ls ks (nd', cl', src') = some (nd2, cl2, src2) ∧ SInv ls nd2 cl2 (k + (ks.length + 1)) ∧ Src src2 := fun {nd' cl'} I' src' hs' => by
      obtain ⟨nd2, cl2, src2, g1, g2, g3⟩ := split_l1 L ks nd' cl' src' (k + 1) I' hs' (by omega)
      exact ⟨nd2, cl2, src2, g1, by have e : k + 1 + ks.length = k + (ks.length + 1) := by omega
                                    rw [e] at g2; exact g2, g3⟩
    by_cases em : F = []
    · rw [if_neg (by simp [em])]
      have I' : SInv ls nd cl (k + 1) := ⟨I.c1, by omega, by omega, fun c h => (I.lc c h).mono (by omega), fun c h => (I.ln c h).mono (by omega), I.root, I.kids⟩
      exact up I' src1 t4
    · rw [if_pos (by simp [em])]
      have lp : 1 ≤ F.length := by
        cases F with
        | nil => exact (em rfl).elim
        | cons a b => simp
      obtain ⟨e, src2, u1, u2, u3, u4⟩ := take_ok ns src1 (F.length : Int) t4 (by omega) (by omega)
      obtain ⟨x, f1, f2, _⟩ := atI_lt u2 u3
      have lx : Lit ls x := .inl (sub x f2)
      rw [bs u1, bs f1, grd_t (decide_eq_true (by show nd.length < _; omega)), grd_t (decide_eq_true (by simp; omega)), bs (ixN_of t2 t3), grd_t (decide_eq_true (by simp; omega)), grd_t (decide_eq_true (by rw [List.length_set]; show cl.length < _; omega))]
      exact up (I.step e3 lx) src2 u4
theorem lcO_map {α β : Type} {f : α → Option (Option β)} {g : α → β} : ∀ {xs : List α}, (∀ x ∈ xs, f x = some (some (g x))) → lcO f xs = some (xs.map g)
  | [], _ => rfl
  | x :: t, h => by
    have e2 : lcO f (x :: t) = ((f x).bind fun y => (lcO f t).bind fun r => some (match y with | none => r | some b => b :: r)) := rfl
    rw [e2, bs (h x (.head _)), bs (lcO_map fun y hy => h y (.tail _ hy))]
    rfl
theorem rev_ok (nd : List (List Int)) : lcO (fun x202 => (atI nd (((nd.length : Int) - (1 : Int)) - x202)).bind fun y221 => some (some y221)) (pyRange 0 (nd.length : Int).toNat) = some nd.reverse := by
  rw [lcO_map (g := fun x => nd.getD (((nd.length : Int) - 1) - x).toNat []) fun x hx => ?_]
  · congr 1
    refine List.ext_getElem? fun i => ?_
    rw [List.getElem?_map]
    by_cases hi : i < nd.length
    · rw [pyRange_get (by omega), List.getElem?_reverse hi, Option.map_some]
      have e : ((nd.length : Int) - 1 - (0 + (i : Int))).toNat = nd.length - 1 - i := by omega
      rw [e, List.getD_eq_getElem?_getD, List.getElem?_eq_getElem (by omega)]
      rfl
    · rw [List.getElem?_eq_none (by rw [pyRange_len]; omega), List.getElem?_eq_none (by rw [List.length_reverse]; omega)]
      rfl
  · have hx' := mem_pyRange.mp hx
    obtain ⟨y, h1, _, h3⟩ := atI_lt (xs := nd) (i := (nd.length : Int) - 1 - x) (by omega) (by omega)
    rw [bs h1, List.getD_eq_getElem?_getD, h3]
    rfl
/-- what the splits give: clauses, a log that refutes them -/
structure SOut (ls : List Int) (cl log : List (List Int)) : Prop where
  c1 : 1 ≤ cl.length
  c2 : cl.length ≤ 16
  l1 : 1 ≤ log.length
  l2 : log.length ≤ 15
  lc : ∀ c ∈ cl, Cl ls 15 c
  ll : ∀ c ∈ log, Cl ls 15 c
  last : log[log.length - 1]? = some []
  fol : ∀ i c, log[i]? = some c → Cnf (cl ++ log.take i) (c.map fun x => -x)
theorem kid_frc {cs : List (List Int)} {c : List Int} {y : Int} (h : c ++ [y] ∈ cs) : Frc cs (c.map fun x => -x) y := by
  refine .stp h (List.mem_append_right _ (List.mem_singleton.mpr rfl)) fun x hx ne => .giv ?_
  rcases List.mem_append.mp hx with z | z
  · exact List.mem_map.mpr ⟨x, z, rfl⟩
  · exact (ne (List.mem_singleton.mp z)).elim
theorem split_ok (ns src ls : List Int) (n : Int) (L : Ltr ls) (hs : Src src) (h0 : 0 ≤ n) (h1 : n ≤ 15) : ∃ cl log src', m_law_split ns src ls n = some ((cl, log), src') ∧ Src src' ∧ SOut ls cl log := by
  have I0 : SInv ls [] [[]] 0 := ⟨by simp, by simp, by simp, fun c hc => by rw [List.mem_singleton.mp hc]; exact .nil, by simp, .inl ⟨rfl, rfl⟩, fun i c h => by simp at h⟩
  obtain ⟨nd, cl, src', g1, I, g3⟩ := split_l1 (ns := ns) L (pyRange 0 n.toNat) [] [[]] src 0 I0 hs (by rw [pyRange_len]; omega)
  rw [pyRange_len, Nat.zero_add] at I
  have k15 : n.toNat ≤ 15 := by omega
  have c2 := I.c2
  have n2 := I.n2
  unfold m_law_split
  rw [grd_t (rngOk_t (by omega) (by omega)), bs g1]
  rw [grd_t (rngOk_len (by show nd.length < _; omega)), grd_t (decide_eq_true (by rw [pyRange_len]; show (nd.length : Int).toNat < _; omega)), bs (rev_ok nd)]
  have mk : ∀ log : List (List Int), ((nd = [] ∧ log = [[]]) ∨ (nd ≠ [] ∧ log = nd.reverse)) → SOut ls cl log := fun log hlog => by
    rcases hlog with ⟨e1, rfl⟩ | ⟨ne, rfl⟩
    · rcases I.root with ⟨_, e2⟩ | h
      · refine ⟨I.c1, by omega, by simp, by simp, fun c h => (I.lc c h).mono k15, fun c h => by rw [List.mem_singleton.mp h]; exact .nil, rfl, fun i c h => ?_⟩
        cases i with
        | zero =>
          cases h
          exact .inl ⟨[], by rw [e2]; simp, by simp⟩
        | succ i => simp at h
      · rw [e1] at h; cases h
    · have hroot : nd[0]? = some [] := I.root.elim (fun z => (ne z.1).elim) id
      have pos : 0 < nd.length := (List.getElem?_eq_some_iff.mp hroot).1
      refine ⟨I.c1, by omega, by rw [List.length_reverse]; omega, by rw [List.length_reverse]; omega, fun c h => (I.lc c h).mono k15, fun c h => (I.ln c (List.mem_reverse.mp h)).mono k15, ?_, fun i c h => ?_⟩
      · rw [List.length_reverse, List.getElem?_reverse (by omega)]
        have e : nd.length - 1 - (nd.length - 1) = 0 := by omega
        rw [e]; exact hroot
      · have hi : i < nd.length := by
          have := (List.getElem?_eq_some_iff.mp h).1
          rwa [List.length_reverse] at this
        rw [List.getElem?_reverse hi] at h
        obtain ⟨x, hx⟩ := I.kids _ c h
        have inn : ∀ y, (y = x ∨ y = -x) → c ++ [y] ∈ cl ++ nd.reverse.take i := fun y hy => by
          rcases hx y hy with z | ⟨j, hj, z⟩
          · exact List.mem_append_left _ z
          · refine List.mem_append_right _ ?_
            have lj := (List.getElem?_eq_some_iff.mp z).1
            have q : nd.reverse[nd.length - 1 - j]? = some (c ++ [y]) := by
              rw [List.getElem?_reverse (by omega)]
              have e : nd.length - 1 - (nd.length - 1 - j) = j := by omega
              rw [e]; exact z
            refine List.mem_of_getElem? (i := nd.length - 1 - j) ?_
            rw [List.getElem?_take_of_lt (by omega)]
            exact q
        exact .inr ⟨x, kid_frc (inn x (.inl rfl)), kid_frc (inn (-x) (.inr rfl))⟩
  by_cases em : nd = []
  · have er : nd.reverse = [] := by rw [em]; rfl
    rw [if_pos (decide_eq_true er), Option.bind_some]
    exact ⟨_, _, _, rfl, g3, mk _ (.inl ⟨em, rfl⟩)⟩
  · have er : ¬ nd.reverse = [] := fun z => em (List.reverse_eq_nil_iff.mp z)
    rw [if_neg (by simpa using er), Option.bind_some]
    exact ⟨_, _, _, rfl, g3, mk _ (.inr ⟨em, rfl⟩)⟩
/-! ## lines, more clauses -/
section
variable {ns : List Int} {ls : List Int} (L : Ltr ls)
include L
theorem line_l1 : ∀ (ks src acc : List Int), Src src → (∀ x ∈ acc, Lit ls x) → acc.length + ks.length < 1000 → ∃ src' acc', m_law_line_l1 ns ls ks (src, acc) = some (src', acc') ∧ Src src' ∧ (∀ x ∈ acc', Lit ls x) ∧ acc'.length = acc.length + ks.length
  | [], src, acc, hs, ha, _ => ⟨src, acc, rfl, hs, ha, rfl⟩
  | k :: ks, src, acc, hs, ha, hl => by
    have hl' : acc.length + (ks.length + 1) < 1000 := hl
    obtain ⟨x, src1, t1, t2, t3⟩ := literal_ok (ns := ns) L src hs
    obtain ⟨src', acc', g1, g2, g3, g4⟩ := line_l1 ks src1 (acc ++ [x]) t2 (fun y hy => by
      rcases List.mem_append.mp hy with h | h
      · exact ha y h
      · rw [List.mem_singleton.mp h]; exact t3) (by simp; omega)
    refine ⟨src', acc', ?_, g2, g3, by rw [g4]; simp; omega⟩
    rw [m_law_line_l1, bs t1, grd_t (decide_eq_true (by show acc.length < _; omega))]
    exact g1
theorem line_ok (src : List Int) (h : Src src) : ∃ c src', m_law_line ns src ls = some (c, src') ∧ Src src' ∧ Cl ls 3 c := by
  obtain ⟨d, src1, t1, t2, t3, t4⟩ := take_ok ns src 8 h (by decide) (by decide)
  obtain ⟨n, e1, e2, _⟩ := atI_lt (xs := ([(1 : Int), (2 : Int), (0 : Int), (2 : Int), (3 : Int), (1 : Int), (2 : Int), (1 : Int)] : (List Int))) t2 (by simpa using t3)
  have hn : 0 ≤ n ∧ n ≤ 3 := by
    simp only [List.mem_cons, List.not_mem_nil, or_false] at e2
    omega
  obtain ⟨src2, acc, g1, g2, g3, g4⟩ := line_l1 (ns := ns) L (pyRange 0 n.toNat) src1 [] t4 (by simp) (by rw [pyRange_len]; simp; omega)
  rw [pyRange_len] at g4
  unfold m_law_line
  rw [bs t1, bs e1, grd_t (rngOk_t (by omega) (by omega)), bs g1]
  exact ⟨_, _, rfl, g2, by simp at g4; show acc.length ≤ 3; omega, g3⟩
theorem more_l1 {cl : List (List Int)} (hc1 : 1 ≤ cl.length) (hc2 : cl.length ≤ 20) (hcl : ∀ c ∈ cl, Cl ls 16 c) : ∀ (ks src : List Int) (acc : List (List Int)), Src src → (∀ c ∈ acc, Cl ls 17 c) → acc.length + ks.length < 1000 →
    ∃ src' acc', m_law_more_l1 ns ls cl ks (src, acc) = some (src', acc') ∧ Src src' ∧ (∀ c ∈ acc', Cl ls 17 c) ∧ acc'.length = acc.length + ks.length
  | [], src, acc, hs, ha, _ => ⟨src, acc, rfl, hs, ha, rfl⟩
  | k :: ks, src, acc, hs, ha, hl => by
    have hl' : acc.length + (ks.length + 1) < 1000 := hl
    obtain ⟨d, src1, t1, t2, t3, t4⟩ := take_ok ns src (cl.length : Int) hs (by omega) (by omega)
    obtain ⟨c, e1, e2, _⟩ := atI_lt t2 t3
    have hc := hcl c e2
    obtain ⟨d2, src2, u1, u2, u3, u4⟩ := take_ok ns src1 4 t4 (by decide) (by decide)
    rw [m_law_more_l1, bs t1, bs e1, bs u1]
    have st1 : ∃ c1 s1, (if (decide (d2 = (1 : Int))) = true then ((m_law_literal ns src2 ls).bind fun y129 => (grd (decide (c.length + ([y129.1] : (List Int)).length ≤ 16777216))).bind fun _ => some ((c ++ ([y129.1] : (List Int))), y129.2)) else (some (c, src2))) = some (c1, s1) ∧ Src s1 ∧ Cl ls 17 c1 := by
      by_cases q : d2 = 1
      · obtain ⟨x, s1, v1, v2, v3⟩ := literal_ok (ns := ns) L src2 u4
        rw [if_pos (decide_eq_true q), bs v1, grd_t (decide_eq_true (by have := hc.1; simp; omega))]
        exact ⟨_, _, rfl, v2, hc.app (.one v3)⟩
      · rw [if_neg (by simpa using q)]
        exact ⟨_, _, rfl, u4, hc.mono (by omega)⟩
    obtain ⟨c1, s1, f1, f2, f3⟩ := st1
    rw [bs f1]
    have st2 : ∃ c2 s2, (if (decide (d2 > (1 : Int))) = true then ((m_law_line ns s1 ls).bind fun y164 => (m_law_literal ns y164.2 ls).bind fun y177 => (grd (decide (y164.1.length + ([y177.1] : (List Int)).length ≤ 16777216))).bind fun _ => some ((y164.1 ++ ([y177.1] : (List Int))), y177.2)) else (some (c1, s1))) = some (c2, s2) ∧ Src s2 ∧ Cl ls 17 c2 := by
      by_cases q : d2 > 1
      · obtain ⟨l, s2, v1, v2, v3⟩ := line_ok (ns := ns) L s1 f2
        obtain ⟨x, s3, w1, w2, w3⟩ := literal_ok (ns := ns) L s2 v2
        rw [if_pos (decide_eq_true q), bs v1, bs w1, grd_t (decide_eq_true (by have := v3.1; simp; omega))]
        exact ⟨_, _, rfl, w2, (v3.app (.one w3)).mono (by omega)⟩
      · rw [if_neg (by simpa using q)]
        exact ⟨_, _, rfl, f2, f3⟩
    obtain ⟨c2, s2, k1, k2, k3⟩ := st2
    rw [bs k1]
    obtain ⟨d3, s3, w1, w2, w3, w4⟩ := take_ok ns s2 ((acc.length : Int) + 1) k2 (by omega) (by omega)
    rw [bs w1, grd_t (decide_eq_true (by show acc.length < _; omega)), grd_t (decide_eq_true ⟨w2, by show d3 < _; omega⟩)]
    have hin : ∀ z ∈ acc.take d3.toNat ++ [c2] ++ acc.drop d3.toNat, Cl ls 17 z := fun z hz => by
      rcases List.mem_append.mp hz with q | q
      · rcases List.mem_append.mp q with q | q
        · exact ha z (List.mem_of_mem_take q)
        · rw [List.mem_singleton.mp q]; exact k3
      · exact ha z (List.mem_of_mem_drop q)
    have hlen : (acc.take d3.toNat ++ [c2] ++ acc.drop d3.toNat).length = acc.length + 1 := by
      simp only [List.length_append, List.length_take, List.length_drop, List.length_singleton]
      omega
    obtain ⟨src', acc', g1, g2, g3, g4⟩ := more_l1 hc1 hc2 hcl ks s3 _ w4 hin (by rw [hlen]; omega)
    exact ⟨src', acc', g1, g2, g3, by rw [g4, hlen]; simp; omega⟩
theorem more_ok (src : List Int) {cl : List (List Int)} (h : Src src) (hc1 : 1 ≤ cl.length) (hc2 : cl.length ≤ 20) (hcl : ∀ c ∈ cl, Cl ls 16 c) : ∃ cs src', m_law_more ns src ls cl = some (cs, src') ∧ Src src' ∧ (∀ c ∈ cs, Cl ls 17 c) ∧ cl.length ≤ cs.length ∧ cs.length ≤ cl.length + 3 := by
  obtain ⟨d, src1, t1, t2, t3, t4⟩ := take_ok ns src 4 h (by decide) (by decide)
  unfold m_law_more
  rw [grd_t (decide_eq_true (by omega)), bs t1, grd_t (rngOk_t (by show 0 ≤ d; omega) (by show d < _; omega)), List.map_id']
  obtain ⟨src', acc', g1, g2, g3, g4⟩ := more_l1 (ns := ns) L hc1 hc2 hcl (pyRange 0 d.toNat) src1 cl t4 (fun c hc => (hcl c hc).mono (by omega)) (by rw [pyRange_len]; omega)
  rw [bs g1]
  rw [pyRange_len] at g4
  exact ⟨_, _, rfl, g2, g3, by show cl.length ≤ acc'.length; omega, by show acc'.length ≤ _; omega⟩
end
end G

namespace G
open PySem PySem.Spec PyProof.Rows L2

/-! ## which lines follow -/
/-- clauses of the letters, no more than n -/
structure Ok (ls : List Int) (n : Nat) (cs : List (List Int)) : Prop where
  n : cs.length ≤ n
  c : ∀ c ∈ cs, Cl ls 20 c
abbrev negs (c : List Int) : List Int := c.map fun x => -x
theorem negs_eq (c : List Int) : (c.map fun x => (0 : Int) - x) = negs c := List.map_congr_left fun x _ => Int.zero_sub x
def univ (ls : List Int) : List Int := ls ++ negs ls
theorem univ_len (ls : List Int) (L : Ltr ls) : (univ ls).length < 100 := by
  have := L.hi
  simp [univ]; omega
theorem lit_univ {ls : List Int} {x : Int} (h : Lit ls x) : x ∈ univ ls := by
  unfold univ
  rcases h with h | h
  · exact List.mem_append_left _ h
  · exact List.mem_append_right _ (List.mem_map.mpr ⟨_, h, Int.neg_neg x⟩)
noncomputable instance cnfDec (cs : List (List Int)) (gs : List Int) : Decidable (Cnf cs gs) := Classical.propDecidable _
section
variable {ls : List Int} (L : Ltr ls)
include L
theorem frc_univ {n : Nat} {cs : List (List Int)} {c : List Int} (O : Ok ls n cs) (hc : Cl ls 20 c) {x : Int} (h : Frc cs (negs c) x) : x ∈ univ ls := by
  cases h with
  | giv h =>
    obtain ⟨y, hy, rfl⟩ := List.mem_map.mp h
    exact lit_univ (hc.2 y hy).neg
  | stp hd hl _ => exact lit_univ ((O.c _ hd).2 _ hl)
theorem both_forced {P : M_Pusher} {cs : List (List Int)} {c : List Int} (I : PInv P cs) (O : Ok ls 60 cs) (hc : Cl ls 20 c) : ∃ r, m_Pusher_forced P (negs c) = some r ∧ m_law_forced cs (negs c) = some r ∧ (r.isNone = true ↔ Cnf cs (negs c)) := by
  have hn := O.n
  have hl : (negs c).length ≤ 20 := by rw [List.length_map]; exact hc.1
  have h1 : cs.length * 20 ≤ 1200 := by omega
  obtain ⟨r, p1, p2⟩ := forced_ok (L := 20) (gs := negs c) I (fun d hd => (O.c d hd).1) (by omega) (fun d hd x hx => ((O.c d hd).2 x hx).nz L) (fun x hx => by
      obtain ⟨y, hy, rfl⟩ := List.mem_map.mp hx
      exact (hc.2 y hy).neg.nz L)
    (Nat.lt_of_le_of_lt (Nat.mul_le_mul (show _ ≤ 1222 by omega) (show _ ≤ 1201 by omega)) (by decide)) (Nat.lt_of_le_of_lt (Nat.mul_le_mul (show _ ≤ 1220 by omega) hn) (by decide))
  obtain ⟨r', g1, g2⟩ := law_forced_ok (gs := negs c) (fun x h => frc_univ L O hc h) (univ_len ls L) (fun d hd => by have := (O.c d hd).1; omega) (by omega)
  obtain rfl := Out.uniq p2 g2
  refine ⟨r, p1, g1, ?_⟩
  rcases p2 with ⟨h, rfl⟩ | ⟨h, ks, rfl, _⟩
  · exact ⟨fun _ => h, fun _ => rfl⟩
  · exact ⟨(fun z => by cases z), fun z => (h z).elim⟩
/-- line by line: does it follow from the clauses and the lines ahead -/
noncomputable def fol : List (List Int) → List (List Int) → List Bool
  | _, [] => []
  | cs, c :: t => decide (Cnf cs (negs c)) :: fol (cs ++ [c]) t
omit L in
theorem fol_len : ∀ (log cs : List (List Int)), (fol cs log).length = log.length
  | [], _ => rfl
  | c :: t, cs => by
    show (fol (cs ++ [c]) t).length + 1 = t.length + 1
    rw [fol_len t]
omit L in
theorem Ok.snoc {n : Nat} {cs : List (List Int)} {c : List Int} (O : Ok ls n cs) (hc : Cl ls 20 c) : Ok ls (n + 1) (cs ++ [c]) := ⟨by have := O.n; simp; omega, fun d hd => by
  rcases List.mem_append.mp hd with z | z
  · exact O.c d z
  · rw [List.mem_singleton.mp z]; exact hc⟩
omit L in
theorem Ok.le {n m : Nat} {cs : List (List Int)} (O : Ok ls n cs) (h : n ≤ m) : Ok ls m cs := ⟨Nat.le_trans O.n h, O.c⟩
omit L in
theorem isNone_dec {r : Option (List Int)} {p : Prop} [Decidable p] (h : r.isNone = true ↔ p) : r.isNone = decide p := by
  by_cases c : p
  · rw [h.mpr c, decide_eq_true c]
  · rw [decide_eq_false c]
    cases e : r.isNone with
    | false => rfl
    | true => exact (c (h.mp e)).elim
omit L in
theorem tot_small {cs : List (List Int)} {n : Nat} (O : Ok ls n cs) (h : n ≤ 60) : tot cs ≤ 1200 := by
  have h1 := tot_le (L := 20) (cs := cs) fun c hc => (O.c c hc).1
  have h2 := O.n
  omega
theorem checked_l1 : ∀ (qs : List (Bool × List Int)) (P : M_Pusher) (cs : List (List Int)) (n : Nat), PInv P cs → Ok ls n cs → n + qs.length ≤ 60 → (∀ q ∈ qs, Cl ls 20 q.2) → m_checked_lines_l1 qs P = some (fol cs (qs.map (·.2)))
  | [], P, cs, n, I, O, hn, hq => rfl
  | q :: qs, P, cs, n, I, O, hn, hq => by
    have hn' : n + (qs.length + 1) ≤ 60 := hn
    have hc := hq q (.head _)
    obtain ⟨r, p1, _, p3⟩ := both_forced L I (O.le (by omega)) hc
    have ht := tot_small O (by omega)
    have hO := O.n
    obtain ⟨P2, i1, i2⟩ := include_ok I q (by have := hc.1; omega) (by omega) (by omega)
    have e1 : m_Pusher_forced (M_Pusher.mk P.clauses P.places P.starts P.empty) (q.2.map fun x92 => -x92) = some r := p1
    have e2 : m_Pusher_include (M_Pusher.mk P.clauses P.places P.starts P.empty) q = some P2 := i1
    have e3 : m_checked_lines_l1 qs (M_Pusher.mk P2.clauses P2.places P2.starts P2.empty) = some (fol (cs ++ [q.2]) (qs.map (·.2))) := checked_l1 qs P2 _ (n + 1) i2 (O.snoc hc) (by omega) fun z hz => hq z (.tail _ hz)
    rw [m_checked_lines_l1, grd_t (decide_eq_true (by have := hc.1; omega)), bs e1, e2, Option.bind_some, bs e3, isNone_dec p3]
    rfl
theorem checked_ok {qc ql : List (Bool × List Int)} (O : Ok ls 40 (qc.map (·.2))) (hl : ql.length ≤ 20) (hq : ∀ q ∈ ql, Cl ls 20 q.2) : m_checked_lines qc ql = some (fol (qc.map (·.2)) (ql.map (·.2))) := by
  have ho := O.n
  rw [List.length_map] at ho
  have ht := tot_small O (by omega)
  obtain ⟨P, p1, I⟩ := init_ok qc (fun q hq => by have := (O.c q.2 (List.mem_map.mpr ⟨q, hq, rfl⟩)).1; omega) (by omega) (by omega)
  unfold m_checked_lines
  rw [bs p1]
  exact checked_l1 L ql _ _ 40 I O (by omega) hq
theorem follows_l1 : ∀ (log : List (List Int)) (acc : List Bool) (cs : List (List Int)) (n : Nat), Ok ls n cs → n + log.length ≤ 60 → acc.length + log.length < 10000 → (∀ c ∈ log, Cl ls 20 c) → (∃ P, PInv P cs) → m_law_follows_l1 log (acc, cs) = some (acc ++ fol cs log, cs ++ log)
  | [], acc, cs, n, O, hn, ha, hl, _ => by
    rw [m_law_follows_l1, List.append_nil]
    show _ = some (acc ++ [], cs)
    rw [List.append_nil]
  | c :: t, acc, cs, n, O, hn, ha, hl, ⟨P, I⟩ => by
    have hn' : n + (t.length + 1) ≤ 60 := hn
    have ha' : acc.length + (t.length + 1) < 10000 := ha
    have hc := hl c (.head _)
    obtain ⟨r, _, p2, p3⟩ := both_forced L I (O.le (by omega)) hc
    have hO := O.n
    have ht := tot_small O (by omega)
    obtain ⟨P2, _, i2⟩ := include_ok I (true, c) (by have := hc.1; show c.length < _; omega) (by omega) (by omega)
    rw [m_law_follows_l1, grd_t (decide_eq_true (by have := hc.1; omega)), negs_eq, bs p2, grd_t (decide_eq_true (by show acc.length < _; omega)), grd_t (decide_eq_true (by show cs.length < _; omega))]
    rw [follows_l1 t _ _ (n + 1) (O.snoc hc) (by omega) (by simp; omega) (fun d hd => hl d (.tail _ hd)) ⟨P2, i2⟩, isNone_dec p3]
    show some (_, _) = some (acc ++ decide (Cnf cs (negs c)) :: fol (cs ++ [c]) t, cs ++ c :: t)
    simp [List.append_assoc]
theorem follows_ok {cs log : List (List Int)} (O : Ok ls 40 cs) (hl : log.length ≤ 20) (hq : ∀ c ∈ log, Cl ls 20 c) : m_law_follows cs log = some (fol cs log) := by
  have ho := O.n
  have ht := tot_small O (by omega)
  obtain ⟨P, p1, I⟩ := init_ok (cs.map fun c => (true, c)) (fun q hq => by
      obtain ⟨c, hc, rfl⟩ := List.mem_map.mp hq
      have := (O.c c hc).1
      show c.length < _; omega) (by rw [List.length_map]; omega) (by rw [List.map_map]; show tot (cs.map fun c => c) < _; rw [List.map_id']; omega)
  rw [List.map_map] at I
  have e : cs.map ((·.2) ∘ fun c => (true, c)) = cs := List.map_id' cs
  rw [e] at I
  unfold m_law_follows
  rw [grd_t (decide_eq_true (by omega)), List.map_id', follows_l1 L log [] cs 40 O (by omega) (by simp; omega) hq ⟨P, I⟩]
  rfl
end
theorem pyRange_succ (lo : Int) (n : Nat) : pyRange lo (n + 1) = lo :: pyRange (lo + 1) n := by
  unfold pyRange
  rw [List.range_succ_eq_map, List.map_cons, List.map_map]
  have e0 : lo + ((0 : Nat) : Int) = lo := Int.add_zero lo
  rw [e0]
  refine congrArg (lo :: ·) (List.map_congr_left fun j _ => ?_)
  show lo + ((j + 1 : Nat) : Int) = lo + 1 + (j : Int)
  omega
/-! ## the first line at fault -/
def fbAt : Int → List Bool → Option Int
  | _, [] => none
  | i, b :: t => if b = true then fbAt (i + 1) t else some i
theorem bad_l1 : ∀ (ys : List Bool) (i : Int), m_first_bad_l1 ((pyRange i ys.length).zip ys) () = some (match fbAt i ys with | some k => .ret (some k) | none => .done ())
  | [], i => by simp [m_first_bad_l1, fbAt]
  | b :: t, i => by
    have e : pyRange i (b :: t).length = i :: pyRange (i + 1) t.length := pyRange_succ i t.length
    rw [e, List.zip_cons_cons, m_first_bad_l1]
    cases b with
    | true =>
      rw [if_neg (by simp)]
      exact bad_l1 t (i + 1)
    | false =>
      rw [if_pos (by simp)]
      rfl
theorem first_bad_ok {qc ql : List (Bool × List Int)} {ys : List Bool} (h : m_checked_lines qc ql = some ys) : m_first_bad qc ql = some (fbAt 0 ys) := by
  unfold m_first_bad
  rw [bs h, bs (bad_l1 ys 0)]
  cases fbAt 0 ys with
  | none => rfl
  | some k => rfl
theorem fb_none : ∀ {ys : List Bool} {i : Int}, fbAt i ys = none ↔ ∀ b ∈ ys, b = true
  | [], i => by simp [fbAt]
  | b :: t, i => by
    cases b with
    | true =>
      show (if true = true then fbAt (i + 1) t else some i) = none ↔ _
      rw [if_pos rfl, fb_none]
      simp
    | false => simp [fbAt]
theorem last_neg {α : Type} {xs : List α} {x : α} (h : xs[xs.length - 1]? = some x) : atI xs (-1) = some x := by
  have lt := (List.getElem?_eq_some_iff.mp h).1
  unfold atI ixN
  rw [if_neg (by decide), if_pos (by omega)]
  have e : ((-1 : Int) + (xs.length : Int)).toNat = xs.length - 1 := by omega
  rw [e]; exact h
/-- refutes: every line follows, the last one is empty -/
theorem refutes_ok {qc ql : List (Bool × List Int)} {ys : List Bool} (h : m_checked_lines qc ql = some ys) : m_refutes qc ql = some (decide (fbAt 0 ys = none ∧ (ql.map (·.2))[(ql.map (·.2)).length - 1]? = some [])) := by
  unfold m_refutes
  cases ql with
  | nil => simp
  | cons q t =>
    have e : (!(!(q :: t).isEmpty)) = false := rfl
    rw [e, if_neg Bool.false_ne_true]
    have lt : (q :: t).length - 1 < (q :: t).length := by simp
    have hz : (q :: t)[(q :: t).length - 1]? = some (q :: t)[(q :: t).length - 1] := List.getElem?_eq_getElem lt
    generalize hzz : (q :: t)[(q :: t).length - 1] = z at hz
    rw [bs (last_neg hz), Option.bind_some, List.length_map, List.getElem?_map, hz, Option.map_some, first_bad_ok h, Option.bind_some]
    by_cases c : z.2 = []
    · rw [if_neg (by simp [c])]
      simp only [c, and_true]
      cases fbAt 0 ys <;> rfl
    · have : 0 < z.2.length := List.length_pos_iff.mpr c
      rw [if_pos (by simp only [decide_eq_true_eq]; omega)]
      have c' : ¬ some z.2 = some ([] : List Int) := fun q => c (Option.some.inj q)
      simp only [c', and_false, decide_false]
/-! ## the lists as handed -/
theorem handed_l1 {rows : List (List Int)} (hl : ∀ c ∈ rows, c.length < 10000) (hn : rows.length < 10000) : ∀ (n i : Nat) (acc : List (Bool × List Int)), i + n = rows.length → acc.length = i → acc.map (·.2) = rows.take i → ∃ h, m_law_handed_l1 rows (pyRange (i : Int) n) acc = some h ∧ h.map (·.2) = rows
  | 0, i, acc, hi, _, hm => ⟨acc, rfl, by rw [hm, List.take_of_length_le (by omega)]⟩
  | n + 1, i, acc, hi, ha, hm => by
    have e : pyRange (i : Int) (n + 1) = (i : Int) :: pyRange ((i + 1 : Nat) : Int) n := pyRange_succ (i : Int) n
    obtain ⟨c, h1, h2, h3⟩ := atI_lt (xs := rows) (i := (i : Int)) (by omega) (by omega)
    rw [Int.toNat_natCast] at h3
    have nx : ∀ q : Bool, (acc ++ [(q, c)]).map (·.2) = rows.take (i + 1) := fun q => by
      rw [List.map_append, hm, List.take_add_one, h3]; rfl
    have hc := hl c h2
    rw [e, m_law_handed_l1]
    by_cases q : (i : Int) % 3 = 1
    · rw [if_pos (decide_eq_true q), bs h1, grd_t (decide_eq_true (by omega))]
      exact handed_l1 hl hn n (i + 1) _ (by omega) (by simp; omega) (nx false)
    · rw [if_neg (by simpa using q), bs h1, grd_t (decide_eq_true (by omega)), grd_t (decide_eq_true (by omega)), List.map_id']
      exact handed_l1 hl hn n (i + 1) _ (by omega) (by simp; omega) (nx true)
theorem handed_ok {rows : List (List Int)} (hl : ∀ c ∈ rows, c.length < 10000) (hn : rows.length < 10000) : ∃ h, m_law_handed rows = some h ∧ h.map (·.2) = rows := by
  obtain ⟨h, h1, h2⟩ := handed_l1 hl hn rows.length 0 [] (by omega) rfl (by simp)
  refine ⟨h, ?_, h2⟩
  unfold m_law_handed
  rw [grd_t (rngOk_len (by omega)), Int.toNat_natCast]
  rw [show ((0 : Nat) : Int) = 0 from rfl] at h1
  rw [bs h1]
end G

namespace G
open PySem PySem.Spec PyProof.Rows L2

/-! ## the comparisons -/
theorem same2_l1 {xs : List Bool} : ∀ ks : List Int, (∀ k ∈ ks, 0 ≤ k ∧ k < xs.length) → m_law_same_v2_l1 xs xs ks () = some (.done ())
  | [], _ => rfl
  | k :: ks, h => by
    obtain ⟨h1, h2⟩ := h k (.head _)
    obtain ⟨x, e, _⟩ := atI_lt h1 h2
    rw [m_law_same_v2_l1, bs e, bs e]
    have e2 : m_law_same x x = true := decide_eq_true rfl
    rw [e2, if_neg (by simp)]
    exact same2_l1 ks fun y hy => h y (.tail _ hy)
theorem same2_ok (xs : List Bool) (h : xs.length < 10000) : m_law_same_v2 xs xs = some true := by
  unfold m_law_same_v2
  rw [if_neg (by decide), if_neg (by simp), grd_t (rngOk_len (by omega)), bs (same2_l1 _ fun k hk => by have := mem_pyRange.mp hk; omega)]
theorem same1_ok (x : Option Int) : m_law_same_v1 x x = some true := by
  cases x with
  | none => rfl
  | some k => simp [m_law_same_v1, optE]
theorem told_l1 {log : List (List Int)} : ∀ (ys acc : List Bool), acc.length + ys.length ≤ log.length → log.length < 10000 → m_law_asked_l1 log ys acc = some (.done (acc ++ ys))
  | [], acc, _, _ => by rw [m_law_asked_l1, List.append_nil]
  | y :: t, acc, h, hl => by
    have h' : acc.length + (t.length + 1) ≤ log.length := h
    rw [m_law_asked_l1, grd_t (decide_eq_true (by omega)), if_neg (by simp; omega), told_l1 t _ (by simp; omega) hl]
    simp
theorem bad_l2 {due : List Bool} : ∀ (k : Nat), k ≤ due.length → m_law_asked_l2 due (pyRangeC ((k : Int) - 1) (-1) k) (fbAt k (due.drop k)) = some (fbAt 0 due)
  | 0, _ => rfl
  | k + 1, hk => by
    obtain ⟨b, h1, _, h3⟩ := atI_lt (xs := due) (i := (k : Int)) (by omega) (by omega)
    rw [Int.toNat_natCast] at h3
    have e0 : ((k + 1 : Nat) : Int) - 1 = (k : Int) := by omega
    rw [e0, pyRangeC_succ, m_law_asked_l2, bs h1]
    have ih := bad_l2 (due := due) k (by omega)
    have e1 : (k : Int) + -1 = (k : Int) - 1 := rfl
    have e2 : due.drop k = b :: due.drop (k + 1) := drop_cons h3
    rw [e2] at ih
    rw [e1]
    cases b with
    | true =>
      rw [if_neg (by simp)]
      exact ih
    | false =>
      rw [if_pos (by simp)]
      exact ih
theorem bad_ok (due : List Bool) : m_law_asked_l2 due (pyRangeC ((due.length : Int) - (1 : Int)) (-1) (((due.length : Int) - (1 : Int)) - (-(1 : Int))).toNat) none = some (fbAt 0 due) := by
  have h := bad_l2 (due := due) due.length (Nat.le_refl _)
  rw [List.drop_length] at h
  have e : (((due.length : Int) - (1 : Int)) - (-(1 : Int))).toNat = due.length := by omega
  rw [e]
  exact h
theorem asked_ok {ls : List Int} (L : Ltr ls) {cs log : List (List Int)} (O : Ok ls 40 cs) (hl : log.length ≤ 20) (hq : ∀ c ∈ log, Cl ls 20 c) : m_law_asked cs log = some true := by
  have hn := O.n
  obtain ⟨q1, a1, a2⟩ := handed_ok (rows := cs) (fun c hc => by have := (O.c c hc).1; omega) (by omega)
  obtain ⟨q2, b1, b2⟩ := handed_ok (rows := log) (fun c hc => by have := (hq c hc).1; omega) (by omega)
  have l2 : q2.length = log.length := by rw [← b2, List.length_map]
  have ck := checked_ok L (qc := q1) (ql := q2) (by rw [a2]; exact O) (by omega) (fun q h => hq q.2 (by rw [← b2]; exact List.mem_map.mpr ⟨q, h, rfl⟩))
  rw [a2, b2] at ck
  have fl := fol_len log cs
  unfold m_law_asked
  rw [bs a1, bs b1, bs (follows_ok L O hl hq), bs ck, bs (told_l1 (fol cs log) [] (by simp; omega) (by omega))]
  dsimp only
  rw [grd_t (rng2Ok_t (by omega) (by omega) (by decide) (by decide)), bs (bad_ok (fol cs log)), List.nil_append, bs (same2_ok _ (by omega))]
  rw [if_neg (by simp), bs (first_bad_ok ck), bs (same1_ok _), Option.bind_some, if_neg (by simp)]
  have e : (if (!decide (log = ([] : (List (List Int))))) = true then (if (fbAt 0 (fol cs log)).isNone = true then ((atI log ((log.length : Int) - (1 : Int))).bind fun y170 => some (decide (y170 = ([] : (List Int))))) else (some false)) else (some false)) =
      some (decide (fbAt 0 (fol cs log) = none ∧ log[log.length - 1]? = some [])) := by
    by_cases c : log = []
    · rw [if_neg (by simp [c])]
      simp [c]
    · rw [if_pos (by simp [c])]
      have pos : 0 < log.length := List.length_pos_iff.mpr c
      obtain ⟨z, h1, _, h3⟩ := atI_lt (xs := log) (i := (log.length : Int) - 1) (by omega) (by omega)
      have e3 : ((log.length : Int) - 1).toNat = log.length - 1 := by omega
      rw [e3] at h3
      cases f : fbAt 0 (fol cs log) with
      | none =>
        rw [if_pos (show (none : Option Int).isNone = true from rfl), bs h1, h3]
        simp
      | some k =>
        rw [if_neg (by simp)]
        simp
  rw [bs e, bs (refutes_ok ck), b2]
  have e2 : m_law_same (decide (fbAt 0 (fol cs log) = none ∧ log[log.length - 1]? = some [])) (decide (fbAt 0 (fol cs log) = none ∧ log[log.length - 1]? = some [])) = true := decide_eq_true rfl
  rw [e2, if_neg (by simp), a1, Option.bind_some, if_pos (decide_eq_true rfl), b1]
  simp
/-! ## the logs -/
theorem cut_mem {α : Type} {xs : List α} {lo hi : Option Int} {x : α} (h : x ∈ cutL xs lo hi) : x ∈ xs := List.mem_of_mem_drop (List.mem_of_mem_take h)
theorem cut_len {α : Type} {xs : List α} {lo hi : Option Int} : (cutL xs lo hi).length ≤ xs.length := by
  unfold cutL
  rw [List.length_take, List.length_drop]
  omega
/-- a log as it is asked: few lines, few literals -/
def Lg (ls : List Int) (log : List (List Int)) : Prop := log.length ≤ 20 ∧ ∀ c ∈ log, Cl ls 20 c
theorem cut_cl {ls : List Int} {n : Nat} {xs : List Int} {lo hi : Option Int} (h : Cl ls n xs) : Cl ls n (cutL xs lo hi) := ⟨Nat.le_trans cut_len h.1, fun x hx => h.2 x (cut_mem hx)⟩
/-- two cuts side by side are no longer than the whole -/
theorem cut_two {α : Type} (xs : List α) (a : Int) (b : Int) (h0 : 0 ≤ a) (h1 : a ≤ b) : (cutL xs none (some a)).length + (cutL xs (some b) none).length ≤ xs.length := by
  unfold cutL HT.sIx
  simp only [List.length_take, List.length_drop]
  split <;> split <;> omega
theorem in_app {α : Type} {p : α → Prop} {xs ys : List α} (h1 : ∀ x ∈ xs, p x) (h2 : ∀ x ∈ ys, p x) : ∀ x ∈ xs ++ ys, p x := fun x hx => (List.mem_append.mp hx).elim (h1 x) (h2 x)
theorem in_one {α : Type} {p : α → Prop} {y : α} (h : p y) : ∀ x ∈ [y], p x := fun x hx => by rw [List.mem_singleton.mp hx]; exact h
section
variable {ns : List Int} {ls : List Int} (L : Ltr ls)
include L
theorem bent_ok (src : List Int) {c : List Int} (h : Src src) (hc : Cl ls 15 c) : ∃ d src', m_law_bent ns src ls c = some (d, src') ∧ Src src' ∧ Cl ls 16 d := by
  obtain ⟨k, src1, t1, t2, t3, t4⟩ := take_ok ns src 4 h (by decide) (by decide)
  obtain ⟨x, src2, u1, u2, u3⟩ := literal_ok (ns := ns) L src1 t4
  have hl := hc.1
  unfold m_law_bent
  rw [bs t1, bs u1]
  by_cases em : c = []
  · rw [if_pos (decide_eq_true em), Option.bind_some, if_pos rfl, grd_t (decide_eq_true (by simp; omega))]
    exact ⟨_, _, rfl, u2, hc.app (.one u3)⟩
  · rw [if_neg (by simpa using em), Option.bind_some]
    by_cases k0 : k = 0
    · rw [if_pos (decide_eq_true k0), grd_t (decide_eq_true (by simp; omega))]
      exact ⟨_, _, rfl, u2, hc.app (.one u3)⟩
    · have pos : 0 < c.length := List.length_pos_iff.mpr em
      rw [if_neg (by simpa using k0)]
      obtain ⟨i, src3, v1, v2, v3, v4⟩ := take_ok ns src2 (c.length : Int) u2 (by omega) (by omega)
      obtain ⟨y, e1, e2, _⟩ := atI_lt v2 v3
      have ct := cut_two c i (i + 1) v2 (by omega)
      have cl1 : (cutL c none (some i)).length ≤ c.length := cut_len
      have cl2 : (cutL c (some (i + 1)) none).length ≤ c.length := cut_len
      rw [bs v1]
      by_cases k1 : k = 1
      · rw [if_pos (decide_eq_true k1), grd_t (decide_eq_true (by show (cutL c none (some i)).length + (cutL c (some (i + 1)) none).length ≤ _; omega))]
        refine ⟨_, _, rfl, v4, by show (cutL c none (some i) ++ cutL c (some (i + 1)) none).length ≤ 16; rw [List.length_append]; omega, in_app (fun z hz => hc.2 z (cut_mem hz)) fun z hz => hc.2 z (cut_mem hz)⟩
      · rw [if_neg (by simpa using k1)]
        by_cases k2 : k = 2
        · rw [if_pos (decide_eq_true k2), bs e1, grd_t (decide_eq_true (by show (cutL c none (some i)).length + 1 ≤ _; omega)), grd_t (decide_eq_true (by rw [List.length_append]; show (cutL c none (some i)).length + 1 + (cutL c (some (i + 1)) none).length ≤ _; omega))]
          refine ⟨_, _, rfl, v4, by rw [List.length_append, List.length_append]; show (cutL c none (some i)).length + 1 + (cutL c (some (i + 1)) none).length ≤ 16; omega, in_app (in_app (fun z hz => hc.2 z (cut_mem hz)) (in_one ?_)) fun z hz => hc.2 z (cut_mem hz)⟩
          rw [Int.zero_sub]
          exact (hc.2 y e2).neg
        · rw [if_neg (by simpa using k2), bs e1, grd_t (decide_eq_true (by simp; omega))]
          exact ⟨_, _, rfl, v4, hc.app (.one (hc.2 y e2))⟩
/-- a log with one line put in the place of what lies between two cuts -/
theorem lg_mid {log : List (List Int)} (hl : log.length ≤ 16) (hq : ∀ c ∈ log, Cl ls 16 c) {a b : Int} (h0 : 0 ≤ a) (h1 : a ≤ b) {d : List Int} (hd : Cl ls 16 d) : Lg ls ((cutL log none (some a) ++ [d]) ++ cutL log (some b) none) := by
  have ct := cut_two log a b h0 h1
  refine ⟨by rw [List.length_append, List.length_append]; show (cutL log none (some a)).length + 1 + (cutL log (some b) none).length ≤ 20; omega, in_app (in_app (fun z hz => (hq z (cut_mem hz)).mono (by omega)) (in_one (hd.mono (by omega)))) fun z hz => (hq z (cut_mem hz)).mono (by omega)⟩
theorem logs_l1 {log : List (List Int)} (h1 : 1 ≤ log.length) (hl : log.length ≤ 15) (hq : ∀ c ∈ log, Cl ls 15 c) : ∀ (ks src : List Int) (acc : List (List (List Int))), Src src → (∀ l ∈ acc, Lg ls l) → acc.length + ks.length < 1000 →
    ∃ acc' src', m_law_logs_l1 ns ls log ks (acc, src) = some (acc', src') ∧ Src src' ∧ (∀ l ∈ acc', Lg ls l) ∧ acc'.length = acc.length + ks.length
  | [], src, acc, hs, ha, _ => ⟨acc, src, rfl, hs, ha, rfl⟩
  | k :: ks, src, acc, hs, ha, hn => by
    have hn' : acc.length + (ks.length + 1) < 1000 := hn
    obtain ⟨i, src1, t1, t2, t3, t4⟩ := take_ok ns src (log.length : Int) hs (by omega) (by omega)
    obtain ⟨c, e1, e2, _⟩ := atI_lt t2 t3
    obtain ⟨d, src2, u1, u2, u3⟩ := bent_ok (ns := ns) L src1 t4 (hq c e2)
    have ct := cut_two log i (i + 1) t2 (by omega)
    have mid := lg_mid L (log := log) (by omega) (fun c hc => (hq c hc).mono (by omega)) (a := i) (b := i + 1) t2 (by omega) u3
    obtain ⟨acc', src', g1, g2, g3, g4⟩ := logs_l1 h1 hl hq ks src2 (acc ++ [(cutL log none (some i) ++ [d]) ++ cutL log (some (i + 1)) none]) u2 (in_app ha (in_one mid)) (by simp; omega)
    refine ⟨acc', src', ?_, g2, g3, by rw [g4]; simp; omega⟩
    rw [m_law_logs_l1, bs t1, bs e1, bs u1, grd_t (decide_eq_true (by show (cutL log none (some i)).length + 1 ≤ _; omega)), grd_t (decide_eq_true (by rw [List.length_append]; show (cutL log none (some i)).length + 1 + (cutL log (some (i + 1)) none).length ≤ _; omega)), grd_t (decide_eq_true (by show acc.length < _; omega))]
    exact g1
theorem logs_ok (src : List Int) {log : List (List Int)} (h : Src src) (h1 : 1 ≤ log.length) (hl : log.length ≤ 15) (hq : ∀ c ∈ log, Cl ls 15 c) : ∃ logs src', m_law_logs ns src ls log = some (logs, src') ∧ ∀ l ∈ logs, Lg ls l := by
  obtain ⟨one, src1, t1, t2, t3⟩ := line_ok (ns := ns) L src h
  obtain ⟨two, src2, u1, u2, u3⟩ := line_ok (ns := ns) L src1 t2
  have o20 : Cl ls 20 one := t3.mono (by omega)
  have w20 : Cl ls 20 two := u3.mono (by omega)
  have n20 : Cl ls 20 [] := .nil
  have lg0 : Lg ls log := ⟨by omega, fun c hc => (hq c hc).mono (by omega)⟩
  have st : ∀ l ∈ [log, (cutL log none (some ((log.length : Int) - (1 : Int)))), (log ++ [one]), ([one, one, two, one, ([] : (List Int))] : (List (List Int))), ([([] : (List Int)), two, one, ([] : (List Int))] : (List (List Int))), ([([] : (List Int))] : (List (List Int))), ([] : (List (List Int))), ([one, two] : (List (List Int)))], Lg ls l := fun l hl' => by
    simp only [List.mem_cons, List.not_mem_nil, or_false] at hl'
    rcases hl' with rfl | rfl | rfl | rfl | rfl | rfl | rfl | rfl
    · exact lg0
    · exact ⟨Nat.le_trans cut_len lg0.1, fun c hc => lg0.2 c (cut_mem hc)⟩
    · exact ⟨by simp; omega, in_app lg0.2 (in_one o20)⟩
    · refine ⟨by simp, fun c hc => ?_⟩
      simp only [List.mem_cons, List.not_mem_nil, or_false] at hc
      rcases hc with rfl | rfl | rfl | rfl | rfl <;> assumption
    · refine ⟨by simp, fun c hc => ?_⟩
      simp only [List.mem_cons, List.not_mem_nil, or_false] at hc
      rcases hc with rfl | rfl | rfl | rfl <;> assumption
    · exact ⟨by simp, in_one n20⟩
    · exact ⟨by simp, by simp⟩
    · refine ⟨by simp, fun c hc => ?_⟩
      simp only [List.mem_cons, List.not_mem_nil, or_false] at hc
      rcases hc with rfl | rfl <;> assumption
  obtain ⟨acc, src3, g1, g2, g3, g4⟩ := logs_l1 (ns := ns) L h1 hl hq (pyRange 0 (2 : Int).toNat) src2 _ u2 st (by rw [pyRange_len]; simp)
  rw [pyRange_len] at g4
  have ga : acc.length = 10 := by rw [g4]; rfl
  obtain ⟨i, src4, v1, v2, v3, v4⟩ := take_ok ns src3 (log.length : Int) g2 (by omega) (by omega)
  obtain ⟨c, e1, e2, _⟩ := atI_lt v2 v3
  have ct := cut_two log i (i + 1) v2 (by omega)
  have ct2 := cut_two log i i v2 (by omega)
  have hrest : (cutL log none (some i) ++ cutL log (some (i + 1)) none).length ≤ 15 := by rw [List.length_append]; omega
  have rin : ∀ z ∈ cutL log none (some i) ++ cutL log (some (i + 1)) none, Cl ls 16 z := in_app (fun z hz => (hq z (cut_mem hz)).mono (by omega)) fun z hz => (hq z (cut_mem hz)).mono (by omega)
  obtain ⟨j, src5, w1, w2, w3, w4⟩ := take_ok ns src4 (((cutL log none (some i) ++ cutL log (some (i + 1)) none).length : Int) + 1) v4 (by omega) (by omega)
  have ct3 := cut_two (cutL log none (some i) ++ cutL log (some (i + 1)) none) j j w2 (by omega)
  obtain ⟨m, src6, x1, x2, x3, x4⟩ := take_ok ns src5 ((log.length : Int) + 1) w4 (by omega) (by omega)
  have ct4 := cut_two log m m x2 (by omega)
  have c16 : Cl ls 16 c := (hq c e2).mono (by omega)
  have hq16 : ∀ c ∈ log, Cl ls 16 c := fun c hc => (hq c hc).mono (by omega)
  unfold m_law_logs
  rw [bs t1, bs u1, grd_t (decide_eq_true (by simp; omega)), bs g1, bs v1, grd_t (decide_eq_true (by show (cutL log none (some i)).length + (cutL log (some (i + 1)) none).length ≤ _; omega))]
  rw [bs w1, grd_t (decide_eq_true (by show acc.length < _; omega)), bs e1]
  generalize hR : cutL log none (some i) ++ cutL log (some (i + 1)) none = rest at *
  rw [grd_t (decide_eq_true (by show (cutL rest none (some j)).length + 1 ≤ _; omega)), grd_t (decide_eq_true (by rw [List.length_append]; show (cutL rest none (some j)).length + 1 + (cutL rest (some j) none).length ≤ _; omega)), grd_t (decide_eq_true (by rw [List.length_append]; show acc.length + 1 < _; omega))]
  rw [e1, Option.bind_some, grd_t (decide_eq_true (by show (cutL log none (some i)).length + 1 ≤ _; omega)), grd_t (decide_eq_true (by rw [List.length_append]; show (cutL log none (some i)).length + 1 + (cutL log (some i) none).length ≤ _; omega)), grd_t (decide_eq_true (by rw [List.length_append, List.length_append]; show acc.length + 1 + 1 < _; omega))]
  rw [bs x1, grd_t (decide_eq_true (by show (cutL log none (some m)).length + 1 ≤ _; omega)), grd_t (decide_eq_true (by rw [List.length_append]; show (cutL log none (some m)).length + 1 + (cutL log (some m) none).length ≤ _; omega)), grd_t (decide_eq_true (by rw [List.length_append, List.length_append, List.length_append]; show acc.length + 1 + 1 + 1 < _; omega))]
  refine ⟨_, _, rfl, in_app (in_app (in_app (in_app g3 (in_one ⟨by omega, fun z hz => (rin z hz).mono (by omega)⟩)) (in_one ?_)) (in_one ?_)) (in_one ?_)⟩
  · exact lg_mid L (log := rest) (by omega) rin w2 (Int.le_refl _) c16
  · exact lg_mid L (log := log) (by omega) hq16 v2 (Int.le_refl _) c16
  · exact lg_mid L (log := log) (by omega) hq16 x2 (Int.le_refl _) .nil
end
/-! ## the law -/
theorem law_l1 {ls : List Int} (L : Ltr ls) {y85 : (((List (List Int)) × (List (List Int))) × (List Int))} {y159 : (Int × (List Int))} {y170 : ((List (List Int)) × (List Int))} (O1 : Ok ls 40 y170.1) (O2 : Ok ls 40 ((cutL y85.1.1 none (some y159.1)) ++ (cutL y85.1.1 (some (y159.1 + (1 : Int))) none))) :
    ∀ logs : List (List (List Int)), (∀ l ∈ logs, Lg ls l) → m_law_l1 y85 y159 y170 logs () = some (.done ())
  | [], _ => rfl
  | l :: t, h => by
    obtain ⟨h1, h2⟩ := h l (.head _)
    rw [m_law_l1, bs (asked_ok L O1 h1 h2), if_neg (by simp), bs (asked_ok L O2 h1 h2), Option.bind_some, if_neg (by simp)]
    exact law_l1 L O1 O2 t fun z hz => h z (.tail _ hz)
theorem law_true (ns : List Int) (h : ns.length ≤ 63) : m_law ns = some true := by
  obtain ⟨sd, s1, s2⟩ := seed_ok ns
  have S0 : Src [(0 : Int), (0 : Int), sd, (0 : Int)] := ⟨0, 0, sd, 0, rfl, by decide, by decide, s2, by decide⟩
  obtain ⟨d1, src1, t1, t2, t3, t4⟩ := take_ok ns _ 8 S0 (by decide) (by decide)
  obtain ⟨n, e1, e2, _⟩ := atI_lt (xs := ([(4 : Int), (3 : Int), (5 : Int), (2 : Int), (4 : Int), (6 : Int), (3 : Int), (1 : Int)] : (List Int))) t2 (by simpa using t3)
  have hn : 1 ≤ n ∧ n ≤ 6 := by
    simp only [List.mem_cons, List.not_mem_nil, or_false] at e2
    omega
  obtain ⟨d2, src2, u1, u2, u3, u4⟩ := take_ok ns src1 8 t4 (by decide) (by decide)
  obtain ⟨m, f1, f2, _⟩ := atI_lt (xs := ([(4 : Int), (3 : Int), (5 : Int), (2 : Int), (6 : Int), (7 : Int), (1 : Int), (0 : Int)] : (List Int))) u2 (by simpa using u3)
  have hm : 0 ≤ m ∧ m ≤ 7 := by
    simp only [List.mem_cons, List.not_mem_nil, or_false] at f2
    omega
  obtain ⟨d3, src3, v1, v2, v3, v4⟩ := take_ok ns src2 8 u4 (by decide) (by decide)
  have sp : ∃ k s, ((m_law_take ns src2 (8 : Int)).bind fun y58 => if (decide (y58.1 = (5 : Int))) = true then (some ((m + (8 : Int)), y58.2)) else (some (m, y58.2))) = some (k, s) ∧ Src s ∧ 0 ≤ k ∧ k ≤ 15 := by
    rw [bs v1]
    by_cases c : d3 = 5
    · rw [if_pos (decide_eq_true c)]
      exact ⟨_, _, rfl, v4, by omega, by omega⟩
    · rw [if_neg (by simpa using c)]
      exact ⟨_, _, rfl, v4, by omega, by omega⟩
  obtain ⟨k, src4, g1, g2, g3, g4⟩ := sp
  obtain ⟨ls, src5, w1, w2, L⟩ := letters_ok ns src4 n g2 hn.1 hn.2
  obtain ⟨cl, log, src6, x1, x2, SO⟩ := split_ok ns src5 ls k L w2 g3 g4
  have c1 := SO.c1
  have c2 := SO.c2
  have l1 := SO.l1
  have l2 := SO.l2
  have Oc : Ok ls 40 cl := ⟨by omega, fun c hc => (SO.lc c hc).mono (by omega)⟩
  have lq : ∀ c ∈ log, Cl ls 20 c := fun c hc => (SO.ll c hc).mono (by omega)
  obtain ⟨q1, a1, a2⟩ := handed_ok (rows := cl) (fun c hc => by have := (SO.lc c hc).1; omega) (by omega)
  obtain ⟨q2, b1, b2⟩ := handed_ok (rows := log) (fun c hc => by have := (SO.ll c hc).1; omega) (by omega)
  have ll2 : q2.length = log.length := by rw [← b2, List.length_map]
  have ck := checked_ok L (qc := q1) (ql := q2) (by rw [a2]; exact Oc) (by omega) (fun q h => lq q.2 (by rw [← b2]; exact List.mem_map.mpr ⟨q, h, rfl⟩))
  rw [a2, b2] at ck
  have allf : ∀ (t pre : List (List Int)), (∀ i c, t[i]? = some c → Cnf (pre ++ t.take i) (negs c)) → ∀ b ∈ fol pre t, b = true := by
    intro t
    induction t with
    | nil => intro pre _ b hb; cases hb
    | cons c t ih =>
      intro pre hf b hb
      rcases List.mem_cons.mp hb with rfl | hb
      · exact decide_eq_true (by have q := hf 0 c rfl; simpa using q)
      · refine ih (pre ++ [c]) (fun i d hd => ?_) b hb
        have q := hf (i + 1) d hd
        rw [List.append_assoc]
        exact q
  have nobad : fbAt 0 (fol cl log) = none := fb_none.mpr (allf log cl SO.fol)
  have ref : m_refutes q1 q2 = some true := by
    rw [refutes_ok ck, b2]
    exact congrArg some (decide_eq_true ⟨nobad, SO.last⟩)
  obtain ⟨i, src7, y1, y2, y3, y4⟩ := take_ok ns src6 (cl.length : Int) x2 (by omega) (by omega)
  obtain ⟨whole, src8, z1, z2, z3, z4, z5⟩ := more_ok (ns := ns) L src7 y4 c1 (by omega) (fun c hc => (SO.lc c hc).mono (by omega))
  obtain ⟨logs, src9, k1, k2⟩ := logs_ok (ns := ns) L src8 z2 l1 l2 SO.ll
  have ct := cut_two cl i (i + 1) y2 (by omega)
  have O1 : Ok ls 40 whole := ⟨by omega, fun c hc => (z3 c hc).mono (by omega)⟩
  have O2 : Ok ls 40 (cutL cl none (some i) ++ cutL cl (some (i + 1)) none) := ⟨by rw [List.length_append]; omega, in_app (fun z hz => (SO.lc z (cut_mem hz)).mono (by omega)) fun z hz => (SO.lc z (cut_mem hz)).mono (by omega)⟩
  unfold m_law
  rw [bs s1, bs t1, bs e1, bs u1, bs f1, bs g1, bs w1, bs x1, bs (asked_ok L Oc (by show log.length ≤ 20; omega) lq), if_neg (by simp), bs a1, bs b1, bs ref]
  have es : m_law_same true true = true := rfl
  rw [es, Option.bind_some, if_neg (by simp), bs y1, bs z1, grd_t (decide_eq_true (by show (cutL cl none (some i)).length + (cutL cl (some (i + 1)) none).length ≤ _; omega)), bs k1]
  rw [bs (law_l1 L (y85 := ((cl, log), src6)) (y159 := (i, src7)) (y170 := (whole, src8)) O1 O2 logs k2)]
end G

namespace G
open PySem PySem.Spec PyProof.Rows L2

def top (i : Nat) : Stmt := PySem.Challenge.pw_someandall_k36_log_lines_exactly.main.body.getD i (.Pass ⟨0, 0, 0, 0⟩)

abbrev s_law_seed : Stmt := top 7

abbrev s_law_take : Stmt := top 8

abbrev s_law_letter : Stmt := top 10

abbrev s_law_letters : Stmt := top 11

abbrev s_law_split : Stmt := top 13

abbrev s_law_handed : Stmt := top 18

abbrev s_law_forced : Stmt := top 19

abbrev s_law_follows : Stmt := top 20

abbrev s_Pusher_include : Stmt := inClass (top 1) 1

abbrev s_Pusher_init : Stmt := inClass (top 1) 0

abbrev s_Pusher_push : Stmt := inClass (top 1) 2

abbrev s_Pusher_forced : Stmt := inClass (top 1) 3

abbrev s_checked_lines : Stmt := top 3

abbrev s_law_same : Stmt := top 9

abbrev s_first_bad : Stmt := top 4

abbrev s_refutes : Stmt := top 5

abbrev s_law_asked : Stmt := top 21

abbrev s_law_literal : Stmt := top 12

abbrev s_law_line : Stmt := top 14

abbrev s_law_more : Stmt := top 15

abbrev s_law_bent : Stmt := top 16

abbrev s_law_logs : Stmt := top 17

abbrev s_law : Stmt := top 22

def fl_Pusher (v0 v1 v2 v3 : V) : List (Str × V) := putF "_empty" v3 (putF "_starts" v2 (putF "_places" v1 (putF "_clauses" v0 ([]))))
theorem fl_Pusher_few {v0 v1 v2 v3 : V} : (fl_Pusher v0 v1 v2 v3).length < 1000 := Nat.lt_of_le_of_lt (fewl (fewl (fewl (fewl (Nat.le_refl 0))))) (by decide)
theorem fn_Pusher_clauses_places : ¬ (("_clauses" : Str) = "_places") := by decide +kernel
theorem fn_Pusher_clauses_starts : ¬ (("_clauses" : Str) = "_starts") := by decide +kernel
theorem fn_Pusher_clauses_empty : ¬ (("_clauses" : Str) = "_empty") := by decide +kernel
theorem fn_Pusher_places_clauses : ¬ (("_places" : Str) = "_clauses") := by decide +kernel
theorem fn_Pusher_places_starts : ¬ (("_places" : Str) = "_starts") := by decide +kernel
theorem fn_Pusher_places_empty : ¬ (("_places" : Str) = "_empty") := by decide +kernel
theorem fn_Pusher_starts_clauses : ¬ (("_starts" : Str) = "_clauses") := by decide +kernel
theorem fn_Pusher_starts_places : ¬ (("_starts" : Str) = "_places") := by decide +kernel
theorem fn_Pusher_starts_empty : ¬ (("_starts" : Str) = "_empty") := by decide +kernel
theorem fn_Pusher_empty_clauses : ¬ (("_empty" : Str) = "_clauses") := by decide +kernel
theorem fn_Pusher_empty_places : ¬ (("_empty" : Str) = "_places") := by decide +kernel
theorem fn_Pusher_empty_starts : ¬ (("_empty" : Str) = "_starts") := by decide +kernel
theorem fl_Pusher_clauses {v0 v1 v2 v3 : V} : (fl_Pusher v0 v1 v2 v3).lookup ("_clauses" : Str) = some v0 := by
  unfold fl_Pusher
  rw [lookup_putF, if_neg fn_Pusher_clauses_empty, lookup_putF, if_neg fn_Pusher_clauses_starts, lookup_putF, if_neg fn_Pusher_clauses_places, lookup_putF, if_pos rfl]
theorem fl_Pusher_places {v0 v1 v2 v3 : V} : (fl_Pusher v0 v1 v2 v3).lookup ("_places" : Str) = some v1 := by
  unfold fl_Pusher
  rw [lookup_putF, if_neg fn_Pusher_places_empty, lookup_putF, if_neg fn_Pusher_places_starts, lookup_putF, if_pos rfl]
theorem fl_Pusher_starts {v0 v1 v2 v3 : V} : (fl_Pusher v0 v1 v2 v3).lookup ("_starts" : Str) = some v2 := by
  unfold fl_Pusher
  rw [lookup_putF, if_neg fn_Pusher_starts_empty, lookup_putF, if_pos rfl]
theorem fl_Pusher_empty {v0 v1 v2 v3 : V} : (fl_Pusher v0 v1 v2 v3).lookup ("_empty" : Str) = some v3 := by
  unfold fl_Pusher
  rw [lookup_putF, if_pos rfl]
theorem fl_Pusher_put_clauses {w v0 v1 v2 v3 : V} : putF "_clauses" w (fl_Pusher v0 v1 v2 v3) = fl_Pusher w v1 v2 v3 := by
  unfold fl_Pusher
  simp only [putF, if_neg fn_Pusher_places_clauses, if_neg fn_Pusher_starts_clauses, if_neg fn_Pusher_empty_clauses, if_neg fn_Pusher_clauses_places, if_neg fn_Pusher_starts_places, if_neg fn_Pusher_empty_places, if_neg fn_Pusher_clauses_starts, if_neg fn_Pusher_places_starts, if_neg fn_Pusher_empty_starts, if_neg fn_Pusher_clauses_empty, if_neg fn_Pusher_places_empty, if_neg fn_Pusher_starts_empty, if_true, if_pos, reduceIte]
theorem fl_Pusher_put_places {w v0 v1 v2 v3 : V} : putF "_places" w (fl_Pusher v0 v1 v2 v3) = fl_Pusher v0 w v2 v3 := by
  unfold fl_Pusher
  simp only [putF, if_neg fn_Pusher_places_clauses, if_neg fn_Pusher_starts_clauses, if_neg fn_Pusher_empty_clauses, if_neg fn_Pusher_clauses_places, if_neg fn_Pusher_starts_places, if_neg fn_Pusher_empty_places, if_neg fn_Pusher_clauses_starts, if_neg fn_Pusher_places_starts, if_neg fn_Pusher_empty_starts, if_neg fn_Pusher_clauses_empty, if_neg fn_Pusher_places_empty, if_neg fn_Pusher_starts_empty, if_true, if_pos, reduceIte]
theorem fl_Pusher_put_starts {w v0 v1 v2 v3 : V} : putF "_starts" w (fl_Pusher v0 v1 v2 v3) = fl_Pusher v0 v1 w v3 := by
  unfold fl_Pusher
  simp only [putF, if_neg fn_Pusher_places_clauses, if_neg fn_Pusher_starts_clauses, if_neg fn_Pusher_empty_clauses, if_neg fn_Pusher_clauses_places, if_neg fn_Pusher_starts_places, if_neg fn_Pusher_empty_places, if_neg fn_Pusher_clauses_starts, if_neg fn_Pusher_places_starts, if_neg fn_Pusher_empty_starts, if_neg fn_Pusher_clauses_empty, if_neg fn_Pusher_places_empty, if_neg fn_Pusher_starts_empty, if_true, if_pos, reduceIte]
theorem fl_Pusher_put_empty {w v0 v1 v2 v3 : V} : putF "_empty" w (fl_Pusher v0 v1 v2 v3) = fl_Pusher v0 v1 v2 w := by
  unfold fl_Pusher
  simp only [putF, if_neg fn_Pusher_places_clauses, if_neg fn_Pusher_starts_clauses, if_neg fn_Pusher_empty_clauses, if_neg fn_Pusher_clauses_places, if_neg fn_Pusher_starts_places, if_neg fn_Pusher_empty_places, if_neg fn_Pusher_clauses_starts, if_neg fn_Pusher_places_starts, if_neg fn_Pusher_empty_starts, if_neg fn_Pusher_clauses_empty, if_neg fn_Pusher_places_empty, if_neg fn_Pusher_starts_empty, if_true, if_pos, reduceIte]
theorem fl_Pusher_no_push {v0 v1 v2 v3 : V} : (fl_Pusher v0 v1 v2 v3).lookup ("_push" : Str) = none := by
  unfold fl_Pusher
  rw [lookup_putF, if_neg (show ¬ (("_push" : Str) = "_empty") by decide +kernel), lookup_putF, if_neg (show ¬ (("_push" : Str) = "_starts") by decide +kernel), lookup_putF, if_neg (show ¬ (("_push" : Str) = "_places") by decide +kernel), lookup_putF, if_neg (show ¬ (("_push" : Str) = "_clauses") by decide +kernel)]
  rfl
theorem fl_Pusher_no_forced {v0 v1 v2 v3 : V} : (fl_Pusher v0 v1 v2 v3).lookup ("forced" : Str) = none := by
  unfold fl_Pusher
  rw [lookup_putF, if_neg (show ¬ (("forced" : Str) = "_empty") by decide +kernel), lookup_putF, if_neg (show ¬ (("forced" : Str) = "_starts") by decide +kernel), lookup_putF, if_neg (show ¬ (("forced" : Str) = "_places") by decide +kernel), lookup_putF, if_neg (show ¬ (("forced" : Str) = "_clauses") by decide +kernel)]
  rfl
theorem fl_Pusher_no_include {v0 v1 v2 v3 : V} : (fl_Pusher v0 v1 v2 v3).lookup ("include" : Str) = none := by
  unfold fl_Pusher
  rw [lookup_putF, if_neg (show ¬ (("include" : Str) = "_empty") by decide +kernel), lookup_putF, if_neg (show ¬ (("include" : Str) = "_starts") by decide +kernel), lookup_putF, if_neg (show ¬ (("include" : Str) = "_places") by decide +kernel), lookup_putF, if_neg (show ¬ (("include" : Str) = "_clauses") by decide +kernel)]
  rfl

structure Txt (K : PySem.W.Frag) (mg : Str → Option Value) where
  z_abs : mg "abs" = none
  z_bool : mg "bool" = none
  z_dict : mg "dict" = none
  z_enumerate : mg "enumerate" = none
  z_int : mg "int" = none
  z_isinstance : mg "isinstance" = none
  z_len : mg "len" = none
  z_list : mg "list" = none
  z_range : mg "range" = none
  z_set : mg "set" = none
  z_sorted : mg "sorted" = none
  z_str : mg "str" = none
  z_tuple : mg "tuple" = none
  a_law_seed : Addr
  d_law_seed : FuncData
  F_law_seed : Fun K "_law_seed" "_law_seed" s_law_seed a_law_seed d_law_seed
  b_law_seed : Binds K d_law_seed ["script"] []
  g_law_seed : mg "_law_seed" = some (.ref a_law_seed)
  a_law_take : Addr
  d_law_take : FuncData
  F_law_take : Fun K "_law_take" "_law_take" s_law_take a_law_take d_law_take
  b_law_take : Binds K d_law_take ["script", "source", "size"] []
  g_law_take : mg "_law_take" = some (.ref a_law_take)
  a_law_letter : Addr
  d_law_letter : FuncData
  F_law_letter : Fun K "_law_letter" "_law_letter" s_law_letter a_law_letter d_law_letter
  b_law_letter : Binds K d_law_letter ["script", "source"] []
  g_law_letter : mg "_law_letter" = some (.ref a_law_letter)
  a_law_letters : Addr
  d_law_letters : FuncData
  F_law_letters : Fun K "_law_letters" "_law_letters" s_law_letters a_law_letters d_law_letters
  b_law_letters : Binds K d_law_letters ["script", "source", "count"] []
  g_law_letters : mg "_law_letters" = some (.ref a_law_letters)
  a_law_split : Addr
  d_law_split : FuncData
  F_law_split : Fun K "_law_split" "_law_split" s_law_split a_law_split d_law_split
  b_law_split : Binds K d_law_split ["script", "source", "letters", "count"] []
  g_law_split : mg "_law_split" = some (.ref a_law_split)
  a_law_handed : Addr
  d_law_handed : FuncData
  F_law_handed : Fun K "_law_handed" "_law_handed" s_law_handed a_law_handed d_law_handed
  b_law_handed : Binds K d_law_handed ["rows"] []
  g_law_handed : mg "_law_handed" = some (.ref a_law_handed)
  a_law_forced : Addr
  d_law_forced : FuncData
  F_law_forced : Fun K "_law_forced" "_law_forced" s_law_forced a_law_forced d_law_forced
  b_law_forced : Binds K d_law_forced ["clauses", "given"] []
  g_law_forced : mg "_law_forced" = some (.ref a_law_forced)
  a_law_follows : Addr
  d_law_follows : FuncData
  F_law_follows : Fun K "_law_follows" "_law_follows" s_law_follows a_law_follows d_law_follows
  b_law_follows : Binds K d_law_follows ["clauses", "log"] []
  g_law_follows : mg "_law_follows" = some (.ref a_law_follows)
  a_Pusher_include : Addr
  d_Pusher_include : FuncData
  F_Pusher_include : Fun K "include" "Pusher.include" s_Pusher_include a_Pusher_include d_Pusher_include
  b_Pusher_include : Binds K d_Pusher_include ["self", "clause"] []
  a_Pusher_init : Addr
  d_Pusher_init : FuncData
  F_Pusher_init : Fun K "__init__" "Pusher.__init__" s_Pusher_init a_Pusher_init d_Pusher_init
  b_Pusher_init : Binds K d_Pusher_init ["self", "clauses"] []
  a_Pusher_push : Addr
  d_Pusher_push : FuncData
  F_Pusher_push : Fun K "_push" "Pusher._push" s_Pusher_push a_Pusher_push d_Pusher_push
  b_Pusher_push : Binds K d_Pusher_push ["self", "literal", "known", "open_counts"] []
  a_Pusher_forced : Addr
  d_Pusher_forced : FuncData
  F_Pusher_forced : Fun K "forced" "Pusher.forced" s_Pusher_forced a_Pusher_forced d_Pusher_forced
  b_Pusher_forced : Binds K d_Pusher_forced ["self", "literals"] []
  a_checked_lines : Addr
  d_checked_lines : FuncData
  F_checked_lines : Fun K "checked_lines" "checked_lines" s_checked_lines a_checked_lines d_checked_lines
  b_checked_lines : Binds K d_checked_lines ["clauses", "log"] []
  g_checked_lines : mg "checked_lines" = some (.ref a_checked_lines)
  a_law_same : Addr
  d_law_same : FuncData
  F_law_same : Fun K "_law_same" "_law_same" s_law_same a_law_same d_law_same
  b_law_same : Binds K d_law_same ["actual", "due"] []
  g_law_same : mg "_law_same" = some (.ref a_law_same)
  a_first_bad : Addr
  d_first_bad : FuncData
  F_first_bad : Fun K "first_bad" "first_bad" s_first_bad a_first_bad d_first_bad
  b_first_bad : Binds K d_first_bad ["clauses", "log"] []
  g_first_bad : mg "first_bad" = some (.ref a_first_bad)
  a_refutes : Addr
  d_refutes : FuncData
  F_refutes : Fun K "refutes" "refutes" s_refutes a_refutes d_refutes
  b_refutes : Binds K d_refutes ["clauses", "log"] []
  g_refutes : mg "refutes" = some (.ref a_refutes)
  a_law_asked : Addr
  d_law_asked : FuncData
  F_law_asked : Fun K "_law_asked" "_law_asked" s_law_asked a_law_asked d_law_asked
  b_law_asked : Binds K d_law_asked ["clauses", "log"] []
  g_law_asked : mg "_law_asked" = some (.ref a_law_asked)
  a_law_literal : Addr
  d_law_literal : FuncData
  F_law_literal : Fun K "_law_literal" "_law_literal" s_law_literal a_law_literal d_law_literal
  b_law_literal : Binds K d_law_literal ["script", "source", "letters"] []
  g_law_literal : mg "_law_literal" = some (.ref a_law_literal)
  a_law_line : Addr
  d_law_line : FuncData
  F_law_line : Fun K "_law_line" "_law_line" s_law_line a_law_line d_law_line
  b_law_line : Binds K d_law_line ["script", "source", "letters"] []
  g_law_line : mg "_law_line" = some (.ref a_law_line)
  a_law_more : Addr
  d_law_more : FuncData
  F_law_more : Fun K "_law_more" "_law_more" s_law_more a_law_more d_law_more
  b_law_more : Binds K d_law_more ["script", "source", "letters", "clauses"] []
  g_law_more : mg "_law_more" = some (.ref a_law_more)
  a_law_bent : Addr
  d_law_bent : FuncData
  F_law_bent : Fun K "_law_bent" "_law_bent" s_law_bent a_law_bent d_law_bent
  b_law_bent : Binds K d_law_bent ["script", "source", "letters", "line"] []
  g_law_bent : mg "_law_bent" = some (.ref a_law_bent)
  a_law_logs : Addr
  d_law_logs : FuncData
  F_law_logs : Fun K "_law_logs" "_law_logs" s_law_logs a_law_logs d_law_logs
  b_law_logs : Binds K d_law_logs ["script", "source", "letters", "log"] []
  g_law_logs : mg "_law_logs" = some (.ref a_law_logs)
  a_law : Addr
  d_law : FuncData
  F_law : Fun K "law" "law" s_law a_law d_law
  b_law : Binds K d_law ["script"] []
  g_law : mg "law" = some (.ref a_law)
  a_Pusher : Addr
  cl_Pusher : Cls K a_Pusher
  g_Pusher : mg "Pusher" = some (.ref a_Pusher)
  n_Pusher_clauses : NoAttr K a_Pusher "_clauses"
  n_Pusher_places : NoAttr K a_Pusher "_places"
  n_Pusher_starts : NoAttr K a_Pusher "_starts"
  n_Pusher_empty : NoAttr K a_Pusher "_empty"
  h_Pusher_include : Meth K a_Pusher "include" a_Pusher_include
  mk_Pusher : Mk K a_Pusher a_Pusher_init
  h_Pusher_push : Meth K a_Pusher "_push" a_Pusher_push
  h_Pusher_forced : Meth K a_Pusher "forced" a_Pusher_forced

section
variable {P : Program} {w : World} {K : PySem.W.Frag} {mg : Str → Option Value} {base : Heap}

theorem sc_law_seed : FnScope ["script", "seed", "cell"] ["script"] (defScope s_law_seed) := ⟨rfl, rfl, rfl, by decide +kernel, rfl, by decide +kernel, by decide +kernel⟩

theorem sc_law_take : FnScope ["script", "source", "size", "digit"] ["script", "source", "size"] (defScope s_law_take) := ⟨rfl, rfl, rfl, by decide +kernel, rfl, by decide +kernel, by decide +kernel⟩

theorem sc_law_letter : FnScope ["script", "source", "kind"] ["script", "source"] (defScope s_law_letter) := ⟨rfl, rfl, rfl, by decide +kernel, rfl, by decide +kernel, by decide +kernel⟩

theorem sc_law_letters : FnScope ["script", "source", "count", "letters", "k", "letter"] ["script", "source", "count"] (defScope s_law_letters) := ⟨rfl, rfl, rfl, by decide +kernel, rfl, by decide +kernel, by decide +kernel⟩

theorem sc_law_split : FnScope ["script", "source", "letters", "count", "clauses", "nodes", "k", "at", "clause", "letter", "free", "log"] ["script", "source", "letters", "count"] (defScope s_law_split) := ⟨rfl, rfl, rfl, by decide +kernel, rfl, by decide +kernel, by decide +kernel⟩

theorem sc_law_handed : FnScope ["rows", "handed", "k", "literal"] ["rows"] (defScope s_law_handed) := ⟨rfl, rfl, rfl, by decide +kernel, rfl, by decide +kernel, by decide +kernel⟩

theorem sc_law_forced : FnScope ["clauses", "given", "known", "literal", "k", "count", "clause", "left"] ["clauses", "given"] (defScope s_law_forced) := ⟨rfl, rfl, rfl, by decide +kernel, rfl, by decide +kernel, by decide +kernel⟩

theorem sc_law_follows : FnScope ["clauses", "log", "grown", "told", "line", "clause", "literal"] ["clauses", "log"] (defScope s_law_follows) := ⟨rfl, rfl, rfl, by decide +kernel, rfl, by decide +kernel, by decide +kernel⟩

theorem sc_Pusher_include : FnScope ["self", "clause", "literals", "literal"] ["self", "clause"] (defScope s_Pusher_include) := ⟨rfl, rfl, rfl, by decide +kernel, rfl, by decide +kernel, by decide +kernel⟩

theorem sc_Pusher_init : FnScope ["self", "clauses", "clause"] ["self", "clauses"] (defScope s_Pusher_init) := ⟨rfl, rfl, rfl, by decide +kernel, rfl, by decide +kernel, by decide +kernel⟩

theorem sc_Pusher_push : FnScope ["self", "literal", "known", "open_counts", "found", "k", "one"] ["self", "literal", "known", "open_counts"] (defScope s_Pusher_push) := ⟨rfl, rfl, rfl, by decide +kernel, rfl, by decide +kernel, by decide +kernel⟩

theorem sc_Pusher_forced : FnScope ["self", "literals", "known", "open_counts", "todo", "literal"] ["self", "literals"] (defScope s_Pusher_forced) := ⟨rfl, rfl, rfl, by decide +kernel, rfl, by decide +kernel, by decide +kernel⟩

theorem sc_checked_lines : GScope ["clauses", "log", "pusher", "line", "literal"] ["clauses", "log"] (defScope s_checked_lines) := ⟨rfl, rfl, rfl, by decide +kernel, rfl, by decide +kernel, by decide +kernel⟩

theorem sc_law_same : FnScope ["actual", "due", "key", "k"] ["actual", "due"] (defScope s_law_same) := ⟨rfl, rfl, rfl, by decide +kernel, rfl, by decide +kernel, by decide +kernel⟩

theorem sc_first_bad : FnScope ["clauses", "log", "at", "follows"] ["clauses", "log"] (defScope s_first_bad) := ⟨rfl, rfl, rfl, by decide +kernel, rfl, by decide +kernel, by decide +kernel⟩

theorem sc_refutes : FnScope ["clauses", "log"] ["clauses", "log"] (defScope s_refutes) := ⟨rfl, rfl, rfl, by decide +kernel, rfl, by decide +kernel, by decide +kernel⟩

theorem sc_law_asked : FnScope ["clauses", "log", "handed", "lines", "due", "told", "follows", "bad", "k", "whole"] ["clauses", "log"] (defScope s_law_asked) := ⟨rfl, rfl, rfl, by decide +kernel, rfl, by decide +kernel, by decide +kernel⟩

theorem sc_law_literal : FnScope ["script", "source", "letters", "literal"] ["script", "source", "letters"] (defScope s_law_literal) := ⟨rfl, rfl, rfl, by decide +kernel, rfl, by decide +kernel, by decide +kernel⟩

theorem sc_law_line : FnScope ["script", "source", "letters", "literals", "k"] ["script", "source", "letters"] (defScope s_law_line) := ⟨rfl, rfl, rfl, by decide +kernel, rfl, by decide +kernel, by decide +kernel⟩

theorem sc_law_more : FnScope ["script", "source", "letters", "clauses", "clause", "more", "k", "kind"] ["script", "source", "letters", "clauses"] (defScope s_law_more) := ⟨rfl, rfl, rfl, by decide +kernel, rfl, by decide +kernel, by decide +kernel⟩

theorem sc_law_bent : FnScope ["script", "source", "letters", "line", "kind", "literal", "at"] ["script", "source", "letters", "line"] (defScope s_law_bent) := ⟨rfl, rfl, rfl, by decide +kernel, rfl, by decide +kernel, by decide +kernel⟩

theorem sc_law_logs : FnScope ["script", "source", "letters", "log", "last", "one", "two", "logs", "k", "at", "rest", "to"] ["script", "source", "letters", "log"] (defScope s_law_logs) := ⟨rfl, rfl, rfl, by decide +kernel, rfl, by decide +kernel, by decide +kernel⟩

theorem sc_law : FnScope ["script", "source", "count", "splits", "letters", "clauses", "log", "at", "whole", "fewer", "lines"] ["script"] (defScope s_law) := ⟨rfl, rfl, rfl, by decide +kernel, rfl, by decide +kernel, by decide +kernel⟩

def sp_law_seed (T : Txt K mg) : Sp := fun vs H Q _ => ∃ (F0 : Hp) (R : Own) (a_script0 : Addr) (v_script0 : List V) (x_script0 : (List Int)) (r : Int),
  vs = [V.ref a_script0] ∧ SqL K F0 a_script0 v_script0 ∧ LR (rInt F0) v_script0 x_script0 ∧ Sta F0 ([] ++ R) H ∧ m_law_seed x_script0 = some r ∧ Q (V.int r) H

theorem ok_law_seed (T : Txt K mg) : FnOk P w K mg base CX0 1 T.a_law_seed T.d_law_seed ["script"] (sp_law_seed T) := by
  refine T.F_law_seed.ok sc_law_seed (fun vs H Q E h => ?_) (fun cdv A outer s H vs Q E hr h => ?_)
  · obtain ⟨_, _, _, _, _, _, rfl, _⟩ := h
    rfl
  · obtain ⟨F0, R, a_script0, v_script0, x_script0, r, rfl, hs_script0, hl_script0, S0, hm, kk⟩ := h
    have hu := hu_of hr
    unfold m_law_seed at hm
    refine ⟨_, (pss_cons (ps_set (i := 1) sc_law_seed.nd rfl (Or.inl rfl) pe_int) (pss_cons (ps_for PassesOwn.never rfl (pi_list (pv 0)) (pg_name (i := 2) sc_law_seed.nd rfl (Or.inl rfl)) (pss_one (ps_set (i := 1) sc_law_seed.nd rfl (Or.inl rfl) (pe_op op_mod (pe_op op_add (pe_op op_add (pe_op op_mul (pv 1) pe_int) (pe_op op_mod (pe_callTy call_int1 (by rfl) T.z_int (by decide +kernel) (pa_cons (pv 2) pa_nil)) pe_int)) pe_int) pe_int)))) (pss_one (ps_ret (pv 1))))), ?_⟩
    refine seqI fun N1 hN2 => ?_
    refine hN2 _ _ ?_
    refine seqI fun N3 hN4 => ?_
    revert hm; refine bndI fun y5 e6 hm7 => ?_
    refine ⟨_, rfl, _, rfl, ⟨_, (SqL.mono hs_script0 ((Same.refl _).trans S0.sub))⟩, for_list (K := K) (a := a_script0) (xs := v_script0) (fun i σ H2 => ∃ (st1 : Int) (F20 : Hp) (o23 : Option V), σ = [some (V.ref a_script0), some (V.int st1), o23] ∧ H = H2 ∧ Same F0 F20 ∧ Sta F20 ([] ++ R) H2 ∧ m_law_seed_l1 (List.drop i x_script0) st1 = some y5) ⟨(1 : Int), F0, _, rfl, rfl, (Same.refl _), S0, e6⟩ (by rintro i σ H2 _ ⟨st1, F20, o23, rfl, rfl, s21, S22, _⟩; exact (SqL.mono hs_script0 (s21.trans S22.sub))) ?_ ?_⟩
    · rintro i v25 σ H2 hi ⟨st1, F20, o23, rfl, rfl, s21, S22, hm⟩
      obtain ⟨x24, hx26, rx27⟩ := LR.getV hl_script0 hi
      rw [drop_cons hx26, m_law_seed_l1] at hm
      obtain rfl := rInt_e rx27
      refine ⟨_, rfl, _, _, rfl, rfl, .inr ⟨by decide, by decide⟩, _, rfl, ?_⟩
      refine .inl ⟨_, rfl, ?_⟩
      refine ⟨_, _, rfl, rfl, (by show (0 : Int) < 2147483647; decide), _, _, rfl, rfl, _, _, rfl, rfl, _, _, rfl, rfl, (by show (0 : Int) < 2147483647; decide), ?_⟩
      exact ⟨((((st1 * (69621 : Int)) + (x24 % (2147483647 : Int))) + (7 : Int)) % (2147483647 : Int)), F20, _, rfl, rfl, s21, S22, hm⟩
    · rintro σ H2 ⟨st1, F20, o23, rfl, rfl, s21, S22, hm⟩
      rw [LR.dropEnd hl_script0, m_law_seed_l1] at hm
      obtain rfl := Option.some.inj hm
      have hm := hm7
      refine hN4 _ _ ?_
      refine ⟨_, rfl, ?_⟩
      obtain rfl := Option.some.inj hm
      exact kk

def sp_law_take (T : Txt K mg) : Sp := fun vs H Q _ => ∃ (F0 : Hp) (R : Own) (a_script0 : Addr) (v_script0 : List V) (x_script0 : (List Int)) (a_source0 : Addr) (v_source0 : List V) (x_source0 : (List Int)) (x_size0 : Int) (r : (Int × (List Int))),
  vs = [V.ref a_script0, V.ref a_source0, V.int x_size0] ∧ SqL K F0 a_script0 v_script0 ∧ LR (rInt F0) v_script0 x_script0 ∧ LR (rInt F0) v_source0 x_source0 ∧ Sta F0 ([(a_source0, HO.lst v_source0)] ++ R) H ∧ m_law_take x_script0 x_source0 x_size0 = some r ∧ ∀ (F1 : Hp) (H1 : Hp) (v_source0p : List V), Same F0 F1 → Sta F1 ([(a_source0, HO.lst v_source0p)] ++ R) H1 → LR (rInt F1) v_source0p r.2 → Q (V.int r.1) H1

theorem ok_law_take (T : Txt K mg) : FnOk P w K mg base CX0 1 T.a_law_take T.d_law_take ["script", "source", "size"] (sp_law_take T) := by
  refine T.F_law_take.ok sc_law_take (fun vs H Q E h => ?_) (fun cdv A outer s H vs Q E hr h => ?_)
  · obtain ⟨_, _, _, _, _, _, _, _, _, _, rfl, _⟩ := h
    rfl
  · obtain ⟨F0, R, a_script0, v_script0, x_script0, a_source0, v_source0, x_source0, x_size0, r, rfl, hs_script0, hl_script0, hl_source0, S0, hm, kk⟩ := h
    have hu := hu_of hr
    unfold m_law_take at hm
    refine ⟨_, (C8.pss_cut (ps_if (pt_pure (PW.pt (pw_and (pt_cmpR oI_eq (pe_ix ix_list (pv 1) pe_int (fun _ _ => rfl)) pe_int (nomark _)) (pw_and1 (pt_cmpR op_lt (pe_ix ix_list (pv 1) pe_int (fun _ _ => rfl)) (pe_callB call_len_seq (by rfl) T.z_len PySem.boot_len (pa_cons (pv 0) pa_nil)) (nomark _)))))) (pss_cons (ps_asg (pe_callB call_abs (by rfl) T.z_abs (by decide +kernel) (pa_cons (pe_ix ix_list (pv 0) (pe_ix ix_list (pv 1) pe_int (fun _ _ => rfl)) (fun _ _ => rfl)) pa_nil)) (pg_sub (pv 1) pe_int set_list)) (pss_one (ps_asg (pe_op op_add (pe_ix ix_list (pv 1) pe_int (fun _ _ => rfl)) pe_int) (pg_sub (pv 1) pe_int set_list)))) pss_nil) (pss_cons (ps_if (pt_cmpR op_gt (pe_ix ix_list (pv 1) pe_int (fun _ _ => rfl)) pe_int (nomark _)) (pss_cons (ps_set (i := 3) sc_law_take.nd rfl (Or.inl rfl) (pe_op op_mod (pe_callTy call_int1 (by rfl) T.z_int (by decide +kernel) (pa_cons (pe_ix ix_list (pv 1) pe_int (fun _ _ => rfl)) pa_nil)) (pv 2))) (pss_cons (ps_asg (pe_op op_fdiv (pe_ix ix_list (pv 1) pe_int (fun _ _ => rfl)) (pv 2)) (pg_sub (pv 1) pe_int set_list)) (pss_one (ps_ret (pv 3))))) pss_nil) (pss_cons (ps_asg (pe_op op_add (pe_ix ix_list (pv 1) pe_int (fun _ _ => rfl)) pe_int) (pg_sub (pv 1) pe_int set_list)) (pss_cons (ps_asg (pe_op op_mod (pe_op op_add (pe_op op_add (pe_op op_mul (pe_ix ix_list (pv 1) pe_int (fun _ _ => rfl)) pe_int) (pe_op op_mul (pe_ix ix_list (pv 1) pe_int (fun _ _ => rfl)) pe_int)) pe_int) pe_int) (pg_sub (pv 1) pe_int set_list)) (pss_one (ps_ret (pe_op op_mod (pe_op op_fdiv (pe_ix ix_list (pv 1) pe_int (fun _ _ => rfl)) pe_int) (pv 2)))))))), ?_⟩
    revert hm; refine bndI fun y6 e7 hm => ?_
    refine ⟨fun σ H2 => ∃ (F1 : Hp) (v4 : List V), σ = [some (V.ref a_script0), some (V.ref a_source0), some (V.int x_size0), none] ∧ Same F0 F1 ∧ Sta F1 ([(a_source0, HO.lst v4)] ++ R) H2 ∧ LR (rInt F1) v4 y6, ?_, ?_⟩
    · clear hm; have hm := e7; clear e7
      revert hm; refine bndI fun b8 e9 hm => ?_
      refine ⟨b8, ?_, ?_⟩
      · clear hm
        have hm := e9
        clear e9
        revert hm; refine bndI fun y10 e11 hm => ?_
        obtain ⟨v12, ev13, rv14⟩ := LR.atI hl_source0 e11
        obtain rfl := rInt_e rv14
        refine ⟨_, rfl, _, _, _, _, rfl, rfl, (SqL.of (S0.get 0 rfl)), ev13, _, _, rfl, rfl, _, rfl, ?_⟩
        by_cases c15 : (decide (y10 = (0 : Int))) = true
        · revert hm; refine ifTI c15 fun hm => ?_
          refine goT c15 ?_
          revert hm; refine bndI fun y16 e17 hm => ?_
          obtain ⟨v18, ev19, rv20⟩ := LR.atI hl_source0 e17
          obtain rfl := rInt_e rv20
          refine ⟨_, rfl, _, _, _, _, rfl, rfl, (SqL.of (S0.get 0 rfl)), ev19, _, rfl, _, _, rfl, .inl (SqL.mono hs_script0 ((Same.refl _).trans S0.sub)), ?_⟩
          rw [LR.length hl_script0]
          refine ⟨_, _, rfl, rfl, _, rfl, ?_⟩
          exact ⟨Option.some.inj hm, rfl⟩
        · revert hm; refine ifFI c15 fun hm => ?_
          exact goF c15 ⟨Option.some.inj hm, rfl⟩
      by_cases c21 : b8 = true
      · revert hm; refine ifTI c21 fun hm => ?_
        refine goT c21 ?_
        refine seqI fun N22 hN23 => ?_
        revert hm; refine bndI fun y24 e25 hm => ?_
        obtain ⟨v26, ev27, rv28⟩ := LR.atI hl_source0 e25
        obtain rfl := rInt_e rv28
        revert hm; refine bndI fun y29 e30 hm => ?_
        obtain ⟨v31, ev32, rv33⟩ := LR.atI hl_script0 e30
        obtain rfl := rInt_e rv33
        revert hm; refine bndI fun j34 e35 hm => ?_
        refine ⟨_, rfl, _, rfl, _, _, _, _, rfl, rfl, (SqL.of (S0.get 0 rfl)), ev27, _, _, _, _, rfl, rfl, (SqL.mono hs_script0 ((Same.refl _).trans S0.sub)), ev32, _, rfl, _, rfl, _, _, _, _, rfl, rfl, (S0.get 0 rfl), (by rw [LR.length hl_source0]; exact e35), ?_⟩
        have hl36 : LR (rInt F0) (v_source0.set j34 (V.int (if y29 < 0 then -y29 else y29))) (x_source0.set j34 (if y29 < 0 then -y29 else y29)) := LR.set hl_source0 rfl
        have S37 : Sta F0 ([(a_source0, HO.lst (v_source0.set j34 (V.int (if y29 < 0 then -y29 else y29))))] ++ R) _ := S0.set 0 rfl _
        refine hN23 _ _ ?_
        revert hm; refine bndI fun y38 e39 hm => ?_
        obtain ⟨v40, ev41, rv42⟩ := LR.atI hl36 e39
        obtain rfl := rInt_e rv42
        revert hm; refine bndI fun j43 e44 hm => ?_
        refine ⟨_, rfl, _, _, _, _, rfl, rfl, (SqL.of (S37.get 0 rfl)), ev41, _, _, rfl, rfl, _, rfl, _, _, _, _, rfl, rfl, (S37.get 0 rfl), (by rw [LR.length hl36]; exact e44), ?_⟩
        clear S0
        have hl45 : LR (rInt F0) ((v_source0.set j34 (V.int (if y29 < 0 then -y29 else y29))).set j43 (V.int (y38 + (1 : Int)))) ((x_source0.set j34 (if y29 < 0 then -y29 else y29)).set j43 (y38 + (1 : Int))) := LR.set hl36 rfl
        have S46 : Sta F0 ([(a_source0, HO.lst ((v_source0.set j34 (V.int (if y29 < 0 then -y29 else y29))).set j43 (V.int (y38 + (1 : Int)))))] ++ R) _ := S37.set 0 rfl _
        obtain rfl := Option.some.inj hm
        exact ⟨F0, ((v_source0.set j34 (V.int (if y29 < 0 then -y29 else y29))).set j43 (V.int (y38 + (1 : Int)))), rfl, (Same.refl _), S46, hl45⟩
      · revert hm; refine ifFI c21 fun hm => ?_
        refine goF c21 ?_
        obtain rfl := Option.some.inj hm
        exact ⟨F0, v_source0, rfl, (Same.refl _), S0, hl_source0⟩
    · rintro σ H2 ⟨F1, v4, rfl, s2, S3, hl5⟩
      refine seqI fun N47 hN48 => ?_
      revert hm; refine bndI fun y49 e50 hm => ?_
      obtain ⟨v51, ev52, rv53⟩ := LR.atI hl5 e50
      obtain rfl := rInt_e rv53
      refine ⟨_, rfl, _, _, _, _, rfl, rfl, (SqL.of (S3.get 0 rfl)), ev52, _, _, rfl, rfl, _, rfl, ?_⟩
      by_cases c54 : (decide (y49 > (0 : Int))) = true
      · revert hm; refine ifTI c54 fun hm => ?_
        refine goT c54 ?_
        refine seqI fun N55 hN56 => ?_
        revert hm; refine bndI fun y57 e58 hm => ?_
        obtain ⟨v59, ev60, rv61⟩ := LR.atI hl5 e58
        obtain rfl := rInt_e rv61
        refine ⟨_, rfl, _, _, _, _, rfl, rfl, (SqL.of (S3.get 0 rfl)), ev60, ?_⟩
        refine .inl ⟨_, rfl, ?_⟩
        revert hm; refine grdI fun g62 hm => ?_
        refine ⟨_, rfl, _, _, rfl, rfl, divOk_mod g62, ?_⟩
        refine hN56 _ _ ?_
        refine seqI fun N63 hN64 => ?_
        revert hm; refine bndI fun y65 e66 hm => ?_
        obtain ⟨v67, ev68, rv69⟩ := LR.atI hl5 e66
        obtain rfl := rInt_e rv69
        revert hm; refine grdI fun g70 hm => ?_
        revert hm; refine bndI fun j71 e72 hm => ?_
        refine ⟨_, rfl, _, _, _, _, rfl, rfl, (SqL.of (S3.get 0 rfl)), ev68, _, rfl, _, _, rfl, rfl, divOk_fdiv g70, _, rfl, _, _, _, _, rfl, rfl, (S3.get 0 rfl), (by rw [LR.length hl5]; exact e72), ?_⟩
        have hl73 : LR (rInt F1) (v4.set j71 (V.int (y65 / x_size0))) (y6.set j71 (y65 / x_size0)) := LR.set hl5 rfl
        have S74 : Sta F1 ([(a_source0, HO.lst (v4.set j71 (V.int (y65 / x_size0))))] ++ R) _ := S3.set 0 rfl _
        refine hN64 _ _ ?_
        refine ⟨_, rfl, ?_⟩
        clear S3
        obtain rfl := Option.some.inj hm
        exact kk _ _ (v4.set j71 (V.int (y65 / x_size0))) s2 S74 hl73
      · revert hm; refine ifFI c54 fun hm => ?_
        refine goF c54 ?_
        refine hN48 _ _ ?_
        refine seqI fun N75 hN76 => ?_
        revert hm; refine bndI fun y77 e78 hm => ?_
        obtain ⟨v79, ev80, rv81⟩ := LR.atI hl5 e78
        obtain rfl := rInt_e rv81
        revert hm; refine bndI fun j82 e83 hm => ?_
        refine ⟨_, rfl, _, _, _, _, rfl, rfl, (SqL.of (S3.get 0 rfl)), ev80, _, _, rfl, rfl, _, rfl, _, _, _, _, rfl, rfl, (S3.get 0 rfl), (by rw [LR.length hl5]; exact e83), ?_⟩
        have hl84 : LR (rInt F1) (v4.set j82 (V.int (y77 + (1 : Int)))) (y6.set j82 (y77 + (1 : Int))) := LR.set hl5 rfl
        have S85 : Sta F1 ([(a_source0, HO.lst (v4.set j82 (V.int (y77 + (1 : Int)))))] ++ R) _ := S3.set 0 rfl _
        refine hN76 _ _ ?_
        refine seqI fun N86 hN87 => ?_
        revert hm; refine bndI fun y88 e89 hm => ?_
        obtain ⟨v90, ev91, rv92⟩ := LR.atI hl84 e89
        obtain rfl := rInt_e rv92
        revert hm; refine bndI fun y93 e94 hm => ?_
        obtain ⟨v95, ev96, rv97⟩ := LR.atI hl84 e94
        obtain rfl := rInt_e rv97
        revert hm; refine bndI fun j98 e99 hm => ?_
        refine ⟨_, rfl, _, _, _, _, rfl, rfl, (SqL.of (S85.get 0 rfl)), ev91, _, _, rfl, rfl, .inr ⟨by decide, by decide⟩, _, rfl, _, _, _, _, rfl, rfl, (SqL.of (S85.get 0 rfl)), ev96, _, _, rfl, rfl, .inr ⟨by decide, by decide⟩, _, _, rfl, rfl, _, _, rfl, rfl, _, _, rfl, rfl, (by show (0 : Int) < 2147483647; decide), _, rfl, _, _, _, _, rfl, rfl, (S85.get 0 rfl), (by rw [LR.length hl84]; exact e99), ?_⟩
        clear S3
        have hl100 : LR (rInt F1) ((v4.set j82 (V.int (y77 + (1 : Int)))).set j98 (V.int ((((y88 * (48271 : Int)) + (y93 * (16807 : Int))) + (12345 : Int)) % (2147483647 : Int)))) ((y6.set j82 (y77 + (1 : Int))).set j98 ((((y88 * (48271 : Int)) + (y93 * (16807 : Int))) + (12345 : Int)) % (2147483647 : Int))) := LR.set hl84 rfl
        have S101 : Sta F1 ([(a_source0, HO.lst ((v4.set j82 (V.int (y77 + (1 : Int)))).set j98 (V.int ((((y88 * (48271 : Int)) + (y93 * (16807 : Int))) + (12345 : Int)) % (2147483647 : Int)))))] ++ R) _ := S85.set 0 rfl _
        refine hN87 _ _ ?_
        revert hm; refine bndI fun y102 e103 hm => ?_
        obtain ⟨v104, ev105, rv106⟩ := LR.atI hl100 e103
        obtain rfl := rInt_e rv106
        revert hm; refine grdI fun g107 hm => ?_
        refine ⟨_, rfl, _, _, _, _, rfl, rfl, (SqL.of (S101.get 0 rfl)), ev105, _, _, rfl, rfl, ⟨by decide, by decide⟩, _, rfl, _, _, rfl, rfl, divOk_mod g107, ?_⟩
        clear S85
        obtain rfl := Option.some.inj hm
        exact kk _ _ ((v4.set j82 (V.int (y77 + (1 : Int)))).set j98 (V.int ((((y88 * (48271 : Int)) + (y93 * (16807 : Int))) + (12345 : Int)) % (2147483647 : Int)))) s2 S101 hl100

def sp_law_letter (T : Txt K mg) : Sp := fun vs H Q _ => ∃ (F0 : Hp) (R : Own) (a_script0 : Addr) (v_script0 : List V) (x_script0 : (List Int)) (a_source0 : Addr) (v_source0 : List V) (x_source0 : (List Int)) (r : (Int × (List Int))),
  vs = [V.ref a_script0, V.ref a_source0] ∧ SqL K F0 a_script0 v_script0 ∧ LR (rInt F0) v_script0 x_script0 ∧ LR (rInt F0) v_source0 x_source0 ∧ Sta F0 ([(a_source0, HO.lst v_source0)] ++ R) H ∧ m_law_letter x_script0 x_source0 = some r ∧ ∀ (F1 : Hp) (H1 : Hp) (v_source0p : List V), Same F0 F1 → Sta F1 ([(a_source0, HO.lst v_source0p)] ++ R) H1 → LR (rInt F1) v_source0p r.2 → Q (V.int r.1) H1

theorem ok_law_letter (T : Txt K mg) : FnOk P w K mg base CX0 2 T.a_law_letter T.d_law_letter ["script", "source"] (sp_law_letter T) := by
  refine T.F_law_letter.ok sc_law_letter (fun vs H Q E h => ?_) (fun cdv A outer s H vs Q E hr h => ?_)
  · obtain ⟨_, _, _, _, _, _, _, _, _, rfl, _⟩ := h
    rfl
  · obtain ⟨F0, R, a_script0, v_script0, x_script0, a_source0, v_source0, x_source0, r, rfl, hs_script0, hl_script0, hl_source0, S0, hm, kk⟩ := h
    have hu := hu_of hr
    unfold m_law_letter at hm
    refine ⟨_, (pss_cons (ps_set (i := 2) sc_law_letter.nd rfl (Or.inl rfl) (pe_call (ok_law_take T) (hr.mono (by decide)) rfl T.g_law_take T.F_law_take.kp T.b_law_take .nil pass0 (pa_cons (pv 0) (pa_cons (pv 1) (pa_cons pe_int pa_nil))))) (pss_cons (ps_if (pt_cmpR oI_eq (pv 2) pe_int (nomark _)) (pss_one (ps_ret (pe_op op_sub pe_int (pe_call (ok_law_take T) (hr.mono (by decide)) rfl T.g_law_take T.F_law_take.kp T.b_law_take .nil pass0 (pa_cons (pv 0) (pa_cons (pv 1) (pa_cons pe_int pa_nil))))))) pss_nil) (pss_cons (ps_if (pt_cmpR op_gt (pv 2) pe_int (nomark _)) (pss_one (ps_ret (pe_op op_add pe_int (pe_call (ok_law_take T) (hr.mono (by decide)) rfl T.g_law_take T.F_law_take.kp T.b_law_take .nil pass0 (pa_cons (pv 0) (pa_cons (pv 1) (pa_cons pe_int pa_nil))))))) pss_nil) (pss_one (ps_ret (pe_op op_add (pe_ix ix_list (pe_lst (pa_cons pe_int (pa_cons pe_int (pa_cons pe_int pa_nil)))) (pv 2) (fun _ _ => rfl)) (pe_call (ok_law_take T) (hr.mono (by decide)) rfl T.g_law_take T.F_law_take.kp T.b_law_take .nil pass0 (pa_cons (pv 0) (pa_cons (pv 1) (pa_cons (pe_ix ix_list (pe_lst (pa_cons pe_int (pa_cons pe_int (pa_cons pe_int pa_nil)))) (pv 2) (fun _ _ => rfl)) pa_nil)))))))))), ?_⟩
    refine seqI fun N1 hN2 => ?_
    revert hm; refine bndI fun y3 e4 hm => ?_
    refine ⟨_, rfl, _, rfl, F0, ([] ++ R), a_script0, v_script0, x_script0, a_source0, v_source0, x_source0, (8 : Int), y3, rfl, (SqL.mono hs_script0 (Same.refl _)), (hl_script0), hl_source0, S0, (by exact e4), fun F5 H6 v9 s7 S8 hl10 => ?_⟩
    have S11 : Sta F5 ([(a_source0, HO.lst v9)] ++ R) _ := S8
    refine hN2 _ _ ?_
    refine seqI fun N12 hN13 => ?_
    refine ⟨_, rfl, _, _, rfl, rfl, _, rfl, ?_⟩
    clear S8
    by_cases c14 : (decide (y3.1 = (7 : Int))) = true
    · revert hm; refine ifTI c14 fun hm => ?_
      refine goT c14 ?_
      revert hm; refine bndI fun y15 e16 hm => ?_
      refine ⟨_, rfl, _, rfl, F5, ([] ++ R), a_script0, v_script0, x_script0, a_source0, v9, y3.2, (3 : Int), y15, rfl, (SqL.mono hs_script0 s7), ((hl_script0.mono s7)), hl10, S11, (by exact e16), fun F17 H18 v21 s19 S20 hl22 => ?_⟩
      have S23 : Sta F17 ([(a_source0, HO.lst v21)] ++ R) _ := S20
      refine ⟨_, _, rfl, rfl, ?_⟩
      clear S20
      obtain rfl := Option.some.inj hm
      exact kk _ _ v21 (s7.trans s19) S23 hl22
    · revert hm; refine ifFI c14 fun hm => ?_
      refine goF c14 ?_
      refine hN13 _ _ ?_
      refine seqI fun N24 hN25 => ?_
      refine ⟨_, rfl, _, _, rfl, rfl, _, rfl, ?_⟩
      by_cases c26 : (decide (y3.1 > (2 : Int))) = true
      · revert hm; refine ifTI c26 fun hm => ?_
        refine goT c26 ?_
        revert hm; refine bndI fun y27 e28 hm => ?_
        refine ⟨_, rfl, _, rfl, F5, ([] ++ R), a_script0, v_script0, x_script0, a_source0, v9, y3.2, (9 : Int), y27, rfl, (SqL.mono hs_script0 s7), ((hl_script0.mono s7)), hl10, S11, (by exact e28), fun F29 H30 v33 s31 S32 hl34 => ?_⟩
        have S35 : Sta F29 ([(a_source0, HO.lst v33)] ++ R) _ := S32
        refine ⟨_, _, rfl, rfl, ?_⟩
        clear S32
        obtain rfl := Option.some.inj hm
        exact kk _ _ v33 (s7.trans s31) S35 hl34
      · revert hm; refine ifFI c26 fun hm => ?_
        refine goF c26 ?_
        refine hN25 _ _ ?_
        refine ⟨(by show 3 ≤ sizeLine; decide), ?_⟩
        intro a36 np37
        have hl38 : LR (rInt F5) [V.int 10, V.int 100, V.int 100000] ([(10 : Int), (100 : Int), (100000 : Int)] : (List Int)) := ⟨rfl, rfl, rfl, trivial⟩
        have S39 : Sta F5 ([(a36, HO.lst [V.int 10, V.int 100, V.int 100000]), (a_source0, HO.lst v9)] ++ R) _ := S11.new np37 _
        revert hm; refine bndI fun y40 e41 hm => ?_
        obtain ⟨v42, ev43, rv44⟩ := LR.atI hl38 e41
        obtain rfl := rInt_e rv44
        refine ⟨_, rfl, _, _, _, _, rfl, rfl, (SqL.of (S39.get 0 rfl)), ev43, _, rfl, _, rfl, (by show 3 ≤ sizeLine; decide), ?_⟩
        clear S11
        intro a45 np46
        have hl47 : LR (rInt F5) [V.int 90, V.int 9900, V.int 899997] ([(90 : Int), (9900 : Int), (899997 : Int)] : (List Int)) := ⟨rfl, rfl, rfl, trivial⟩
        have S48 : Sta F5 ([(a45, HO.lst [V.int 90, V.int 9900, V.int 899997]), (a36, HO.lst [V.int 10, V.int 100, V.int 100000]), (a_source0, HO.lst v9)] ++ R) _ := S39.new np46 _
        revert hm; refine bndI fun y49 e50 hm => ?_
        obtain ⟨v51, ev52, rv53⟩ := LR.atI hl47 e50
        obtain rfl := rInt_e rv53
        have S54 : Sta F5 ([(a_source0, HO.lst v9), (a45, HO.lst [V.int 90, V.int 9900, V.int 899997]), (a36, HO.lst [V.int 10, V.int 100, V.int 100000])] ++ R) _ := S48.pick [2, 0, 1] (by decide) rfl
        revert hm; refine bndI fun y55 e56 hm => ?_
        refine ⟨_, rfl, _, _, _, _, rfl, rfl, (SqL.of (S48.get 0 rfl)), ev52, F5, ([(a45, HO.lst [V.int 90, V.int 9900, V.int 899997]), (a36, HO.lst [V.int 10, V.int 100, V.int 100000])] ++ R), a_script0, v_script0, x_script0, a_source0, v9, y3.2, y49, y55, rfl, (SqL.mono hs_script0 s7), ((hl_script0.mono s7)), hl10, S54, (by exact e56), fun F57 H58 v61 s59 S60 hl62 => ?_⟩
        clear S39 S48
        have S63 : Sta F57 ([(a_source0, HO.lst v61), (a45, HO.lst [V.int 90, V.int 9900, V.int 899997]), (a36, HO.lst [V.int 10, V.int 100, V.int 100000])] ++ R) _ := S60
        refine ⟨_, _, rfl, rfl, ?_⟩
        clear S60
        obtain rfl := Option.some.inj hm
        have S64 : Sta F57 ([(a_source0, HO.lst v61)] ++ R) _ := S63.pick [0] (by decide) rfl
        exact kk _ _ v61 (s7.trans s59) S64 hl62

def sp_law_letters (T : Txt K mg) : Sp := fun vs H Q _ => ∃ (F0 : Hp) (R : Own) (a_script0 : Addr) (v_script0 : List V) (x_script0 : (List Int)) (a_source0 : Addr) (v_source0 : List V) (x_source0 : (List Int)) (x_count0 : Int) (r : ((List Int) × (List Int))),
  vs = [V.ref a_script0, V.ref a_source0, V.int x_count0] ∧ SqL K F0 a_script0 v_script0 ∧ LR (rInt F0) v_script0 x_script0 ∧ LR (rInt F0) v_source0 x_source0 ∧ Sta F0 ([(a_source0, HO.lst v_source0)] ++ R) H ∧ m_law_letters x_script0 x_source0 x_count0 = some r ∧ ∀ (F1 : Hp) (H1 : Hp) (v_source0p : List V) (a_ret0p : Addr) (v_ret0p : List V), Same F0 F1 → Sta F1 ([(a_ret0p, HO.lst v_ret0p), (a_source0, HO.lst v_source0p)] ++ R) H1 → LR (rInt F1) v_source0p r.2 → LR (rInt F1) v_ret0p r.1 → Q (V.ref a_ret0p) H1

theorem ok_law_letters (T : Txt K mg) : FnOk P w K mg base CX0 3 T.a_law_letters T.d_law_letters ["script", "source", "count"] (sp_law_letters T) := by
  refine T.F_law_letters.ok sc_law_letters (fun vs H Q E h => ?_) (fun cdv A outer s H vs Q E hr h => ?_)
  · obtain ⟨_, _, _, _, _, _, _, _, _, _, rfl, _⟩ := h
    rfl
  · obtain ⟨F0, R, a_script0, v_script0, x_script0, a_source0, v_source0, x_source0, x_count0, r, rfl, hs_script0, hl_script0, hl_source0, S0, hm, kk⟩ := h
    have hu := hu_of hr
    unfold m_law_letters at hm
    refine ⟨_, (pss_cons (ps_set (i := 3) sc_law_letters.nd rfl (Or.inl rfl) (pe_lst pa_nil)) (pss_cons (ps_for PassesOwn.never rfl (pi_range1 rfl T.z_range (pa_cons (pv 2) pa_nil)) (pg_name (i := 4) sc_law_letters.nd rfl (Or.inl rfl)) (pss_cons (ps_set (i := 5) sc_law_letters.nd rfl (Or.inl rfl) (pe_call (ok_law_letter T) (hr.mono (by decide)) rfl T.g_law_letter T.F_law_letter.kp T.b_law_letter .nil pass0 (pa_cons (pv 0) (pa_cons (pv 1) pa_nil)))) (C8.pss_cut (ps_while PassesOwn.never (pt_cmpR (op_in_seq) (pv 5) (pv 3) (by rfl)) (pss_one (ps_set (i := 5) sc_law_letters.nd rfl (Or.inl rfl) (pe_op op_add (pe_op op_mod (pe_callTy call_int1 (by rfl) T.z_int (by decide +kernel) (pa_cons (pv 5) pa_nil)) pe_int) pe_int)))) (pss_one (ps_expr (pe_bm PySem.F.plainAttrs_list PySem.F.slot_list_append PySem.F.type_list_append mt_append (pv 3) (pa_cons (pv 5) pa_nil))))))) (pss_one (ps_ret (pv 3))))), ?_⟩
    refine seqI fun N1 hN2 => ?_
    refine ⟨(by show 0 ≤ sizeLine; decide), ?_⟩
    intro a3 np4
    have hl5 : LR (rInt F0) [] ([] : (List Int)) := trivial
    have S6 : Sta F0 ([(a3, HO.lst []), (a_source0, HO.lst v_source0)] ++ R) _ := S0.new np4 _
    refine hN2 _ _ ?_
    refine seqI fun N7 hN8 => ?_
    revert hm; refine grdI fun g12 hm => ?_
    revert hm; refine bndI fun y9 e10 hm11 => ?_
    refine ⟨_, rfl, _, rfl, (rngOk_lo g12), (rngOk_hi g12), for_rng (lo := 0) (n := x_count0.toNat) (fun i σ H2 => ∃ (st1 : ((List Int) × (List Int))) (F36 : Hp) (v41 : List V) (v43 : List V) (o39 : Option V) (o40 : Option V), σ = [some (V.ref a_script0), some (V.ref a_source0), some (V.int x_count0), some (V.ref a3), o39, o40] ∧ Same F0 F36 ∧ Sta F36 ([(a3, HO.lst v41), (a_source0, HO.lst v43)] ++ R) H2 ∧ LR (rInt F36) v41 st1.1 ∧ LR (rInt F36) v43 st1.2 ∧ m_law_letters_l1 x_script0 (List.drop i (pyRange 0 x_count0.toNat)) st1 = some y9) ⟨(([] : (List Int)), x_source0), F0, [], v_source0, _, _, rfl, (Same.refl _), S6, hl5, hl_source0, e10⟩ ?_ ?_⟩
    clear S0
    · rintro i x45 σ H2 hi ⟨st1, F36, v41, v43, o39, o40, rfl, s37, S38, hl42, hl44, hm⟩
      rw [drop_cons hi, m_law_letters_l1] at hm
      refine seqI fun N47 hN48 => ?_
      have S49 : Sta F36 ([(a_source0, HO.lst v43), (a3, HO.lst v41)] ++ R) _ := S38.pick [1, 0] (by decide) rfl
      revert hm; refine bndI fun y50 e51 hm => ?_
      refine ⟨_, rfl, _, rfl, F36, ([(a3, HO.lst v41)] ++ R), a_script0, v_script0, x_script0, a_source0, v43, st1.2, y50, rfl, (SqL.mono hs_script0 s37), ((hl_script0.mono s37)), hl44, S49, (by exact e51), fun F52 H53 v56 s54 S55 hl57 => ?_⟩
      clear S38
      have S58 : Sta F52 ([(a_source0, HO.lst v56), (a3, HO.lst v41)] ++ R) _ := S55
      refine hN48 _ _ ?_
      revert hm; refine bndI fun y59 e60 hm61 => ?_
      refine ⟨fun σ H2 => ∃ (st2 : Int) (F62 : Hp), σ = [some (V.ref a_script0), some (V.ref a_source0), some (V.int x_count0), some (V.ref a3), some (V.int x45), some (V.int st2)] ∧ Same F52 F62 ∧ Sta F62 ([(a_source0, HO.lst v56), (a3, HO.lst v41)] ++ R) H2 ∧ st2 = y59, ?_, ?_⟩
      · have hm := e60; clear e60
        refine while_fuel (fun i σ H2 => ∃ (st2 : Int) (F62 : Hp), σ = [some (V.ref a_script0), some (V.ref a_source0), some (V.int x_count0), some (V.ref a3), some (V.int x45), some (V.int st2)] ∧ Same F52 F62 ∧ Sta F62 ([(a_source0, HO.lst v56), (a3, HO.lst v41)] ++ R) H2 ∧ m_law_letters_l2 st1 i st2 = some y59) fuel ⟨y50.1, F52, rfl, (Same.refl _), S58, hm⟩ ?_ ?_
        · rintro i σ H2 ⟨st2, F62, rfl, s63, S64, hm⟩
          rw [m_law_letters_l2] at hm
          refine ⟨_, rfl, _, rfl, _, _, rfl, (.inl (SqL.of (S64.get 1 rfl))), rfl, (ints_in st2 (hl42.mono (s54.trans s63))).2, ?_⟩
          rw [show _ = (decide (st2 ∈ st1.1)) from (ints_in st2 (hl42.mono (s54.trans s63))).1]
          refine ⟨_, rfl, ?_⟩
          by_cases c66 : (decide (st2 ∈ st1.1)) = true
          · revert hm; refine ifTI c66 fun hm => ?_
            refine goT c66 (wh_in ?_)
            refine ⟨_, rfl, ?_⟩
            refine .inl ⟨_, rfl, ?_⟩
            refine ⟨_, _, rfl, rfl, (by show (0 : Int) < 999999; decide), _, _, rfl, rfl, ?_⟩
            exact ⟨((st2 % (999999 : Int)) + (1 : Int)), F62, rfl, s63, S64, hm⟩
          · revert hm; refine ifFI c66 fun hm => ?_
            refine goF c66 ?_
            exact ⟨st2, F62, rfl, s63, S64, Option.some.inj hm⟩
        · rintro σ H2 ⟨st2, F62, rfl, s63, S64, hm⟩
          rw [m_law_letters_l2] at hm
          cases hm
      · rintro σ H2 ⟨st2, F62, rfl, s63, S64, rfl⟩
        have hm := hm61
        revert hm; refine grdI fun g67 hm => ?_
        refine ⟨_, rfl, .inl ⟨rfl, _, (SqL.of (S64.get 1 rfl))⟩, _, rfl, _, _, _, rfl, rfl, (S64.get 1 rfl), (by rw [LR.length (hl42.mono (s54.trans s63))]; exact of_decide_eq_true g67), ?_⟩
        have hl68 : LR (rInt F62) (v41 ++ [V.int st2]) (st1.1 ++ [st2]) := LR.snoc (hl42.mono (s54.trans s63)) rfl
        have S69 : Sta F62 ([(a_source0, HO.lst v56), (a3, HO.lst (v41 ++ [V.int st2]))] ++ R) _ := S64.set 1 rfl _
        have S70 : Sta F62 ([(a3, HO.lst (v41 ++ [V.int st2])), (a_source0, HO.lst v56)] ++ R) _ := S69.pick [1, 0] (by decide) rfl
        exact ⟨((st1.1 ++ [st2]), y50.2), F62, (v41 ++ [V.int st2]), v56, _, _, rfl, (s37.trans (s54.trans s63)), S70, hl68, (hl57.mono s63), hm⟩
    · rintro σ H2 ⟨st1, F36, v41, v43, o39, o40, rfl, s37, S38, hl42, hl44, hm⟩
      rw [drop_rng, m_law_letters_l1] at hm
      obtain rfl := Option.some.inj hm
      have hm := hm11
      refine hN8 _ _ ?_
      refine ⟨_, rfl, ?_⟩
      obtain rfl := Option.some.inj hm
      exact kk _ _ v43 a3 v41 s37 S38 hl44 hl42

def sp_law_split (T : Txt K mg) : Sp := fun vs H Q _ => ∃ (F0 : Hp) (R : Own) (a_script0 : Addr) (v_script0 : List V) (x_script0 : (List Int)) (a_source0 : Addr) (v_source0 : List V) (x_source0 : (List Int)) (a_letters0 : Addr) (v_letters0 : List V) (x_letters0 : (List Int)) (x_count0 : Int) (r : (((List (List Int)) × (List (List Int))) × (List Int))),
  vs = [V.ref a_script0, V.ref a_source0, V.ref a_letters0, V.int x_count0] ∧ SqL K F0 a_script0 v_script0 ∧ LR (rInt F0) v_script0 x_script0 ∧ LR (rInt F0) v_source0 x_source0 ∧ SqL K (ov F0 R) a_letters0 v_letters0 ∧ LR (rInt F0) v_letters0 x_letters0 ∧ Sta F0 ([(a_source0, HO.lst v_source0)] ++ R) H ∧ m_law_split x_script0 x_source0 x_letters0 x_count0 = some r ∧ ∀ (F1 : Hp) (H1 : Hp) (v_source0p : List V) (v_ret0p : V), Same F0 F1 → Sta F1 ([(a_source0, HO.lst v_source0p)] ++ R) H1 → LR (rInt F1) v_source0p r.2 → (rT2 K (rLst K (rLst K rInt)) (rLst K (rLst K rInt))) F1 v_ret0p r.1 → Q (v_ret0p) H1

theorem ok_law_split (T : Txt K mg) : FnOk P w K mg base CX0 2 T.a_law_split T.d_law_split ["script", "source", "letters", "count"] (sp_law_split T) := by
  refine T.F_law_split.ok sc_law_split (fun vs H Q E h => ?_) (fun cdv A outer s H vs Q E hr h => ?_)
  · obtain ⟨_, _, _, _, _, _, _, _, _, _, _, _, _, rfl, _⟩ := h
    rfl
  · obtain ⟨F0, R, a_script0, v_script0, x_script0, a_source0, v_source0, x_source0, a_letters0, v_letters0, x_letters0, x_count0, r, rfl, hs_script0, hl_script0, hl_source0, hs_letters0, hl_letters0, S0, hm, kk⟩ := h
    have hu := hu_of hr
    unfold m_law_split at hm
    refine ⟨_, (pss_cons (ps_set (i := 4) sc_law_split.nd rfl (Or.inl rfl) (pe_lst (pa_cons (pe_lst pa_nil) pa_nil))) (pss_cons (ps_set (i := 5) sc_law_split.nd rfl (Or.inr rfl) (pe_lst pa_nil)) (pss_cons (ps_for PassesOwn.never rfl (pi_range1 rfl T.z_range (pa_cons (pv 3) pa_nil)) (pg_name (i := 6) sc_law_split.nd rfl (Or.inl rfl)) (pss_cons (ps_set (i := 7) sc_law_split.nd rfl (Or.inl rfl) (pe_call (ok_law_take T) (hr.mono (by decide)) rfl T.g_law_take T.F_law_take.kp T.b_law_take .nil pass0 (pa_cons (pv 0) (pa_cons (pv 1) (pa_cons (pe_callB call_len_seq (by rfl) T.z_len PySem.boot_len (pa_cons (pv 4) pa_nil)) pa_nil))))) (pss_cons (ps_set (i := 8) sc_law_split.nd rfl (Or.inr rfl) (pe_ix ix_list (pv 4) (pv 7) (fun _ _ => rfl))) (pss_cons (ps_setLc (i := 10) (own := [("letter", 9)]) rfl sc_law_split.nd rfl rfl (sw_true rfl rfl rfl (by decide +kernel)) (pi_list (pv 2)) (blkOk_by (own := [("letter", 9)]) (N := ["script", "source", "letters", "count", "clauses", "nodes", "k", "at", "clause", "letter", "free", "log"]) (sc := defScope s_law_split) (by decide +kernel)) (fun _ _ _ _ _ => (pg_name (i := 9) sc_law_split.nd rfl (Or.inl rfl))) (fun _ _ _ _ _ => (pts_one (pt_pure (PW.pt (pw_and (pt_cmpR (op_notIn_seqK K) (pv 9) (pv 8) (by rfl)) (pw_and1 (pt_cmpR (op_notIn_seqK K) (pe_op op_sub pe_int (pv 9)) (pv 8) (by rfl)))))))) (fun _ _ _ _ _ => (pv 9))) (pss_one (ps_if (pt_cmpR (op_neD hr.units) (pv 10) (pe_lst pa_nil) (nomark _)) (pss_cons (ps_set (i := 9) sc_law_split.nd rfl (Or.inl rfl) (pe_ix ix_list (pv 10) (pe_call (ok_law_take T) (hr.mono (by decide)) rfl T.g_law_take T.F_law_take.kp T.b_law_take .nil pass0 (pa_cons (pv 0) (pa_cons (pv 1) (pa_cons (pe_callB call_len_seq (by rfl) T.z_len PySem.boot_len (pa_cons (pv 10) pa_nil)) pa_nil)))) (fun _ _ => rfl))) (pss_cons (ps_expr (pe_bm PySem.F.plainAttrs_list PySem.F.slot_list_append PySem.F.type_list_append mt_append (pv 5) (pa_cons (pv 8) pa_nil))) (pss_cons (ps_asg (pe_op op_catS (pv 8) (pe_lst (pa_cons (pv 9) pa_nil))) (pg_sub (pv 4) (pv 7) set_list)) (pss_one (ps_expr (pe_bm PySem.F.plainAttrs_list PySem.F.slot_list_append PySem.F.type_list_append mt_append (pv 4) (pa_cons (pe_op op_catS (pv 8) (pe_lst (pa_cons (pe_op op_sub pe_int (pv 9)) pa_nil))) pa_nil))))))) pss_nil)))))) (pss_cons (ps_setLc (i := 11) (own := [("k", 6)]) rfl sc_law_split.nd rfl rfl (sw_true rfl rfl rfl (by decide +kernel)) (pi_range1 rfl T.z_range (pa_cons (pe_callB call_len_seq (by rfl) T.z_len PySem.boot_len (pa_cons (pv 5) pa_nil)) pa_nil)) (blkOk_by (own := [("k", 6)]) (N := ["script", "source", "letters", "count", "clauses", "nodes", "k", "at", "clause", "letter", "free", "log"]) (sc := defScope s_law_split) (by decide +kernel)) (fun _ _ _ _ _ => (pg_name (i := 6) sc_law_split.nd rfl (Or.inl rfl))) (fun _ _ _ _ _ => pts_nil) (fun _ _ _ _ _ => (pe_ix (ix_listK K) (pv 5) (pe_op op_sub (pe_op op_sub (pe_callB (len_seqK K) (by rfl) T.z_len PySem.boot_len (pa_cons (pv 5) pa_nil)) pe_int) (pv 6)) (fun _ _ => rfl)))) (C8.pss_cut (ps_if (pt_cmpR (op_eqD hr.units) (pv 11) (pe_lst pa_nil) (nomark _)) (pss_one (ps_set (i := 11) sc_law_split.nd rfl (Or.inl rfl) (pe_lst (pa_cons (pe_lst pa_nil) pa_nil)))) pss_nil) (pss_one (ps_ret (pe_tup (pa_cons (pv 4) (pa_cons (pv 11) pa_nil)))))))))), ?_⟩
    refine seqI fun N1 hN2 => ?_
    refine ⟨(by show 0 ≤ sizeLine; decide), ?_⟩
    intro a3 np4
    have hl5 : LR (rInt F0) [] ([] : (List Int)) := trivial
    have S6 : Sta F0 ([(a3, HO.lst []), (a_source0, HO.lst v_source0)] ++ R) _ := S0.new np4 _
    obtain ⟨F7, s8, S9, h10⟩ : ∃ F', Same F0 F' ∧ Sta F' ([(a_source0, HO.lst v_source0)] ++ R) _ ∧ F' a3 = some (HO.lst []) := ⟨_, S6.frzS, S6.frz, upd_same⟩
    refine ⟨(by show 1 ≤ sizeLine; decide), ?_⟩
    clear S0
    intro a11 np12
    have hl13 : LR ((rLst K rInt) F7) [V.ref a3] ([([] : (List Int))] : (List (List Int))) := ⟨⟨_, _, rfl, SqL.mono (SqL.of h10) (Same.refl _), (hl5.mono s8)⟩, trivial⟩
    have S14 : Sta F7 ([(a11, HO.lst [V.ref a3]), (a_source0, HO.lst v_source0)] ++ R) _ := S9.new np12 _
    refine hN2 _ _ ?_
    refine seqI fun N15 hN16 => ?_
    refine ⟨(by show 0 ≤ sizeLine; decide), ?_⟩
    clear S9
    intro a17 np18
    have hl19 : LR ((rLst K rInt) F7) [] ([] : (List (List Int))) := trivial
    have S20 : Sta F7 ([(a17, HO.lst []), (a11, HO.lst [V.ref a3]), (a_source0, HO.lst v_source0)] ++ R) _ := S14.new np18 _
    refine hN16 _ _ ?_
    refine seqI fun N21 hN22 => ?_
    revert hm; refine grdI fun g26 hm => ?_
    revert hm; refine bndI fun y23 e24 hm25 => ?_
    refine ⟨_, rfl, _, rfl, (rngOk_lo g26), (rngOk_hi g26), for_rng (lo := 0) (n := x_count0.toNat) (fun i σ H2 => ∃ (st1 : ((List (List Int)) × (List (List Int)) × (List Int))) (F63 : Hp) (v71 : List V) (v73 : List V) (v75 : List V) (o66 : Option V) (o67 : Option V) (o68 : Option V) (o69 : Option V) (o70 : Option V), σ = [some (V.ref a_script0), some (V.ref a_source0), some (V.ref a_letters0), some (V.int x_count0), some (V.ref a11), some (V.ref a17), o66, o67, o68, o69, o70, none] ∧ Same F7 F63 ∧ Sta F63 ([(a17, HO.lst v71), (a11, HO.lst v73), (a_source0, HO.lst v75)] ++ R) H2 ∧ LR ((rLst K rInt) F63) v71 st1.1 ∧ LR ((rLst K rInt) F63) v73 st1.2.1 ∧ LR (rInt F63) v75 st1.2.2 ∧ m_law_split_l1 x_script0 x_letters0 (List.drop i (pyRange 0 x_count0.toNat)) st1 = some y23) ⟨(([] : (List (List Int))), ([([] : (List Int))] : (List (List Int))), x_source0), F7, [], [V.ref a3], v_source0, _, _, _, _, _, rfl, (Same.refl _), S20, hl19, hl13, (hl_source0.mono s8), e24⟩ ?_ ?_⟩
    clear S14
    · rintro i x77 σ H2 hi ⟨st1, F63, v71, v73, v75, o66, o67, o68, o69, o70, rfl, s64, S65, hl72, hl74, hl76, hm⟩
      rw [drop_cons hi, m_law_split_l1] at hm
      refine seqI fun N79 hN80 => ?_
      refine ⟨_, rfl, _, rfl, _, rfl, _, _, rfl, .inl (SqL.of (S65.get 1 rfl)), ?_⟩
      rw [LR.length hl74]
      have S81 : Sta F63 ([(a_source0, HO.lst v75), (a17, HO.lst v71), (a11, HO.lst v73)] ++ R) _ := S65.pick [2, 0, 1] (by decide) rfl
      revert hm; refine bndI fun y82 e83 hm => ?_
      refine ⟨F63, ([(a17, HO.lst v71), (a11, HO.lst v73)] ++ R), a_script0, v_script0, x_script0, a_source0, v75, st1.2.2, (st1.2.1.length : Int), y82, rfl, (SqL.mono hs_script0 (s8.trans s64)), ((hl_script0.mono (s8.trans s64))), hl76, S81, (by exact e83), fun F84 H85 v88 s86 S87 hl89 => ?_⟩
      clear S65
      have S90 : Sta F84 ([(a_source0, HO.lst v88), (a17, HO.lst v71), (a11, HO.lst v73)] ++ R) _ := S87
      refine hN80 _ _ ?_
      refine seqI fun N91 hN92 => ?_
      revert hm; refine bndI fun y93 e94 hm => ?_
      obtain ⟨v95, ev96, rv97⟩ := LR.atI hl74 e94
      obtain ⟨a98, v99, rfl, hs100, hl101⟩ := rv97
      refine ⟨_, rfl, _, rfl, _, _, _, _, rfl, rfl, (SqL.of (S90.get 2 rfl)), ev96, ?_⟩
      clear S87
      refine hN92 _ _ ?_
      refine seqI fun N102 hN103 => ?_
      revert hm; refine grdI fun g118 hm => ?_
      have e104 : lcO (fun x108 => if ((!decide (x108 ∈ y93)) && (!decide (((0 : Int) - x108) ∈ y93))) = true then (some (some x108)) else some none) x_letters0 = some ((x_letters0.filter fun x108 => ((!decide (x108 ∈ y93)) && (!decide (((0 : Int) - x108) ∈ y93)))).map fun x108 => x108) := lc_filter (fun x108 => ((!decide (x108 ∈ y93)) && (!decide (((0 : Int) - x108) ∈ y93)))) (fun x108 => x108) x_letters0
      refine ⟨_, rfl, _, rfl, ⟨_, (SqL.mono hs_letters0 (S90.bor (s8.trans (s64.trans s86)) (fun _ q => (List.mem_append_right _ q))))⟩, fun a116 np117 => lc_list (K := K) (a := a_letters0) (xs := v_letters0) (fun i H2 => ∃ (F109 : Hp) (v110 : List V) (acc111 : List Int) (r105 : List Int), Same F84 F109 ∧ Sta F109 ([(a116, HO.lst v110), (a_source0, HO.lst v88), (a17, HO.lst v71), (a11, HO.lst v73)] ++ R) H2 ∧ LR (rInt F109) v110 acc111 ∧ acc111.length ≤ i ∧ lcO (fun x108 => if ((!decide (x108 ∈ y93)) && (!decide (((0 : Int) - x108) ∈ y93))) = true then (some (some x108)) else some none) (List.drop i x_letters0) = some r105 ∧ ((x_letters0.filter fun x108 => ((!decide (x108 ∈ y93)) && (!decide (((0 : Int) - x108) ∈ y93)))).map fun x108 => x108) = acc111 ++ r105) ⟨F84, [], [], _, Same.refl _, S90.new np117 _, trivial, Nat.le_refl _, e104, rfl⟩ (by rintro i H2 _ ⟨F109, v110, acc111, r105, s112, S113, hl114, hn115, hr106, hy107⟩; exact (SqL.mono hs_letters0 (S113.bor (s8.trans (s64.trans (s86.trans s112))) (fun _ q => (List.mem_append_right _ q))))) ?_ ?_⟩
      · rintro i v119 H2 hi ⟨F109, v110, acc111, r105, s112, S113, hl114, hn115, hr106, hy107⟩
        obtain ⟨x108, hx120, rx121⟩ := LR.getV hl_letters0 hi
        rw [drop_cons hx120] at hr106
        revert hr106; refine lcI fun y122 r123 hm hr125 hc126 => ?_
        obtain rfl := rInt_e rx121
        refine ⟨rfl, ?_⟩
        refine ⟨((!decide (x108 ∈ y93)) && (!decide (((0 : Int) - x108) ∈ y93))), ?_, ?_⟩
        · refine ⟨_, rfl, _, rfl, _, _, rfl, (.inl (SqL.mono hs100 ((s86.trans s112).trans S113.sub))), rfl, (ints_in x108 (hl101.mono (s86.trans s112))).2, ?_⟩
          rw [show _ = (!decide (x108 ∈ y93)) from (congrArg (!·) (ints_in x108 (hl101.mono (s86.trans s112))).1)]
          refine ⟨_, rfl, ?_⟩
          by_cases c127 : (!decide (x108 ∈ y93)) = true
          · refine goT c127 ?_
            refine ⟨_, rfl, _, _, rfl, rfl, _, rfl, _, _, rfl, (.inl (SqL.mono hs100 ((s86.trans s112).trans S113.sub))), rfl, (ints_in ((0 : Int) - x108) (hl101.mono (s86.trans s112))).2, ?_⟩
            rw [show _ = (!decide (((0 : Int) - x108) ∈ y93)) from (congrArg (!·) (ints_in ((0 : Int) - x108) (hl101.mono (s86.trans s112))).1)]
            refine ⟨_, rfl, ?_⟩
            exact ⟨by first | (simp [c127]; done) | simp_all, rfl⟩
          · exact goF c127 ⟨by first | (simp [c127]; done) | simp_all, rfl⟩
        by_cases c128 : ((!decide (x108 ∈ y93)) && (!decide (((0 : Int) - x108) ∈ y93))) = true
        · revert hm; refine ifTI c128 fun hm => ?_
          refine goT c128 ?_
          refine ⟨_, rfl, ?_⟩
          obtain rfl := Option.some.inj hm
          have hlt : v110.length < 16777216 := by rw [LR.length hl114]; have := (List.getElem?_eq_some_iff.mp hx120).1; have := of_decide_eq_true g118; omega
          have S129 : Sta F109 ([(a116, HO.lst (v110 ++ [V.int x108])), (a_source0, HO.lst v88), (a17, HO.lst v71), (a11, HO.lst v73)] ++ R) _ := S113.set 0 rfl _
          exact ⟨_, (S113.get 0 rfl), hlt, F109, _, (acc111 ++ [x108]), r123, s112, S129, LR.snoc hl114 rfl, by rw [List.length_append]; exact Nat.succ_le_succ hn115, hr125, by rw [List.append_assoc]; exact hy107.trans (congrArg (acc111 ++ ·) hc126)⟩
        · revert hm; refine ifFI c128 fun hm => ?_
          refine goF c128 ?_
          obtain rfl := Option.some.inj hm
          exact ⟨F109, _, acc111, r123, s112, S113, hl114, Nat.le_succ_of_le hn115, hr125, hy107.trans (congrArg (acc111 ++ ·) hc126)⟩
      rintro H2 ⟨F109, v110, acc111, r105, s112, S113, hl114, hn115, hr106, hy107⟩
      rw [LR.dropEnd hl_letters0] at hr106
      obtain rfl := Option.some.inj hr106
      rw [List.append_nil] at hy107
      subst hy107
      have S130 : Sta F109 ([(a116, HO.lst v110), (a_source0, HO.lst v88), (a17, HO.lst v71), (a11, HO.lst v73)] ++ R) _ := S113
      refine hN103 _ _ ?_
      refine ⟨_, rfl, (by show 0 ≤ sizeLine; decide), ?_⟩
      clear S113
      intro a131 np132
      have hl133 : LR (rInt F109) [] ([] : (List Int)) := trivial
      have S134 : Sta F109 ([(a131, HO.lst []), (a116, HO.lst v110), (a_source0, HO.lst v88), (a17, HO.lst v71), (a11, HO.lst v73)] ++ R) _ := S130.new np132 _
      refine ⟨_, _, (dat_dp (K := K) (r := (rLst K rInt)) ⟨_, _, rfl, (SqL.of (S134.get 1 rfl)), LR.mono hl114 S134.sub⟩), (dat_dp (K := K) (r := (rLst K rInt)) ⟨_, _, rfl, (SqL.of (S134.get 0 rfl)), LR.mono hl133 S134.sub⟩), (dat_shaped (K := K) (r := (rLst K rInt)) (Nat.le_of_ble_eq_true rfl) _ (DPl.pl _)), (dat_shaped (K := K) (r := (rLst K rInt)) (Nat.le_of_ble_eq_true rfl) _ (DPl.pl _)), ?_⟩
      clear S130
      rw [dat_eqv (K := K) (r := (rLst K rInt)) ((x_letters0.filter fun x108 => ((!decide (x108 ∈ y93)) && (!decide (((0 : Int) - x108) ∈ y93)))).map fun x108 => x108) ([] : (List Int))]
      refine ⟨_, rfl, ?_⟩
      by_cases c135 : (!decide (((x_letters0.filter fun x108 => ((!decide (x108 ∈ y93)) && (!decide (((0 : Int) - x108) ∈ y93)))).map fun x108 => x108) = ([] : (List Int)))) = true
      · revert hm; refine ifTI c135 fun hm => ?_
        refine goT c135 ?_
        refine seqI fun N136 hN137 => ?_
        refine ⟨_, rfl, _, rfl, _, rfl, _, rfl, _, _, rfl, .inl (SqL.of (S134.get 1 rfl)), ?_⟩
        rw [LR.length hl114]
        have S138 : Sta F109 ([(a_source0, HO.lst v88), (a131, HO.lst []), (a116, HO.lst v110), (a17, HO.lst v71), (a11, HO.lst v73)] ++ R) _ := S134.pick [2, 0, 1, 3, 4] (by decide) rfl
        revert hm; refine bndI fun y139 e140 hm => ?_
        refine ⟨F109, ([(a131, HO.lst []), (a116, HO.lst v110), (a17, HO.lst v71), (a11, HO.lst v73)] ++ R), a_script0, v_script0, x_script0, a_source0, v88, y82.2, (((x_letters0.filter fun x108 => ((!decide (x108 ∈ y93)) && (!decide (((0 : Int) - x108) ∈ y93)))).map fun x108 => x108).length : Int), y139, rfl, (SqL.mono hs_script0 (s8.trans (s64.trans (s86.trans s112)))), ((hl_script0.mono (s8.trans (s64.trans (s86.trans s112))))), (hl89.mono s112), S138, (by exact e140), fun F141 H142 v145 s143 S144 hl146 => ?_⟩
        clear S134
        have S147 : Sta F141 ([(a_source0, HO.lst v145), (a131, HO.lst []), (a116, HO.lst v110), (a17, HO.lst v71), (a11, HO.lst v73)] ++ R) _ := S144
        revert hm; refine bndI fun y148 e149 hm => ?_
        obtain ⟨v150, ev151, rv152⟩ := LR.atI hl114 e149
        obtain rfl := rInt_e rv152
        refine ⟨_, _, _, _, rfl, rfl, (SqL.of (S147.get 2 rfl)), ev151, ?_⟩
        clear S144
        refine hN137 _ _ ?_
        refine seqI fun N153 hN154 => ?_
        revert hm; refine grdI fun g155 hm => ?_
        refine ⟨_, rfl, .inl ⟨rfl, _, (SqL.of (S147.get 3 rfl))⟩, _, rfl, _, _, _, rfl, rfl, (S147.get 3 rfl), (by rw [LR.length (hl72.mono (s86.trans (s112.trans s143)))]; exact of_decide_eq_true g155), ?_⟩
        have hl156 : LR ((rLst K rInt) F141) (v71 ++ [V.ref a98]) (st1.1 ++ [y93]) := LR.snoc (hl72.mono (s86.trans (s112.trans s143))) ⟨_, _, rfl, SqL.mono hs100 (s86.trans (s112.trans s143)), (hl101.mono (s86.trans (s112.trans s143)))⟩
        have S157 : Sta F141 ([(a_source0, HO.lst v145), (a131, HO.lst []), (a116, HO.lst v110), (a17, HO.lst (v71 ++ [V.ref a98])), (a11, HO.lst v73)] ++ R) _ := S147.set 3 rfl _
        refine hN154 _ _ ?_
        refine seqI fun N158 hN159 => ?_
        refine ⟨_, rfl, _, rfl, (by show 1 ≤ sizeLine; decide), ?_⟩
        clear S147
        intro a160 np161
        have hl162 : LR (rInt F141) [V.int y148] ([y148] : (List Int)) := ⟨rfl, trivial⟩
        have S163 : Sta F141 ([(a160, HO.lst [V.int y148]), (a_source0, HO.lst v145), (a131, HO.lst []), (a116, HO.lst v110), (a17, HO.lst (v71 ++ [V.ref a98])), (a11, HO.lst v73)] ++ R) _ := S157.new np161 _
        revert hm; refine grdI fun g164 hm => ?_
        refine ⟨_, _, _, _, rfl, rfl, (SqL.mono hs100 ((s86.trans (s112.trans s143)).trans S163.sub)), (SqL.of (S163.get 0 rfl)), (by rw [LR.length (hl101.mono (s86.trans (s112.trans s143))), LR.length hl162]; exact of_decide_eq_true g164), ?_⟩
        clear S157
        intro a165 np166
        have hl167 : LR (rInt F141) (v99 ++ [V.int y148]) (y93 ++ ([y148] : (List Int))) := LR.append (hl101.mono (s86.trans (s112.trans s143))) hl162
        have S168 : Sta F141 ([(a165, HO.lst (v99 ++ [V.int y148])), (a160, HO.lst [V.int y148]), (a_source0, HO.lst v145), (a131, HO.lst []), (a116, HO.lst v110), (a17, HO.lst (v71 ++ [V.ref a98])), (a11, HO.lst v73)] ++ R) _ := S163.new np166 _
        obtain ⟨F169, s170, S171, h172⟩ : ∃ F', Same F141 F' ∧ Sta F' ([(a160, HO.lst [V.int y148]), (a_source0, HO.lst v145), (a131, HO.lst []), (a116, HO.lst v110), (a17, HO.lst (v71 ++ [V.ref a98])), (a11, HO.lst v73)] ++ R) _ ∧ F' a165 = some (HO.lst (v99 ++ [V.int y148])) := ⟨_, S168.frzS, S168.frz, upd_same⟩
        revert hm; refine bndI fun j173 e174 hm => ?_
        refine ⟨_, rfl, _, rfl, _, _, _, _, rfl, rfl, (S171.get 5 rfl), (by rw [LR.length (hl74.mono (s86.trans (s112.trans (s143.trans s170))))]; exact e174), ?_⟩
        clear S163
        have hl175 : LR ((rLst K rInt) F169) (v73.set j173 (V.ref a165)) (st1.2.1.set j173 (y93 ++ ([y148] : (List Int)))) := LR.set (hl74.mono (s86.trans (s112.trans (s143.trans s170)))) ⟨_, _, rfl, SqL.mono (SqL.of h172) (Same.refl _), (hl167.mono s170)⟩
        have S176 : Sta F169 ([(a160, HO.lst [V.int y148]), (a_source0, HO.lst v145), (a131, HO.lst []), (a116, HO.lst v110), (a17, HO.lst (v71 ++ [V.ref a98])), (a11, HO.lst (v73.set j173 (V.ref a165)))] ++ R) _ := S171.set 5 rfl _
        refine hN159 _ _ ?_
        refine ⟨_, rfl, .inl ⟨rfl, _, (SqL.of (S176.get 5 rfl))⟩, _, rfl, _, rfl, _, _, rfl, rfl, (by show 1 ≤ sizeLine; decide), ?_⟩
        clear S171
        intro a177 np178
        have hl179 : LR (rInt F169) [V.int ((0 : Int) - y148)] ([((0 : Int) - y148)] : (List Int)) := ⟨rfl, trivial⟩
        have S180 : Sta F169 ([(a177, HO.lst [V.int ((0 : Int) - y148)]), (a160, HO.lst [V.int y148]), (a_source0, HO.lst v145), (a131, HO.lst []), (a116, HO.lst v110), (a17, HO.lst (v71 ++ [V.ref a98])), (a11, HO.lst (v73.set j173 (V.ref a165)))] ++ R) _ := S176.new np178 _
        revert hm; refine grdI fun g181 hm => ?_
        refine ⟨_, _, _, _, rfl, rfl, (SqL.mono hs100 ((s86.trans (s112.trans (s143.trans s170))).trans S180.sub)), (SqL.of (S180.get 0 rfl)), (by rw [LR.length (hl101.mono (s86.trans (s112.trans (s143.trans s170)))), LR.length hl179]; exact of_decide_eq_true g181), ?_⟩
        clear S176
        intro a182 np183
        have hl184 : LR (rInt F169) (v99 ++ [V.int ((0 : Int) - y148)]) (y93 ++ ([((0 : Int) - y148)] : (List Int))) := LR.append (hl101.mono (s86.trans (s112.trans (s143.trans s170)))) hl179
        have S185 : Sta F169 ([(a182, HO.lst (v99 ++ [V.int ((0 : Int) - y148)])), (a177, HO.lst [V.int ((0 : Int) - y148)]), (a160, HO.lst [V.int y148]), (a_source0, HO.lst v145), (a131, HO.lst []), (a116, HO.lst v110), (a17, HO.lst (v71 ++ [V.ref a98])), (a11, HO.lst (v73.set j173 (V.ref a165)))] ++ R) _ := S180.new np183 _
        obtain ⟨F186, s187, S188, h189⟩ : ∃ F', Same F169 F' ∧ Sta F' ([(a177, HO.lst [V.int ((0 : Int) - y148)]), (a160, HO.lst [V.int y148]), (a_source0, HO.lst v145), (a131, HO.lst []), (a116, HO.lst v110), (a17, HO.lst (v71 ++ [V.ref a98])), (a11, HO.lst (v73.set j173 (V.ref a165)))] ++ R) _ ∧ F' a182 = some (HO.lst (v99 ++ [V.int ((0 : Int) - y148)])) := ⟨_, S185.frzS, S185.frz, upd_same⟩
        revert hm; refine grdI fun g190 hm => ?_
        refine ⟨_, _, _, rfl, rfl, (S188.get 6 rfl), (by rw [LR.length (hl175.mono s187)]; exact of_decide_eq_true g190), ?_⟩
        clear S180
        have hl191 : LR ((rLst K rInt) F186) ((v73.set j173 (V.ref a165)) ++ [V.ref a182]) ((st1.2.1.set j173 (y93 ++ ([y148] : (List Int)))) ++ [(y93 ++ ([((0 : Int) - y148)] : (List Int)))]) := LR.snoc (hl175.mono s187) ⟨_, _, rfl, SqL.mono (SqL.of h189) (Same.refl _), (hl184.mono s187)⟩
        have S192 : Sta F186 ([(a177, HO.lst [V.int ((0 : Int) - y148)]), (a160, HO.lst [V.int y148]), (a_source0, HO.lst v145), (a131, HO.lst []), (a116, HO.lst v110), (a17, HO.lst (v71 ++ [V.ref a98])), (a11, HO.lst ((v73.set j173 (V.ref a165)) ++ [V.ref a182]))] ++ R) _ := S188.set 6 rfl _
        have S193 : Sta F186 ([(a17, HO.lst (v71 ++ [V.ref a98])), (a11, HO.lst ((v73.set j173 (V.ref a165)) ++ [V.ref a182])), (a_source0, HO.lst v145)] ++ R) _ := S192.pick [5, 6, 2] (by decide) rfl
        exact ⟨((st1.1 ++ [y93]), ((st1.2.1.set j173 (y93 ++ ([y148] : (List Int)))) ++ [(y93 ++ ([((0 : Int) - y148)] : (List Int)))]), y139.2), F186, (v71 ++ [V.ref a98]), ((v73.set j173 (V.ref a165)) ++ [V.ref a182]), v145, _, _, _, _, _, rfl, (s64.trans (s86.trans (s112.trans (s143.trans (s170.trans s187))))), S193, (hl156.mono (s170.trans s187)), hl191, (hl146.mono (s170.trans s187)), hm⟩
      · revert hm; refine ifFI c135 fun hm => ?_
        refine goF c135 ?_
        have S194 : Sta F109 ([(a17, HO.lst v71), (a11, HO.lst v73), (a_source0, HO.lst v88)] ++ R) _ := S134.pick [3, 4, 2] (by decide) rfl
        exact ⟨(st1.1, st1.2.1, y82.2), F109, v71, v73, v88, _, _, _, _, _, rfl, (s64.trans (s86.trans s112)), S194, (hl72.mono (s86.trans s112)), (hl74.mono (s86.trans s112)), (hl89.mono s112), hm⟩
    · rintro σ H2 ⟨st1, F63, v71, v73, v75, o66, o67, o68, o69, o70, rfl, s64, S65, hl72, hl74, hl76, hm⟩
      rw [drop_rng, m_law_split_l1] at hm
      obtain rfl := Option.some.inj hm
      have hm := hm25
      refine hN22 _ _ ?_
      refine seqI fun N195 hN196 => ?_
      refine ⟨_, rfl, _, _, rfl, .inl (SqL.of (S65.get 0 rfl)), ?_⟩
      rw [LR.length hl72]
      revert hm; refine grdI fun g197 hm => ?_
      revert hm; refine grdI fun g212 hm => ?_
      revert hm; refine bndI fun y231 e198 hm => ?_
      refine ⟨_, rfl, (rngOk_lo g197), (rngOk_hi g197), fun a210 np211 => lc_rng (lo := 0) (n := (st1.1.length : Int).toNat) (fun i H2 => ∃ (F203 : Hp) (v204 : List V) (acc205 : List (List Int)) (r199 : List (List Int)), Same F63 F203 ∧ Sta F203 ([(a210, HO.lst v204), (a17, HO.lst v71), (a11, HO.lst v73), (a_source0, HO.lst v75)] ++ R) H2 ∧ LR ((rLst K rInt) F203) v204 acc205 ∧ acc205.length ≤ i ∧ lcO (fun x202 => (atI st1.1 (((st1.1.length : Int) - (1 : Int)) - x202)).bind fun y221 =>
      some (some y221)) (List.drop i (pyRange 0 (st1.1.length : Int).toNat)) = some r199 ∧ y231 = acc205 ++ r199) ⟨F63, [], [], _, Same.refl _, S65.new np211 _, trivial, Nat.le_refl _, e198, rfl⟩ ?_ ?_⟩
      · rintro i x202 H2 hi ⟨F203, v204, acc205, r199, s206, S207, hl208, hn209, hr200, hy201⟩
        have hx214 := hi
        rw [drop_cons hx214] at hr200
        revert hr200; refine lcI fun y216 r217 hm hr219 hc220 => ?_
        refine ⟨rfl, ?_⟩
        refine tYesI ?_
        rw [if_pos rfl]
        refine ⟨_, rfl, _, rfl, _, _, rfl, .inl (SqL.of (S207.get 1 rfl)), ?_⟩
        rw [LR.length (hl72.mono s206)]
        revert hm; refine bndI fun y221 e222 hm => ?_
        obtain ⟨v223, ev224, rv225⟩ := LR.atI hl72 e222
        obtain ⟨a226, v227, rfl, hs228, hl229⟩ := rv225
        refine ⟨_, _, rfl, rfl, _, rfl, _, _, rfl, rfl, _, _, _, _, rfl, rfl, (SqL.of (S207.get 1 rfl)), ev224, ?_⟩
        obtain rfl := Option.some.inj hm
        have hlt : v204.length < 16777216 := by rw [LR.length hl208]; have := (List.getElem?_eq_some_iff.mp hx214).1; have := of_decide_eq_true g212; omega
        have S230 : Sta F203 ([(a210, HO.lst (v204 ++ [V.ref a226])), (a17, HO.lst v71), (a11, HO.lst v73), (a_source0, HO.lst v75)] ++ R) _ := S207.set 0 rfl _
        exact ⟨_, (S207.get 0 rfl), hlt, F203, _, (acc205 ++ [y221]), r217, s206, S230, LR.snoc hl208 ⟨_, _, rfl, SqL.mono hs228 s206, (hl229.mono s206)⟩, by rw [List.length_append]; exact Nat.succ_le_succ hn209, hr219, by rw [List.append_assoc]; exact hy201.trans (congrArg (acc205 ++ ·) hc220)⟩
      rintro H2 ⟨F203, v204, acc205, r199, s206, S207, hl208, hn209, hr200, hy201⟩
      rw [drop_rng] at hr200
      obtain rfl := Option.some.inj hr200
      rw [List.append_nil] at hy201
      subst hy201
      have S232 : Sta F203 ([(a210, HO.lst v204), (a17, HO.lst v71), (a11, HO.lst v73), (a_source0, HO.lst v75)] ++ R) _ := S207
      refine hN196 _ _ ?_
      revert hm; refine bndI fun y239 e240 hm => ?_
      refine ⟨fun σ H2 => ∃ (F233 : Hp) (a236 : Addr) (v237 : List V), σ = [some (V.ref a_script0), some (V.ref a_source0), some (V.ref a_letters0), some (V.int x_count0), some (V.ref a11), some (V.ref a17), o66, o67, o68, o69, o70, some (V.ref a236)] ∧ Same F203 F233 ∧ Sta F233 ([(a236, HO.lst v237), (a17, HO.lst v71), (a11, HO.lst v73), (a_source0, HO.lst v75)] ++ R) H2 ∧ LR ((rLst K rInt) F233) v237 y239, ?_, ?_⟩
      · clear hm; have hm := e240; clear e240
        refine ⟨_, rfl, (by show 0 ≤ sizeLine; decide), ?_⟩
        intro a241 np242
        have hl243 : LR ((rLst K rInt) F203) [] ([] : (List (List Int))) := trivial
        have S244 : Sta F203 ([(a241, HO.lst []), (a210, HO.lst v204), (a17, HO.lst v71), (a11, HO.lst v73), (a_source0, HO.lst v75)] ++ R) _ := S232.new np242 _
        refine ⟨_, _, (dat_dp (K := K) (r := (rLst K (rLst K rInt))) ⟨_, _, rfl, (SqL.of (S244.get 1 rfl)), LR.mono hl208 S244.sub⟩), (dat_dp (K := K) (r := (rLst K (rLst K rInt))) ⟨_, _, rfl, (SqL.of (S244.get 0 rfl)), LR.mono hl243 S244.sub⟩), (dat_shaped (K := K) (r := (rLst K (rLst K rInt))) (Nat.le_of_ble_eq_true rfl) _ (DPl.pl _)), (dat_shaped (K := K) (r := (rLst K (rLst K rInt))) (Nat.le_of_ble_eq_true rfl) _ (DPl.pl _)), ?_⟩
        clear S232
        rw [dat_eqv (K := K) (r := (rLst K (rLst K rInt))) y231 ([] : (List (List Int)))]
        refine ⟨_, rfl, ?_⟩
        by_cases c245 : (decide (y231 = ([] : (List (List Int))))) = true
        · revert hm; refine ifTI c245 fun hm => ?_
          refine goT c245 ?_
          refine ⟨(by show 0 ≤ sizeLine; decide), ?_⟩
          intro a246 np247
          have hl248 : LR (rInt F203) [] ([] : (List Int)) := trivial
          have S249 : Sta F203 ([(a246, HO.lst []), (a241, HO.lst []), (a210, HO.lst v204), (a17, HO.lst v71), (a11, HO.lst v73), (a_source0, HO.lst v75)] ++ R) _ := S244.new np247 _
          obtain ⟨F250, s251, S252, h253⟩ : ∃ F', Same F203 F' ∧ Sta F' ([(a241, HO.lst []), (a210, HO.lst v204), (a17, HO.lst v71), (a11, HO.lst v73), (a_source0, HO.lst v75)] ++ R) _ ∧ F' a246 = some (HO.lst []) := ⟨_, S249.frzS, S249.frz, upd_same⟩
          refine ⟨(by show 1 ≤ sizeLine; decide), ?_⟩
          clear S244
          intro a254 np255
          have hl256 : LR ((rLst K rInt) F250) [V.ref a246] ([([] : (List Int))] : (List (List Int))) := ⟨⟨_, _, rfl, SqL.mono (SqL.of h253) (Same.refl _), (hl248.mono s251)⟩, trivial⟩
          have S257 : Sta F250 ([(a254, HO.lst [V.ref a246]), (a241, HO.lst []), (a210, HO.lst v204), (a17, HO.lst v71), (a11, HO.lst v73), (a_source0, HO.lst v75)] ++ R) _ := S252.new np255 _
          obtain rfl := Option.some.inj hm
          have S258 : Sta F250 ([(a254, HO.lst [V.ref a246]), (a17, HO.lst v71), (a11, HO.lst v73), (a_source0, HO.lst v75)] ++ R) _ := S257.pick [0, 3, 4, 5] (by decide) rfl
          exact ⟨F250, a254, [V.ref a246], rfl, s251, S258, hl256⟩
        · revert hm; refine ifFI c245 fun hm => ?_
          refine goF c245 ?_
          obtain rfl := Option.some.inj hm
          have S259 : Sta F203 ([(a210, HO.lst v204), (a17, HO.lst v71), (a11, HO.lst v73), (a_source0, HO.lst v75)] ++ R) _ := S244.pick [1, 2, 3, 4] (by decide) rfl
          exact ⟨F203, a210, v204, rfl, (Same.refl _), S259, hl208⟩
      · rintro σ H2 ⟨F233, a236, v237, rfl, s234, S235, hl238⟩
        have S260 : Sta F233 ([(a11, HO.lst v73), (a236, HO.lst v237), (a17, HO.lst v71), (a_source0, HO.lst v75)] ++ R) _ := S235.pick [2, 0, 1, 3] (by decide) rfl
        obtain ⟨F261, s262, S263, h264⟩ : ∃ F', Same F233 F' ∧ Sta F' ([(a236, HO.lst v237), (a17, HO.lst v71), (a_source0, HO.lst v75)] ++ R) _ ∧ F' a11 = some (HO.lst v73) := ⟨_, S260.frzS, S260.frz, upd_same⟩
        obtain ⟨F265, s266, S267, h268⟩ : ∃ F', Same F261 F' ∧ Sta F' ([(a17, HO.lst v71), (a_source0, HO.lst v75)] ++ R) _ ∧ F' a236 = some (HO.lst v237) := ⟨_, S263.frzS, S263.frz, upd_same⟩
        refine ⟨_, rfl, _, rfl, (by show 2 ≤ sizeLine; decide), ?_⟩
        clear S235
        intro a269 np270
        obtain ⟨F271, s272, S273, h274⟩ : ∃ F', Same F265 F' ∧ Sta F' ([(a17, HO.lst v71), (a_source0, HO.lst v75)] ++ R) _ ∧ F' a269 = some (HO.tup [V.ref a11, V.ref a236]) := ⟨_, S267.sameF np270 _, S267.newF np270 _, upd_same⟩
        obtain rfl := Option.some.inj hm
        have S275 : Sta F271 ([(a_source0, HO.lst v75)] ++ R) _ := S273.pick [1] (by decide) rfl
        exact kk _ _ v75 (V.ref a269) (s8.trans (s64.trans (s206.trans (s234.trans (s262.trans (s266.trans s272)))))) S275 (hl76.mono (s206.trans (s234.trans (s262.trans (s266.trans s272))))) ⟨_, _, _, rfl, SqT.mono (SqT.of h274) (Same.refl _), ⟨_, _, rfl, SqL.mono (SqL.of h264) (s266.trans s272), (hl74.mono (s206.trans (s234.trans (s262.trans (s266.trans s272)))))⟩, ⟨_, _, rfl, SqL.mono (SqL.of h268) s272, (hl238.mono (s262.trans (s266.trans s272)))⟩⟩

def sp_law_handed (T : Txt K mg) : Sp := fun vs H Q _ => ∃ (F0 : Hp) (R : Own) (a_rows0 : Addr) (v_rows0 : List V) (x_rows0 : (List (List Int))) (r : (List (Bool × List Int))),
  vs = [V.ref a_rows0] ∧ SqL K F0 a_rows0 v_rows0 ∧ LR ((rLst K rInt) F0) v_rows0 x_rows0 ∧ Sta F0 ([] ++ R) H ∧ m_law_handed x_rows0 = some r ∧ ∀ (F1 : Hp) (H1 : Hp) (a_ret0p : Addr) (v_ret0p : List V), Same F0 F1 → Sta F1 ([] ++ R) H1 → SqL K F1 a_ret0p v_ret0p → LR ((rSeq K rInt) F1) v_ret0p r → Q (V.ref a_ret0p) H1

theorem ok_law_handed (T : Txt K mg) : FnOk P w K mg base CX0 1 T.a_law_handed T.d_law_handed ["rows"] (sp_law_handed T) := by
  refine T.F_law_handed.ok sc_law_handed (fun vs H Q E h => ?_) (fun cdv A outer s H vs Q E hr h => ?_)
  · obtain ⟨_, _, _, _, _, _, rfl, _⟩ := h
    rfl
  · obtain ⟨F0, R, a_rows0, v_rows0, x_rows0, r, rfl, hs_rows0, hl_rows0, S0, hm, kk⟩ := h
    have hu := hu_of hr
    unfold m_law_handed at hm
    refine ⟨_, (pss_cons (ps_set (i := 1) sc_law_handed.nd rfl (Or.inl rfl) (pe_lst pa_nil)) (pss_cons (ps_for PassesOwn.never rfl (pi_range1 rfl T.z_range (pa_cons (pe_callB call_len_seq (by rfl) T.z_len PySem.boot_len (pa_cons (pv 0) pa_nil)) pa_nil)) (pg_name (i := 2) sc_law_handed.nd rfl (Or.inl rfl)) (pss_one (ps_if (pt_cmpR oI_eq (pe_op op_mod (pe_callTy call_int1 (by rfl) T.z_int (by decide +kernel) (pa_cons (pv 2) pa_nil)) pe_int) pe_int (nomark _)) (pss_one (ps_expr (pe_bm PySem.F.plainAttrs_list PySem.F.slot_list_append PySem.F.type_list_append mt_append (pv 1) (pa_cons (pe_tupleOf (by rfl) T.z_tuple (pe_ix ix_list (pv 0) (pv 2) (fun _ _ => rfl))) pa_nil)))) (pss_one (ps_expr (pe_bm PySem.F.plainAttrs_list PySem.F.slot_list_append PySem.F.type_list_append mt_append (pv 1) (pa_cons (pe_lc (own := [("literal", 3)]) rfl sc_law_handed.nd (pi_list (pe_ix ix_list (pv 0) (pv 2) (fun _ _ => rfl))) (blkOk_by (own := [("literal", 3)]) (N := ["rows", "handed", "k", "literal"]) (sc := defScope s_law_handed) (by decide +kernel)) (fun _ _ _ _ _ => (pg_name (i := 3) sc_law_handed.nd rfl (Or.inl rfl))) (fun _ _ _ _ _ => pts_nil) (fun _ _ _ _ _ => (pv 3))) pa_nil))))))) (pss_one (ps_ret (pv 1))))), ?_⟩
    refine seqI fun N1 hN2 => ?_
    refine ⟨(by show 0 ≤ sizeLine; decide), ?_⟩
    intro a3 np4
    have hl5 : LR ((rSeq K rInt) F0) [] ([] : (List (Bool × List Int))) := trivial
    have S6 : Sta F0 ([(a3, HO.lst [])] ++ R) _ := S0.new np4 _
    refine hN2 _ _ ?_
    refine seqI fun N7 hN8 => ?_
    refine ⟨_, rfl, _, _, rfl, .inl (SqL.mono hs_rows0 ((Same.refl _).trans S6.sub)), ?_⟩
    clear S0
    rw [LR.length hl_rows0]
    revert hm; refine grdI fun g12 hm => ?_
    revert hm; refine bndI fun y9 e10 hm11 => ?_
    refine ⟨_, rfl, (rngOk_lo g12), (rngOk_hi g12), for_rng (lo := 0) (n := (x_rows0.length : Int).toNat) (fun i σ H2 => ∃ (st1 : (List (Bool × List Int))) (F32 : Hp) (v37 : List V) (o35 : Option V) (o36 : Option V), σ = [some (V.ref a_rows0), some (V.ref a3), o35, o36] ∧ Same F0 F32 ∧ Sta F32 ([(a3, HO.lst v37)] ++ R) H2 ∧ LR ((rSeq K rInt) F32) v37 st1 ∧ m_law_handed_l1 x_rows0 (List.drop i (pyRange 0 (x_rows0.length : Int).toNat)) st1 = some y9) ⟨([] : (List (Bool × List Int))), F0, [], _, _, rfl, (Same.refl _), S6, hl5, e10⟩ ?_ ?_⟩
    · rintro i x39 σ H2 hi ⟨st1, F32, v37, o35, o36, rfl, s33, S34, hl38, hm⟩
      rw [drop_cons hi, m_law_handed_l1] at hm
      refine ⟨_, rfl, ?_⟩
      refine .inl ⟨_, rfl, ?_⟩
      refine ⟨_, _, rfl, rfl, (by show (0 : Int) < 3; decide), _, _, rfl, rfl, _, rfl, ?_⟩
      by_cases c41 : (decide ((x39 % (3 : Int)) = (1 : Int))) = true
      · revert hm; refine ifTI c41 fun hm => ?_
        refine goT c41 ?_
        revert hm; refine bndI fun y42 e43 hm => ?_
        obtain ⟨v44, ev45, rv46⟩ := LR.atI hl_rows0 e43
        obtain ⟨a47, v48, rfl, hs49, hl50⟩ := rv46
        refine ⟨_, rfl, .inl ⟨rfl, _, (SqL.of (S34.get 0 rfl))⟩, _, rfl, _, rfl, _, _, _, _, rfl, rfl, (SqL.mono hs_rows0 (s33.trans S34.sub)), ev45, ?_⟩
        refine .inl ⟨_, _, rfl, (SqL.mono hs49 (s33.trans S34.sub)), ?_⟩
        intro a51 np52
        obtain ⟨F53, s54, S55, h56⟩ : ∃ F', Same F32 F' ∧ Sta F' ([(a3, HO.lst v37)] ++ R) _ ∧ F' a51 = some (HO.tup v48) := ⟨_, S34.sameF np52 _, S34.newF np52 _, upd_same⟩
        have hl57 : LR (rInt F53) v48 y42 := hl50.mono (s33.trans s54)
        revert hm; refine grdI fun g58 hm => ?_
        refine ⟨_, _, _, rfl, rfl, (S55.get 0 rfl), (by rw [LR.length (hl38.mono s54)]; exact of_decide_eq_true g58), ?_⟩
        have hl59 : LR ((rSeq K rInt) F53) (v37 ++ [V.ref a51]) (st1 ++ [(false, y42)]) := LR.snoc (hl38.mono s54) ⟨_, _, rfl, SqT.mono (SqT.of h56) (Same.refl _), hl57⟩
        have S60 : Sta F53 ([(a3, HO.lst (v37 ++ [V.ref a51]))] ++ R) _ := S55.set 0 rfl _
        exact ⟨(st1 ++ [(false, y42)]), F53, (v37 ++ [V.ref a51]), _, _, rfl, (s33.trans s54), S60, hl59, hm⟩
      · revert hm; refine ifFI c41 fun hm => ?_
        refine goF c41 ?_
        revert hm; refine bndI fun y61 e62 hm => ?_
        obtain ⟨v63, ev64, rv65⟩ := LR.atI hl_rows0 e62
        obtain ⟨a66, v67, rfl, hs68, hl69⟩ := rv65
        revert hm; refine grdI fun g84 hm => ?_
        have e70 : lcO (fun x74 => some (some x74)) y61 = some (y61.map fun x74 => x74) := lc_map (fun x74 => x74) y61
        refine ⟨_, rfl, .inl ⟨rfl, _, (SqL.of (S34.get 0 rfl))⟩, _, rfl, _, rfl, _, _, _, _, rfl, rfl, (SqL.mono hs_rows0 (s33.trans S34.sub)), ev64, _, rfl, ⟨_, (SqL.mono hs68 (s33.trans S34.sub))⟩, fun a82 np83 => lc_list (K := K) (a := a66) (xs := v67) (fun i H2 => ∃ (F75 : Hp) (v76 : List V) (acc77 : List Int) (r71 : List Int), Same F32 F75 ∧ Sta F75 ([(a82, HO.lst v76), (a3, HO.lst v37)] ++ R) H2 ∧ LR (rInt F75) v76 acc77 ∧ acc77.length ≤ i ∧ lcO (fun x74 => some (some x74)) (List.drop i y61) = some r71 ∧ (y61.map fun x74 => x74) = acc77 ++ r71) ⟨F32, [], [], _, Same.refl _, S34.new np83 _, trivial, Nat.le_refl _, e70, rfl⟩ (by rintro i H2 _ ⟨F75, v76, acc77, r71, s78, S79, hl80, hn81, hr72, hy73⟩; exact (SqL.mono hs68 ((s33.trans s78).trans S79.sub))) ?_ ?_⟩
        · rintro i v85 H2 hi ⟨F75, v76, acc77, r71, s78, S79, hl80, hn81, hr72, hy73⟩
          obtain ⟨x74, hx86, rx87⟩ := LR.getV hl69 hi
          rw [drop_cons hx86] at hr72
          revert hr72; refine lcI fun y88 r89 hm hr91 hc92 => ?_
          obtain rfl := rInt_e rx87
          refine ⟨rfl, ?_⟩
          refine tYesI ?_
          rw [if_pos rfl]
          refine ⟨_, rfl, ?_⟩
          obtain rfl := Option.some.inj hm
          have hlt : v76.length < 16777216 := by rw [LR.length hl80]; have := (List.getElem?_eq_some_iff.mp hx86).1; have := of_decide_eq_true g84; omega
          have S93 : Sta F75 ([(a82, HO.lst (v76 ++ [V.int x74])), (a3, HO.lst v37)] ++ R) _ := S79.set 0 rfl _
          exact ⟨_, (S79.get 0 rfl), hlt, F75, _, (acc77 ++ [x74]), r89, s78, S93, LR.snoc hl80 rfl, by rw [List.length_append]; exact Nat.succ_le_succ hn81, hr91, by rw [List.append_assoc]; exact hy73.trans (congrArg (acc77 ++ ·) hc92)⟩
        rintro H2 ⟨F75, v76, acc77, r71, s78, S79, hl80, hn81, hr72, hy73⟩
        rw [LR.dropEnd hl69] at hr72
        obtain rfl := Option.some.inj hr72
        rw [List.append_nil] at hy73
        subst hy73
        have S94 : Sta F75 ([(a82, HO.lst v76), (a3, HO.lst v37)] ++ R) _ := S79
        obtain ⟨F95, s96, S97, h98⟩ : ∃ F', Same F75 F' ∧ Sta F' ([(a3, HO.lst v37)] ++ R) _ ∧ F' a82 = some (HO.lst v76) := ⟨_, S94.frzS, S94.frz, upd_same⟩
        revert hm; refine grdI fun g99 hm => ?_
        refine ⟨_, _, _, rfl, rfl, (S97.get 0 rfl), (by rw [LR.length (hl38.mono (s78.trans s96))]; exact of_decide_eq_true g99), ?_⟩
        clear S79
        have hl100 : LR ((rSeq K rInt) F95) (v37 ++ [V.ref a82]) (st1 ++ [(true, (y61.map fun x74 => x74))]) := LR.snoc (hl38.mono (s78.trans s96)) ⟨_, _, rfl, SqL.mono (SqL.of h98) (Same.refl _), (hl80.mono s96)⟩
        have S101 : Sta F95 ([(a3, HO.lst (v37 ++ [V.ref a82]))] ++ R) _ := S97.set 0 rfl _
        exact ⟨(st1 ++ [(true, (y61.map fun x74 => x74))]), F95, (v37 ++ [V.ref a82]), _, _, rfl, (s33.trans (s78.trans s96)), S101, hl100, hm⟩
    · rintro σ H2 ⟨st1, F32, v37, o35, o36, rfl, s33, S34, hl38, hm⟩
      rw [drop_rng, m_law_handed_l1] at hm
      obtain rfl := Option.some.inj hm
      have hm := hm11
      refine hN8 _ _ ?_
      refine ⟨_, rfl, ?_⟩
      obtain ⟨F102, s103, S104, h105⟩ : ∃ F', Same F32 F' ∧ Sta F' ([] ++ R) _ ∧ F' a3 = some (HO.lst v37) := ⟨_, S34.frzS, S34.frz, upd_same⟩
      obtain rfl := Option.some.inj hm
      exact kk _ _ a3 v37 (s33.trans s103) S104 (SqL.mono (SqL.of h105) (Same.refl _)) (hl38.mono s103)

def sp_law_forced (T : Txt K mg) : Sp := fun vs H Q _ => ∃ (F0 : Hp) (R : Own) (a_clauses0 : Addr) (v_clauses0 : List V) (x_clauses0 : (List (List Int))) (a_given0 : Addr) (v_given0 : List V) (x_given0 : (List Int)) (r : (Option (List Int))),
  vs = [V.ref a_clauses0, V.ref a_given0] ∧ SqL K (ov F0 R) a_clauses0 v_clauses0 ∧ LR ((rLst K rInt) F0) v_clauses0 x_clauses0 ∧ SqL K (ov F0 R) a_given0 v_given0 ∧ LR (rInt F0) v_given0 x_given0 ∧ Sta F0 ([] ++ R) H ∧ m_law_forced x_clauses0 x_given0 = some r ∧ ∀ (F1 : Hp) (H1 : Hp) (v_ret0p : V), Same F0 F1 → Sta F1 ([] ++ R) H1 → (rOpt (rLst K rInt)) F1 v_ret0p r → Q (v_ret0p) H1

theorem ok_law_forced (T : Txt K mg) : FnOk P w K mg base CX0 1 T.a_law_forced T.d_law_forced ["clauses", "given"] (sp_law_forced T) := by
  refine T.F_law_forced.ok sc_law_forced (fun vs H Q E h => ?_) (fun cdv A outer s H vs Q E hr h => ?_)
  · obtain ⟨_, _, _, _, _, _, _, _, _, rfl, _⟩ := h
    rfl
  · obtain ⟨F0, R, a_clauses0, v_clauses0, x_clauses0, a_given0, v_given0, x_given0, r, rfl, hs_clauses0, hl_clauses0, hs_given0, hl_given0, S0, hm, kk⟩ := h
    have hu := hu_of hr
    unfold m_law_forced at hm
    refine ⟨_, (pss_cons (ps_set (i := 2) sc_law_forced.nd rfl (Or.inr rfl) pe_dnewK) (pss_cons (ps_for PassesOwn.never rfl (pi_list (pv 1)) (pg_name (i := 3) sc_law_forced.nd rfl (Or.inl rfl)) (pss_one (ps_dput hu (pv 2) (pv 3) pe_bl rfl))) (C8.pss_cut (ps_for PassesOwn.never rfl (pi_range1 rfl T.z_range (pa_cons pe_int pa_nil)) (pg_name (i := 4) sc_law_forced.nd rfl (Or.inl rfl)) (pss_cons (ps_set (i := 5) sc_law_forced.nd rfl (Or.inl rfl) (pe_callB call_lenD (by rfl) T.z_len PySem.boot_len (pa_cons (pv 2) pa_nil))) (pss_cons (ps_for PassesOwn.never rfl (pi_list (pv 0)) (pg_name (i := 6) sc_law_forced.nd rfl (Or.inl rfl)) (pss_cons (ps_set (i := 7) sc_law_forced.nd rfl (Or.inr rfl) (pe_lc (own := [("literal", 3)]) rfl sc_law_forced.nd (pi_list (pv 6)) (blkOk_by (own := [("literal", 3)]) (N := ["clauses", "given", "known", "literal", "k", "count", "clause", "left"]) (sc := defScope s_law_forced) (by decide +kernel)) (fun _ _ _ _ _ => (pg_name (i := 3) sc_law_forced.nd rfl (Or.inl rfl))) (fun _ _ _ _ _ => (pts_one (pt_cmp (pc_dnotin hu (pe_op op_sub pe_int (pv 3)) (pv 2))))) (fun _ _ _ _ _ => (pv 3)))) (pss_cons (ps_if (pt_cmpR (op_eqD hr.units) (pv 7) (pe_lst pa_nil) (nomark _)) (pss_one (ps_ret pe_non)) pss_nil) (pss_one (ps_if (pt_cmpR (op_eqD hr.units) (pe_lc (own := [("literal", 3)]) rfl sc_law_forced.nd (pi_list (pv 7)) (blkOk_by (own := [("literal", 3)]) (N := ["clauses", "given", "known", "literal", "k", "count", "clause", "left"]) (sc := defScope s_law_forced) (by decide +kernel)) (fun _ _ _ _ _ => (pg_name (i := 3) sc_law_forced.nd rfl (Or.inl rfl))) (fun _ _ _ _ _ => (pts_one (pt_cmpR oI_ne (pv 3) (pe_ix (ix_listK K) (pv 7) pe_int (fun _ _ => rfl)) (nomark _)))) (fun _ _ _ _ _ => (pv 3))) (pe_lst pa_nil) (nomark _)) (pss_one (ps_dput hu (pv 2) (pe_ix ix_list (pv 7) pe_int (fun _ _ => rfl)) pe_bl rfl)) pss_nil))))) (pss_one (ps_if (pt_cmpR oI_eq (pe_callB call_lenD (by rfl) T.z_len PySem.boot_len (pa_cons (pv 2) pa_nil)) (pv 5) (nomark _)) (pss_one ps_break) pss_nil))))) (pss_cons (ps_lock (ps_for PassesOwn.never rfl (pi_keys (pv 2)) (pg_name (i := 3) sc_law_forced.nd rfl (Or.inl rfl)) (pss_one (ps_if (pt_cmp (pc_din hu (pe_op op_sub pe_int (pv 3)) (pv 2))) (pss_one (ps_ret pe_non)) pss_nil)))) (pss_one (ps_ret (pe_callB cr_sortedI (by rfl) T.z_sorted (by decide +kernel) (pa_cons (pe_lock (pe_lc (own := [("literal", 3)]) rfl sc_law_forced.nd (pi_keys (pv 2)) (blkOk_by (own := [("literal", 3)]) (N := ["clauses", "given", "known", "literal", "k", "count", "clause", "left"]) (sc := defScope s_law_forced) (by decide +kernel)) (fun _ _ _ _ _ => (pg_name (i := 3) sc_law_forced.nd rfl (Or.inl rfl))) (fun _ _ _ _ _ => pts_nil) (fun _ _ _ _ _ => (pv 3)))) pa_nil)))))))), ?_⟩
    refine seqI fun N1 hN2 => ?_
    intro a3 np4
    have hl5 : KR Sum.inl (rBool F0) ([] : List (Key × V)) ([] : (List (Int × Bool))) := trivial
    have S6 : Sta F0 ([(a3, HO.dK [])] ++ R) _ := S0.new np4 _
    refine hN2 _ _ ?_
    refine seqI fun N7 hN8 => ?_
    revert hm; refine bndI fun y9 e10 hm11 => ?_
    refine ⟨_, rfl, _, rfl, ⟨_, (SqL.mono hs_given0 (S6.bor (Same.refl _) (fun _ q => (List.mem_append_right _ q))))⟩, for_list (K := K) (a := a_given0) (xs := v_given0) (fun i σ H2 => ∃ (st1 : (List (Int × Bool))) (F28 : Hp) (v32 : List (Key × V)) (o31 : Option V), σ = [some (V.ref a_clauses0), some (V.ref a_given0), some (V.ref a3), o31, none, none, none, none] ∧ Same F0 F28 ∧ Sta F28 ([(a3, HO.dK v32)] ++ R) H2 ∧ KR Sum.inl (rBool F28) v32 st1 ∧ m_law_forced_l1 (List.drop i x_given0) st1 = some y9) ⟨([] : (List (Int × Bool))), F0, [], _, rfl, (Same.refl _), S6, hl5, e10⟩ (by rintro i σ H2 _ ⟨st1, F28, v32, o31, rfl, s29, S30, hl33, _⟩; exact (SqL.mono hs_given0 (S30.bor s29 (fun _ q => (List.mem_append_right _ q))))) ?_ ?_⟩
    clear S0
    · rintro i v35 σ H2 hi ⟨st1, F28, v32, o31, rfl, s29, S30, hl33, hm⟩
      obtain ⟨x34, hx36, rx37⟩ := LR.getV hl_given0 hi
      rw [drop_cons hx36, m_law_forced_l1] at hm
      obtain rfl := rInt_e rx37
      revert hm; refine grdI fun g38 hm => ?_
      refine ⟨_, rfl, _, rfl, _, _, rfl, (DPut.k (k := Sum.inl x34) (S30.get 0 rfl) (by rw [KR.length hl33]; exact of_decide_eq_true g38)), ?_⟩
      have hl39 : KR Sum.inl (rBool F28) (putK v32 (Sum.inl x34) (V.bl true)) (mput st1 x34 true) := KR.put hl33 kinj_int rfl
      have S40 : Sta F28 ([(a3, HO.dK (putK v32 (Sum.inl x34) (V.bl true)))] ++ R) _ := S30.set 0 rfl _
      exact ⟨(mput st1 x34 true), F28, (putK v32 (Sum.inl x34) (V.bl true)), _, rfl, s29, S40, hl39, hm⟩
    · rintro σ H2 ⟨st1, F28, v32, o31, rfl, s29, S30, hl33, hm⟩
      rw [LR.dropEnd hl_given0, m_law_forced_l1] at hm
      obtain rfl := Option.some.inj hm
      have hm := hm11
      refine hN8 _ _ ?_
      revert hm; refine bndI fun y41 e42 hm43 => ?_
      refine ⟨fun σ H2 => ∃ (st2 : (List (Int × Bool))) (F44 : Hp) (v52 : List (Key × V)) (o47 : Option V) (o48 : Option V) (o49 : Option V) (o50 : Option V) (o51 : Option V), σ = [some (V.ref a_clauses0), some (V.ref a_given0), some (V.ref a3), o47, o48, o49, o50, o51] ∧ Same F28 F44 ∧ Sta F44 ([(a3, HO.dK v52)] ++ R) H2 ∧ KR Sum.inl (rBool F44) v52 st2 ∧ Flw.done st2 = y41, ?_, ?_⟩
      · have hm := e42; clear e42
        refine ⟨_, rfl, (by decide), (by decide), for_rng (lo := 0) (n := (100 : Int).toNat) (fun i σ H2 => ∃ (st2 : (List (Int × Bool))) (F44 : Hp) (v52 : List (Key × V)) (o47 : Option V) (o48 : Option V) (o49 : Option V) (o50 : Option V) (o51 : Option V), σ = [some (V.ref a_clauses0), some (V.ref a_given0), some (V.ref a3), o47, o48, o49, o50, o51] ∧ Same F28 F44 ∧ Sta F44 ([(a3, HO.dK v52)] ++ R) H2 ∧ KR Sum.inl (rBool F44) v52 st2 ∧ m_law_forced_l2 x_clauses0 (List.drop i (pyRange 0 (100 : Int).toNat)) st2 = some y41) ⟨st1, F28, v32, _, _, _, _, _, rfl, (Same.refl _), S30, hl33, hm⟩ ?_ ?_⟩
        · rintro i x54 σ H2 hi ⟨st2, F44, v52, o47, o48, o49, o50, o51, rfl, s45, S46, hl53, hm⟩
          rw [drop_cons hi, m_law_forced_l2] at hm
          refine seqI fun N56 hN57 => ?_
          refine ⟨_, rfl, _, _, rfl, (S46.get 0 rfl), ?_⟩
          rw [KR.length hl53]
          refine hN57 _ _ ?_
          refine seqI fun N58 hN59 => ?_
          revert hm; refine bndI fun y60 e61 hm62 => ?_
          refine ⟨_, rfl, _, rfl, ⟨_, (SqL.mono hs_clauses0 (S46.bor (s29.trans s45) (fun _ q => (List.mem_append_right _ q))))⟩, for_list (K := K) (a := a_clauses0) (xs := v_clauses0) (fun i σ H2 => ∃ (st3 : (List (Int × Bool))) (F85 : Hp) (v91 : List (Key × V)) (o88 : Option V) (o89 : Option V) (o90 : Option V), σ = [some (V.ref a_clauses0), some (V.ref a_given0), some (V.ref a3), o88, some (V.int x54), some (V.int (st2.length : Int)), o89, o90] ∧ Same F44 F85 ∧ Sta F85 ([(a3, HO.dK v91)] ++ R) H2 ∧ KR Sum.inl (rBool F85) v91 st3 ∧ m_law_forced_l3 (List.drop i x_clauses0) st3 = some y60) ⟨st2, F44, v52, _, _, _, rfl, (Same.refl _), S46, hl53, e61⟩ (by rintro i σ H2 _ ⟨st3, F85, v91, o88, o89, o90, rfl, s86, S87, hl92, _⟩; exact (SqL.mono hs_clauses0 (S87.bor (s29.trans (s45.trans s86)) (fun _ q => (List.mem_append_right _ q))))) ?_ ?_⟩
          · rintro i v94 σ H2 hi ⟨st3, F85, v91, o88, o89, o90, rfl, s86, S87, hl92, hm⟩
            obtain ⟨x93, hx95, rx96⟩ := LR.getV hl_clauses0 hi
            rw [drop_cons hx95, m_law_forced_l3] at hm
            obtain ⟨a97, v98, rfl, hs99, hl100⟩ := rx96
            refine seqI fun N101 hN102 => ?_
            revert hm; refine grdI fun g117 hm => ?_
            have e103 : lcO (fun x107 => if (!(mget st3 ((0 : Int) - x107)).isSome) = true then (some (some x107)) else some none) x93 = some ((x93.filter fun x107 => (!(mget st3 ((0 : Int) - x107)).isSome)).map fun x107 => x107) := lc_filter (fun x107 => (!(mget st3 ((0 : Int) - x107)).isSome)) (fun x107 => x107) x93
            refine ⟨_, rfl, _, rfl, ⟨_, (SqL.mono hs99 ((s29.trans (s45.trans s86)).trans S87.sub))⟩, fun a115 np116 => lc_list (K := K) (a := a97) (xs := v98) (fun i H2 => ∃ (F108 : Hp) (v109 : List V) (acc110 : List Int) (r104 : List Int), Same F85 F108 ∧ Sta F108 ([(a115, HO.lst v109), (a3, HO.dK v91)] ++ R) H2 ∧ LR (rInt F108) v109 acc110 ∧ acc110.length ≤ i ∧ lcO (fun x107 => if (!(mget st3 ((0 : Int) - x107)).isSome) = true then (some (some x107)) else some none) (List.drop i x93) = some r104 ∧ ((x93.filter fun x107 => (!(mget st3 ((0 : Int) - x107)).isSome)).map fun x107 => x107) = acc110 ++ r104) ⟨F85, [], [], _, Same.refl _, S87.new np116 _, trivial, Nat.le_refl _, e103, rfl⟩ (by rintro i H2 _ ⟨F108, v109, acc110, r104, s111, S112, hl113, hn114, hr105, hy106⟩; exact (SqL.mono hs99 ((s29.trans (s45.trans (s86.trans s111))).trans S112.sub))) ?_ ?_⟩
            · rintro i v118 H2 hi ⟨F108, v109, acc110, r104, s111, S112, hl113, hn114, hr105, hy106⟩
              obtain ⟨x107, hx119, rx120⟩ := LR.getV hl100 hi
              rw [drop_cons hx119] at hr105
              revert hr105; refine lcI fun y121 r122 hm hr124 hc125 => ?_
              obtain rfl := rInt_e rx120
              refine ⟨rfl, ?_⟩
              refine ⟨_, rfl, _, _, rfl, rfl, _, rfl, _, _, rfl, (DGet.k (k := Sum.inl ((0 : Int) - x107)) (S112.get 1 rfl)), ?_⟩
              rw [show _ = (!(mget st3 ((0 : Int) - x107)).isSome) from (congrArg (!·) (KR.some_eq (KR.mono hl92 s111) (kinj_int) ((0 : Int) - x107)))]
              refine ⟨_, rfl, ?_⟩
              by_cases c126 : (!(mget st3 ((0 : Int) - x107)).isSome) = true
              · revert hm; refine ifTI c126 fun hm => ?_
                refine goT c126 ?_
                refine ⟨_, rfl, ?_⟩
                obtain rfl := Option.some.inj hm
                have hlt : v109.length < 16777216 := by rw [LR.length hl113]; have := (List.getElem?_eq_some_iff.mp hx119).1; have := of_decide_eq_true g117; omega
                have S127 : Sta F108 ([(a115, HO.lst (v109 ++ [V.int x107])), (a3, HO.dK v91)] ++ R) _ := S112.set 0 rfl _
                exact ⟨_, (S112.get 0 rfl), hlt, F108, _, (acc110 ++ [x107]), r122, s111, S127, LR.snoc hl113 rfl, by rw [List.length_append]; exact Nat.succ_le_succ hn114, hr124, by rw [List.append_assoc]; exact hy106.trans (congrArg (acc110 ++ ·) hc125)⟩
              · revert hm; refine ifFI c126 fun hm => ?_
                refine goF c126 ?_
                obtain rfl := Option.some.inj hm
                exact ⟨F108, _, acc110, r122, s111, S112, hl113, Nat.le_succ_of_le hn114, hr124, hy106.trans (congrArg (acc110 ++ ·) hc125)⟩
            rintro H2 ⟨F108, v109, acc110, r104, s111, S112, hl113, hn114, hr105, hy106⟩
            rw [LR.dropEnd hl100] at hr105
            obtain rfl := Option.some.inj hr105
            rw [List.append_nil] at hy106
            subst hy106
            have S128 : Sta F108 ([(a115, HO.lst v109), (a3, HO.dK v91)] ++ R) _ := S112
            refine hN102 _ _ ?_
            refine seqI fun N129 hN130 => ?_
            refine ⟨_, rfl, (by show 0 ≤ sizeLine; decide), ?_⟩
            clear S112
            intro a131 np132
            have hl133 : LR (rInt F108) [] ([] : (List Int)) := trivial
            have S134 : Sta F108 ([(a131, HO.lst []), (a115, HO.lst v109), (a3, HO.dK v91)] ++ R) _ := S128.new np132 _
            refine ⟨_, _, (dat_dp (K := K) (r := (rLst K rInt)) ⟨_, _, rfl, (SqL.of (S134.get 1 rfl)), LR.mono hl113 S134.sub⟩), (dat_dp (K := K) (r := (rLst K rInt)) ⟨_, _, rfl, (SqL.of (S134.get 0 rfl)), LR.mono hl133 S134.sub⟩), (dat_shaped (K := K) (r := (rLst K rInt)) (Nat.le_of_ble_eq_true rfl) _ (DPl.pl _)), (dat_shaped (K := K) (r := (rLst K rInt)) (Nat.le_of_ble_eq_true rfl) _ (DPl.pl _)), ?_⟩
            clear S128
            rw [dat_eqv (K := K) (r := (rLst K rInt)) ((x93.filter fun x107 => (!(mget st3 ((0 : Int) - x107)).isSome)).map fun x107 => x107) ([] : (List Int))]
            refine ⟨_, rfl, ?_⟩
            by_cases c135 : (decide (((x93.filter fun x107 => (!(mget st3 ((0 : Int) - x107)).isSome)).map fun x107 => x107) = ([] : (List Int)))) = true
            · revert hm; refine ifTI c135 fun hm => ?_
              refine goT c135 ?_
              obtain rfl := Option.some.inj hm
              have hm := hm62
              obtain rfl := Option.some.inj hm
              have hm := hm43
              obtain rfl := Option.some.inj hm
              have S136 : Sta F108 ([] ++ R) _ := S134.pick [] (by decide) rfl
              exact kk _ _ V.non (s29.trans (s45.trans (s86.trans s111))) S136 rfl
            · revert hm; refine ifFI c135 fun hm => ?_
              refine goF c135 ?_
              refine hN130 _ _ ?_
              revert hm; refine grdI fun g151 hm => ?_
              revert hm; refine bndI fun y167 e137 hm => ?_
              refine ⟨_, rfl, _, rfl, ⟨_, (SqL.of (S134.get 1 rfl))⟩, fun a149 np150 => lc_list (K := K) (a := a115) (xs := v109) (fun i H2 => ∃ (F142 : Hp) (v143 : List V) (acc144 : List Int) (r138 : List Int), Same F108 F142 ∧ Sta F142 ([(a149, HO.lst v143), (a131, HO.lst []), (a115, HO.lst v109), (a3, HO.dK v91)] ++ R) H2 ∧ LR (rInt F142) v143 acc144 ∧ acc144.length ≤ i ∧ lcO (fun x141 => (atI ((x93.filter fun x107 => (!(mget st3 ((0 : Int) - x107)).isSome)).map fun x107 => x107) (0 : Int)).bind fun y160 =>
      if (!decide (x141 = y160)) = true then (some (some x141)) else some none) (List.drop i ((x93.filter fun x107 => (!(mget st3 ((0 : Int) - x107)).isSome)).map fun x107 => x107)) = some r138 ∧ y167 = acc144 ++ r138) ⟨F108, [], [], _, Same.refl _, S134.new np150 _, trivial, Nat.le_refl _, e137, rfl⟩ (by rintro i H2 _ ⟨F142, v143, acc144, r138, s145, S146, hl147, hn148, hr139, hy140⟩; exact (SqL.of (S146.get 2 rfl))) ?_ ?_⟩
              · rintro i v152 H2 hi ⟨F142, v143, acc144, r138, s145, S146, hl147, hn148, hr139, hy140⟩
                obtain ⟨x141, hx153, rx154⟩ := LR.getV hl113 hi
                rw [drop_cons hx153] at hr139
                revert hr139; refine lcI fun y155 r156 hm hr158 hc159 => ?_
                obtain rfl := rInt_e rx154
                refine ⟨rfl, ?_⟩
                revert hm; refine bndI fun y160 e161 hm => ?_
                obtain ⟨v162, ev163, rv164⟩ := LR.atI hl113 e161
                obtain rfl := rInt_e rv164
                refine ⟨_, rfl, _, rfl, _, _, _, _, rfl, rfl, (SqL.of (S146.get 2 rfl)), ev163, _, _, rfl, rfl, _, rfl, ?_⟩
                by_cases c165 : (!decide (x141 = y160)) = true
                · revert hm; refine ifTI c165 fun hm => ?_
                  refine goT c165 ?_
                  refine ⟨_, rfl, ?_⟩
                  obtain rfl := Option.some.inj hm
                  have hlt : v143.length < 16777216 := by rw [LR.length hl147]; have := (List.getElem?_eq_some_iff.mp hx153).1; have := of_decide_eq_true g151; omega
                  have S166 : Sta F142 ([(a149, HO.lst (v143 ++ [V.int x141])), (a131, HO.lst []), (a115, HO.lst v109), (a3, HO.dK v91)] ++ R) _ := S146.set 0 rfl _
                  exact ⟨_, (S146.get 0 rfl), hlt, F142, _, (acc144 ++ [x141]), r156, s145, S166, LR.snoc hl147 rfl, by rw [List.length_append]; exact Nat.succ_le_succ hn148, hr158, by rw [List.append_assoc]; exact hy140.trans (congrArg (acc144 ++ ·) hc159)⟩
                · revert hm; refine ifFI c165 fun hm => ?_
                  refine goF c165 ?_
                  obtain rfl := Option.some.inj hm
                  exact ⟨F142, _, acc144, r156, s145, S146, hl147, Nat.le_succ_of_le hn148, hr158, hy140.trans (congrArg (acc144 ++ ·) hc159)⟩
              rintro H2 ⟨F142, v143, acc144, r138, s145, S146, hl147, hn148, hr139, hy140⟩
              rw [LR.dropEnd hl113] at hr139
              obtain rfl := Option.some.inj hr139
              rw [List.append_nil] at hy140
              subst hy140
              have S168 : Sta F142 ([(a149, HO.lst v143), (a131, HO.lst []), (a115, HO.lst v109), (a3, HO.dK v91)] ++ R) _ := S146
              refine ⟨(by show 0 ≤ sizeLine; decide), ?_⟩
              clear S146
              intro a169 np170
              have hl171 : LR (rInt F142) [] ([] : (List Int)) := trivial
              have S172 : Sta F142 ([(a169, HO.lst []), (a149, HO.lst v143), (a131, HO.lst []), (a115, HO.lst v109), (a3, HO.dK v91)] ++ R) _ := S168.new np170 _
              refine ⟨_, _, (dat_dp (K := K) (r := (rLst K rInt)) ⟨_, _, rfl, (SqL.of (S172.get 1 rfl)), LR.mono hl147 S172.sub⟩), (dat_dp (K := K) (r := (rLst K rInt)) ⟨_, _, rfl, (SqL.of (S172.get 0 rfl)), LR.mono hl171 S172.sub⟩), (dat_shaped (K := K) (r := (rLst K rInt)) (Nat.le_of_ble_eq_true rfl) _ (DPl.pl _)), (dat_shaped (K := K) (r := (rLst K rInt)) (Nat.le_of_ble_eq_true rfl) _ (DPl.pl _)), ?_⟩
              clear S168
              rw [dat_eqv (K := K) (r := (rLst K rInt)) y167 ([] : (List Int))]
              refine ⟨_, rfl, ?_⟩
              by_cases c173 : (decide (y167 = ([] : (List Int)))) = true
              · revert hm; refine ifTI c173 fun hm => ?_
                refine goT c173 ?_
                revert hm; refine bndI fun y174 e175 hm => ?_
                obtain ⟨v176, ev177, rv178⟩ := LR.atI hl113 e175
                obtain rfl := rInt_e rv178
                revert hm; refine grdI fun g179 hm => ?_
                refine ⟨_, rfl, _, rfl, _, _, _, _, rfl, rfl, (SqL.of (S172.get 3 rfl)), ev177, _, _, rfl, (DPut.k (k := Sum.inl y174) (S172.get 4 rfl) (by rw [KR.length (KR.mono hl92 (s111.trans s145))]; exact of_decide_eq_true g179)), ?_⟩
                have hl180 : KR Sum.inl (rBool F142) (putK v91 (Sum.inl y174) (V.bl true)) (mput st3 y174 true) := KR.put (KR.mono hl92 (s111.trans s145)) kinj_int rfl
                have S181 : Sta F142 ([(a169, HO.lst []), (a149, HO.lst v143), (a131, HO.lst []), (a115, HO.lst v109), (a3, HO.dK (putK v91 (Sum.inl y174) (V.bl true)))] ++ R) _ := S172.set 4 rfl _
                have S182 : Sta F142 ([(a3, HO.dK (putK v91 (Sum.inl y174) (V.bl true)))] ++ R) _ := S181.pick [4] (by decide) rfl
                exact ⟨(mput st3 y174 true), F142, (putK v91 (Sum.inl y174) (V.bl true)), _, _, _, rfl, (s86.trans (s111.trans s145)), S182, hl180, hm⟩
              · revert hm; refine ifFI c173 fun hm => ?_
                refine goF c173 ?_
                have S183 : Sta F142 ([(a3, HO.dK v91)] ++ R) _ := S172.pick [4] (by decide) rfl
                exact ⟨st3, F142, v91, _, _, _, rfl, (s86.trans (s111.trans s145)), S183, (KR.mono hl92 (s111.trans s145)), hm⟩
          · rintro σ H2 ⟨st3, F85, v91, o88, o89, o90, rfl, s86, S87, hl92, hm⟩
            rw [LR.dropEnd hl_clauses0, m_law_forced_l3] at hm
            obtain rfl := Option.some.inj hm
            have hm := hm62
            refine hN59 _ _ ?_
            refine ⟨_, rfl, _, _, rfl, (S87.get 0 rfl), ?_⟩
            rw [KR.length hl92]
            refine ⟨_, rfl, _, _, rfl, rfl, _, rfl, ?_⟩
            by_cases c184 : (decide ((st3.length : Int) = (st2.length : Int))) = true
            · revert hm; refine ifTI c184 fun hm => ?_
              refine goT c184 ?_
              exact ⟨st3, F85, v91, _, _, _, _, _, rfl, (s45.trans s86), S87, hl92, Option.some.inj hm⟩
            · revert hm; refine ifFI c184 fun hm => ?_
              refine goF c184 ?_
              exact ⟨st3, F85, v91, _, _, _, _, _, rfl, (s45.trans s86), S87, hl92, hm⟩
        · rintro σ H2 ⟨st2, F44, v52, o47, o48, o49, o50, o51, rfl, s45, S46, hl53, hm⟩
          rw [drop_rng, m_law_forced_l2] at hm
          exact ⟨st2, F44, v52, _, _, _, _, _, rfl, s45, S46, hl53, Option.some.inj hm⟩
      · rintro σ H2 ⟨st2, F44, v52, o47, o48, o49, o50, o51, rfl, s45, S46, hl53, rfl⟩
        have hm := hm43
        refine seqI fun N185 hN186 => ?_
        refine ⟨_, _, (S46.get 0 rfl), trivial, fun od190 => ?_⟩
        have S191 : Sta F44 ([(a3, HO.frz od190 (HO.dK v52))] ++ R) _ := S46.set 0 rfl _
        revert hm; refine bndI fun y187 e188 hm189 => ?_
        refine ⟨_, rfl, _, _, rfl, .inl ⟨_, (S191.get 0 rfl), for_keys (kvs := v52) (fun i σ H2 => ∃ (st4 : Unit) (F204 : Hp) (o207 : Option V), σ = [some (V.ref a_clauses0), some (V.ref a_given0), some (V.ref a3), o207, o48, o49, o50, o51] ∧ Same F44 F204 ∧ Sta F204 ([(a3, HO.frz od190 (HO.dK v52))] ++ R) H2 ∧ m_law_forced_l4 st2 (List.drop i (st2.map fun (q : Int × Bool) => q.1)) st4 = some y187) ⟨(), F44, _, rfl, (Same.refl _), S191, e188⟩ (by rintro i σ H2 ⟨st4, F204, o207, rfl, s205, S206, _⟩; exact S206.get 0 rfl) ?_ ?_⟩⟩
        clear S46
        · rintro i v209 σ H2 hi ⟨st4, F204, o207, rfl, s205, S206, hm⟩
          obtain ⟨x208, hx210, rx211⟩ := LR.getV (KR.keysLI (F := F44) hl53) hi
          rw [drop_cons hx210, m_law_forced_l4] at hm
          obtain rfl := rInt_e rx211
          refine ⟨_, rfl, _, _, rfl, rfl, _, rfl, _, _, rfl, (DGet.kf (k := Sum.inl ((0 : Int) - x208)) (S206.get 0 rfl)), ?_⟩
          rw [show _ = (mget st2 ((0 : Int) - x208)).isSome from (KR.some_eq (KR.mono hl53 s205) (kinj_int) ((0 : Int) - x208))]
          refine ⟨_, rfl, ?_⟩
          by_cases c212 : (mget st2 ((0 : Int) - x208)).isSome = true
          · revert hm; refine ifTI c212 fun hm => ?_
            refine goT c212 ?_
            obtain rfl := Option.some.inj hm
            have hm := hm189
            refine ⟨(S206.get 0 rfl), ?_⟩
            have S213 : Sta F204 ([(a3, HO.dK v52)] ++ R) _ := S206.set 0 rfl _
            obtain rfl := Option.some.inj hm
            have S214 : Sta F204 ([] ++ R) _ := S213.pick [] (by decide) rfl
            exact kk _ _ V.non (s29.trans (s45.trans s205)) S214 rfl
          · revert hm; refine ifFI c212 fun hm => ?_
            refine goF c212 ?_
            exact ⟨(), F204, _, rfl, s205, S206, hm⟩
        · rintro σ H2 ⟨st4, F204, o207, rfl, s205, S206, hm⟩
          rw [LR.dropEnd (KR.keysLI (F := F44) hl53), m_law_forced_l4] at hm
          obtain rfl := Option.some.inj hm
          have hm := hm189
          refine ⟨(S206.get 0 rfl), ?_⟩
          have S215 : Sta F204 ([(a3, HO.dK v52)] ++ R) _ := S206.set 0 rfl _
          refine hN186 _ _ ?_
          refine ⟨_, _, (S215.get 0 rfl), trivial, fun od216 => ?_⟩
          have S217 : Sta F204 ([(a3, HO.frz od216 (HO.dK v52))] ++ R) _ := S215.set 0 rfl _
          revert hm; refine grdI fun g232 hm => ?_
          have e218 : lcO (fun x222 => some (some x222)) (st2.map fun (q : Int × Bool) => q.1) = some ((st2.map fun (q : Int × Bool) => q.1).map fun x222 => x222) := lc_map (fun x222 => x222) (st2.map fun (q : Int × Bool) => q.1)
          refine ⟨_, rfl, _, _, rfl, .inl ⟨_, (S217.get 0 rfl), fun a230 np231 => lc_keys (kvs := v52) (fun i H2 => ∃ (F223 : Hp) (v224 : List V) (acc225 : List Int) (r219 : List Int), Same F204 F223 ∧ Sta F223 ([(a230, HO.lst v224), (a3, HO.frz od216 (HO.dK v52))] ++ R) H2 ∧ LR (rInt F223) v224 acc225 ∧ acc225.length ≤ i ∧ lcO (fun x222 => some (some x222)) (List.drop i (st2.map fun (q : Int × Bool) => q.1)) = some r219 ∧ ((st2.map fun (q : Int × Bool) => q.1).map fun x222 => x222) = acc225 ++ r219) ⟨F204, [], [], _, Same.refl _, S217.new np231 _, trivial, Nat.le_refl _, e218, rfl⟩ (by rintro i H2 _ ⟨F223, v224, acc225, r219, s226, S227, hl228, hn229, hr220, hy221⟩; exact S227.get 1 rfl) ?_ ?_⟩⟩
          clear S206 S215
          · rintro i v233 H2 hi ⟨F223, v224, acc225, r219, s226, S227, hl228, hn229, hr220, hy221⟩
            obtain ⟨x222, hx234, rx235⟩ := LR.getV (KR.keysLI (F := F204) (KR.mono hl53 s205)) hi
            rw [drop_cons hx234] at hr220
            revert hr220; refine lcI fun y236 r237 hm hr239 hc240 => ?_
            obtain rfl := rInt_e rx235
            refine ⟨rfl, ?_⟩
            refine tYesI ?_
            rw [if_pos rfl]
            refine ⟨_, rfl, ?_⟩
            obtain rfl := Option.some.inj hm
            have hlt : v224.length < 16777216 := by rw [LR.length hl228]; have := (List.getElem?_eq_some_iff.mp hx234).1; have := of_decide_eq_true g232; omega
            have S241 : Sta F223 ([(a230, HO.lst (v224 ++ [V.int x222])), (a3, HO.frz od216 (HO.dK v52))] ++ R) _ := S227.set 0 rfl _
            exact ⟨_, (S227.get 0 rfl), hlt, F223, _, (acc225 ++ [x222]), r237, s226, S241, LR.snoc hl228 rfl, by rw [List.length_append]; exact Nat.succ_le_succ hn229, hr239, by rw [List.append_assoc]; exact hy221.trans (congrArg (acc225 ++ ·) hc240)⟩
          rintro H2 ⟨F223, v224, acc225, r219, s226, S227, hl228, hn229, hr220, hy221⟩
          rw [LR.dropEnd (KR.keysLI (F := F204) (KR.mono hl53 s205))] at hr220
          obtain rfl := Option.some.inj hr220
          rw [List.append_nil] at hy221
          subst hy221
          have S242 : Sta F223 ([(a230, HO.lst v224), (a3, HO.frz od216 (HO.dK v52))] ++ R) _ := S227
          refine ⟨(S242.get 1 rfl), ?_⟩
          have S243 : Sta F223 ([(a230, HO.lst v224), (a3, HO.dK v52)] ++ R) _ := S242.set 1 rfl _
          refine ⟨_, ((st2.map fun (q : Int × Bool) => q.1).map fun x222 => x222), rfl, (by rw [← lr_map hl228]; exact (SqL.of (S243.get 0 rfl))), ?_⟩
          clear S227 S242
          intro ys244 a245 pm246 pw247 np248
          obtain rfl := sortI_eq pm246 pw247
          have hl249 : LR (rInt F223) ((sortI ((st2.map fun (q : Int × Bool) => q.1).map fun x222 => x222)).map V.int) (sortI ((st2.map fun (q : Int × Bool) => q.1).map fun x222 => x222)) := lr_ints _
          have S250 : Sta F223 ([(a245, HO.lst ((sortI ((st2.map fun (q : Int × Bool) => q.1).map fun x222 => x222)).map V.int)), (a230, HO.lst v224), (a3, HO.dK v52)] ++ R) _ := S243.new np248 _
          obtain ⟨F251, s252, S253, h254⟩ : ∃ F', Same F223 F' ∧ Sta F' ([(a230, HO.lst v224), (a3, HO.dK v52)] ++ R) _ ∧ F' a245 = some (HO.lst ((sortI ((st2.map fun (q : Int × Bool) => q.1).map fun x222 => x222)).map V.int)) := ⟨_, S250.frzS, S250.frz, upd_same⟩
          obtain rfl := Option.some.inj hm
          have S255 : Sta F251 ([] ++ R) _ := S253.pick [] (by decide) rfl
          exact kk _ _ (V.ref a245) (s29.trans (s45.trans (s205.trans (s226.trans s252)))) S255 (rOpt_some ⟨_, _, rfl, SqL.mono (SqL.of h254) (Same.refl _), (hl249.mono s252)⟩)

def sp_law_follows (T : Txt K mg) : Sp := fun vs H Q _ => ∃ (F0 : Hp) (R : Own) (a_clauses0 : Addr) (v_clauses0 : List V) (x_clauses0 : (List (List Int))) (a_log0 : Addr) (v_log0 : List V) (x_log0 : (List (List Int))) (r : (List Bool)),
  vs = [V.ref a_clauses0, V.ref a_log0] ∧ SqL K F0 a_clauses0 v_clauses0 ∧ LR ((rLst K rInt) F0) v_clauses0 x_clauses0 ∧ SqL K F0 a_log0 v_log0 ∧ LR ((rLst K rInt) F0) v_log0 x_log0 ∧ Sta F0 ([] ++ R) H ∧ m_law_follows x_clauses0 x_log0 = some r ∧ ∀ (F1 : Hp) (H1 : Hp) (a_ret0p : Addr) (v_ret0p : List V), Same F0 F1 → Sta F1 ([(a_ret0p, HO.lst v_ret0p)] ++ R) H1 → LR (rBool F1) v_ret0p r → Q (V.ref a_ret0p) H1

theorem ok_law_follows (T : Txt K mg) : FnOk P w K mg base CX0 2 T.a_law_follows T.d_law_follows ["clauses", "log"] (sp_law_follows T) := by
  refine T.F_law_follows.ok sc_law_follows (fun vs H Q E h => ?_) (fun cdv A outer s H vs Q E hr h => ?_)
  · obtain ⟨_, _, _, _, _, _, _, _, _, rfl, _⟩ := h
    rfl
  · obtain ⟨F0, R, a_clauses0, v_clauses0, x_clauses0, a_log0, v_log0, x_log0, r, rfl, hs_clauses0, hl_clauses0, hs_log0, hl_log0, S0, hm, kk⟩ := h
    have hu := hu_of hr
    unfold m_law_follows at hm
    refine ⟨_, (pss_cons (ps_setLc (i := 2) (own := [("clause", 5)]) rfl sc_law_follows.nd rfl rfl (sw_true rfl rfl rfl (by decide +kernel)) (pi_list (pv 0)) (blkOk_by (own := [("clause", 5)]) (N := ["clauses", "log", "grown", "told", "line", "clause", "literal"]) (sc := defScope s_law_follows) (by decide +kernel)) (fun _ _ _ _ _ => (pg_name (i := 5) sc_law_follows.nd rfl (Or.inl rfl))) (fun _ _ _ _ _ => pts_nil) (fun _ _ _ _ _ => (pv 5))) (pss_cons (ps_set (i := 3) sc_law_follows.nd rfl (Or.inl rfl) (pe_lst pa_nil)) (pss_cons (ps_for PassesOwn.never rfl (pi_list (pv 1)) (pg_name (i := 4) sc_law_follows.nd rfl (Or.inl rfl)) (pss_cons (ps_expr (pe_bm PySem.F.plainAttrs_list PySem.F.slot_list_append PySem.F.type_list_append mt_append (pv 3) (pa_cons (pe_cmpR op_isN (pe_call (ok_law_forced T) (hr.mono (by decide)) rfl T.g_law_forced T.F_law_forced.kp T.b_law_forced .nil pass0 (pa_cons (pv 2) (pa_cons (pe_lc (own := [("literal", 6)]) rfl sc_law_follows.nd (pi_list (pv 4)) (blkOk_by (own := [("literal", 6)]) (N := ["clauses", "log", "grown", "told", "line", "clause", "literal"]) (sc := defScope s_law_follows) (by decide +kernel)) (fun _ _ _ _ _ => (pg_name (i := 6) sc_law_follows.nd rfl (Or.inl rfl))) (fun _ _ _ _ _ => pts_nil) (fun _ _ _ _ _ => (pe_op op_sub pe_int (pv 6)))) pa_nil))) pe_non (nomark _)) pa_nil))) (pss_one (ps_expr (pe_bm PySem.F.plainAttrs_list PySem.F.slot_list_append PySem.F.type_list_append mt_append (pv 2) (pa_cons (pv 4) pa_nil)))))) (pss_one (ps_ret (pv 3)))))), ?_⟩
    refine seqI fun N1 hN2 => ?_
    revert hm; refine grdI fun g17 hm => ?_
    have e3 : lcO (fun x7 => some (some x7)) x_clauses0 = some (x_clauses0.map fun x7 => x7) := lc_map (fun x7 => x7) x_clauses0
    refine ⟨_, rfl, _, rfl, ⟨_, (SqL.mono hs_clauses0 ((Same.refl _).trans S0.sub))⟩, fun a15 np16 => lc_list (K := K) (a := a_clauses0) (xs := v_clauses0) (fun i H2 => ∃ (F8 : Hp) (v9 : List V) (acc10 : List (List Int)) (r4 : List (List Int)), Same F0 F8 ∧ Sta F8 ([(a15, HO.lst v9)] ++ R) H2 ∧ LR ((rLst K rInt) F8) v9 acc10 ∧ acc10.length ≤ i ∧ lcO (fun x7 => some (some x7)) (List.drop i x_clauses0) = some r4 ∧ (x_clauses0.map fun x7 => x7) = acc10 ++ r4) ⟨F0, [], [], _, Same.refl _, S0.new np16 _, trivial, Nat.le_refl _, e3, rfl⟩ (by rintro i H2 _ ⟨F8, v9, acc10, r4, s11, S12, hl13, hn14, hr5, hy6⟩; exact (SqL.mono hs_clauses0 (s11.trans S12.sub))) ?_ ?_⟩
    · rintro i v18 H2 hi ⟨F8, v9, acc10, r4, s11, S12, hl13, hn14, hr5, hy6⟩
      obtain ⟨x7, hx19, rx20⟩ := LR.getV hl_clauses0 hi
      rw [drop_cons hx19] at hr5
      revert hr5; refine lcI fun y21 r22 hm hr24 hc25 => ?_
      obtain ⟨a26, v27, rfl, hs28, hl29⟩ := rx20
      refine ⟨rfl, ?_⟩
      refine tYesI ?_
      rw [if_pos rfl]
      refine ⟨_, rfl, ?_⟩
      obtain rfl := Option.some.inj hm
      have hlt : v9.length < 16777216 := by rw [LR.length hl13]; have := (List.getElem?_eq_some_iff.mp hx19).1; have := of_decide_eq_true g17; omega
      have S30 : Sta F8 ([(a15, HO.lst (v9 ++ [V.ref a26]))] ++ R) _ := S12.set 0 rfl _
      exact ⟨_, (S12.get 0 rfl), hlt, F8, _, (acc10 ++ [x7]), r22, s11, S30, LR.snoc hl13 ⟨_, _, rfl, SqL.mono hs28 s11, (hl29.mono s11)⟩, by rw [List.length_append]; exact Nat.succ_le_succ hn14, hr24, by rw [List.append_assoc]; exact hy6.trans (congrArg (acc10 ++ ·) hc25)⟩
    rintro H2 ⟨F8, v9, acc10, r4, s11, S12, hl13, hn14, hr5, hy6⟩
    rw [LR.dropEnd hl_clauses0] at hr5
    obtain rfl := Option.some.inj hr5
    rw [List.append_nil] at hy6
    subst hy6
    have S31 : Sta F8 ([(a15, HO.lst v9)] ++ R) _ := S12
    refine hN2 _ _ ?_
    refine seqI fun N32 hN33 => ?_
    refine ⟨(by show 0 ≤ sizeLine; decide), ?_⟩
    clear S12
    intro a34 np35
    have hl36 : LR (rBool F8) [] ([] : (List Bool)) := trivial
    have S37 : Sta F8 ([(a34, HO.lst []), (a15, HO.lst v9)] ++ R) _ := S31.new np35 _
    refine hN33 _ _ ?_
    refine seqI fun N38 hN39 => ?_
    revert hm; refine bndI fun y40 e41 hm42 => ?_
    refine ⟨_, rfl, _, rfl, ⟨_, (SqL.mono hs_log0 (s11.trans S37.sub))⟩, for_list (K := K) (a := a_log0) (xs := v_log0) (fun i σ H2 => ∃ (st1 : ((List Bool) × (List (List Int)))) (F66 : Hp) (v71 : List V) (v73 : List V) (o69 : Option V) (o70 : Option V), σ = [some (V.ref a_clauses0), some (V.ref a_log0), some (V.ref a15), some (V.ref a34), o69, none, o70] ∧ Same F8 F66 ∧ Sta F66 ([(a34, HO.lst v71), (a15, HO.lst v73)] ++ R) H2 ∧ LR (rBool F66) v71 st1.1 ∧ LR ((rLst K rInt) F66) v73 st1.2 ∧ m_law_follows_l1 (List.drop i x_log0) st1 = some y40) ⟨(([] : (List Bool)), (x_clauses0.map fun x7 => x7)), F8, [], v9, _, _, rfl, (Same.refl _), S37, hl36, hl13, e41⟩ (by rintro i σ H2 _ ⟨st1, F66, v71, v73, o69, o70, rfl, s67, S68, hl72, hl74, _⟩; exact (SqL.mono hs_log0 ((s11.trans s67).trans S68.sub))) ?_ ?_⟩
    clear S31
    · rintro i v76 σ H2 hi ⟨st1, F66, v71, v73, o69, o70, rfl, s67, S68, hl72, hl74, hm⟩
      obtain ⟨x75, hx77, rx78⟩ := LR.getV hl_log0 hi
      rw [drop_cons hx77, m_law_follows_l1] at hm
      obtain ⟨a79, v80, rfl, hs81, hl82⟩ := rx78
      refine seqI fun N83 hN84 => ?_
      revert hm; refine grdI fun g99 hm => ?_
      have e85 : lcO (fun x89 => some (some ((0 : Int) - x89))) x75 = some (x75.map fun x89 => ((0 : Int) - x89)) := lc_map (fun x89 => ((0 : Int) - x89)) x75
      refine ⟨_, rfl, .inl ⟨rfl, _, (SqL.of (S68.get 0 rfl))⟩, _, rfl, _, rfl, _, rfl, ⟨_, (SqL.mono hs81 ((s11.trans s67).trans S68.sub))⟩, fun a97 np98 => lc_list (K := K) (a := a79) (xs := v80) (fun i H2 => ∃ (F90 : Hp) (v91 : List V) (acc92 : List Int) (r86 : List Int), Same F66 F90 ∧ Sta F90 ([(a97, HO.lst v91), (a34, HO.lst v71), (a15, HO.lst v73)] ++ R) H2 ∧ LR (rInt F90) v91 acc92 ∧ acc92.length ≤ i ∧ lcO (fun x89 => some (some ((0 : Int) - x89))) (List.drop i x75) = some r86 ∧ (x75.map fun x89 => ((0 : Int) - x89)) = acc92 ++ r86) ⟨F66, [], [], _, Same.refl _, S68.new np98 _, trivial, Nat.le_refl _, e85, rfl⟩ (by rintro i H2 _ ⟨F90, v91, acc92, r86, s93, S94, hl95, hn96, hr87, hy88⟩; exact (SqL.mono hs81 ((s11.trans (s67.trans s93)).trans S94.sub))) ?_ ?_⟩
      · rintro i v100 H2 hi ⟨F90, v91, acc92, r86, s93, S94, hl95, hn96, hr87, hy88⟩
        obtain ⟨x89, hx101, rx102⟩ := LR.getV hl82 hi
        rw [drop_cons hx101] at hr87
        revert hr87; refine lcI fun y103 r104 hm hr106 hc107 => ?_
        obtain rfl := rInt_e rx102
        refine ⟨rfl, ?_⟩
        refine tYesI ?_
        rw [if_pos rfl]
        refine ⟨_, rfl, _, _, rfl, rfl, ?_⟩
        obtain rfl := Option.some.inj hm
        have hlt : v91.length < 16777216 := by rw [LR.length hl95]; have := (List.getElem?_eq_some_iff.mp hx101).1; have := of_decide_eq_true g99; omega
        have S108 : Sta F90 ([(a97, HO.lst (v91 ++ [V.int ((0 : Int) - x89)])), (a34, HO.lst v71), (a15, HO.lst v73)] ++ R) _ := S94.set 0 rfl _
        exact ⟨_, (S94.get 0 rfl), hlt, F90, _, (acc92 ++ [((0 : Int) - x89)]), r104, s93, S108, LR.snoc hl95 rfl, by rw [List.length_append]; exact Nat.succ_le_succ hn96, hr106, by rw [List.append_assoc]; exact hy88.trans (congrArg (acc92 ++ ·) hc107)⟩
      rintro H2 ⟨F90, v91, acc92, r86, s93, S94, hl95, hn96, hr87, hy88⟩
      rw [LR.dropEnd hl82] at hr87
      obtain rfl := Option.some.inj hr87
      rw [List.append_nil] at hy88
      subst hy88
      have S109 : Sta F90 ([(a97, HO.lst v91), (a34, HO.lst v71), (a15, HO.lst v73)] ++ R) _ := S94
      revert hm; refine bndI fun y110 e111 hm => ?_
      refine ⟨F90, ([(a97, HO.lst v91), (a34, HO.lst v71), (a15, HO.lst v73)] ++ R), a15, v73, st1.2, a97, v91, (x75.map fun x89 => ((0 : Int) - x89)), y110, rfl, (SqL.of (S109.getO 2 rfl)), (hl74.mono s93), (SqL.of (S109.getO 0 rfl)), hl95, S109, (by exact e111), fun F112 H113 v116 s114 S115 p117 => ?_⟩
      clear S94
      have S118 : Sta F112 ([(a97, HO.lst v91), (a34, HO.lst v71), (a15, HO.lst v73)] ++ R) _ := S115
      refine ⟨rfl, ?_⟩
      clear S115
      rw [show _ = (y110).isNone from (opt_isN (r := (rLst K rInt)) (F := F112) p117)]
      revert hm; refine grdI fun g119 hm => ?_
      refine ⟨_, _, _, rfl, rfl, (S118.get 1 rfl), (by rw [LR.length (hl72.mono (s93.trans s114))]; exact of_decide_eq_true g119), ?_⟩
      have hl120 : LR (rBool F112) (v71 ++ [V.bl ((y110).isNone)]) (st1.1 ++ [(y110).isNone]) := LR.snoc (hl72.mono (s93.trans s114)) rfl
      have S121 : Sta F112 ([(a97, HO.lst v91), (a34, HO.lst (v71 ++ [V.bl ((y110).isNone)])), (a15, HO.lst v73)] ++ R) _ := S118.set 1 rfl _
      refine hN84 _ _ ?_
      revert hm; refine grdI fun g122 hm => ?_
      refine ⟨_, rfl, .inl ⟨rfl, _, (SqL.of (S121.get 2 rfl))⟩, _, rfl, _, _, _, rfl, rfl, (S121.get 2 rfl), (by rw [LR.length (hl74.mono (s93.trans s114))]; exact of_decide_eq_true g122), ?_⟩
      clear S118
      have hl123 : LR ((rLst K rInt) F112) (v73 ++ [V.ref a79]) (st1.2 ++ [x75]) := LR.snoc (hl74.mono (s93.trans s114)) ⟨_, _, rfl, SqL.mono hs81 (s11.trans (s67.trans (s93.trans s114))), (hl82.mono (s11.trans (s67.trans (s93.trans s114))))⟩
      have S124 : Sta F112 ([(a97, HO.lst v91), (a34, HO.lst (v71 ++ [V.bl ((y110).isNone)])), (a15, HO.lst (v73 ++ [V.ref a79]))] ++ R) _ := S121.set 2 rfl _
      have S125 : Sta F112 ([(a34, HO.lst (v71 ++ [V.bl ((y110).isNone)])), (a15, HO.lst (v73 ++ [V.ref a79]))] ++ R) _ := S124.pick [1, 2] (by decide) rfl
      exact ⟨((st1.1 ++ [(y110).isNone]), (st1.2 ++ [x75])), F112, (v71 ++ [V.bl ((y110).isNone)]), (v73 ++ [V.ref a79]), _, _, rfl, (s67.trans (s93.trans s114)), S125, hl120, hl123, hm⟩
    · rintro σ H2 ⟨st1, F66, v71, v73, o69, o70, rfl, s67, S68, hl72, hl74, hm⟩
      rw [LR.dropEnd hl_log0, m_law_follows_l1] at hm
      obtain rfl := Option.some.inj hm
      have hm := hm42
      refine hN39 _ _ ?_
      refine ⟨_, rfl, ?_⟩
      obtain rfl := Option.some.inj hm
      have S126 : Sta F66 ([(a34, HO.lst v71)] ++ R) _ := S68.pick [0] (by decide) rfl
      exact kk _ _ a34 v71 (s11.trans s67) S126 hl72

def sp_Pusher_include (T : Txt K mg) : Sp := fun vs H Q _ => ∃ (F0 : Hp) (R : Own) (a_self0 : Addr) (dx_self0 : Addr) (x_self0 : M_Pusher) (a_self0_clauses0 : Addr) (v_self0_clauses0 : List V) (a_self0_places0 : Addr) (v_self0_places0 : List (Key × V)) (in_self0_places0 : Own) (a_self0_starts0 : Addr) (v_self0_starts0 : List V) (a_clause0 : Addr) (v_clause0 : List V) (x_clause0 : (Bool × List Int)) (r : M_Pusher),
  vs = [V.ref a_self0, V.ref a_clause0] ∧ LR ((rLst K rInt) F0) v_self0_clauses0 x_self0.clauses ∧ KRO Sum.inl ((roM rInt) F0) v_self0_places0 x_self0.places in_self0_places0 ∧ LR (rInt F0) v_self0_starts0 x_self0.starts ∧ SqB K x_clause0.1 (ov F0 R) a_clause0 v_clause0 ∧ LR (rInt F0) v_clause0 x_clause0.2 ∧ Sta F0 ([(a_self0, HO.ins T.a_Pusher dx_self0 (fl_Pusher (V.ref a_self0_clauses0) (V.ref a_self0_places0) (V.ref a_self0_starts0) (V.bl x_self0.empty))), (a_self0_clauses0, HO.lst v_self0_clauses0), (a_self0_places0, HO.dK v_self0_places0), (a_self0_starts0, HO.lst v_self0_starts0)] ++ (in_self0_places0 ++ R)) H ∧ m_Pusher_include x_self0 x_clause0 = some r ∧ ∀ (F1 : Hp) (H1 : Hp) (a_self0p_clauses0 : Addr) (v_self0p_clauses0 : List V) (a_self0p_places0 : Addr) (v_self0p_places0 : List (Key × V)) (in_self0p_places0 : Own) (a_self0p_starts0 : Addr) (v_self0p_starts0 : List V), Same F0 F1 → Sta F1 ([(a_self0, HO.ins T.a_Pusher dx_self0 (fl_Pusher (V.ref a_self0p_clauses0) (V.ref a_self0p_places0) (V.ref a_self0p_starts0) (V.bl r.empty))), (a_self0p_clauses0, HO.lst v_self0p_clauses0), (a_self0p_places0, HO.dK v_self0p_places0), (a_self0p_starts0, HO.lst v_self0p_starts0)] ++ (in_self0p_places0 ++ R)) H1 → LR ((rLst K rInt) F1) v_self0p_clauses0 r.clauses → KRO Sum.inl ((roM rInt) F1) v_self0p_places0 r.places in_self0p_places0 → LR (rInt F1) v_self0p_starts0 r.starts → Q (V.non) H1

theorem ok_Pusher_include (T : Txt K mg) : FnOk P w K mg base CX0 1 T.a_Pusher_include T.d_Pusher_include ["self", "clause"] (sp_Pusher_include T) := by
  refine T.F_Pusher_include.ok sc_Pusher_include (fun vs H Q E h => ?_) (fun cdv A outer s H vs Q E hr h => ?_)
  · obtain ⟨_, _, _, _, _, _, _, _, _, _, _, _, _, _, _, _, rfl, _⟩ := h
    rfl
  · obtain ⟨F0, R, a_self0, dx_self0, x_self0, a_self0_clauses0, v_self0_clauses0, a_self0_places0, v_self0_places0, in_self0_places0, a_self0_starts0, v_self0_starts0, a_clause0, v_clause0, x_clause0, r, rfl, hl_self0_clauses0, hl_self0_places0, hl_self0_starts0, hs_clause0, hl_clause0, S0, hm, kk⟩ := h
    have hu := hu_of hr
    unfold m_Pusher_include at hm
    refine ⟨_, (pss_cons (ps_set (i := 2) sc_Pusher_include.nd rfl (Or.inl rfl) (pe_sortSetQ (by rfl) T.z_sorted (by rfl) T.z_set (pv 1))) (pss_cons (ps_for PassesOwn.never rfl (pi_list (pv 2)) (pg_name (i := 3) sc_Pusher_include.nd rfl (Or.inl rfl)) (pss_one (ps_expr (pe_cut (pe_bm PySem.F.plainAttrs_list PySem.F.slot_list_append PySem.F.type_list_append mt_append (pe_dsetd (pe_fld (pv 0) rfl) (pv 3) (pe_lst pa_nil) ⟨rfl, rfl, rfl, rfl⟩) (pa_cons (pe_callB call_len_seq (by rfl) T.z_len PySem.boot_len (pa_cons (pe_fld (pv 0) rfl) pa_nil)) pa_nil)))))) (pss_cons (ps_expr (pe_bm PySem.F.plainAttrs_list PySem.F.slot_list_append PySem.F.type_list_append mt_append (pe_fld (pv 0) rfl) (pa_cons (pv 2) pa_nil))) (pss_one (ps_if (pt_not (pt_truth (pv 2) (by intro _; rfl))) (pss_one (ps_fld (pv 0) pe_bl rfl)) (pss_one (ps_if (pt_cmpR oI_eq (pe_callB call_len_seq (by rfl) T.z_len PySem.boot_len (pa_cons (pv 2) pa_nil)) pe_int (nomark _)) (pss_one (ps_expr (pe_bm PySem.F.plainAttrs_list PySem.F.slot_list_append PySem.F.type_list_append mt_append (pe_fld (pv 0) rfl) (pa_cons (pe_ix ix_list (pv 2) pe_int (fun _ _ => rfl)) pa_nil)))) pss_nil))))))), ?_⟩
    refine seqI fun N1 hN2 => ?_
    revert hm; refine grdI fun g3 hm => ?_
    refine ⟨_, rfl, _, x_clause0.1, x_clause0.2, rfl, (by rw [← lr_map hl_clause0]; exact (SqB.mono hs_clause0 (S0.bor (Same.refl _) (fun _ q => (List.mem_append_right _ (List.mem_append_right _ q)))))), (of_decide_eq_true g3), ?_⟩
    intro ys4 a5 pw7 pm6 np8
    obtain rfl := mset_eq pw7 pm6
    have hl9 : LR (rInt F0) ((mset x_clause0.2).map V.int) (mset x_clause0.2) := lr_ints _
    have S10 : Sta F0 ([(a5, HO.lst ((mset x_clause0.2).map V.int)), (a_self0, HO.ins T.a_Pusher dx_self0 (fl_Pusher (V.ref a_self0_clauses0) (V.ref a_self0_places0) (V.ref a_self0_starts0) (V.bl x_self0.empty))), (a_self0_clauses0, HO.lst v_self0_clauses0), (a_self0_places0, HO.dK v_self0_places0), (a_self0_starts0, HO.lst v_self0_starts0)] ++ (in_self0_places0 ++ R)) _ := S0.new np8 _
    refine hN2 _ _ ?_
    refine seqI fun N11 hN12 => ?_
    revert hm; refine bndI fun y13 e14 hm15 => ?_
    refine ⟨_, rfl, _, rfl, ⟨_, (SqL.of (S10.get 0 rfl))⟩, for_list (K := K) (a := a5) (xs := ((mset x_clause0.2).map V.int)) (fun i σ H2 => ∃ (st1 : M_Pusher) (F48 : Hp) (a52 : Addr) (v53 : List V) (a55 : Addr) (v56 : List (Key × V)) (in58 : Own) (a59 : Addr) (v60 : List V) (o51 : Option V), σ = [some (V.ref a_self0), some (V.ref a_clause0), some (V.ref a5), o51] ∧ Same F0 F48 ∧ Sta F48 ([(a5, HO.lst ((mset x_clause0.2).map V.int)), (a_self0, HO.ins T.a_Pusher dx_self0 (fl_Pusher (V.ref a52) (V.ref a55) (V.ref a59) (V.bl st1.empty))), (a52, HO.lst v53), (a55, HO.dK v56), (a59, HO.lst v60)] ++ (in58 ++ R)) H2 ∧ LR ((rLst K rInt) F48) v53 st1.clauses ∧ KRO Sum.inl ((roM rInt) F48) v56 st1.places in58 ∧ LR (rInt F48) v60 st1.starts ∧ m_Pusher_include_l1 (List.drop i (mset x_clause0.2)) st1 = some y13) ⟨(M_Pusher.mk x_self0.clauses x_self0.places x_self0.starts x_self0.empty), F0, a_self0_clauses0, v_self0_clauses0, a_self0_places0, v_self0_places0, in_self0_places0, a_self0_starts0, v_self0_starts0, _, rfl, (Same.refl _), S10, hl_self0_clauses0, hl_self0_places0, hl_self0_starts0, e14⟩ (by rintro i σ H2 _ ⟨st1, F48, a52, v53, a55, v56, in58, a59, v60, o51, rfl, s49, S50, hl54, hl57, hl61, _⟩; exact (SqL.of (S50.get 0 rfl))) ?_ ?_⟩
    clear S0
    · rintro i v63 σ H2 hi ⟨st1, F48, a52, v53, a55, v56, in58, a59, v60, o51, rfl, s49, S50, hl54, hl57, hl61, hm⟩
      obtain ⟨x62, hx64, rx65⟩ := LR.getV hl9 hi
      rw [drop_cons hx64, m_Pusher_include_l1] at hm
      obtain rfl := rInt_e rx65
      revert hm; refine grdI fun g66 hm => ?_
      revert hm; refine grdI fun g67 hm => ?_
      refine ⟨fun v H2 => v = V.non ∧ ∃ (F68 : Hp) (v69 : List (Key × V)) (in70 : Own), Same F48 F68 ∧ Sta F68 ([(a5, HO.lst ((mset x_clause0.2).map V.int)), (a_self0, HO.ins T.a_Pusher dx_self0 (fl_Pusher (V.ref a52) (V.ref a55) (V.ref a59) (V.bl st1.empty))), (a52, HO.lst v53), (a55, HO.dK v69), (a59, HO.lst v60)] ++ (in70 ++ R)) H2 ∧ KRO Sum.inl ((roM rInt) F68) v69 (mapp st1.places x62 (st1.clauses.length : Int)) in70, ?_, ?_⟩
      · refine ⟨_, rfl, _, _, _, _, _, rfl, (S50.get 1 rfl), T.cl_Pusher, T.n_Pusher_places, fl_Pusher_places, _, rfl, (.inl ⟨_, .inl (S50.get 3 rfl)⟩), _, rfl, (by show 0 ≤ sizeLine; decide), ?_⟩
        intro a76 np77
        have S78 : Sta F48 ([(a76, HO.lst []), (a5, HO.lst ((mset x_clause0.2).map V.int)), (a_self0, HO.ins T.a_Pusher dx_self0 (fl_Pusher (V.ref a52) (V.ref a55) (V.ref a59) (V.bl st1.empty))), (a52, HO.lst v53), (a55, HO.dK v56), (a59, HO.lst v60)] ++ (in58 ++ R)) _ := S50.new np77 _
        have hK := hl57
        rcases KRO.find kinj_int x62 hK with ⟨q79, q80⟩ | ⟨x81, v82, c83, c84, c85, q79, q80, q86, q87, q88⟩
        · refine ⟨_, (Sum.inl x62), (S78.get 4 rfl), rfl, (by rw [KRO.length hl57]; exact of_decide_eq_true g66), (fun v hv => by rw [q80] at hv; cases hv), fun _ => ?_⟩
          rw [putK_new q80]
          have S89 : Sta F48 ([(a76, HO.lst []), (a5, HO.lst ((mset x_clause0.2).map V.int)), (a_self0, HO.ins T.a_Pusher dx_self0 (fl_Pusher (V.ref a52) (V.ref a55) (V.ref a59) (V.bl st1.empty))), (a52, HO.lst v53), (a55, HO.dK (v56 ++ [((Sum.inl x62), V.ref a76)])), (a59, HO.lst v60)] ++ (in58 ++ R)) _ := S78.set 4 rfl _
          refine ⟨.inl ⟨rfl, _, (SqL.of (S89.get 0 rfl))⟩, _, rfl, _, _, _, _, _, rfl, (S89.get 2 rfl), T.cl_Pusher, T.n_Pusher_clauses, fl_Pusher_clauses, _, _, rfl, .inl (SqL.of (S89.get 3 rfl)), ?_⟩
          clear S78
          rw [LR.length hl54]
          refine ⟨_, _, _, rfl, rfl, (S89.get 0 rfl), (by decide), ?_⟩
          have S90 : Sta F48 ([(a76, HO.lst ([] ++ [V.int (st1.clauses.length : Int)])), (a5, HO.lst ((mset x_clause0.2).map V.int)), (a_self0, HO.ins T.a_Pusher dx_self0 (fl_Pusher (V.ref a52) (V.ref a55) (V.ref a59) (V.bl st1.empty))), (a52, HO.lst v53), (a55, HO.dK (v56 ++ [((Sum.inl x62), V.ref a76)])), (a59, HO.lst v60)] ++ (in58 ++ R)) _ := S89.set 0 rfl _
          have S91 : Sta F48 ([(a5, HO.lst ((mset x_clause0.2).map V.int)), (a_self0, HO.ins T.a_Pusher dx_self0 (fl_Pusher (V.ref a52) (V.ref a55) (V.ref a59) (V.bl st1.empty))), (a52, HO.lst v53), (a55, HO.dK (v56 ++ [((Sum.inl x62), V.ref a76)])), (a59, HO.lst v60)] ++ (in58 ++ ([(a76, HO.lst ([] ++ [V.int (st1.clauses.length : Int)]))] ++ R))) _ := Sta.pickS (segs := [[(a76, HO.lst ([] ++ [V.int (st1.clauses.length : Int)]))], [(a5, HO.lst ((mset x_clause0.2).map V.int))], [(a_self0, HO.ins T.a_Pusher dx_self0 (fl_Pusher (V.ref a52) (V.ref a55) (V.ref a59) (V.bl st1.empty)))], [(a52, HO.lst v53)], [(a55, HO.dK (v56 ++ [((Sum.inl x62), V.ref a76)]))], [(a59, HO.lst v60)], in58]) (segs' := [[(a5, HO.lst ((mset x_clause0.2).map V.int))], [(a_self0, HO.ins T.a_Pusher dx_self0 (fl_Pusher (V.ref a52) (V.ref a55) (V.ref a59) (V.bl st1.empty)))], [(a52, HO.lst v53)], [(a55, HO.dK (v56 ++ [((Sum.inl x62), V.ref a76)]))], [(a59, HO.lst v60)], in58, [(a76, HO.lst ([] ++ [V.int (st1.clauses.length : Int)]))]]) (R := R) [1, 2, 3, 4, 5, 6, 0] (by decide) rfl S90
          refine ⟨rfl, F48, _, _, (Same.refl _), Sta.jn (cs := [(a5, HO.lst ((mset x_clause0.2).map V.int)), (a_self0, HO.ins T.a_Pusher dx_self0 (fl_Pusher (V.ref a52) (V.ref a55) (V.ref a59) (V.bl st1.empty))), (a52, HO.lst v53), (a55, HO.dK (v56 ++ [((Sum.inl x62), V.ref a76)])), (a59, HO.lst v60)]) (a := in58) (b := [(a76, HO.lst ([] ++ [V.int (st1.clauses.length : Int)]))]) (ys := R) S91, ?_⟩
          have hz := KRO.snoc (f := Sum.inl) (k := x62) (r := (roM rInt) F48) (v := V.ref a76) (x := [(st1.clauses.length : Int)]) ⟨_, [V.int (st1.clauses.length : Int)], rfl, rfl, ⟨rfl, trivial⟩⟩ hl57
          show KRO Sum.inl ((roM rInt) F48) _ (mapp _ _ _) _
          unfold mapp; rw [q79]; exact hz
        · obtain ⟨a92, v93, rfl, rfl, hl94⟩ := q86
          subst q87
          have S96 : Sta F48 ([(a92, HO.lst v93)] ++ ([(a5, HO.lst ((mset x_clause0.2).map V.int)), (a_self0, HO.ins T.a_Pusher dx_self0 (fl_Pusher (V.ref a52) (V.ref a55) (V.ref a59) (V.bl st1.empty))), (a52, HO.lst v53), (a55, HO.dK v56), (a59, HO.lst v60)] ++ ((c83 ++ c85) ++ R))) _ := Sta.op3 (cs := [(a5, HO.lst ((mset x_clause0.2).map V.int)), (a_self0, HO.ins T.a_Pusher dx_self0 (fl_Pusher (V.ref a52) (V.ref a55) (V.ref a59) (V.bl st1.empty))), (a52, HO.lst v53), (a55, HO.dK v56), (a59, HO.lst v60)]) (a := c83) (b := [(a92, HO.lst v93)]) (c := c85) (ys := R) S78.tl
          refine ⟨_, (Sum.inl x62), (S96.get 4 rfl), rfl, (by rw [KRO.length hK]; exact of_decide_eq_true g66), fun v hv => ?_, (fun hn => by rw [q80] at hn; cases hn)⟩
          obtain rfl := Option.some.inj (q80.symm.trans hv)
          refine ⟨.inl ⟨rfl, _, (SqL.of (S96.get 0 rfl))⟩, _, rfl, _, _, _, _, _, rfl, (S96.get 2 rfl), T.cl_Pusher, T.n_Pusher_clauses, fl_Pusher_clauses, _, _, rfl, .inl (SqL.of (S96.get 3 rfl)), ?_⟩
          clear S78
          rw [LR.length hl54]
          refine ⟨_, _, _, rfl, rfl, (S96.get 0 rfl), (by rw [LR.length hl94]; have := of_decide_eq_true g67; rw [q79] at this; exact this), ?_⟩
          have S97 : Sta F48 ([(a92, HO.lst (v93 ++ [V.int (st1.clauses.length : Int)])), (a5, HO.lst ((mset x_clause0.2).map V.int)), (a_self0, HO.ins T.a_Pusher dx_self0 (fl_Pusher (V.ref a52) (V.ref a55) (V.ref a59) (V.bl st1.empty))), (a52, HO.lst v53), (a55, HO.dK v56), (a59, HO.lst v60)] ++ ((c83 ++ c85) ++ R)) _ := S96.set 0 rfl _
          refine ⟨rfl, F48, _, _, (Same.refl _), Sta.cl3 (cs := [(a5, HO.lst ((mset x_clause0.2).map V.int)), (a_self0, HO.ins T.a_Pusher dx_self0 (fl_Pusher (V.ref a52) (V.ref a55) (V.ref a59) (V.bl st1.empty))), (a52, HO.lst v53), (a55, HO.dK v56), (a59, HO.lst v60)]) (a := c83) (b := [(a92, HO.lst (v93 ++ [V.int (st1.clauses.length : Int)]))]) (c := c85) (ys := R) S97, ?_⟩
          have hz := q88 (x81 ++ [(st1.clauses.length : Int)]) _ ⟨_, _, rfl, rfl, LR.snoc hl94 rfl⟩
          show KRO Sum.inl ((roM rInt) F48) _ (mapp _ _ _) _
          unfold mapp; rw [q79]; exact hz
      · rintro v74 H75 ⟨rfl, F68, v69, in70, s71, S72, hl73⟩
        exact ⟨(M_Pusher.mk st1.clauses (mapp st1.places x62 (st1.clauses.length : Int)) st1.starts st1.empty), F68, a52, v53, a55, v69, in70, a59, v60, _, rfl, (s49.trans s71), S72, (hl54.mono s71), hl73, (hl61.mono s71), hm⟩
    · rintro σ H2 ⟨st1, F48, a52, v53, a55, v56, in58, a59, v60, o51, rfl, s49, S50, hl54, hl57, hl61, hm⟩
      rw [LR.dropEnd hl9, m_Pusher_include_l1] at hm
      obtain rfl := Option.some.inj hm
      have hm := hm15
      refine hN12 _ _ ?_
      refine seqI fun N98 hN99 => ?_
      obtain ⟨F100, s101, S102, h103⟩ : ∃ F', Same F48 F' ∧ Sta F' ([(a_self0, HO.ins T.a_Pusher dx_self0 (fl_Pusher (V.ref a52) (V.ref a55) (V.ref a59) (V.bl st1.empty))), (a52, HO.lst v53), (a55, HO.dK v56), (a59, HO.lst v60)] ++ (in58 ++ R)) _ ∧ F' a5 = some (HO.lst ((mset x_clause0.2).map V.int)) := ⟨_, S50.frzS, S50.frz, upd_same⟩
      revert hm; refine grdI fun g104 hm => ?_
      refine ⟨_, rfl, _, _, _, _, _, rfl, (S50.get 1 rfl), T.cl_Pusher, T.n_Pusher_clauses, fl_Pusher_clauses, .inl ⟨rfl, _, (SqL.of (S50.get 2 rfl))⟩, _, rfl, _, _, _, rfl, rfl, (S102.get 1 rfl), (by rw [LR.length (hl54.mono s101)]; exact of_decide_eq_true g104), ?_⟩
      have hl105 : LR ((rLst K rInt) F100) (v53 ++ [V.ref a5]) (st1.clauses ++ [(mset x_clause0.2)]) := LR.snoc (hl54.mono s101) ⟨_, _, rfl, SqL.mono (SqL.of h103) (Same.refl _), (hl9.mono (s49.trans s101))⟩
      have S106 : Sta F100 ([(a_self0, HO.ins T.a_Pusher dx_self0 (fl_Pusher (V.ref a52) (V.ref a55) (V.ref a59) (V.bl st1.empty))), (a52, HO.lst (v53 ++ [V.ref a5])), (a55, HO.dK v56), (a59, HO.lst v60)] ++ (in58 ++ R)) _ := S102.set 1 rfl _
      refine hN99 _ _ ?_
      refine ⟨_, rfl, ((!(mset x_clause0.2).isEmpty)), (.inl ⟨_, (SqL.mono (SqL.of h103) ((Same.refl _).trans S106.sub)), by rw [LR.isEmpty (hl9.mono (s49.trans s101))]⟩), ?_⟩
      clear S102
      by_cases c107 : (!(!(mset x_clause0.2).isEmpty)) = true
      · revert hm; refine ifTI c107 fun hm => ?_
        refine goT c107 ?_
        refine ⟨_, rfl, _, _, _, _, rfl, (S106.get 0 rfl), T.cl_Pusher, T.n_Pusher_empty, fl_Pusher_few, ?_⟩
        rw [fl_Pusher_put_empty]
        have S108 : Sta F100 ([(a_self0, HO.ins T.a_Pusher dx_self0 (fl_Pusher (V.ref a52) (V.ref a55) (V.ref a59) (V.bl true))), (a52, HO.lst (v53 ++ [V.ref a5])), (a55, HO.dK v56), (a59, HO.lst v60)] ++ (in58 ++ R)) _ := S106.set 0 rfl _
        obtain rfl := Option.some.inj hm
        exact kk _ _ a52 (v53 ++ [V.ref a5]) a55 v56 in58 a59 v60 (s49.trans s101) S108 hl105 (KRO.mono hl57 s101) (hl61.mono s101)
      · revert hm; refine ifFI c107 fun hm => ?_
        refine goF c107 ?_
        refine ⟨_, rfl, _, _, rfl, .inl (SqL.mono (SqL.of h103) ((Same.refl _).trans S106.sub)), ?_⟩
        rw [LR.length (hl9.mono (s49.trans s101))]
        refine ⟨_, _, rfl, rfl, _, rfl, ?_⟩
        by_cases c109 : (decide (((mset x_clause0.2).length : Int) = (1 : Int))) = true
        · revert hm; refine ifTI c109 fun hm => ?_
          refine goT c109 ?_
          revert hm; refine bndI fun y110 e111 hm => ?_
          obtain ⟨v112, ev113, rv114⟩ := LR.atI hl9 e111
          obtain rfl := rInt_e rv114
          revert hm; refine grdI fun g115 hm => ?_
          refine ⟨_, rfl, _, _, _, _, _, rfl, (S106.get 0 rfl), T.cl_Pusher, T.n_Pusher_starts, fl_Pusher_starts, .inl ⟨rfl, _, (SqL.of (S106.get 3 rfl))⟩, _, rfl, _, _, _, _, rfl, rfl, (SqL.mono (SqL.of h103) ((Same.refl _).trans S106.sub)), ev113, _, _, _, rfl, rfl, (S106.get 3 rfl), (by rw [LR.length (hl61.mono s101)]; exact of_decide_eq_true g115), ?_⟩
          have hl116 : LR (rInt F100) (v60 ++ [V.int y110]) (st1.starts ++ [y110]) := LR.snoc (hl61.mono s101) rfl
          have S117 : Sta F100 ([(a_self0, HO.ins T.a_Pusher dx_self0 (fl_Pusher (V.ref a52) (V.ref a55) (V.ref a59) (V.bl st1.empty))), (a52, HO.lst (v53 ++ [V.ref a5])), (a55, HO.dK v56), (a59, HO.lst (v60 ++ [V.int y110]))] ++ (in58 ++ R)) _ := S106.set 3 rfl _
          obtain rfl := Option.some.inj hm
          exact kk _ _ a52 (v53 ++ [V.ref a5]) a55 v56 in58 a59 (v60 ++ [V.int y110]) (s49.trans s101) S117 hl105 (KRO.mono hl57 s101) hl116
        · revert hm; refine ifFI c109 fun hm => ?_
          refine goF c109 ?_
          obtain rfl := Option.some.inj hm
          exact kk _ _ a52 (v53 ++ [V.ref a5]) a55 v56 in58 a59 v60 (s49.trans s101) S106 hl105 (KRO.mono hl57 s101) (hl61.mono s101)

def sp_Pusher_init (T : Txt K mg) : Sp := fun vs H Q _ => ∃ (F0 : Hp) (R : Own) (a_self0 : Addr) (dx_self0 : Addr) (a_clauses0 : Addr) (v_clauses0 : List V) (x_clauses0 : (List (Bool × List Int))) (r : M_Pusher),
  vs = [V.ref a_self0, V.ref a_clauses0] ∧ SqL K F0 a_clauses0 v_clauses0 ∧ LR ((rSeq K rInt) F0) v_clauses0 x_clauses0 ∧ Sta F0 ([(a_self0, HO.ins T.a_Pusher dx_self0 ([]))] ++ R) H ∧ m_Pusher_init x_clauses0 = some r ∧ ∀ (F1 : Hp) (H1 : Hp) (a_self0p_clauses0 : Addr) (v_self0p_clauses0 : List V) (a_self0p_places0 : Addr) (v_self0p_places0 : List (Key × V)) (in_self0p_places0 : Own) (a_self0p_starts0 : Addr) (v_self0p_starts0 : List V), Same F0 F1 → Sta F1 ([(a_self0, HO.ins T.a_Pusher dx_self0 (fl_Pusher (V.ref a_self0p_clauses0) (V.ref a_self0p_places0) (V.ref a_self0p_starts0) (V.bl r.empty))), (a_self0p_clauses0, HO.lst v_self0p_clauses0), (a_self0p_places0, HO.dK v_self0p_places0), (a_self0p_starts0, HO.lst v_self0p_starts0)] ++ (in_self0p_places0 ++ R)) H1 → LR ((rLst K rInt) F1) v_self0p_clauses0 r.clauses → KRO Sum.inl ((roM rInt) F1) v_self0p_places0 r.places in_self0p_places0 → LR (rInt F1) v_self0p_starts0 r.starts → Q (V.non) H1

theorem ok_Pusher_init (T : Txt K mg) : FnOk P w K mg base CX0 2 T.a_Pusher_init T.d_Pusher_init ["self", "clauses"] (sp_Pusher_init T) := by
  refine T.F_Pusher_init.ok sc_Pusher_init (fun vs H Q E h => ?_) (fun cdv A outer s H vs Q E hr h => ?_)
  · obtain ⟨_, _, _, _, _, _, _, _, rfl, _⟩ := h
    rfl
  · obtain ⟨F0, R, a_self0, dx_self0, a_clauses0, v_clauses0, x_clauses0, r, rfl, hs_clauses0, hl_clauses0, S0, hm, kk⟩ := h
    have hu := hu_of hr
    unfold m_Pusher_init at hm
    refine ⟨_, (pss_cons (ps_fld (pv 0) (pe_lst pa_nil) rfl) (pss_cons (ps_fld (pv 0) pe_dnewK rfl) (pss_cons (ps_fld (pv 0) (pe_lst pa_nil) rfl) (pss_cons (ps_fld (pv 0) pe_bl rfl) (pss_one (ps_for PassesOwn.never rfl (pi_list (pv 1)) (pg_name (i := 2) sc_Pusher_init.nd rfl (Or.inl rfl)) (pss_one (ps_expr (pe_meth (pv 0) T.cl_Pusher T.h_Pusher_include (ok_Pusher_include T) (hr.mono (by decide)) T.b_Pusher_include .nil pass0 (pa_cons (pv 2) pa_nil)))))))))), ?_⟩
    refine seqI fun N1 hN2 => ?_
    refine ⟨(by show 0 ≤ sizeLine; decide), ?_⟩
    intro a3 np4
    have hl5 : LR ((rLst K rInt) F0) [] ([] : (List (List Int))) := trivial
    have S6 : Sta F0 ([(a3, HO.lst []), (a_self0, HO.ins T.a_Pusher dx_self0 ([]))] ++ R) _ := S0.new np4 _
    refine ⟨_, rfl, _, _, _, _, rfl, (S6.get 1 rfl), T.cl_Pusher, T.n_Pusher_clauses, (Nat.lt_of_le_of_lt (Nat.le_refl 0) (by decide)), ?_⟩
    clear S0
    have S7 : Sta F0 ([(a3, HO.lst []), (a_self0, HO.ins T.a_Pusher dx_self0 (putF "_clauses" (V.ref a3) ([])))] ++ R) _ := S6.set 1 rfl _
    refine hN2 _ _ ?_
    refine seqI fun N8 hN9 => ?_
    clear S6
    intro a10 np11
    have hl12 : KR Sum.inl ((rLst K rInt) F0) ([] : List (Key × V)) ([] : (List (Int × (List Int)))) := trivial
    obtain ⟨in13, S14, hl15⟩ : ∃ i : Own, Sta F0 ([(a10, HO.dK []), (a3, HO.lst []), (a_self0, HO.ins T.a_Pusher dx_self0 (putF "_clauses" (V.ref a3) ([])))] ++ (i ++ R)) _ ∧ KRO Sum.inl ((roM rInt) F0) ([] : List (Key × V)) ([] : (List (Int × (List Int)))) i := ⟨[], S7.new np11 _, rfl⟩
    refine ⟨_, rfl, _, _, _, _, rfl, (S14.get 2 rfl), T.cl_Pusher, T.n_Pusher_places, (Nat.lt_of_le_of_lt (fewl (Nat.le_refl 0)) (by decide)), ?_⟩
    clear S7
    have S16 : Sta F0 ([(a10, HO.dK []), (a3, HO.lst []), (a_self0, HO.ins T.a_Pusher dx_self0 (putF "_places" (V.ref a10) (putF "_clauses" (V.ref a3) ([]))))] ++ (in13 ++ R)) _ := S14.set 2 rfl _
    refine hN9 _ _ ?_
    refine seqI fun N17 hN18 => ?_
    refine ⟨(by show 0 ≤ sizeLine; decide), ?_⟩
    clear S14
    intro a19 np20
    have hl21 : LR (rInt F0) [] ([] : (List Int)) := trivial
    have S22 : Sta F0 ([(a19, HO.lst []), (a10, HO.dK []), (a3, HO.lst []), (a_self0, HO.ins T.a_Pusher dx_self0 (putF "_places" (V.ref a10) (putF "_clauses" (V.ref a3) ([]))))] ++ (in13 ++ R)) _ := S16.new np20 _
    refine ⟨_, rfl, _, _, _, _, rfl, (S22.get 3 rfl), T.cl_Pusher, T.n_Pusher_starts, (Nat.lt_of_le_of_lt (fewl (fewl (Nat.le_refl 0))) (by decide)), ?_⟩
    clear S16
    have S23 : Sta F0 ([(a19, HO.lst []), (a10, HO.dK []), (a3, HO.lst []), (a_self0, HO.ins T.a_Pusher dx_self0 (putF "_starts" (V.ref a19) (putF "_places" (V.ref a10) (putF "_clauses" (V.ref a3) ([])))))] ++ (in13 ++ R)) _ := S22.set 3 rfl _
    refine hN18 _ _ ?_
    refine seqI fun N24 hN25 => ?_
    refine ⟨_, rfl, _, _, _, _, rfl, (S23.get 3 rfl), T.cl_Pusher, T.n_Pusher_empty, (Nat.lt_of_le_of_lt (fewl (fewl (fewl (Nat.le_refl 0)))) (by decide)), ?_⟩
    clear S22
    have S26 : Sta F0 ([(a19, HO.lst []), (a10, HO.dK []), (a3, HO.lst []), (a_self0, HO.ins T.a_Pusher dx_self0 (fl_Pusher (V.ref a3) (V.ref a10) (V.ref a19) (V.bl false)))] ++ (in13 ++ R)) _ := S23.set 3 rfl _
    refine hN25 _ _ ?_
    revert hm; refine bndI fun y27 e28 hm29 => ?_
    refine ⟨_, rfl, _, rfl, ⟨_, (SqL.mono hs_clauses0 ((Same.refl _).trans S26.sub))⟩, for_list (K := K) (a := a_clauses0) (xs := v_clauses0) (fun i σ H2 => ∃ (st1 : M_Pusher) (F62 : Hp) (a66 : Addr) (v67 : List V) (a69 : Addr) (v70 : List (Key × V)) (in72 : Own) (a73 : Addr) (v74 : List V) (o65 : Option V), σ = [some (V.ref a_self0), some (V.ref a_clauses0), o65] ∧ Same F0 F62 ∧ Sta F62 ([(a73, HO.lst v74), (a69, HO.dK v70), (a66, HO.lst v67), (a_self0, HO.ins T.a_Pusher dx_self0 (fl_Pusher (V.ref a66) (V.ref a69) (V.ref a73) (V.bl st1.empty)))] ++ (in72 ++ R)) H2 ∧ LR ((rLst K rInt) F62) v67 st1.clauses ∧ KRO Sum.inl ((roM rInt) F62) v70 st1.places in72 ∧ LR (rInt F62) v74 st1.starts ∧ m_Pusher_init_l1 (List.drop i x_clauses0) st1 = some y27) ⟨(M_Pusher.mk ([] : (List (List Int))) ([] : (List (Int × (List Int)))) ([] : (List Int)) false), F0, a3, [], a10, [], in13, a19, [], _, rfl, (Same.refl _), S26, hl5, hl15, hl21, e28⟩ (by rintro i σ H2 _ ⟨st1, F62, a66, v67, a69, v70, in72, a73, v74, o65, rfl, s63, S64, hl68, hl71, hl75, _⟩; exact (SqL.mono hs_clauses0 (s63.trans S64.sub))) ?_ ?_⟩
    clear S23
    · rintro i v77 σ H2 hi ⟨st1, F62, a66, v67, a69, v70, in72, a73, v74, o65, rfl, s63, S64, hl68, hl71, hl75, hm⟩
      obtain ⟨x76, hx78, rx79⟩ := LR.getV hl_clauses0 hi
      rw [drop_cons hx78, m_Pusher_init_l1] at hm
      obtain ⟨a80, v81, rfl, hs82, hl83⟩ := rx79
      have S84 : Sta F62 ([(a_self0, HO.ins T.a_Pusher dx_self0 (fl_Pusher (V.ref a66) (V.ref a69) (V.ref a73) (V.bl st1.empty))), (a66, HO.lst v67), (a69, HO.dK v70), (a73, HO.lst v74)] ++ (in72 ++ ([] ++ R))) _ := Sta.pickS (segs := [[(a73, HO.lst v74)], [(a69, HO.dK v70)], [(a66, HO.lst v67)], [(a_self0, HO.ins T.a_Pusher dx_self0 (fl_Pusher (V.ref a66) (V.ref a69) (V.ref a73) (V.bl st1.empty)))], in72]) (segs' := [[(a_self0, HO.ins T.a_Pusher dx_self0 (fl_Pusher (V.ref a66) (V.ref a69) (V.ref a73) (V.bl st1.empty)))], [(a66, HO.lst v67)], [(a69, HO.dK v70)], [(a73, HO.lst v74)], in72]) (R := R) [3, 2, 1, 0, 4] (by decide) rfl S64
      revert hm; refine bndI fun y85 e86 hm => ?_
      refine ⟨_, rfl, _, _, _, rfl, (S64.get 3 rfl), fl_Pusher_no_include, _, rfl, F62, ([] ++ R), a_self0, dx_self0, (M_Pusher.mk st1.clauses st1.places st1.starts st1.empty), a66, v67, a69, v70, in72, a73, v74, a80, v81, x76, y85, rfl, hl68, hl71, hl75, (SqB.mono hs82 (s63.trans (Sta.dropL (cs := in72) (ds := ([] ++ R)) (Sta.dropL (cs := [(a_self0, HO.ins T.a_Pusher dx_self0 (fl_Pusher (V.ref a66) (V.ref a69) (V.ref a73) (V.bl st1.empty))), (a66, HO.lst v67), (a69, HO.dK v70), (a73, HO.lst v74)]) (ds := (in72 ++ ([] ++ R))) S84)).ovS)), (hl83.mono s63), S84, (by exact e86), fun F87 H88 a91 v92 a94 v95 in97 a98 v99 s89 S90 hl93 hl96 hl100 => ?_⟩
      clear S64
      have S101 : Sta F87 ([(a_self0, HO.ins T.a_Pusher dx_self0 (fl_Pusher (V.ref a91) (V.ref a94) (V.ref a98) (V.bl y85.empty))), (a91, HO.lst v92), (a94, HO.dK v95), (a98, HO.lst v99)] ++ (in97 ++ R)) _ := Sta.pickS (segs := [[(a_self0, HO.ins T.a_Pusher dx_self0 (fl_Pusher (V.ref a91) (V.ref a94) (V.ref a98) (V.bl y85.empty))), (a91, HO.lst v92), (a94, HO.dK v95), (a98, HO.lst v99)], in97, []]) (segs' := [[(a_self0, HO.ins T.a_Pusher dx_self0 (fl_Pusher (V.ref a91) (V.ref a94) (V.ref a98) (V.bl y85.empty))), (a91, HO.lst v92), (a94, HO.dK v95), (a98, HO.lst v99)], [], in97]) (R := R) [0, 2, 1] (by decide) rfl S90
      have S102 : Sta F87 ([(a98, HO.lst v99), (a94, HO.dK v95), (a91, HO.lst v92), (a_self0, HO.ins T.a_Pusher dx_self0 (fl_Pusher (V.ref a91) (V.ref a94) (V.ref a98) (V.bl y85.empty)))] ++ (in97 ++ R)) _ := S101.pick [3, 2, 1, 0] (by decide) rfl
      exact ⟨(M_Pusher.mk y85.clauses y85.places y85.starts y85.empty), F87, a91, v92, a94, v95, in97, a98, v99, _, rfl, (s63.trans s89), S102, hl93, hl96, hl100, hm⟩
    · rintro σ H2 ⟨st1, F62, a66, v67, a69, v70, in72, a73, v74, o65, rfl, s63, S64, hl68, hl71, hl75, hm⟩
      rw [LR.dropEnd hl_clauses0, m_Pusher_init_l1] at hm
      obtain rfl := Option.some.inj hm
      have hm := hm29
      obtain rfl := Option.some.inj hm
      have S103 : Sta F62 ([(a_self0, HO.ins T.a_Pusher dx_self0 (fl_Pusher (V.ref a66) (V.ref a69) (V.ref a73) (V.bl st1.empty))), (a66, HO.lst v67), (a69, HO.dK v70), (a73, HO.lst v74)] ++ (in72 ++ R)) _ := S64.pick [3, 2, 1, 0] (by decide) rfl
      exact kk _ _ a66 v67 a69 v70 in72 a73 v74 s63 S103 hl68 hl71 hl75

def sp_Pusher_push (T : Txt K mg) : Sp := fun vs H Q _ => ∃ (F0 : Hp) (R : Own) (a_self0 : Addr) (dx_self0 : Addr) (x_self0 : M_Pusher) (a_self0_clauses0 : Addr) (v_self0_clauses0 : List V) (a_self0_places0 : Addr) (v_self0_places0 : List (Key × V)) (a_self0_starts0 : Addr) (v_self0_starts0 : List V) (x_literal0 : Int) (a_known0 : Addr) (v_known0 : List (Key × V)) (x_known0 : (List (Int × Bool))) (a_open_counts0 : Addr) (v_open_counts0 : List (Key × V)) (x_open_counts0 : (List (Int × Int))) (r : ((List Int) × (List (Int × Bool)) × (List (Int × Int)))),
  vs = [V.ref a_self0, V.int x_literal0, V.ref a_known0, V.ref a_open_counts0] ∧ (ov F0 R) a_self0 = some (HO.ins T.a_Pusher dx_self0 (fl_Pusher (V.ref a_self0_clauses0) (V.ref a_self0_places0) (V.ref a_self0_starts0) (V.bl x_self0.empty))) ∧ (ov F0 R) a_self0_clauses0 = some (HO.lst v_self0_clauses0) ∧ LR ((rLst K rInt) F0) v_self0_clauses0 x_self0.clauses ∧ (ov F0 R) a_self0_places0 = some (HO.dK v_self0_places0) ∧ KR Sum.inl (vw (roM rInt) (ov F0 R) F0) v_self0_places0 x_self0.places ∧ (ov F0 R) a_self0_starts0 = some (HO.lst v_self0_starts0) ∧ LR (rInt F0) v_self0_starts0 x_self0.starts ∧ KR Sum.inl (rBool F0) v_known0 x_known0 ∧ KR Sum.inl (rInt F0) v_open_counts0 x_open_counts0 ∧ Sta F0 ([(a_known0, HO.dK v_known0), (a_open_counts0, HO.dK v_open_counts0)] ++ R) H ∧ m_Pusher_push x_self0 x_literal0 x_known0 x_open_counts0 = some r ∧ ∀ (F1 : Hp) (H1 : Hp) (v_known0p : List (Key × V)) (v_open_counts0p : List (Key × V)) (a_ret0p : Addr) (v_ret0p : List V), Same F0 F1 → Sta F1 ([(a_ret0p, HO.lst v_ret0p), (a_known0, HO.dK v_known0p), (a_open_counts0, HO.dK v_open_counts0p)] ++ R) H1 → KR Sum.inl (rBool F1) v_known0p r.2.1 → KR Sum.inl (rInt F1) v_open_counts0p r.2.2 → LR (rInt F1) v_ret0p r.1 → Q (V.ref a_ret0p) H1

theorem ok_Pusher_push (T : Txt K mg) : FnOk P w K mg base CX0 1 T.a_Pusher_push T.d_Pusher_push ["self", "literal", "known", "open_counts"] (sp_Pusher_push T) := by
  refine T.F_Pusher_push.ok sc_Pusher_push (fun vs H Q E h => ?_) (fun cdv A outer s H vs Q E hr h => ?_)
  · obtain ⟨_, _, _, _, _, _, _, _, _, _, _, _, _, _, _, _, _, _, _, rfl, _⟩ := h
    rfl
  · obtain ⟨F0, R, a_self0, dx_self0, x_self0, a_self0_clauses0, v_self0_clauses0, a_self0_places0, v_self0_places0, a_self0_starts0, v_self0_starts0, x_literal0, a_known0, v_known0, x_known0, a_open_counts0, v_open_counts0, x_open_counts0, r, rfl, hs_self0, hs_self0_clauses0, hl_self0_clauses0, hs_self0_places0, hl_self0_places0, hs_self0_starts0, hl_self0_starts0, hl_known0, hl_open_counts0, S0, hm, kk⟩ := h
    have hu := hu_of hr
    unfold m_Pusher_push at hm
    refine ⟨_, (pss_cons (ps_dput hu (pv 2) (pv 1) pe_bl rfl) (pss_cons (ps_set (i := 4) sc_Pusher_push.nd rfl (Or.inl rfl) (pe_lst pa_nil)) (pss_cons (ps_for PassesOwn.never rfl (pi_list (pe_dget2 hu (pe_fld (pv 0) rfl) (pe_un un_neg (pv 1)) (pe_lst pa_nil) ⟨rfl, rfl, rfl, rfl⟩)) (pg_name (i := 5) sc_Pusher_push.nd rfl (Or.inl rfl)) (pss_cons (ps_dput hu (pv 3) (pv 5) (pe_op op_sub (pe_dget2 hu (pv 3) (pv 5) (pe_callB call_len_seq (by rfl) T.z_len PySem.boot_len (pa_cons (pe_ix ix_list (pe_fld (pv 0) rfl) (pv 5) (fun _ _ => rfl)) pa_nil)) ⟨rfl, rfl, rfl, rfl⟩) pe_int) rfl) (pss_one (ps_if (pt_cmpR oI_eq (pe_dget hu (pv 3) (pv 5) (fun _ _ => rfl)) pe_int (nomark _)) (pss_one (ps_expr (pe_bm PySem.F.plainAttrs_list PySem.F.slot_list_extend PySem.F.type_list_extend mt_extend (pv 4) (pa_cons (pe_lc (own := [("one", 6)]) rfl sc_Pusher_push.nd (pi_list (pe_ix ix_list (pe_fld (pv 0) rfl) (pv 5) (fun _ _ => rfl))) (blkOk_by (own := [("one", 6)]) (N := ["self", "literal", "known", "open_counts", "found", "k", "one"]) (sc := defScope s_Pusher_push) (by decide +kernel)) (fun _ _ _ _ _ => (pg_name (i := 6) sc_Pusher_push.nd rfl (Or.inl rfl))) (fun _ _ _ _ _ => (pts_one (pt_cmp (pc_dnotin hu (pe_un un_neg (pv 6)) (pv 2))))) (fun _ _ _ _ _ => (pv 6))) pa_nil)))) pss_nil)))) (pss_one (ps_ret (pv 4)))))), ?_⟩
    refine seqI fun N1 hN2 => ?_
    revert hm; refine grdI fun g3 hm => ?_
    refine ⟨_, rfl, _, rfl, _, _, rfl, (DPut.k (k := Sum.inl x_literal0) (S0.get 0 rfl) (by rw [KR.length hl_known0]; exact of_decide_eq_true g3)), ?_⟩
    have hl4 : KR Sum.inl (rBool F0) (putK v_known0 (Sum.inl x_literal0) (V.bl true)) (mput x_known0 x_literal0 true) := KR.put hl_known0 kinj_int rfl
    have S5 : Sta F0 ([(a_known0, HO.dK (putK v_known0 (Sum.inl x_literal0) (V.bl true))), (a_open_counts0, HO.dK v_open_counts0)] ++ R) _ := S0.set 0 rfl _
    refine hN2 _ _ ?_
    refine seqI fun N6 hN7 => ?_
    refine ⟨(by show 0 ≤ sizeLine; decide), ?_⟩
    clear S0
    intro a8 np9
    have hl10 : LR (rInt F0) [] ([] : (List Int)) := trivial
    have S11 : Sta F0 ([(a8, HO.lst []), (a_known0, HO.dK (putK v_known0 (Sum.inl x_literal0) (V.bl true))), (a_open_counts0, HO.dK v_open_counts0)] ++ R) _ := S5.new np9 _
    refine hN7 _ _ ?_
    refine seqI fun N12 hN13 => ?_
    refine ⟨_, rfl, _, _, _, _, _, rfl, (S11.bor (Same.refl _) (fun _ q => (List.mem_append_right _ q)) _ _ hs_self0), T.cl_Pusher, T.n_Pusher_places, fl_Pusher_places, _, rfl, (.inl ⟨_, .inl (S11.bor (Same.refl _) (fun _ q => (List.mem_append_right _ q)) _ _ hs_self0_places0)⟩), _, rfl, _, rfl, (by show 0 ≤ sizeLine; decide), ?_⟩
    clear S5
    intro a17 np18
    obtain ⟨F19, s20, S21, h22⟩ : ∃ F', Same F0 F' ∧ Sta F' ([(a8, HO.lst []), (a_known0, HO.dK (putK v_known0 (Sum.inl x_literal0) (V.bl true))), (a_open_counts0, HO.dK v_open_counts0)] ++ R) _ ∧ F' a17 = some (HO.lst []) := ⟨_, S11.sameF np18 _, S11.newF np18 _, upd_same⟩
    refine ⟨_, (DGet.k (k := Sum.inl (-x_literal0)) (S21.bor s20 (fun _ q => (List.mem_append_right _ q)) _ _ hs_self0_places0)), ?_⟩
    clear S11
    obtain ⟨a23, v24, e25, hs26, hl27⟩ := getL (K := K) (KR.vmono hl_self0_places0 ((Sta.dropL (cs := [(a8, HO.lst []), (a_known0, HO.dK (putK v_known0 (Sum.inl x_literal0) (V.bl true))), (a_open_counts0, HO.dK v_open_counts0)]) (ds := R) S21).ovR s20 fun _ q => q) s20) kinj_int (-x_literal0) (SqL.mono (SqL.of h22) (Sta.dropL (cs := [(a8, HO.lst []), (a_known0, HO.dK (putK v_known0 (Sum.inl x_literal0) (V.bl true))), (a_open_counts0, HO.dK v_open_counts0)]) (ds := R) S21).ovS)
    rw [e25]
    revert hm; refine bndI fun y14 e15 hm16 => ?_
    refine ⟨_, rfl, ⟨_, (SqL.mono hs26 (S21.bor (Same.refl _) (fun _ q => (List.mem_append_right _ q))))⟩, for_list (K := K) (a := a23) (xs := v24) (fun i σ H2 => ∃ (st1 : ((List Int) × (List (Int × Int)))) (F51 : Hp) (v56 : List V) (v58 : List (Key × V)) (o54 : Option V) (o55 : Option V), σ = [some (V.ref a_self0), some (V.int x_literal0), some (V.ref a_known0), some (V.ref a_open_counts0), some (V.ref a8), o54, o55] ∧ Same F19 F51 ∧ Sta F51 ([(a8, HO.lst v56), (a_known0, HO.dK (putK v_known0 (Sum.inl x_literal0) (V.bl true))), (a_open_counts0, HO.dK v58)] ++ R) H2 ∧ LR (rInt F51) v56 st1.1 ∧ KR Sum.inl (rInt F51) v58 st1.2 ∧ m_Pusher_push_l1 x_self0 x_literal0 x_known0 (List.drop i ((mget x_self0.places (-x_literal0)).getD [])) st1 = some y14) ⟨(([] : (List Int)), x_open_counts0), F19, [], v_open_counts0, _, _, rfl, (Same.refl _), S21, (hl10.mono s20), (KR.mono hl_open_counts0 s20), e15⟩ (by rintro i σ H2 _ ⟨st1, F51, v56, v58, o54, o55, rfl, s52, S53, hl57, hl59, _⟩; exact (SqL.mono hs26 (S53.bor s52 (fun _ q => (List.mem_append_right _ q))))) ?_ ?_⟩
    · rintro i v61 σ H2 hi ⟨st1, F51, v56, v58, o54, o55, rfl, s52, S53, hl57, hl59, hm⟩
      obtain ⟨x60, hx62, rx63⟩ := LR.getV hl27 hi
      rw [drop_cons hx62, m_Pusher_push_l1] at hm
      obtain rfl := rInt_e rx63
      refine seqI fun N64 hN65 => ?_
      revert hm; refine bndI fun y66 e67 hm => ?_
      obtain ⟨v68, ev69, rv70⟩ := LR.atI hl_self0_clauses0 e67
      obtain ⟨a71, v72, rfl, hs73, hl74⟩ := rv70
      refine ⟨_, rfl, _, rfl, (.inl ⟨_, .inl (S53.get 2 rfl)⟩), _, rfl, _, rfl, _, _, _, _, _, rfl, (S53.bor (s20.trans s52) (fun _ q => (List.mem_append_right _ q)) _ _ hs_self0), T.cl_Pusher, T.n_Pusher_clauses, fl_Pusher_clauses, _, rfl, _, _, _, _, rfl, rfl, (SqL.mono (SqL.of hs_self0_clauses0) (S53.bor (s20.trans s52) (fun _ q => (List.mem_append_right _ q)))), ev69, _, _, rfl, .inl (SqL.mono hs73 ((s20.trans s52).trans S53.sub)), ?_⟩
      rw [LR.length (hl74.mono (s20.trans s52))]
      refine ⟨_, (DGet.k (k := Sum.inl x60) (S53.get 2 rfl)), ?_⟩
      rw [show _ = V.int ((mget st1.2 x60).getD (y66.length : Int)) from KR.getD_int hl59 kinj_int x60 (y66.length : Int)]
      revert hm; refine grdI fun g75 hm => ?_
      refine ⟨_, _, rfl, rfl, _, rfl, _, rfl, _, _, rfl, (DPut.k (k := Sum.inl x60) (S53.get 2 rfl) (by rw [KR.length hl59]; exact of_decide_eq_true g75)), ?_⟩
      have hl76 : KR Sum.inl (rInt F51) (putK v58 (Sum.inl x60) (V.int (((mget st1.2 x60).getD (y66.length : Int)) - (1 : Int)))) (mput st1.2 x60 (((mget st1.2 x60).getD (y66.length : Int)) - (1 : Int))) := KR.put hl59 kinj_int rfl
      have S77 : Sta F51 ([(a8, HO.lst v56), (a_known0, HO.dK (putK v_known0 (Sum.inl x_literal0) (V.bl true))), (a_open_counts0, HO.dK (putK v58 (Sum.inl x60) (V.int (((mget st1.2 x60).getD (y66.length : Int)) - (1 : Int)))))] ++ R) _ := S53.set 2 rfl _
      refine hN65 _ _ ?_
      revert hm; refine bndI fun y78 e79 hm => ?_
      obtain ⟨v80, ev81, rv82⟩ := KR.get hl76 kinj_int e79
      obtain rfl := rInt_e rv82
      refine ⟨_, rfl, _, rfl, _, _, rfl, (dget_of (DGet.k (k := Sum.inl x60) (S77.get 2 rfl)) ev81), _, _, rfl, rfl, _, rfl, ?_⟩
      clear S53
      by_cases c83 : (decide (y78 = (1 : Int))) = true
      · revert hm; refine ifTI c83 fun hm => ?_
        refine goT c83 ?_
        revert hm; refine bndI fun y84 e85 hm => ?_
        obtain ⟨v86, ev87, rv88⟩ := LR.atI hl_self0_clauses0 e85
        obtain ⟨a89, v90, rfl, hs91, hl92⟩ := rv88
        revert hm; refine grdI fun g107 hm => ?_
        have e93 : lcO (fun x97 => if (!(mget (mput x_known0 x_literal0 true) (-x97)).isSome) = true then (some (some x97)) else some none) y84 = some ((y84.filter fun x97 => (!(mget (mput x_known0 x_literal0 true) (-x97)).isSome)).map fun x97 => x97) := lc_filter (fun x97 => (!(mget (mput x_known0 x_literal0 true) (-x97)).isSome)) (fun x97 => x97) y84
        refine ⟨_, rfl, .inl ⟨rfl, _, (SqL.of (S77.get 0 rfl))⟩, _, rfl, _, _, _, _, _, rfl, (S77.bor (s20.trans s52) (fun _ q => (List.mem_append_right _ q)) _ _ hs_self0), T.cl_Pusher, T.n_Pusher_clauses, fl_Pusher_clauses, _, rfl, _, _, _, _, rfl, rfl, (SqL.mono (SqL.of hs_self0_clauses0) (S77.bor (s20.trans s52) (fun _ q => (List.mem_append_right _ q)))), ev87, _, rfl, ⟨_, (SqL.mono hs91 ((s20.trans s52).trans S77.sub))⟩, fun a105 np106 => lc_list (K := K) (a := a89) (xs := v90) (fun i H2 => ∃ (F98 : Hp) (v99 : List V) (acc100 : List Int) (r94 : List Int), Same F51 F98 ∧ Sta F98 ([(a105, HO.lst v99), (a8, HO.lst v56), (a_known0, HO.dK (putK v_known0 (Sum.inl x_literal0) (V.bl true))), (a_open_counts0, HO.dK (putK v58 (Sum.inl x60) (V.int (((mget st1.2 x60).getD (y66.length : Int)) - (1 : Int)))))] ++ R) H2 ∧ LR (rInt F98) v99 acc100 ∧ acc100.length ≤ i ∧ lcO (fun x97 => if (!(mget (mput x_known0 x_literal0 true) (-x97)).isSome) = true then (some (some x97)) else some none) (List.drop i y84) = some r94 ∧ ((y84.filter fun x97 => (!(mget (mput x_known0 x_literal0 true) (-x97)).isSome)).map fun x97 => x97) = acc100 ++ r94) ⟨F51, [], [], _, Same.refl _, S77.new np106 _, trivial, Nat.le_refl _, e93, rfl⟩ (by rintro i H2 _ ⟨F98, v99, acc100, r94, s101, S102, hl103, hn104, hr95, hy96⟩; exact (SqL.mono hs91 ((s20.trans (s52.trans s101)).trans S102.sub))) ?_ ?_⟩
        · rintro i v108 H2 hi ⟨F98, v99, acc100, r94, s101, S102, hl103, hn104, hr95, hy96⟩
          obtain ⟨x97, hx109, rx110⟩ := LR.getV hl92 hi
          rw [drop_cons hx109] at hr95
          revert hr95; refine lcI fun y111 r112 hm hr114 hc115 => ?_
          obtain rfl := rInt_e rx110
          refine ⟨rfl, ?_⟩
          refine ⟨_, rfl, _, rfl, _, rfl, _, _, rfl, (DGet.k (k := Sum.inl (-x97)) (S102.get 2 rfl)), ?_⟩
          rw [show _ = (!(mget (mput x_known0 x_literal0 true) (-x97)).isSome) from (congrArg (!·) (KR.some_eq (KR.mono hl4 (s20.trans (s52.trans s101))) (kinj_int) (-x97)))]
          refine ⟨_, rfl, ?_⟩
          by_cases c116 : (!(mget (mput x_known0 x_literal0 true) (-x97)).isSome) = true
          · revert hm; refine ifTI c116 fun hm => ?_
            refine goT c116 ?_
            refine ⟨_, rfl, ?_⟩
            obtain rfl := Option.some.inj hm
            have hlt : v99.length < 16777216 := by rw [LR.length hl103]; have := (List.getElem?_eq_some_iff.mp hx109).1; have := of_decide_eq_true g107; omega
            have S117 : Sta F98 ([(a105, HO.lst (v99 ++ [V.int x97])), (a8, HO.lst v56), (a_known0, HO.dK (putK v_known0 (Sum.inl x_literal0) (V.bl true))), (a_open_counts0, HO.dK (putK v58 (Sum.inl x60) (V.int (((mget st1.2 x60).getD (y66.length : Int)) - (1 : Int)))))] ++ R) _ := S102.set 0 rfl _
            exact ⟨_, (S102.get 0 rfl), hlt, F98, _, (acc100 ++ [x97]), r112, s101, S117, LR.snoc hl103 rfl, by rw [List.length_append]; exact Nat.succ_le_succ hn104, hr114, by rw [List.append_assoc]; exact hy96.trans (congrArg (acc100 ++ ·) hc115)⟩
          · revert hm; refine ifFI c116 fun hm => ?_
            refine goF c116 ?_
            obtain rfl := Option.some.inj hm
            exact ⟨F98, _, acc100, r112, s101, S102, hl103, Nat.le_succ_of_le hn104, hr114, hy96.trans (congrArg (acc100 ++ ·) hc115)⟩
        rintro H2 ⟨F98, v99, acc100, r94, s101, S102, hl103, hn104, hr95, hy96⟩
        rw [LR.dropEnd hl92] at hr95
        obtain rfl := Option.some.inj hr95
        rw [List.append_nil] at hy96
        subst hy96
        have S118 : Sta F98 ([(a105, HO.lst v99), (a8, HO.lst v56), (a_known0, HO.dK (putK v_known0 (Sum.inl x_literal0) (V.bl true))), (a_open_counts0, HO.dK (putK v58 (Sum.inl x60) (V.int (((mget st1.2 x60).getD (y66.length : Int)) - (1 : Int)))))] ++ R) _ := S102
        revert hm; refine grdI fun g119 hm => ?_
        refine ⟨_, _, _, _, rfl, rfl, (S118.get 1 rfl), (S118.get 0 rfl), (by rw [LR.length (hl57.mono s101), LR.length hl103]; exact of_decide_eq_true g119), ?_⟩
        clear S102
        have hl120 : LR (rInt F98) (v56 ++ v99) (st1.1 ++ ((y84.filter fun x97 => (!(mget (mput x_known0 x_literal0 true) (-x97)).isSome)).map fun x97 => x97)) := LR.append (hl57.mono s101) hl103
        have S121 : Sta F98 ([(a105, HO.lst v99), (a8, HO.lst (v56 ++ v99)), (a_known0, HO.dK (putK v_known0 (Sum.inl x_literal0) (V.bl true))), (a_open_counts0, HO.dK (putK v58 (Sum.inl x60) (V.int (((mget st1.2 x60).getD (y66.length : Int)) - (1 : Int)))))] ++ R) _ := S118.set 1 rfl _
        have S122 : Sta F98 ([(a8, HO.lst (v56 ++ v99)), (a_known0, HO.dK (putK v_known0 (Sum.inl x_literal0) (V.bl true))), (a_open_counts0, HO.dK (putK v58 (Sum.inl x60) (V.int (((mget st1.2 x60).getD (y66.length : Int)) - (1 : Int)))))] ++ R) _ := S121.pick [1, 2, 3] (by decide) rfl
        exact ⟨((st1.1 ++ ((y84.filter fun x97 => (!(mget (mput x_known0 x_literal0 true) (-x97)).isSome)).map fun x97 => x97)), (mput st1.2 x60 (((mget st1.2 x60).getD (y66.length : Int)) - (1 : Int)))), F98, (v56 ++ v99), (putK v58 (Sum.inl x60) (V.int (((mget st1.2 x60).getD (y66.length : Int)) - (1 : Int)))), _, _, rfl, (s52.trans s101), S122, hl120, (KR.mono hl76 s101), hm⟩
      · revert hm; refine ifFI c83 fun hm => ?_
        refine goF c83 ?_
        exact ⟨(st1.1, (mput st1.2 x60 (((mget st1.2 x60).getD (y66.length : Int)) - (1 : Int)))), F51, v56, (putK v58 (Sum.inl x60) (V.int (((mget st1.2 x60).getD (y66.length : Int)) - (1 : Int)))), _, _, rfl, s52, S77, hl57, hl76, hm⟩
    · rintro σ H2 ⟨st1, F51, v56, v58, o54, o55, rfl, s52, S53, hl57, hl59, hm⟩
      rw [LR.dropEnd hl27, m_Pusher_push_l1] at hm
      obtain rfl := Option.some.inj hm
      have hm := hm16
      refine hN13 _ _ ?_
      refine ⟨_, rfl, ?_⟩
      obtain rfl := Option.some.inj hm
      exact kk _ _ (putK v_known0 (Sum.inl x_literal0) (V.bl true)) v58 a8 v56 (s20.trans s52) S53 (KR.mono hl4 (s20.trans s52)) hl59 hl57

def sp_Pusher_forced (T : Txt K mg) : Sp := fun vs H Q _ => ∃ (F0 : Hp) (R : Own) (a_self0 : Addr) (dx_self0 : Addr) (x_self0 : M_Pusher) (a_self0_clauses0 : Addr) (v_self0_clauses0 : List V) (a_self0_places0 : Addr) (v_self0_places0 : List (Key × V)) (a_self0_starts0 : Addr) (v_self0_starts0 : List V) (a_literals0 : Addr) (v_literals0 : List V) (x_literals0 : (List Int)) (r : (Option (List Int))),
  vs = [V.ref a_self0, V.ref a_literals0] ∧ (ov F0 R) a_self0 = some (HO.ins T.a_Pusher dx_self0 (fl_Pusher (V.ref a_self0_clauses0) (V.ref a_self0_places0) (V.ref a_self0_starts0) (V.bl x_self0.empty))) ∧ (ov F0 R) a_self0_clauses0 = some (HO.lst v_self0_clauses0) ∧ LR ((rLst K rInt) F0) v_self0_clauses0 x_self0.clauses ∧ (ov F0 R) a_self0_places0 = some (HO.dK v_self0_places0) ∧ KR Sum.inl (vw (roM rInt) (ov F0 R) F0) v_self0_places0 x_self0.places ∧ (ov F0 R) a_self0_starts0 = some (HO.lst v_self0_starts0) ∧ LR (rInt F0) v_self0_starts0 x_self0.starts ∧ SqL K (ov F0 R) a_literals0 v_literals0 ∧ LR (rInt F0) v_literals0 x_literals0 ∧ Sta F0 ([] ++ R) H ∧ m_Pusher_forced x_self0 x_literals0 = some r ∧ ∀ (F1 : Hp) (H1 : Hp) (v_ret0p : V), Same F0 F1 → Sta F1 ([] ++ R) H1 → (rOpt (rLst K rInt)) F1 v_ret0p r → Q (v_ret0p) H1

theorem ok_Pusher_forced (T : Txt K mg) : FnOk P w K mg base CX0 2 T.a_Pusher_forced T.d_Pusher_forced ["self", "literals"] (sp_Pusher_forced T) := by
  refine T.F_Pusher_forced.ok sc_Pusher_forced (fun vs H Q E h => ?_) (fun cdv A outer s H vs Q E hr h => ?_)
  · obtain ⟨_, _, _, _, _, _, _, _, _, _, _, _, _, _, _, rfl, _⟩ := h
    rfl
  · obtain ⟨F0, R, a_self0, dx_self0, x_self0, a_self0_clauses0, v_self0_clauses0, a_self0_places0, v_self0_places0, a_self0_starts0, v_self0_starts0, a_literals0, v_literals0, x_literals0, r, rfl, hs_self0, hs_self0_clauses0, hl_self0_clauses0, hs_self0_places0, hl_self0_places0, hs_self0_starts0, hl_self0_starts0, hs_literals0, hl_literals0, S0, hm, kk⟩ := h
    have hu := hu_of hr
    unfold m_Pusher_forced at hm
    refine ⟨_, (pss_cons (ps_if (pt_val (pe_fld (pv 0) rfl)) (pss_one (ps_ret pe_non)) pss_nil) (pss_cons (ps_set (i := 2) sc_Pusher_forced.nd rfl (Or.inl rfl) pe_dnewK) (pss_cons (ps_set (i := 3) sc_Pusher_forced.nd rfl (Or.inl rfl) pe_dnewK) (pss_cons (ps_set (i := 4) sc_Pusher_forced.nd rfl (Or.inl rfl) (pe_op op_catS (pe_fld (pv 0) rfl) (pe_callTy call_list_of (by rfl) T.z_list (by decide +kernel) (pa_cons (pv 1) pa_nil)))) (C8.pss_cut (ps_while PassesOwn.never (pt_truth (pv 4) (by intro _; rfl)) (pss_cons (ps_set (i := 5) sc_Pusher_forced.nd rfl (Or.inl rfl) (pe_bm0 PySem.F.plainAttrs_list PySem.F.slot_list_pop PySem.F.type_list_pop mt_pop (pv 4))) (pss_cons (ps_if (pt_cmp (pc_din hu (pe_un un_neg (pv 5)) (pv 2))) (pss_one (ps_ret pe_non)) pss_nil) (pss_one (ps_if (pt_cmp (pc_dnotin hu (pv 5) (pv 2))) (pss_one (ps_expr (pe_bm PySem.F.plainAttrs_list PySem.F.slot_list_extend PySem.F.type_list_extend mt_extend (pv 4) (pa_cons (pe_meth (pv 0) T.cl_Pusher T.h_Pusher_push (ok_Pusher_push T) (hr.mono (by decide)) T.b_Pusher_push .nil pass0 (pa_cons (pv 5) (pa_cons (pv 2) (pa_cons (pv 3) pa_nil)))) pa_nil)))) pss_nil))))) (pss_one (ps_ret (pe_callB (call_sortD rfl) (by rfl) T.z_sorted (by decide +kernel) (pa_cons (pv 2) pa_nil))))))))), ?_⟩
    refine seqI fun N1 hN2 => ?_
    refine ⟨_, rfl, _, _, _, _, _, rfl, (S0.bor (Same.refl _) (fun _ q => (List.mem_append_right _ q)) _ _ hs_self0), T.cl_Pusher, T.n_Pusher_empty, fl_Pusher_empty, _, rfl, ?_⟩
    by_cases c3 : x_self0.empty = true
    · revert hm; refine ifTI c3 fun hm => ?_
      refine goT c3 ?_
      obtain rfl := Option.some.inj hm
      exact kk _ _ V.non (Same.refl _) S0 rfl
    · revert hm; refine ifFI c3 fun hm => ?_
      refine goF c3 ?_
      refine hN2 _ _ ?_
      refine seqI fun N4 hN5 => ?_
      intro a6 np7
      have hl8 : KR Sum.inl (rBool F0) ([] : List (Key × V)) ([] : (List (Int × Bool))) := trivial
      have S9 : Sta F0 ([(a6, HO.dK [])] ++ R) _ := S0.new np7 _
      refine hN5 _ _ ?_
      refine seqI fun N10 hN11 => ?_
      clear S0
      intro a12 np13
      have hl14 : KR Sum.inl (rInt F0) ([] : List (Key × V)) ([] : (List (Int × Int))) := trivial
      have S15 : Sta F0 ([(a12, HO.dK []), (a6, HO.dK [])] ++ R) _ := S9.new np13 _
      refine hN11 _ _ ?_
      refine seqI fun N16 hN17 => ?_
      refine ⟨_, rfl, _, _, _, _, _, rfl, (S15.bor (Same.refl _) (fun _ q => (List.mem_append_right _ q)) _ _ hs_self0), T.cl_Pusher, T.n_Pusher_starts, fl_Pusher_starts, _, rfl, _, _, rfl, .inl (SqL.mono hs_literals0 (S15.bor (Same.refl _) (fun _ q => (List.mem_append_right _ q)))), ?_⟩
      clear S9
      intro a18 np19
      have hl20 := hl_literals0
      have S21 : Sta F0 ([(a18, HO.lst v_literals0), (a12, HO.dK []), (a6, HO.dK [])] ++ R) _ := S15.new np19 _
      revert hm; refine grdI fun g22 hm => ?_
      refine ⟨_, _, _, _, rfl, rfl, (SqL.mono (SqL.of hs_self0_starts0) (S21.bor (Same.refl _) (fun _ q => (List.mem_append_right _ q)))), (SqL.of (S21.get 0 rfl)), (by rw [LR.length hl_self0_starts0, LR.length hl20]; exact of_decide_eq_true g22), ?_⟩
      clear S15
      intro a23 np24
      have hl25 : LR (rInt F0) (v_self0_starts0 ++ v_literals0) (x_self0.starts ++ x_literals0) := LR.append hl_self0_starts0 hl20
      have S26 : Sta F0 ([(a23, HO.lst (v_self0_starts0 ++ v_literals0)), (a18, HO.lst v_literals0), (a12, HO.dK []), (a6, HO.dK [])] ++ R) _ := S21.new np24 _
      refine hN17 _ _ ?_
      revert hm; refine bndI fun y27 e28 hm29 => ?_
      refine ⟨fun σ H2 => ∃ (st1 : ((List Int) × (List (Int × Int)) × (List (Int × Bool)))) (F30 : Hp) (v34 : List V) (v36 : List (Key × V)) (v38 : List (Key × V)) (o33 : Option V), σ = [some (V.ref a_self0), some (V.ref a_literals0), some (V.ref a6), some (V.ref a12), some (V.ref a23), o33] ∧ Same F0 F30 ∧ Sta F30 ([(a23, HO.lst v34), (a18, HO.lst v_literals0), (a12, HO.dK v36), (a6, HO.dK v38)] ++ R) H2 ∧ LR (rInt F30) v34 st1.1 ∧ KR Sum.inl (rInt F30) v36 st1.2.1 ∧ KR Sum.inl (rBool F30) v38 st1.2.2 ∧ Flw.done st1 = y27, ?_, ?_⟩
      · have hm := e28; clear e28
        refine while_fuel (fun i σ H2 => ∃ (st1 : ((List Int) × (List (Int × Int)) × (List (Int × Bool)))) (F30 : Hp) (v34 : List V) (v36 : List (Key × V)) (v38 : List (Key × V)) (o33 : Option V), σ = [some (V.ref a_self0), some (V.ref a_literals0), some (V.ref a6), some (V.ref a12), some (V.ref a23), o33] ∧ Same F0 F30 ∧ Sta F30 ([(a23, HO.lst v34), (a18, HO.lst v_literals0), (a12, HO.dK v36), (a6, HO.dK v38)] ++ R) H2 ∧ LR (rInt F30) v34 st1.1 ∧ KR Sum.inl (rInt F30) v36 st1.2.1 ∧ KR Sum.inl (rBool F30) v38 st1.2.2 ∧ m_Pusher_forced_l1 x_self0 i st1 = some y27) fuel ⟨((x_self0.starts ++ x_literals0), ([] : (List (Int × Int))), ([] : (List (Int × Bool)))), F0, (v_self0_starts0 ++ v_literals0), [], [], _, rfl, (Same.refl _), S26, hl25, hl14, hl8, hm⟩ ?_ ?_
        · rintro i σ H2 ⟨st1, F30, v34, v36, v38, o33, rfl, s31, S32, hl35, hl37, hl39, hm⟩
          rw [m_Pusher_forced_l1] at hm
          refine ⟨_, rfl, ((!st1.1.isEmpty)), (.inl ⟨_, (SqL.of (S32.get 0 rfl)), by rw [LR.isEmpty hl35]⟩), ?_⟩
          by_cases c41 : (!st1.1.isEmpty) = true
          · revert hm; refine ifTI c41 fun hm => ?_
            refine goT c41 (wh_in ?_)
            refine seqI fun N42 hN43 => ?_
            revert hm; refine bndI fun y44 e45 hm => ?_
            refine ⟨_, rfl, .inl ⟨rfl, _, (SqL.of (S32.get 0 rfl))⟩, ?_⟩
            obtain ⟨v46, ev47, rv48⟩ := LR.last hl35 e45
            obtain rfl := rInt_e rv48
            refine ⟨_, _, _, rfl, rfl, (S32.get 0 rfl), ev47, ?_⟩
            have hl49 : LR (rInt F30) v34.dropLast st1.1.dropLast := LR.dropLast hl35
            have S50 : Sta F30 ([(a23, HO.lst v34.dropLast), (a18, HO.lst v_literals0), (a12, HO.dK v36), (a6, HO.dK v38)] ++ R) _ := S32.set 0 rfl _
            refine hN43 _ _ ?_
            refine seqI fun N51 hN52 => ?_
            refine ⟨_, rfl, _, rfl, _, rfl, _, _, rfl, (DGet.k (k := Sum.inl (-y44)) (S50.get 3 rfl)), ?_⟩
            clear S32
            rw [show _ = (mget st1.2.2 (-y44)).isSome from (KR.some_eq hl39 (kinj_int) (-y44))]
            refine ⟨_, rfl, ?_⟩
            by_cases c53 : (mget st1.2.2 (-y44)).isSome = true
            · revert hm; refine ifTI c53 fun hm => ?_
              refine goT c53 ?_
              obtain rfl := Option.some.inj hm
              have hm := hm29
              obtain rfl := Option.some.inj hm
              have S54 : Sta F30 ([] ++ R) _ := S50.pick [] (by decide) rfl
              exact kk _ _ V.non s31 S54 rfl
            · revert hm; refine ifFI c53 fun hm => ?_
              refine goF c53 ?_
              refine hN52 _ _ ?_
              refine ⟨_, rfl, _, rfl, _, _, rfl, (DGet.k (k := Sum.inl y44) (S50.get 3 rfl)), ?_⟩
              rw [show _ = (!(mget st1.2.2 y44).isSome) from (congrArg (!·) (KR.some_eq hl39 (kinj_int) y44))]
              refine ⟨_, rfl, ?_⟩
              by_cases c55 : (!(mget st1.2.2 y44).isSome) = true
              · revert hm; refine ifTI c55 fun hm => ?_
                refine goT c55 ?_
                have S56 : Sta F30 ([(a6, HO.dK v38), (a12, HO.dK v36), (a23, HO.lst v34.dropLast), (a18, HO.lst v_literals0)] ++ R) _ := S50.pick [3, 2, 0, 1] (by decide) rfl
                revert hm; refine bndI fun y57 e58 hm => ?_
                refine ⟨_, rfl, .inl ⟨rfl, _, (SqL.of (S50.get 0 rfl))⟩, _, rfl, _, _, _, rfl, (S50.bor s31 (fun _ q => (List.mem_append_right _ q)) _ _ hs_self0), fl_Pusher_no_push, _, rfl, _, rfl, _, rfl, F30, ([(a23, HO.lst v34.dropLast), (a18, HO.lst v_literals0)] ++ R), a_self0, dx_self0, x_self0, a_self0_clauses0, v_self0_clauses0, a_self0_places0, v_self0_places0, a_self0_starts0, v_self0_starts0, y44, a6, v38, st1.2.2, a12, v36, st1.2.1, y57, rfl, (S56.tl.tl.ovR s31 (fun _ q => (List.mem_append_right _ q)) _ _ hs_self0), (S56.tl.tl.ovR s31 (fun _ q => (List.mem_append_right _ q)) _ _ hs_self0_clauses0), (hl_self0_clauses0.mono s31), (S56.tl.tl.ovR s31 (fun _ q => (List.mem_append_right _ q)) _ _ hs_self0_places0), (KR.vmono hl_self0_places0 (S56.tl.tl.ovR s31 (fun _ q => (List.mem_append_right _ q))) s31), (S56.tl.tl.ovR s31 (fun _ q => (List.mem_append_right _ q)) _ _ hs_self0_starts0), (hl_self0_starts0.mono s31), hl39, hl37, S56, (by exact e58), fun F59 H60 v63 v65 a67 v68 s61 S62 hl64 hl66 hl69 => ?_⟩
                clear S50
                have S70 : Sta F59 ([(a67, HO.lst v68), (a6, HO.dK v63), (a12, HO.dK v65), (a23, HO.lst v34.dropLast), (a18, HO.lst v_literals0)] ++ R) _ := S62
                revert hm; refine grdI fun g71 hm => ?_
                refine ⟨_, _, _, _, rfl, rfl, (S70.get 3 rfl), (S70.get 0 rfl), (by rw [LR.length (hl49.mono s61), LR.length hl69]; exact of_decide_eq_true g71), ?_⟩
                clear S62
                have hl72 : LR (rInt F59) (v34.dropLast ++ v68) (st1.1.dropLast ++ y57.1) := LR.append (hl49.mono s61) hl69
                have S73 : Sta F59 ([(a67, HO.lst v68), (a6, HO.dK v63), (a12, HO.dK v65), (a23, HO.lst (v34.dropLast ++ v68)), (a18, HO.lst v_literals0)] ++ R) _ := S70.set 3 rfl _
                have S74 : Sta F59 ([(a23, HO.lst (v34.dropLast ++ v68)), (a18, HO.lst v_literals0), (a12, HO.dK v65), (a6, HO.dK v63)] ++ R) _ := S73.pick [3, 4, 2, 1] (by decide) rfl
                exact ⟨((st1.1.dropLast ++ y57.1), y57.2.2, y57.2.1), F59, (v34.dropLast ++ v68), v65, v63, _, rfl, (s31.trans s61), S74, hl72, hl66, hl64, hm⟩
              · revert hm; refine ifFI c55 fun hm => ?_
                refine goF c55 ?_
                exact ⟨(st1.1.dropLast, st1.2.1, st1.2.2), F30, v34.dropLast, v36, v38, _, rfl, s31, S50, hl49, hl37, hl39, hm⟩
          · revert hm; refine ifFI c41 fun hm => ?_
            refine goF c41 ?_
            exact ⟨(st1.1, st1.2.1, st1.2.2), F30, v34, v36, v38, _, rfl, s31, S32, hl35, hl37, hl39, Option.some.inj hm⟩
        · rintro σ H2 ⟨st1, F30, v34, v36, v38, o33, rfl, s31, S32, hl35, hl37, hl39, hm⟩
          rw [m_Pusher_forced_l1] at hm
          cases hm
      · rintro σ H2 ⟨st1, F30, v34, v36, v38, o33, rfl, s31, S32, hl35, hl37, hl39, rfl⟩
        have hm := hm29
        refine ⟨_, rfl, _, _, (st1.2.2.map fun (q : Int × Bool) => q.1), rfl, (.inl (S32.get 3 rfl)), (KR.keysI hl39), ?_⟩
        intro ys75 a76 pm77 pw78 np79
        obtain rfl := sortI_eq pm77 pw78
        have hl80 : LR (rInt F30) ((sortI (st1.2.2.map fun (q : Int × Bool) => q.1)).map V.int) (sortI (st1.2.2.map fun (q : Int × Bool) => q.1)) := lr_ints _
        have S81 : Sta F30 ([(a76, HO.lst ((sortI (st1.2.2.map fun (q : Int × Bool) => q.1)).map V.int)), (a23, HO.lst v34), (a18, HO.lst v_literals0), (a12, HO.dK v36), (a6, HO.dK v38)] ++ R) _ := S32.new np79 _
        obtain ⟨F82, s83, S84, h85⟩ : ∃ F', Same F30 F' ∧ Sta F' ([(a23, HO.lst v34), (a18, HO.lst v_literals0), (a12, HO.dK v36), (a6, HO.dK v38)] ++ R) _ ∧ F' a76 = some (HO.lst ((sortI (st1.2.2.map fun (q : Int × Bool) => q.1)).map V.int)) := ⟨_, S81.frzS, S81.frz, upd_same⟩
        obtain rfl := Option.some.inj hm
        have S86 : Sta F82 ([] ++ R) _ := S84.pick [] (by decide) rfl
        exact kk _ _ (V.ref a76) (s31.trans s83) S86 (rOpt_some ⟨_, _, rfl, SqL.mono (SqL.of h85) (Same.refl _), (hl80.mono s83)⟩)

def sp_checked_lines (T : Txt K mg) : List V → Hp → (List Bool) → Prop := fun vs F0 ys => ∃ (a_clauses0 : Addr) (v_clauses0 : List V) (x_clauses0 : (List (Bool × List Int))) (a_log0 : Addr) (v_log0 : List V) (x_log0 : (List (Bool × List Int))),
  vs = [V.ref a_clauses0, V.ref a_log0] ∧ SqL K F0 a_clauses0 v_clauses0 ∧ LR ((rSeq K rInt) F0) v_clauses0 x_clauses0 ∧ SqL K F0 a_log0 v_log0 ∧ LR ((rSeq K rInt) F0) v_log0 x_log0 ∧ m_checked_lines x_clauses0 x_log0 = some ys

theorem ok_checked_lines (T : Txt K mg) : GFk P w K mg base 4 T.a_checked_lines T.d_checked_lines ["clauses", "log"] rBool (sp_checked_lines T) := by
  refine gfk_of T.F_checked_lines sc_checked_lines (by decide +kernel) (fun vs F ys h => ?_) (fun cdv L A outer pn vs F0 ys hr h => ?_)
  · obtain ⟨_, _, _, _, _, _, rfl, _⟩ := h
    rfl
  · obtain ⟨a_clauses0, v_clauses0, x_clauses0, a_log0, v_log0, x_log0, rfl, hs_clauses0, hl_clauses0, hs_log0, hl_log0, hm⟩ := h
    have hu := hu_of hr
    unfold m_checked_lines at hm
    refine ⟨_, (gss_cons (gs_ps fun _ _ => (ps_set (i := 2) sc_checked_lines.nd rfl (Or.inl rfl) (pe_make T.mk_Pusher (ok_Pusher_init T) (hr.mono (by decide)) rfl T.g_Pusher T.b_Pusher_init .nil pass0 (pa_cons (pv 0) pa_nil)))) (gss_one (gs_for (fun _ _ => (pi_list (pv 1))) (fun _ _ => (pg_name (i := 3) sc_checked_lines.nd rfl (Or.inl rfl))) (gss_cons (gs_yield fun _ _ => (pe_cmpR op_isN (pe_meth (pv 2) T.cl_Pusher T.h_Pusher_forced (ok_Pusher_forced T) (hr.mono (by decide)) T.b_Pusher_forced .nil pass0 (pa_cons (pe_lc (own := [("literal", 4)]) rfl sc_checked_lines.nd (pi_seq (pv 3)) (blkOk_by (own := [("literal", 4)]) (N := ["clauses", "log", "pusher", "line", "literal"]) (sc := defScope s_checked_lines) (by decide +kernel)) (fun _ _ _ _ _ => (pg_name (i := 4) sc_checked_lines.nd rfl (Or.inl rfl))) (fun _ _ _ _ _ => pts_nil) (fun _ _ _ _ _ => (pe_un un_neg (pv 4)))) pa_nil)) pe_non (nomark _))) (gss_one (gs_ps fun _ _ => (ps_expr (pe_meth (pv 2) T.cl_Pusher T.h_Pusher_include (ok_Pusher_include T) (hr.mono (by decide)) T.b_Pusher_include .nil pass0 (pa_cons (pv 3) pa_nil))))))))), fun γ er sf S => ?_⟩
    obtain ⟨rem, Fg, R, xp, s0, Hg⟩ := γ
    obtain rfl : rem = ys := er
    have sf : Same F0 Fg := sf
    have S0 : Sta Fg ([] ++ R) Hg := S
    refine gseqI fun N1 hN2 => ?_
    refine ⟨_, rfl, ?_⟩
    intro a3 dx4 nx5 ndx6 nex7
    obtain ⟨F8, s9, S10⟩ : ∃ F', Same Fg F' ∧ Sta F' ([(a3, HO.ins T.a_Pusher dx4 [])] ++ R) _ := ⟨_, S0.sameF ndx6 (HO.own a3), (S0.newF ndx6 (HO.own a3)).new (by rw [upd_ne nex7.symm]; exact nx5) (HO.ins T.a_Pusher dx4 [])⟩
    revert hm; refine bndI fun y11 e12 hm => ?_
    refine ⟨F8, ([] ++ R), a3, dx4, a_clauses0, v_clauses0, x_clauses0, y11, rfl, (SqL.mono hs_clauses0 (sf.trans s9)), ((hl_clauses0.mono (sf.trans s9))), S10, (by exact e12), fun F13 H14 a17 v18 a20 v21 in23 a24 v25 s15 S16 hl19 hl22 hl26 => ⟨rfl, ?_⟩⟩
    have S27 : Sta F13 ([(a3, HO.ins T.a_Pusher dx4 (fl_Pusher (V.ref a17) (V.ref a20) (V.ref a24) (V.bl y11.empty))), (a17, HO.lst v18), (a20, HO.dK v21), (a24, HO.lst v25)] ++ (in23 ++ R)) _ := Sta.pickS (segs := [[(a3, HO.ins T.a_Pusher dx4 (fl_Pusher (V.ref a17) (V.ref a20) (V.ref a24) (V.bl y11.empty))), (a17, HO.lst v18), (a20, HO.dK v21), (a24, HO.lst v25)], in23, []]) (segs' := [[(a3, HO.ins T.a_Pusher dx4 (fl_Pusher (V.ref a17) (V.ref a20) (V.ref a24) (V.bl y11.empty))), (a17, HO.lst v18), (a20, HO.dK v21), (a24, HO.lst v25)], [], in23]) (R := R) [0, 2, 1] (by decide) rfl S16
    refine hN2 _ _ _ ?_
    refine ⟨_, rfl, _, rfl, ⟨_, (SqL.mono hs_log0 ((sf.trans (s9.trans s15)).trans S27.sub))⟩, gfor_list (K := K) (a := a_log0) (xs := v_log0) (fun i γ σ H2 => ∃ (rem : List Bool) (Fw : Hp) (R : Own) (xp : List (Addr × Obj)) (s0 : Shared) (H0 : Hp) (st1 : M_Pusher) (F63 : Hp) (a68 : Addr) (v69 : List V) (a71 : Addr) (v72 : List (Key × V)) (in74 : Own) (a75 : Addr) (v76 : List V) (o66 : Option V) (o67 : Option V), σ = [some (V.ref a_clauses0), some (V.ref a_log0), some (V.ref a3), o66, o67] ∧ Same F13 F63 ∧ Sta F63 ([(a3, HO.ins T.a_Pusher dx4 (fl_Pusher (V.ref a68) (V.ref a71) (V.ref a75) (V.bl st1.empty))), (a68, HO.lst v69), (a71, HO.dK v72), (a75, HO.lst v76)] ++ (in74 ++ R)) H2 ∧ LR ((rLst K rInt) F63) v69 st1.clauses ∧ KRO Sum.inl ((roM rInt) F63) v72 st1.places in74 ∧ LR (rInt F63) v76 st1.starts ∧ γ = ⟨rem, Fw, R, xp, s0, H0⟩ ∧ Same Fw F63 ∧ m_checked_lines_l1 (List.drop i x_log0) st1 = some rem) ⟨_, _, _, _, _, _, (M_Pusher.mk y11.clauses y11.places y11.starts y11.empty), F13, a17, v18, a20, v21, in23, a24, v25, _, _, rfl, (Same.refl _), S27, hl19, hl22, hl26, rfl, ((Same.refl _).trans (s9.trans s15)), hm⟩ (by rintro i γ σ H2 ⟨rem, Fw, R, xp, s0, H0, st1, F63, a68, v69, a71, v72, in74, a75, v76, o66, o67, rfl, s64, S65, hl70, hl73, hl77, rfl, gw, _⟩; exact (SqL.mono hs_log0 ((sf.trans (s9.trans (s15.trans s64))).trans S65.sub))) ?_ ?_⟩
    clear S16
    · rintro i v79 γ σ H2 hi ⟨rem, Fw, R, xp, s0, H0, st1, F63, a68, v69, a71, v72, in74, a75, v76, o66, o67, rfl, s64, S65, hl70, hl73, hl77, rfl, gw, hm⟩
      obtain ⟨x78, hx80, rx81⟩ := LR.getV hl_log0 hi
      rw [drop_cons hx80, m_checked_lines_l1] at hm
      obtain ⟨a82, v83, rfl, hs84, hl85⟩ := rx81
      refine gseqI fun N86 hN87 => ?_
      revert hm; refine grdI fun g102 hm => ?_
      have e88 : lcO (fun x92 => some (some (-x92))) x78.2 = some (x78.2.map fun x92 => (-x92)) := lc_map (fun x92 => (-x92)) x78.2
      refine ⟨_, rfl, _, _, _, rfl, (S65.get 0 rfl), fl_Pusher_no_forced, _, rfl, _, _, rfl, ⟨_, (SqB.mono hs84 ((sf.trans (s9.trans (s15.trans s64))).trans S65.sub))⟩, fun a100 np101 => lc_seq (K := K) (b := x78.1) (a := a82) (xs := v83) (fun i H2 => ∃ (F93 : Hp) (v94 : List V) (acc95 : List Int) (r89 : List Int), Same F63 F93 ∧ Sta F93 ([(a100, HO.lst v94), (a3, HO.ins T.a_Pusher dx4 (fl_Pusher (V.ref a68) (V.ref a71) (V.ref a75) (V.bl st1.empty))), (a68, HO.lst v69), (a71, HO.dK v72), (a75, HO.lst v76)] ++ (in74 ++ R)) H2 ∧ LR (rInt F93) v94 acc95 ∧ acc95.length ≤ i ∧ lcO (fun x92 => some (some (-x92))) (List.drop i x78.2) = some r89 ∧ (x78.2.map fun x92 => (-x92)) = acc95 ++ r89) ⟨F63, [], [], _, Same.refl _, S65.new np101 _, trivial, Nat.le_refl _, e88, rfl⟩ (by rintro i H2 _ ⟨F93, v94, acc95, r89, s96, S97, hl98, hn99, hr90, hy91⟩; exact (SqB.mono hs84 ((sf.trans (s9.trans (s15.trans (s64.trans s96)))).trans S97.sub))) ?_ ?_⟩
      · rintro i v103 H2 hi ⟨F93, v94, acc95, r89, s96, S97, hl98, hn99, hr90, hy91⟩
        obtain ⟨x92, hx104, rx105⟩ := LR.getV hl85 hi
        rw [drop_cons hx104] at hr90
        revert hr90; refine lcI fun y106 r107 hm hr109 hc110 => ?_
        obtain rfl := rInt_e rx105
        refine ⟨rfl, ?_⟩
        refine tYesI ?_
        rw [if_pos rfl]
        refine ⟨_, rfl, _, rfl, ?_⟩
        obtain rfl := Option.some.inj hm
        have hlt : v94.length < 16777216 := by rw [LR.length hl98]; have := (List.getElem?_eq_some_iff.mp hx104).1; have := of_decide_eq_true g102; omega
        have S111 : Sta F93 ([(a100, HO.lst (v94 ++ [V.int (-x92)])), (a3, HO.ins T.a_Pusher dx4 (fl_Pusher (V.ref a68) (V.ref a71) (V.ref a75) (V.bl st1.empty))), (a68, HO.lst v69), (a71, HO.dK v72), (a75, HO.lst v76)] ++ (in74 ++ R)) _ := S97.set 0 rfl _
        exact ⟨_, (S97.get 0 rfl), hlt, F93, _, (acc95 ++ [(-x92)]), r107, s96, S111, LR.snoc hl98 rfl, by rw [List.length_append]; exact Nat.succ_le_succ hn99, hr109, by rw [List.append_assoc]; exact hy91.trans (congrArg (acc95 ++ ·) hc110)⟩
      rintro H2 ⟨F93, v94, acc95, r89, s96, S97, hl98, hn99, hr90, hy91⟩
      rw [LR.dropEnd hl85] at hr90
      obtain rfl := Option.some.inj hr90
      rw [List.append_nil] at hy91
      subst hy91
      have S112 : Sta F93 ([(a100, HO.lst v94), (a3, HO.ins T.a_Pusher dx4 (fl_Pusher (V.ref a68) (V.ref a71) (V.ref a75) (V.bl st1.empty))), (a68, HO.lst v69), (a71, HO.dK v72), (a75, HO.lst v76)] ++ (in74 ++ R)) _ := S97
      revert hm; refine bndI fun y113 e114 hm => ?_
      refine ⟨F93, ([(a100, HO.lst v94), (a3, HO.ins T.a_Pusher dx4 (fl_Pusher (V.ref a68) (V.ref a71) (V.ref a75) (V.bl st1.empty))), (a68, HO.lst v69), (a71, HO.dK v72), (a75, HO.lst v76)] ++ (in74 ++ R)), a3, dx4, (M_Pusher.mk st1.clauses st1.places st1.starts st1.empty), a68, v69, a71, v72, a75, v76, a100, v94, (x78.2.map fun x92 => (-x92)), y113, rfl, (S112.getO 1 rfl), (S112.getO 2 rfl), (hl70.mono s96), (S112.getO 3 rfl), (KRO.view (KRO.mono hl73 s96) (S112.memO (fun _ q => (List.mem_append_right _ (List.mem_append_left _ q))))), (S112.getO 4 rfl), (hl77.mono s96), (SqL.of (S112.getO 0 rfl)), hl98, S112, (by exact e114), fun F115 H116 v119 s117 S118 p120 => ?_⟩
      clear S97
      have S121 : Sta F115 ([(a100, HO.lst v94), (a3, HO.ins T.a_Pusher dx4 (fl_Pusher (V.ref a68) (V.ref a71) (V.ref a75) (V.bl st1.empty))), (a68, HO.lst v69), (a71, HO.dK v72), (a75, HO.lst v76)] ++ (in74 ++ R)) _ := S118
      refine ⟨rfl, ?_⟩
      clear S118
      rw [show _ = (y113).isNone from (opt_isN (r := (rLst K rInt)) (F := F115) p120)]
      revert hm; refine bndI fun ys122 hm e123 => ?_
      refine ⟨_, ys122, _, ([(a100, HO.lst v94), (a3, HO.ins T.a_Pusher dx4 (fl_Pusher (V.ref a68) (V.ref a71) (V.ref a75) (V.bl st1.empty))), (a68, HO.lst v69), (a71, HO.dK v72), (a75, HO.lst v76)] ++ in74), (Option.some.inj e123).symm, rfl, (gw.trans (s96.trans s117)), (by simpa only [List.append_assoc] using S121), fun γ er sf125 S126 => ?_⟩
      obtain ⟨rem128, F124, R, xp, s0, Hg⟩ := γ
      obtain rfl : rem128 = ys122 := er
      have sf125 : Same F115 F124 := sf125
      have S127 : Sta F124 ([(a100, HO.lst v94), (a3, HO.ins T.a_Pusher dx4 (fl_Pusher (V.ref a68) (V.ref a71) (V.ref a75) (V.bl st1.empty))), (a68, HO.lst v69), (a71, HO.dK v72), (a75, HO.lst v76)] ++ (in74 ++ R)) Hg := by simpa only [List.append_assoc] using S126
      refine hN87 _ _ _ ?_
      have S129 : Sta F124 ([(a3, HO.ins T.a_Pusher dx4 (fl_Pusher (V.ref a68) (V.ref a71) (V.ref a75) (V.bl st1.empty))), (a68, HO.lst v69), (a71, HO.dK v72), (a75, HO.lst v76)] ++ (in74 ++ ([(a100, HO.lst v94)] ++ R))) _ := Sta.pickS (segs := [[(a100, HO.lst v94)], [(a3, HO.ins T.a_Pusher dx4 (fl_Pusher (V.ref a68) (V.ref a71) (V.ref a75) (V.bl st1.empty)))], [(a68, HO.lst v69)], [(a71, HO.dK v72)], [(a75, HO.lst v76)], in74]) (segs' := [[(a3, HO.ins T.a_Pusher dx4 (fl_Pusher (V.ref a68) (V.ref a71) (V.ref a75) (V.bl st1.empty)))], [(a68, HO.lst v69)], [(a71, HO.dK v72)], [(a75, HO.lst v76)], in74, [(a100, HO.lst v94)]]) (R := R) [1, 2, 3, 4, 5, 0] (by decide) rfl S127
      revert hm; refine bndI fun y130 e131 hm => ?_
      refine ⟨_, rfl, _, _, _, rfl, (S127.get 1 rfl), fl_Pusher_no_include, _, rfl, F124, ([(a100, HO.lst v94)] ++ R), a3, dx4, (M_Pusher.mk st1.clauses st1.places st1.starts st1.empty), a68, v69, a71, v72, in74, a75, v76, a82, v83, x78, y130, rfl, (hl70.mono (s96.trans (s117.trans sf125))), (KRO.mono hl73 (s96.trans (s117.trans sf125))), (hl77.mono (s96.trans (s117.trans sf125))), (SqB.mono hs84 ((sf.trans (s9.trans (s15.trans (s64.trans (s96.trans (s117.trans sf125)))))).trans (Sta.dropL (cs := in74) (ds := ([(a100, HO.lst v94)] ++ R)) (Sta.dropL (cs := [(a3, HO.ins T.a_Pusher dx4 (fl_Pusher (V.ref a68) (V.ref a71) (V.ref a75) (V.bl st1.empty))), (a68, HO.lst v69), (a71, HO.dK v72), (a75, HO.lst v76)]) (ds := (in74 ++ ([(a100, HO.lst v94)] ++ R))) S129)).ovS)), (hl85.mono (sf.trans (s9.trans (s15.trans (s64.trans (s96.trans (s117.trans sf125))))))), S129, (by exact e131), fun F132 H133 a136 v137 a139 v140 in142 a143 v144 s134 S135 hl138 hl141 hl145 => ?_⟩
      clear S127
      have S146 : Sta F132 ([(a3, HO.ins T.a_Pusher dx4 (fl_Pusher (V.ref a136) (V.ref a139) (V.ref a143) (V.bl y130.empty))), (a136, HO.lst v137), (a139, HO.dK v140), (a143, HO.lst v144), (a100, HO.lst v94)] ++ (in142 ++ R)) _ := Sta.pickS (segs := [[(a3, HO.ins T.a_Pusher dx4 (fl_Pusher (V.ref a136) (V.ref a139) (V.ref a143) (V.bl y130.empty))), (a136, HO.lst v137), (a139, HO.dK v140), (a143, HO.lst v144)], in142, [(a100, HO.lst v94)]]) (segs' := [[(a3, HO.ins T.a_Pusher dx4 (fl_Pusher (V.ref a136) (V.ref a139) (V.ref a143) (V.bl y130.empty))), (a136, HO.lst v137), (a139, HO.dK v140), (a143, HO.lst v144)], [(a100, HO.lst v94)], in142]) (R := R) [0, 2, 1] (by decide) rfl S135
      have S147 : Sta F132 ([(a3, HO.ins T.a_Pusher dx4 (fl_Pusher (V.ref a136) (V.ref a139) (V.ref a143) (V.bl y130.empty))), (a136, HO.lst v137), (a139, HO.dK v140), (a143, HO.lst v144)] ++ (in142 ++ R)) _ := S146.pick [0, 1, 2, 3] (by decide) rfl
      exact ⟨_, _, _, _, _, _, (M_Pusher.mk y130.clauses y130.places y130.starts y130.empty), F132, a136, v137, a139, v140, in142, a143, v144, _, _, rfl, (s64.trans (s96.trans (s117.trans (sf125.trans s134)))), S147, hl138, hl141, hl145, rfl, ((Same.refl _).trans s134), hm⟩
    · rintro γ σ H2 ⟨rem, Fw, R, xp, s0, H0, st1, F63, a68, v69, a71, v72, in74, a75, v76, o66, o67, rfl, s64, S65, hl70, hl73, hl77, rfl, gw, hm⟩
      rw [LR.dropEnd hl_log0, m_checked_lines_l1] at hm
      exact ⟨(Option.some.inj hm).symm, _, gw, (Sta.dropL (cs := in74) (ds := R) (Sta.dropL (cs := [(a3, HO.ins T.a_Pusher dx4 (fl_Pusher (V.ref a68) (V.ref a71) (V.ref a75) (V.bl st1.empty))), (a68, HO.lst v69), (a71, HO.dK v72), (a75, HO.lst v76)]) (ds := (in74 ++ R)) S65))⟩

def sp_law_same (T : Txt K mg) : Sp := fun vs H Q _ => ∃ (x_actual0 : Bool) (x_due0 : Bool) (r : Bool),
  vs = [V.bl x_actual0, V.bl x_due0] ∧ m_law_same x_actual0 x_due0 = r ∧ Q (V.bl r) H

theorem ok_law_same (T : Txt K mg) : FnOk P w K mg base CX0 1 T.a_law_same T.d_law_same ["actual", "due"] (sp_law_same T) := by
  refine T.F_law_same.ok sc_law_same (fun vs H Q E h => ?_) (fun cdv A outer s H vs Q E hr h => ?_)
  · obtain ⟨_, _, _, rfl, _⟩ := h
    rfl
  · obtain ⟨x_actual0, x_due0, r, rfl, hm, kk⟩ := h
    have hu := hu_of hr
    unfold m_law_same at hm
    refine ⟨_, (pss_cons (ps_if (pt_cmpR op_isN (pv 1) pe_non (nomark _)) (pss_one ps_never) pss_nil) (pss_cons (ps_if (pt_pure (PW.pt (pw_or (pt_val (pe_callB call_isi (by rfl) T.z_isinstance (by decide +kernel) (pa_cons (pv 1) (pa_cons (pe_bltn (v := .ty "bool") (by rfl) T.z_bool (by decide +kernel) rfl) pa_nil)))) (pw_or1 pt_void)))) (pss_one (ps_ret (pe_pure (pe_and (pe_callB call_isi (by rfl) T.z_isinstance (by decide +kernel) (pa_cons (pv 1) (pa_cons (pe_bltn (v := .ty "bool") (by rfl) T.z_bool (by decide +kernel) rfl) pa_nil))) (pe_and (pe_callB call_isi (by rfl) T.z_isinstance (by decide +kernel) (pa_cons (pv 0) (pa_cons (pe_bltn (v := .ty "bool") (by rfl) T.z_bool (by decide +kernel) rfl) pa_nil))) (pe_one (pe_cmpR oB_eq (pv 0) (pv 1) (nomark _)))))))) pss_nil) (pss_cons ps_never (pss_cons ps_never (pss_cons ps_never (pss_cons ps_never (pss_cons ps_never (pss_one ps_never)))))))), ?_⟩
    refine seqI fun N1 hN2 => ?_
    refine ⟨_, rfl, rfl, _, rfl, ?_⟩
    refine iteF ?_
    refine hN2 _ _ ?_
    refine seqI fun N3 hN4 => ?_
    refine ⟨true, ?_, ?_⟩
    · refine ⟨_, rfl, _, _, _, _, _, rfl, .ty _, (.base (.bl _)), (by first | rfl | exact PySem.W.kitOne_builtin rfl | decide +kernel), _, rfl, ?_⟩
      refine iteT ?_
      exact ⟨rfl, rfl⟩
    refine iteT ?_
    refine ⟨V.bl (decide (x_actual0 = x_due0)), ?_, ?_⟩
    · refine ⟨_, rfl, _, _, _, _, _, rfl, .ty _, (.base (.bl _)), (by first | rfl | exact PySem.W.kitOne_builtin rfl | decide +kernel), _, rfl, ?_⟩
      refine iteT ?_
      refine ⟨_, rfl, _, _, _, _, _, rfl, .ty _, (.base (.bl _)), (by first | rfl | exact PySem.W.kitOne_builtin rfl | decide +kernel), _, rfl, ?_⟩
      refine iteT ?_
      refine ⟨_, rfl, _, rfl, _, _, rfl, rfl, ?_⟩
      exact ⟨rfl, rfl⟩
    obtain rfl := hm
    exact kk

def sp_law_same_v2 (T : Txt K mg) : Sp := fun vs H Q _ => ∃ (F0 : Hp) (R : Own) (a_actual0 : Addr) (v_actual0 : List V) (x_actual0 : (List Bool)) (a_due0 : Addr) (v_due0 : List V) (x_due0 : (List Bool)) (r : Bool),
  vs = [V.ref a_actual0, V.ref a_due0] ∧ SqL K (ov F0 R) a_actual0 v_actual0 ∧ LR (rBool F0) v_actual0 x_actual0 ∧ SqL K (ov F0 R) a_due0 v_due0 ∧ LR (rBool F0) v_due0 x_due0 ∧ Sta F0 ([] ++ R) H ∧ m_law_same_v2 x_actual0 x_due0 = some r ∧ Q (V.bl r) H

theorem ok_law_same_v2 (T : Txt K mg) : FnOk P w K mg base CX0 2 T.a_law_same T.d_law_same ["actual", "due"] (sp_law_same_v2 T) := by
  refine T.F_law_same.ok sc_law_same (fun vs H Q E h => ?_) (fun cdv A outer s H vs Q E hr h => ?_)
  · obtain ⟨_, _, _, _, _, _, _, _, _, rfl, _⟩ := h
    rfl
  · obtain ⟨F0, R, a_actual0, v_actual0, x_actual0, a_due0, v_due0, x_due0, r, rfl, hs_actual0, hl_actual0, hs_due0, hl_due0, S0, hm, kk⟩ := h
    have hu := hu_of hr
    unfold m_law_same_v2 at hm
    refine ⟨_, (pss_cons (ps_if (pt_cmpR op_isN (pv 1) pe_non (nomark _)) (pss_one ps_never) pss_nil) (pss_cons (ps_if (pt_pure (PW.pt (pw_or (pt_val (pe_callB call_isi (by rfl) T.z_isinstance (by decide +kernel) (pa_cons (pv 1) (pa_cons (pe_bltn (v := .ty "bool") (by rfl) T.z_bool (by decide +kernel) rfl) pa_nil)))) (pw_or1 (pt_val (pe_callB call_isi (by rfl) T.z_isinstance (by decide +kernel) (pa_cons (pv 0) (pa_cons (pe_bltn (v := .ty "bool") (by rfl) T.z_bool (by decide +kernel) rfl) pa_nil)))))))) (pss_one ps_never) pss_nil) (pss_cons (ps_if (pt_pure (PW.pt (pw_or (pt_val (pe_callB call_isi (by rfl) T.z_isinstance (by decide +kernel) (pa_cons (pv 1) (pa_cons (pe_bltn (v := .ty "int") (by rfl) T.z_int (by decide +kernel) rfl) pa_nil)))) (pw_or1 (pt_val (pe_callB call_isi (by rfl) T.z_isinstance (by decide +kernel) (pa_cons (pv 1) (pa_cons (pe_bltn (v := .ty "str") (by rfl) T.z_str (by decide +kernel) rfl) pa_nil)))))))) (pss_one ps_never) pss_nil) (pss_cons (ps_if (pt_val (pe_callB call_isi (by rfl) T.z_isinstance (by decide +kernel) (pa_cons (pv 1) (pa_cons (pe_bltn (v := .ty "dict") (by rfl) T.z_dict (by decide +kernel) rfl) pa_nil)))) (pss_cons ps_never (pss_cons ps_never (pss_one ps_never))) pss_nil) (pss_cons (ps_if (pt_pure (PW.pt (pw_or (pt_cmpR oB_ne (pe_callB call_isi (by rfl) T.z_isinstance (by decide +kernel) (pa_cons (pv 0) (pa_cons (pe_bltn (v := .ty "list") (by rfl) T.z_list (by decide +kernel) rfl) pa_nil))) (pe_callB call_isi (by rfl) T.z_isinstance (by decide +kernel) (pa_cons (pv 1) (pa_cons (pe_bltn (v := .ty "list") (by rfl) T.z_list (by decide +kernel) rfl) pa_nil))) (nomark _)) (pw_or1 (pt_cmpR oB_ne (pe_callB call_isi (by rfl) T.z_isinstance (by decide +kernel) (pa_cons (pv 0) (pa_cons (pe_bltn (v := .ty "tuple") (by rfl) T.z_tuple (by decide +kernel) rfl) pa_nil))) (pe_callB call_isi (by rfl) T.z_isinstance (by decide +kernel) (pa_cons (pv 1) (pa_cons (pe_bltn (v := .ty "tuple") (by rfl) T.z_tuple (by decide +kernel) rfl) pa_nil))) (nomark _)))))) (pss_one (ps_ret pe_bl)) pss_nil) (pss_cons (ps_if (pt_cmpR oI_ne (pe_callB call_len_seq (by rfl) T.z_len PySem.boot_len (pa_cons (pv 0) pa_nil)) (pe_callB call_len_seq (by rfl) T.z_len PySem.boot_len (pa_cons (pv 1) pa_nil)) (nomark _)) (pss_one (ps_ret pe_bl)) pss_nil) (pss_cons (ps_for PassesOwn.never rfl (pi_range1 rfl T.z_range (pa_cons (pe_callB call_len_seq (by rfl) T.z_len PySem.boot_len (pa_cons (pv 1) pa_nil)) pa_nil)) (pg_name (i := 3) sc_law_same.nd rfl (Or.inl rfl)) (pss_one (ps_if (pt_not (pt_val (pe_call (ok_law_same T) (hr.mono (by decide)) rfl T.g_law_same T.F_law_same.kp T.b_law_same .nil pass0 (pa_cons (pe_ix ix_list (pv 0) (pv 3) (fun _ _ => rfl)) (pa_cons (pe_ix ix_list (pv 1) (pv 3) (fun _ _ => rfl)) pa_nil))))) (pss_one (ps_ret pe_bl)) pss_nil))) (pss_one (ps_ret pe_bl))))))))), ?_⟩
    refine seqI fun N1 hN2 => ?_
    refine ⟨_, rfl, rfl, _, rfl, ?_⟩
    refine iteF ?_
    refine hN2 _ _ ?_
    refine seqI fun N3 hN4 => ?_
    refine ⟨false, ?_, ?_⟩
    · refine ⟨_, rfl, _, _, _, _, _, rfl, .ty _, (tyx_list (SqL.mono hs_due0 (S0.bor (Same.refl _) (fun _ q => (List.mem_append_right _ q))))), (by first | rfl | exact PySem.W.kitOne_builtin rfl | decide +kernel), _, rfl, ?_⟩
      refine iteF ?_
      refine ⟨_, rfl, _, _, _, _, _, rfl, .ty _, (tyx_list (SqL.mono hs_actual0 (S0.bor (Same.refl _) (fun _ q => (List.mem_append_right _ q))))), (by first | rfl | exact PySem.W.kitOne_builtin rfl | decide +kernel), _, rfl, ?_⟩
      exact ⟨rfl, rfl⟩
    refine iteF ?_
    refine hN4 _ _ ?_
    refine seqI fun N5 hN6 => ?_
    refine ⟨false, ?_, ?_⟩
    · refine ⟨_, rfl, _, _, _, _, _, rfl, .ty _, (tyx_list (SqL.mono hs_due0 (S0.bor (Same.refl _) (fun _ q => (List.mem_append_right _ q))))), (by first | rfl | exact PySem.W.kitOne_builtin rfl | decide +kernel), _, rfl, ?_⟩
      refine iteF ?_
      refine ⟨_, rfl, _, _, _, _, _, rfl, .ty _, (tyx_list (SqL.mono hs_due0 (S0.bor (Same.refl _) (fun _ q => (List.mem_append_right _ q))))), (by first | rfl | exact PySem.W.kitOne_builtin rfl | decide +kernel), _, rfl, ?_⟩
      exact ⟨rfl, rfl⟩
    refine iteF ?_
    refine hN6 _ _ ?_
    refine seqI fun N7 hN8 => ?_
    refine ⟨_, rfl, _, _, _, _, _, rfl, .ty _, (tyx_list (SqL.mono hs_due0 (S0.bor (Same.refl _) (fun _ q => (List.mem_append_right _ q))))), (by first | rfl | exact PySem.W.kitOne_builtin rfl | decide +kernel), _, rfl, ?_⟩
    refine iteF ?_
    refine hN8 _ _ ?_
    refine seqI fun N9 hN10 => ?_
    refine ⟨((!decide (true = true)) || (!decide (false = false))), ?_, ?_⟩
    · refine ⟨_, rfl, _, _, _, _, _, rfl, .ty _, (tyx_list (SqL.mono hs_actual0 (S0.bor (Same.refl _) (fun _ q => (List.mem_append_right _ q))))), (by first | rfl | exact PySem.W.kitOne_builtin rfl | decide +kernel), _, rfl, _, _, _, _, _, rfl, .ty _, (tyx_list (SqL.mono hs_due0 (S0.bor (Same.refl _) (fun _ q => (List.mem_append_right _ q))))), (by first | rfl | exact PySem.W.kitOne_builtin rfl | decide +kernel), _, _, rfl, rfl, _, rfl, ?_⟩
      by_cases c11 : (!decide (true = true)) = true
      · exact goT c11 ⟨by first | (simp [c11]; done) | simp_all, rfl⟩
      · refine goF c11 ?_
        refine ⟨_, rfl, _, _, _, _, _, rfl, .ty _, (tyx_list (SqL.mono hs_actual0 (S0.bor (Same.refl _) (fun _ q => (List.mem_append_right _ q))))), (by first | rfl | exact PySem.W.kitOne_builtin rfl | decide +kernel), _, rfl, _, _, _, _, _, rfl, .ty _, (tyx_list (SqL.mono hs_due0 (S0.bor (Same.refl _) (fun _ q => (List.mem_append_right _ q))))), (by first | rfl | exact PySem.W.kitOne_builtin rfl | decide +kernel), _, _, rfl, rfl, _, rfl, ?_⟩
        exact ⟨by first | (simp [c11]; done) | simp_all, rfl⟩
    by_cases c12 : ((!decide (true = true)) || (!decide (false = false))) = true
    · revert hm; refine ifTI c12 fun hm => ?_
      refine goT c12 ?_
      obtain rfl := Option.some.inj hm
      exact kk
    · revert hm; refine ifFI c12 fun hm => ?_
      refine goF c12 ?_
      refine hN10 _ _ ?_
      refine seqI fun N13 hN14 => ?_
      refine ⟨_, rfl, _, _, rfl, .inl (SqL.mono hs_actual0 (S0.bor (Same.refl _) (fun _ q => (List.mem_append_right _ q)))), ?_⟩
      rw [LR.length hl_actual0]
      refine ⟨_, rfl, _, _, rfl, .inl (SqL.mono hs_due0 (S0.bor (Same.refl _) (fun _ q => (List.mem_append_right _ q)))), ?_⟩
      rw [LR.length hl_due0]
      refine ⟨_, _, rfl, rfl, _, rfl, ?_⟩
      by_cases c15 : (!decide ((x_actual0.length : Int) = (x_due0.length : Int))) = true
      · revert hm; refine ifTI c15 fun hm => ?_
        refine goT c15 ?_
        obtain rfl := Option.some.inj hm
        exact kk
      · revert hm; refine ifFI c15 fun hm => ?_
        refine goF c15 ?_
        refine hN14 _ _ ?_
        refine seqI fun N16 hN17 => ?_
        refine ⟨_, rfl, _, _, rfl, .inl (SqL.mono hs_due0 (S0.bor (Same.refl _) (fun _ q => (List.mem_append_right _ q)))), ?_⟩
        rw [LR.length hl_due0]
        revert hm; refine grdI fun g21 hm => ?_
        revert hm; refine bndI fun y18 e19 hm20 => ?_
        refine ⟨_, rfl, (rngOk_lo g21), (rngOk_hi g21), for_rng (lo := 0) (n := (x_due0.length : Int).toNat) (fun i σ H2 => ∃ (st1 : Unit) (F34 : Hp) (o37 : Option V), σ = [some (V.ref a_actual0), some (V.ref a_due0), none, o37] ∧ H = H2 ∧ Same F0 F34 ∧ Sta F34 ([] ++ R) H2 ∧ m_law_same_v2_l1 x_actual0 x_due0 (List.drop i (pyRange 0 (x_due0.length : Int).toNat)) st1 = some y18) ⟨(), F0, _, rfl, rfl, (Same.refl _), S0, e19⟩ ?_ ?_⟩
        · rintro i x38 σ H2 hi ⟨st1, F34, o37, rfl, rfl, s35, S36, hm⟩
          rw [drop_cons hi, m_law_same_v2_l1] at hm
          revert hm; refine bndI fun y40 e41 hm => ?_
          obtain ⟨v42, ev43, rv44⟩ := LR.atI hl_actual0 e41
          obtain rfl := rBool_e rv44
          revert hm; refine bndI fun y45 e46 hm => ?_
          obtain ⟨v47, ev48, rv49⟩ := LR.atI hl_due0 e46
          obtain rfl := rBool_e rv49
          refine ⟨_, rfl, _, rfl, _, _, _, _, rfl, rfl, (SqL.mono hs_actual0 (S36.bor s35 (fun _ q => (List.mem_append_right _ q)))), ev43, _, rfl, _, rfl, _, _, _, _, rfl, rfl, (SqL.mono hs_due0 (S36.bor s35 (fun _ q => (List.mem_append_right _ q)))), ev48, y40, y45, _, rfl, rfl, _, rfl, ?_⟩
          by_cases c50 : (!(m_law_same y40 y45)) = true
          · revert hm; refine ifTI c50 fun hm => ?_
            refine goT c50 ?_
            obtain rfl := Option.some.inj hm
            have hm := hm20
            obtain rfl := Option.some.inj hm
            exact kk
          · revert hm; refine ifFI c50 fun hm => ?_
            refine goF c50 ?_
            exact ⟨(), F34, _, rfl, rfl, s35, S36, hm⟩
        · rintro σ H2 ⟨st1, F34, o37, rfl, rfl, s35, S36, hm⟩
          rw [drop_rng, m_law_same_v2_l1] at hm
          obtain rfl := Option.some.inj hm
          have hm := hm20
          refine hN17 _ _ ?_
          obtain rfl := Option.some.inj hm
          exact kk

def sp_first_bad (T : Txt K mg) : Sp := fun vs H Q _ => ∃ (F0 : Hp) (R : Own) (a_clauses0 : Addr) (v_clauses0 : List V) (x_clauses0 : (List (Bool × List Int))) (a_log0 : Addr) (v_log0 : List V) (x_log0 : (List (Bool × List Int))) (r : (Option Int)),
  vs = [V.ref a_clauses0, V.ref a_log0] ∧ SqL K F0 a_clauses0 v_clauses0 ∧ LR ((rSeq K rInt) F0) v_clauses0 x_clauses0 ∧ SqL K F0 a_log0 v_log0 ∧ LR ((rSeq K rInt) F0) v_log0 x_log0 ∧ Sta F0 ([] ++ R) H ∧ m_first_bad x_clauses0 x_log0 = some r ∧ ∀ (F1 : Hp) (H1 : Hp) (v_ret0p : V), Same F0 F1 → Sta F1 ([] ++ R) H1 → (rOpt rInt) F1 v_ret0p r → Q (v_ret0p) H1

theorem ok_first_bad (T : Txt K mg) : FnOk P w K mg base CX0 7 T.a_first_bad T.d_first_bad ["clauses", "log"] (sp_first_bad T) := by
  refine T.F_first_bad.ok sc_first_bad (fun vs H Q E h => ?_) (fun cdv A outer s H vs Q E hr h => ?_)
  · obtain ⟨_, _, _, _, _, _, _, _, _, rfl, _⟩ := h
    rfl
  · obtain ⟨F0, R, a_clauses0, v_clauses0, x_clauses0, a_log0, v_log0, x_log0, r, rfl, hs_clauses0, hl_clauses0, hs_log0, hl_log0, S0, hm, kk⟩ := h
    have hu := hu_of hr
    unfold m_first_bad at hm
    refine ⟨_, (pss_cons (ps_forEnG (fun _ _ z => z) PassesOwn.never rfl T.z_enumerate (pge_call (ok_checked_lines T) (hr.mono (by decide)) rfl T.g_checked_lines T.F_checked_lines.kp T.b_checked_lines (pa_cons (pv 0) (pa_cons (pv 1) pa_nil))) (hr.mono (by decide)) (pg_tup rfl (pgs_cons (pg_name (i := 2) sc_first_bad.nd rfl (Or.inl rfl)) (pgs_cons (pg_name (i := 3) sc_first_bad.nd rfl (Or.inl rfl)) pgs_nil))) (pss_one (ps_if (pt_not (pt_val (pv 3))) (pss_one (ps_ret (pv 2))) pss_nil))) (pss_one (ps_ret pe_non))), ?_⟩
    refine seqI fun N1 hN2 => ?_
    revert hm; refine bndI fun y3 e4 hm => ?_
    revert hm; refine bndI fun y5 e6 hm7 => ?_
    refine ⟨_, rfl, _, rfl, F0, y3, ⟨a_clauses0, v_clauses0, x_clauses0, a_log0, v_log0, x_log0, rfl, (SqL.mono hs_clauses0 (Same.refl _)), (hl_clauses0), (SqL.mono hs_log0 (Same.refl _)), (hl_log0), (by exact e4)⟩, [], R, F0, fun i F23 cs σ => ∃ (st1 : Unit) (o26 : Option V) (o27 : Option V), σ = [some (V.ref a_clauses0), some (V.ref a_log0), o26, o27] ∧ cs = [] ∧ Same F0 F23 ∧ m_first_bad_l1 (List.drop i ((pyRange 0 y3.length).zip y3)) st1 = some y5, Same.refl _, S0, ⟨(), _, _, rfl, rfl, (Same.refl _), e6⟩, ?_, ?_⟩
    · intro i F23 cs σ x29 v30 a38 F33 R36 H2 hi hI s34 S35 hR37 rx32 np39
      obtain ⟨st1, o26, o27, rfl, rfl, s24, hm⟩ := hI
      obtain ⟨x28, hx31⟩ : ∃ z, ((pyRange 0 y3.length).zip y3)[i]? = some z ∧ z = ((i : Int), x29) := enum_at hi
      obtain ⟨hx31, hz⟩ := hx31
      rw [drop_cons hx31, m_first_bad_l1] at hm
      subst hz
      obtain ⟨F40, s41, S42, h43⟩ : ∃ F', Same F33 F' ∧ Sta F' ([] ++ R36) _ ∧ F' a38 = some (HO.tup [V.int (i : Int), v30]) := ⟨_, S35.sameF np39 _, S35.newF np39 _, upd_same⟩
      obtain rfl := rBool_e rx32
      refine ⟨_, _, rfl, (SqT.mono (SqT.of h43) ((Same.refl _).trans S42.sub)), rfl, _, _, rfl, _, _, rfl, rfl, ?_⟩
      refine ⟨_, rfl, _, rfl, ?_⟩
      by_cases c44 : (!x29) = true
      · revert hm; refine ifTI c44 fun hm => ?_
        refine goT c44 ?_
        refine ⟨_, rfl, ?_⟩
        obtain rfl := Option.some.inj hm
        have hm := hm7
        have S45 : Sta F40 ([] ++ R) _ := hR37 _ _ _ S42
        obtain rfl := Option.some.inj hm
        exact kk _ _ (V.int (i : Int)) (s24.trans (s34.trans s41)) S45 (rOpt_some rfl)
      · revert hm; refine ifFI c44 fun hm => ?_
        refine goF c44 ?_
        exact ⟨_, [], s41, S42, ⟨(), _, _, rfl, rfl, (s24.trans (s34.trans s41)), hm⟩⟩
    · intro F23 cs σ F33 H2 hI s34 S35
      obtain ⟨st1, o26, o27, rfl, rfl, s24, hm⟩ := hI
      rw [enum_drop, m_first_bad_l1] at hm
      obtain rfl := Option.some.inj hm
      have hm := hm7
      refine hN2 _ _ ?_
      obtain rfl := Option.some.inj hm
      exact kk _ _ V.non (s24.trans s34) S35 rfl

def sp_law_same_v1 (T : Txt K mg) : Sp := fun vs H Q _ => ∃ (F0 : Hp) (R : Own) (v_actual0 : V) (x_actual0 : (Option Int)) (v_due0 : V) (x_due0 : (Option Int)) (r : Bool),
  vs = [v_actual0, v_due0] ∧ (rOpt rInt) F0 v_actual0 x_actual0 ∧ (rOpt rInt) F0 v_due0 x_due0 ∧ Sta F0 ([] ++ R) H ∧ m_law_same_v1 x_actual0 x_due0 = some r ∧ Q (V.bl r) H

theorem ok_law_same_v1 (T : Txt K mg) : FnOk P w K mg base CX0 1 T.a_law_same T.d_law_same ["actual", "due"] (sp_law_same_v1 T) := by
  refine T.F_law_same.ok sc_law_same (fun vs H Q E h => ?_) (fun cdv A outer s H vs Q E hr h => ?_)
  · obtain ⟨_, _, _, _, _, _, _, rfl, _⟩ := h
    rfl
  · obtain ⟨F0, R, v_actual0, x_actual0, v_due0, x_due0, r, rfl, hs_actual0, hs_due0, S0, hm, kk⟩ := h
    have hu := hu_of hr
    unfold m_law_same_v1 at hm
    refine ⟨_, (pss_cons (ps_if (pt_cmpR op_isN (pv 1) pe_non (nomark _)) (pss_one (ps_ret (pe_cmpR op_isN (pv 0) pe_non (nomark _)))) pss_nil) (pss_cons (ps_if (pt_pure (PW.pt (pw_or (pt_val (pe_callB call_isi (by rfl) T.z_isinstance (by decide +kernel) (pa_cons (pv 1) (pa_cons (pe_bltn (v := .ty "bool") (by rfl) T.z_bool (by decide +kernel) rfl) pa_nil)))) (pw_or1 (pt_val (pe_callB call_isi (by rfl) T.z_isinstance (by decide +kernel) (pa_cons (pv 0) (pa_cons (pe_bltn (v := .ty "bool") (by rfl) T.z_bool (by decide +kernel) rfl) pa_nil)))))))) (pss_one ps_never) pss_nil) (pss_cons (ps_if (pt_pure (PW.pt (pw_or (pt_val (pe_callB call_isi (by rfl) T.z_isinstance (by decide +kernel) (pa_cons (pv 1) (pa_cons (pe_bltn (v := .ty "int") (by rfl) T.z_int (by decide +kernel) rfl) pa_nil)))) (pw_or1 pt_void)))) (pss_one (ps_ret (pe_pure (pe_and (pe_cmpR oB_eq (pe_callB call_isi (by rfl) T.z_isinstance (by decide +kernel) (pa_cons (pv 0) (pa_cons (pe_bltn (v := .ty "int") (by rfl) T.z_int (by decide +kernel) rfl) pa_nil))) (pe_callB call_isi (by rfl) T.z_isinstance (by decide +kernel) (pa_cons (pv 1) (pa_cons (pe_bltn (v := .ty "int") (by rfl) T.z_int (by decide +kernel) rfl) pa_nil))) (nomark _)) (pe_and (pe_cmpR oB_eq (pe_callB call_isi (by rfl) T.z_isinstance (by decide +kernel) (pa_cons (pv 0) (pa_cons (pe_bltn (v := .ty "str") (by rfl) T.z_str (by decide +kernel) rfl) pa_nil))) (pe_callB call_isi (by rfl) T.z_isinstance (by decide +kernel) (pa_cons (pv 1) (pa_cons (pe_bltn (v := .ty "str") (by rfl) T.z_str (by decide +kernel) rfl) pa_nil))) (nomark _)) (pe_one (pe_cmpR oI_eq (pv 0) (pv 1) (nomark _)))))))) pss_nil) (pss_cons ps_never (pss_cons ps_never (pss_cons ps_never (pss_cons ps_never (pss_one ps_never)))))))), ?_⟩
    refine seqI fun N1 hN2 => ?_
    revert hm; refine optI (fun e3 hm => ?_) (fun z5 e4 hm => ?_)
    · obtain rfl := rOpt_none e3 hs_due0
      refine ⟨_, rfl, rfl, _, rfl, ?_⟩
      refine iteT ?_
      refine ⟨_, rfl, rfl, ?_⟩
      rw [show _ = (x_actual0).isNone from (opt_isN (r := rInt) (F := F0) hs_actual0)]
      obtain rfl := Option.some.inj hm
      exact kk
    · skip
      have p6 := (rOpt_un e4 hs_due0)
      obtain rfl := rInt_e p6
      refine ⟨_, rfl, rfl, _, rfl, ?_⟩
      refine iteF ?_
      refine hN2 _ _ ?_
      refine seqI fun N7 hN8 => ?_
      refine ⟨false, ?_, ?_⟩
      · refine ⟨_, rfl, _, _, _, _, _, rfl, .ty _, (.base (.int _)), (by first | rfl | exact PySem.W.kitOne_builtin rfl | decide +kernel), _, rfl, ?_⟩
        refine iteF ?_
        refine ⟨_, rfl, _, _, _, _, _, rfl, .ty _, (tyx_opt (T := "int") hs_actual0 (fun h => by obtain rfl := rInt_e h; exact .base (.int _))), (kit_optN (by decide +kernel) (by decide +kernel)), _, rfl, ?_⟩
        exact ⟨rfl, rfl⟩
      refine iteF ?_
      refine hN8 _ _ ?_
      refine seqI fun N9 hN10 => ?_
      refine ⟨true, ?_, ?_⟩
      · refine ⟨_, rfl, _, _, _, _, _, rfl, .ty _, (.base (.int _)), (by first | rfl | exact PySem.W.kitOne_builtin rfl | decide +kernel), _, rfl, ?_⟩
        refine iteT ?_
        exact ⟨rfl, rfl⟩
      refine iteT ?_
      revert hm; refine bndI fun b11 e12 hm => ?_
      refine ⟨V.bl b11, ?_, ?_⟩
      · clear hm
        have hm := e12
        clear e12
        refine ⟨_, rfl, _, _, _, _, _, rfl, .ty _, (tyx_opt (T := "int") hs_actual0 (fun h => by obtain rfl := rInt_e h; exact .base (.int _))), (kit_optY (by decide +kernel) (by decide +kernel)), _, rfl, _, _, _, _, _, rfl, .ty _, (.base (.int _)), (by first | rfl | exact PySem.W.kitOne_builtin rfl | decide +kernel), _, _, rfl, rfl, _, rfl, ?_⟩
        by_cases c13 : (decide (((x_actual0).isSome) = true)) = true
        · revert hm; refine ifTI c13 fun hm => ?_
          refine goT c13 ?_
          refine ⟨_, rfl, _, _, _, _, _, rfl, .ty _, (tyx_opt (T := "int") hs_actual0 (fun h => by obtain rfl := rInt_e h; exact .base (.int _))), (kit_optN (by decide +kernel) (by decide +kernel)), _, rfl, _, _, _, _, _, rfl, .ty _, (.base (.int _)), (by first | rfl | exact PySem.W.kitOne_builtin rfl | decide +kernel), _, _, rfl, rfl, _, rfl, ?_⟩
          by_cases c14 : (decide (false = false)) = true
          · revert hm; refine ifTI c14 fun hm => ?_
            refine goT c14 ?_
            refine ⟨_, rfl, _, rfl, ?_⟩
            revert hm; refine bndI fun z15 e16 hm => ?_
            have p17 := (rOpt_un e16 hs_actual0)
            obtain rfl := rInt_e p17
            refine ⟨_, _, rfl, rfl, ?_⟩
            exact ⟨congrArg V.bl (Option.some.inj hm), rfl⟩
          · revert hm; refine ifFI c14 fun hm => ?_
            exact goF c14 ⟨congrArg V.bl (Option.some.inj hm), rfl⟩
        · revert hm; refine ifFI c13 fun hm => ?_
          exact goF c13 ⟨congrArg V.bl (Option.some.inj hm), rfl⟩
      obtain rfl := Option.some.inj hm
      exact kk

def sp_refutes (T : Txt K mg) : Sp := fun vs H Q _ => ∃ (F0 : Hp) (R : Own) (a_clauses0 : Addr) (v_clauses0 : List V) (x_clauses0 : (List (Bool × List Int))) (a_log0 : Addr) (v_log0 : List V) (x_log0 : (List (Bool × List Int))) (r : Bool),
  vs = [V.ref a_clauses0, V.ref a_log0] ∧ SqL K F0 a_clauses0 v_clauses0 ∧ LR ((rSeq K rInt) F0) v_clauses0 x_clauses0 ∧ SqL K F0 a_log0 v_log0 ∧ LR ((rSeq K rInt) F0) v_log0 x_log0 ∧ Sta F0 ([] ++ R) H ∧ m_refutes x_clauses0 x_log0 = some r ∧ ∀ (F1 : Hp) (H1 : Hp), Same F0 F1 → Sta F1 ([] ++ R) H1 → Q (V.bl r) H1

theorem ok_refutes (T : Txt K mg) : FnOk P w K mg base CX0 8 T.a_refutes T.d_refutes ["clauses", "log"] (sp_refutes T) := by
  refine T.F_refutes.ok sc_refutes (fun vs H Q E h => ?_) (fun cdv A outer s H vs Q E hr h => ?_)
  · obtain ⟨_, _, _, _, _, _, _, _, _, rfl, _⟩ := h
    rfl
  · obtain ⟨F0, R, a_clauses0, v_clauses0, x_clauses0, a_log0, v_log0, x_log0, r, rfl, hs_clauses0, hl_clauses0, hs_log0, hl_log0, S0, hm, kk⟩ := h
    have hu := hu_of hr
    unfold m_refutes at hm
    refine ⟨_, (pss_cons (ps_if (pt_pure (PW.pt (pw_or (pt_not (pt_truth (pv 1) (by intro _; rfl))) (pw_or1 (pt_cmpR op_gt (pe_callB call_len_seq (by rfl) T.z_len PySem.boot_len (pa_cons (pe_ix ix_list (pv 1) (pe_un un_neg pe_int) (fun _ _ => rfl)) pa_nil)) pe_int (nomark _)))))) (pss_one (ps_ret pe_bl)) pss_nil) (pss_one (ps_ret (pe_cmpR op_isN (pe_call (ok_first_bad T) (hr.mono (by decide)) rfl T.g_first_bad T.F_first_bad.kp T.b_first_bad .nil pass0 (pa_cons (pv 0) (pa_cons (pv 1) pa_nil))) pe_non (nomark _))))), ?_⟩
    refine seqI fun N1 hN2 => ?_
    revert hm; refine bndI fun b3 e4 hm => ?_
    refine ⟨b3, ?_, ?_⟩
    · clear hm
      have hm := e4
      clear e4
      refine ⟨_, rfl, ((!x_log0.isEmpty)), (.inl ⟨_, (SqL.mono hs_log0 ((Same.refl _).trans S0.sub)), by rw [LR.isEmpty hl_log0]⟩), ?_⟩
      by_cases c5 : (!(!x_log0.isEmpty)) = true
      · revert hm; refine ifTI c5 fun hm => ?_
        exact goT c5 ⟨Option.some.inj hm, rfl⟩
      · revert hm; refine ifFI c5 fun hm => ?_
        refine goF c5 ?_
        revert hm; refine bndI fun y6 e7 hm => ?_
        obtain ⟨v8, ev9, rv10⟩ := LR.atI hl_log0 e7
        obtain ⟨a11, v12, rfl, hs13, hl14⟩ := rv10
        refine ⟨_, rfl, _, rfl, _, _, _, _, rfl, rfl, (SqL.mono hs_log0 ((Same.refl _).trans S0.sub)), ev9, _, _, rfl, (SqB.or (SqB.mono hs13 ((Same.refl _).trans S0.sub))), ?_⟩
        rw [LR.length hl14]
        refine ⟨_, _, rfl, rfl, _, rfl, ?_⟩
        exact ⟨Option.some.inj hm, rfl⟩
    by_cases c15 : b3 = true
    · revert hm; refine ifTI c15 fun hm => ?_
      refine goT c15 ?_
      obtain rfl := Option.some.inj hm
      exact kk _ _ (Same.refl _) S0
    · revert hm; refine ifFI c15 fun hm => ?_
      refine goF c15 ?_
      refine hN2 _ _ ?_
      revert hm; refine bndI fun y16 e17 hm => ?_
      refine ⟨_, rfl, _, rfl, F0, ([] ++ R), a_clauses0, v_clauses0, x_clauses0, a_log0, v_log0, x_log0, y16, rfl, (SqL.mono hs_clauses0 (Same.refl _)), (hl_clauses0), (SqL.mono hs_log0 (Same.refl _)), (hl_log0), S0, (by exact e17), fun F18 H19 v22 s20 S21 p23 => ?_⟩
      have S24 : Sta F18 ([] ++ R) _ := S21
      refine ⟨rfl, ?_⟩
      clear S21
      rw [show _ = (y16).isNone from (opt_isN (r := rInt) (F := F18) p23)]
      obtain rfl := Option.some.inj hm
      exact kk _ _ s20 S24

def sp_law_asked (T : Txt K mg) : Sp := fun vs H Q _ => ∃ (F0 : Hp) (R : Own) (a_clauses0 : Addr) (v_clauses0 : List V) (x_clauses0 : (List (List Int))) (a_log0 : Addr) (v_log0 : List V) (x_log0 : (List (List Int))) (r : Bool),
  vs = [V.ref a_clauses0, V.ref a_log0] ∧ SqL K F0 a_clauses0 v_clauses0 ∧ LR ((rLst K rInt) F0) v_clauses0 x_clauses0 ∧ SqL K F0 a_log0 v_log0 ∧ LR ((rLst K rInt) F0) v_log0 x_log0 ∧ Sta F0 ([] ++ R) H ∧ m_law_asked x_clauses0 x_log0 = some r ∧ ∀ (F1 : Hp) (H1 : Hp), Same F0 F1 → Sta F1 ([] ++ R) H1 → Q (V.bl r) H1

theorem ok_law_asked (T : Txt K mg) : FnOk P w K mg base CX0 9 T.a_law_asked T.d_law_asked ["clauses", "log"] (sp_law_asked T) := by
  refine T.F_law_asked.ok sc_law_asked (fun vs H Q E h => ?_) (fun cdv A outer s H vs Q E hr h => ?_)
  · obtain ⟨_, _, _, _, _, _, _, _, _, rfl, _⟩ := h
    rfl
  · obtain ⟨F0, R, a_clauses0, v_clauses0, x_clauses0, a_log0, v_log0, x_log0, r, rfl, hs_clauses0, hl_clauses0, hs_log0, hl_log0, S0, hm, kk⟩ := h
    have hu := hu_of hr
    unfold m_law_asked at hm
    refine ⟨_, (pss_cons (ps_set (i := 2) sc_law_asked.nd rfl (Or.inl rfl) (pe_call (ok_law_handed T) (hr.mono (by decide)) rfl T.g_law_handed T.F_law_handed.kp T.b_law_handed .nil pass0 (pa_cons (pv 0) pa_nil))) (pss_cons (ps_set (i := 3) sc_law_asked.nd rfl (Or.inl rfl) (pe_call (ok_law_handed T) (hr.mono (by decide)) rfl T.g_law_handed T.F_law_handed.kp T.b_law_handed .nil pass0 (pa_cons (pv 1) pa_nil))) (pss_cons (ps_set (i := 4) sc_law_asked.nd rfl (Or.inl rfl) (pe_call (ok_law_follows T) (hr.mono (by decide)) rfl T.g_law_follows T.F_law_follows.kp T.b_law_follows .nil pass0 (pa_cons (pv 0) (pa_cons (pv 1) pa_nil)))) (pss_cons (ps_set (i := 5) sc_law_asked.nd rfl (Or.inl rfl) (pe_lst pa_nil)) (pss_cons (ps_forG (fun _ _ z => z) PassesOwn.never (pge_call (ok_checked_lines T) (hr.mono (by decide)) rfl T.g_checked_lines T.F_checked_lines.kp T.b_checked_lines (pa_cons (pv 2) (pa_cons (pv 3) pa_nil))) (hr.mono (by decide)) (pg_name (i := 6) sc_law_asked.nd rfl (Or.inl rfl)) (pss_cons (ps_expr (pe_bm PySem.F.plainAttrs_list PySem.F.slot_list_append PySem.F.type_list_append mt_append (pv 5) (pa_cons (pv 6) pa_nil))) (pss_one (ps_if (pt_cmpR op_gt (pe_callB call_len_seq (by rfl) T.z_len PySem.boot_len (pa_cons (pv 5) pa_nil)) (pe_callB call_len_seq (by rfl) T.z_len PySem.boot_len (pa_cons (pv 1) pa_nil)) (nomark _)) (pss_one (ps_ret pe_bl)) pss_nil)))) (pss_cons (ps_set (i := 7) sc_law_asked.nd rfl (Or.inl rfl) pe_non) (pss_cons (ps_for PassesOwn.never rfl (pi_range3 rfl T.z_range (pa_cons (pe_op op_sub (pe_callB call_len_seq (by rfl) T.z_len PySem.boot_len (pa_cons (pv 4) pa_nil)) pe_int) (pa_cons (pe_un un_neg pe_int) (pa_cons (pe_un un_neg pe_int) pa_nil)))) (pg_name (i := 8) sc_law_asked.nd rfl (Or.inl rfl)) (pss_one (ps_if (pt_not (pt_val (pe_ix ix_list (pv 4) (pv 8) (fun _ _ => rfl)))) (pss_one (ps_set (i := 7) sc_law_asked.nd rfl (Or.inl rfl) (pv 8))) pss_nil))) (pss_cons (ps_if (pt_cut (PW.pt (pw_or (pt_not (pt_val (pe_call (ok_law_same_v2 T) (hr.mono (by decide)) rfl T.g_law_same T.F_law_same.kp T.b_law_same .nil pass0 (pa_cons (pv 5) (pa_cons (pv 4) pa_nil))))) (pw_or1 (pt_not (pt_val (pe_call (ok_law_same_v1 T) (hr.mono (by decide)) rfl T.g_law_same T.F_law_same.kp T.b_law_same .nil pass0 (pa_cons (pe_call (ok_first_bad T) (hr.mono (by decide)) rfl T.g_first_bad T.F_first_bad.kp T.b_first_bad .nil pass0 (pa_cons (pv 2) (pa_cons (pv 3) pa_nil))) (pa_cons (pv 7) pa_nil))))))))) (pss_one (ps_ret pe_bl)) pss_nil) (pss_cons (ps_set (i := 9) sc_law_asked.nd rfl (Or.inl rfl) (pe_cut (pe_and (pe_cmpR (op_neD hr.units) (pv 1) (pe_lst pa_nil) (nomark _)) (pe_and (pe_cmpR op_isN (pv 7) pe_non (nomark _)) (pe_one (pe_cmpR (op_eqD hr.units) (pe_ix ix_list (pv 1) (pe_op op_sub (pe_callB call_len_seq (by rfl) T.z_len PySem.boot_len (pa_cons (pv 1) pa_nil)) pe_int) (fun _ _ => rfl)) (pe_lst pa_nil) (nomark _))))))) (pss_cons (ps_if (pt_not (pt_val (pe_call (ok_law_same T) (hr.mono (by decide)) rfl T.g_law_same T.F_law_same.kp T.b_law_same .nil pass0 (pa_cons (pe_call (ok_refutes T) (hr.mono (by decide)) rfl T.g_refutes T.F_refutes.kp T.b_refutes .nil pass0 (pa_cons (pv 2) (pa_cons (pv 3) pa_nil))) (pa_cons (pv 9) pa_nil))))) (pss_one (ps_ret pe_bl)) pss_nil) (pss_one (ps_ret (pe_cut (pe_and (pe_cmpR (op_eqD hr.units) (pv 2) (pe_call (ok_law_handed T) (hr.mono (by decide)) rfl T.g_law_handed T.F_law_handed.kp T.b_law_handed .nil pass0 (pa_cons (pv 0) pa_nil)) (nomark _)) (pe_one (pe_cmpR (op_eqD hr.units) (pv 3) (pe_call (ok_law_handed T) (hr.mono (by decide)) rfl T.g_law_handed T.F_law_handed.kp T.b_law_handed .nil pass0 (pa_cons (pv 1) pa_nil)) (nomark _))))))))))))))))), ?_⟩
    refine seqI fun N1 hN2 => ?_
    revert hm; refine bndI fun y3 e4 hm => ?_
    refine ⟨_, rfl, F0, ([] ++ R), a_clauses0, v_clauses0, x_clauses0, y3, rfl, (SqL.mono hs_clauses0 (Same.refl _)), (hl_clauses0), S0, (by exact e4), fun F5 H6 a9 v10 s7 S8 hs11 hl12 => ?_⟩
    have S13 : Sta F5 ([] ++ R) _ := S8
    refine hN2 _ _ ?_
    refine seqI fun N14 hN15 => ?_
    revert hm; refine bndI fun y16 e17 hm => ?_
    refine ⟨_, rfl, F5, ([] ++ R), a_log0, v_log0, x_log0, y16, rfl, (SqL.mono hs_log0 s7), ((hl_log0.mono s7)), S13, (by exact e17), fun F18 H19 a22 v23 s20 S21 hs24 hl25 => ?_⟩
    clear S8
    have S26 : Sta F18 ([] ++ R) _ := S21
    refine hN15 _ _ ?_
    refine seqI fun N27 hN28 => ?_
    revert hm; refine bndI fun y29 e30 hm => ?_
    refine ⟨_, rfl, _, rfl, F18, ([] ++ R), a_clauses0, v_clauses0, x_clauses0, a_log0, v_log0, x_log0, y29, rfl, (SqL.mono hs_clauses0 (s7.trans s20)), ((hl_clauses0.mono (s7.trans s20))), (SqL.mono hs_log0 (s7.trans s20)), ((hl_log0.mono (s7.trans s20))), S26, (by exact e30), fun F31 H32 a35 v36 s33 S34 hl37 => ?_⟩
    clear S21
    have S38 : Sta F31 ([(a35, HO.lst v36)] ++ R) _ := S34
    refine hN28 _ _ ?_
    refine seqI fun N39 hN40 => ?_
    refine ⟨(by show 0 ≤ sizeLine; decide), ?_⟩
    clear S34
    intro a41 np42
    have hl43 : LR (rBool F31) [] ([] : (List Bool)) := trivial
    have S44 : Sta F31 ([(a41, HO.lst []), (a35, HO.lst v36)] ++ R) _ := S38.new np42 _
    refine hN40 _ _ ?_
    refine seqI fun N45 hN46 => ?_
    revert hm; refine bndI fun y47 e48 hm => ?_
    revert hm; refine bndI fun y49 e50 hm51 => ?_
    refine ⟨_, rfl, _, rfl, F31, y47, ⟨a9, v10, y3, a22, v23, y16, rfl, (SqL.mono hs11 (s20.trans s33)), ((hl12.mono (s20.trans s33))), (SqL.mono hs24 s33), ((hl25.mono s33)), (by exact e48)⟩, [(a41, HO.lst []), (a35, HO.lst v36)], R, F31, fun i F68 cs σ => ∃ (st1 : (List Bool)) (v72 : List V) (o71 : Option V), σ = [some (V.ref a_clauses0), some (V.ref a_log0), some (V.ref a9), some (V.ref a22), some (V.ref a35), some (V.ref a41), o71, none, none, none] ∧ cs = [(a41, HO.lst v72), (a35, HO.lst v36)] ∧ Same F31 F68 ∧ LR (rBool F68) v72 st1 ∧ m_law_asked_l1 x_log0 (List.drop i y47) st1 = some y49, Same.refl _, S44, ⟨([] : (List Bool)), [], _, rfl, rfl, (Same.refl _), hl43, e50⟩, ?_, ?_⟩
    clear S38
    · intro i F68 cs σ x75 v76 F79 R82 H2 hi hI s80 S81 hR83 rx78
      obtain ⟨st1, v72, o71, rfl, rfl, s69, hl73, hm⟩ := hI
      rw [drop_cons hi, m_law_asked_l1] at hm
      obtain rfl := rBool_e rx78
      refine seqI fun N86 hN87 => ?_
      revert hm; refine grdI fun g88 hm => ?_
      refine ⟨_, rfl, .inl ⟨rfl, _, (SqL.of (S81.get 0 rfl))⟩, _, rfl, _, _, _, rfl, rfl, (S81.get 0 rfl), (by rw [LR.length (hl73.mono s80)]; exact of_decide_eq_true g88), ?_⟩
      have hl89 : LR (rBool F79) (v72 ++ [V.bl x75]) (st1 ++ [x75]) := LR.snoc (hl73.mono s80) rfl
      have S90 : Sta F79 ([(a41, HO.lst (v72 ++ [V.bl x75])), (a35, HO.lst v36)] ++ R82) _ := S81.set 0 rfl _
      refine hN87 _ _ ?_
      refine ⟨_, rfl, _, _, rfl, .inl (SqL.of (S90.get 0 rfl)), ?_⟩
      clear S81
      rw [LR.length hl89]
      refine ⟨_, rfl, _, _, rfl, .inl (SqL.mono hs_log0 ((s7.trans (s20.trans (s33.trans (s69.trans s80)))).trans S90.sub)), ?_⟩
      rw [LR.length (hl_log0.mono (s7.trans (s20.trans (s33.trans (s69.trans s80)))))]
      refine ⟨_, _, rfl, rfl, _, rfl, ?_⟩
      by_cases c91 : (decide (((st1 ++ [x75]).length : Int) > (x_log0.length : Int))) = true
      · revert hm; refine ifTI c91 fun hm => ?_
        refine goT c91 ?_
        obtain rfl := Option.some.inj hm
        have hm := hm51
        have S92 : Sta F79 ([(a41, HO.lst (v72 ++ [V.bl x75])), (a35, HO.lst v36)] ++ R) _ := hR83 _ _ _ S90
        obtain rfl := Option.some.inj hm
        have S93 : Sta F79 ([] ++ R) _ := S92.pick [] (by decide) rfl
        exact kk _ _ (s7.trans (s20.trans (s33.trans (s69.trans s80)))) S93
      · revert hm; refine ifFI c91 fun hm => ?_
        refine goF c91 ?_
        exact ⟨_, [(a41, HO.lst (v72 ++ [V.bl x75])), (a35, HO.lst v36)], (Same.refl _), S90, ⟨(st1 ++ [x75]), (v72 ++ [V.bl x75]), _, rfl, rfl, (s69.trans s80), hl89, hm⟩⟩
    · intro F68 cs σ F79 H2 hI s80 S81
      obtain ⟨st1, v72, o71, rfl, rfl, s69, hl73, hm⟩ := hI
      rw [List.drop_length, m_law_asked_l1] at hm
      obtain rfl := Option.some.inj hm
      have hm := hm51
      refine hN46 _ _ ?_
      refine seqI fun N94 hN95 => ?_
      refine hN95 _ _ ?_
      refine seqI fun N96 hN97 => ?_
      refine ⟨_, rfl, _, _, rfl, .inl (SqL.of (S81.get 1 rfl)), ?_⟩
      rw [LR.length (hl37.mono (s69.trans s80))]
      revert hm; refine grdI fun g101 hm => ?_
      revert hm; refine bndI fun y98 e99 hm100 => ?_
      refine ⟨_, _, rfl, rfl, _, rfl, _, rfl, _, _, _, _, rfl, (rng2_neg g101), for_rngC (lo := ((y29.length : Int) - (1 : Int))) (c := -1) (n := (((y29.length : Int) - (1 : Int)) - (-(1 : Int))).toNat) (fun i σ H2 => ∃ (st2 : (Option Int)) (F118 : Hp) (v122 : V) (o121 : Option V), σ = [some (V.ref a_clauses0), some (V.ref a_log0), some (V.ref a9), some (V.ref a22), some (V.ref a35), some (V.ref a41), o71, some (v122), o121, none] ∧ Same F79 F118 ∧ Sta F118 ([(a41, HO.lst v72), (a35, HO.lst v36)] ++ R) H2 ∧ (rOpt rInt) F118 v122 st2 ∧ m_law_asked_l2 y29 (List.drop i (pyRangeC ((y29.length : Int) - (1 : Int)) (-1) (((y29.length : Int) - (1 : Int)) - (-(1 : Int))).toNat)) st2 = some y98) ⟨none, F79, V.non, _, rfl, (Same.refl _), S81, rfl, e99⟩ ?_ ?_⟩
      · rintro i x124 σ H2 hi ⟨st2, F118, v122, o121, rfl, s119, S120, p123, hm⟩
        rw [drop_cons hi, m_law_asked_l2] at hm
        revert hm; refine bndI fun y126 e127 hm => ?_
        obtain ⟨v128, ev129, rv130⟩ := LR.atI hl37 e127
        obtain rfl := rBool_e rv130
        refine ⟨_, rfl, _, rfl, _, _, _, _, rfl, rfl, (SqL.of (S120.get 1 rfl)), ev129, _, rfl, ?_⟩
        by_cases c131 : (!y126) = true
        · revert hm; refine ifTI c131 fun hm => ?_
          refine goT c131 ?_
          refine ⟨_, rfl, ?_⟩
          exact ⟨(some x124), F118, (V.int x124), _, rfl, s119, S120, rOpt_some rfl, hm⟩
        · revert hm; refine ifFI c131 fun hm => ?_
          refine goF c131 ?_
          exact ⟨st2, F118, v122, _, rfl, s119, S120, (MonoR.mono (Same.refl _) p123), hm⟩
      · rintro σ H2 ⟨st2, F118, v122, o121, rfl, s119, S120, p123, hm⟩
        rw [drop_rngC, m_law_asked_l2] at hm
        obtain rfl := Option.some.inj hm
        have hm := hm100
        refine hN97 _ _ ?_
        refine seqI fun N132 hN133 => ?_
        revert hm; refine bndI fun b134 e135 hm => ?_
        refine ⟨fun b H' => ∃ (F136 : Hp), Same F118 F136 ∧ Sta F136 ([(a41, HO.lst v72), (a35, HO.lst v36)] ++ R) H' ∧ b134 = b, ?_, ?_⟩
        · clear hm
          have hm := e135
          clear e135
          revert hm; refine bndI fun y139 e140 hm => ?_
          refine ⟨_, rfl, _, rfl, F118, ([(a41, HO.lst v72), (a35, HO.lst v36)] ++ R), a41, v72, st1, a35, v36, y29, y139, rfl, (SqL.of (S120.getO 0 rfl)), (hl73.mono (s80.trans s119)), (SqL.of (S120.getO 1 rfl)), (hl37.mono (s69.trans (s80.trans s119))), S120, (by exact e140), _, rfl, ?_⟩
          by_cases c141 : (!y139) = true
          · revert hm; refine ifTI c141 fun hm => ?_
            obtain rfl := Option.some.inj hm
            exact goT c141 ⟨F118, (Same.refl _), S120, rfl⟩
          · revert hm; refine ifFI c141 fun hm => ?_
            refine goF c141 ?_
            revert hm; refine bndI fun y142 e143 hm => ?_
            refine ⟨_, rfl, _, rfl, F118, ([(a41, HO.lst v72), (a35, HO.lst v36)] ++ R), a9, v10, y3, a22, v23, y16, y142, rfl, (SqL.mono hs11 (s20.trans (s33.trans (s69.trans (s80.trans s119))))), ((hl12.mono (s20.trans (s33.trans (s69.trans (s80.trans s119)))))), (SqL.mono hs24 (s33.trans (s69.trans (s80.trans s119)))), ((hl25.mono (s33.trans (s69.trans (s80.trans s119))))), S120, (by exact e143), fun F144 H145 v148 s146 S147 p149 => ?_⟩
            have S150 : Sta F144 ([(a41, HO.lst v72), (a35, HO.lst v36)] ++ R) _ := S147
            revert hm; refine bndI fun y151 e152 hm => ?_
            refine ⟨_, rfl, F144, ([(a41, HO.lst v72), (a35, HO.lst v36)] ++ R), v148, y142, v122, st2, y151, rfl, (MonoR.mono (Same.refl _) p149), (MonoR.mono s146 p123), S150, (by exact e152), _, rfl, ?_⟩
            clear S147
            obtain rfl := Option.some.inj hm
            exact ⟨F144, s146, S150, rfl⟩
        rintro b153 H154 ⟨F136, s137, S138, rfl⟩
        by_cases c155 : b134 = true
        · revert hm; refine ifTI c155 fun hm => ?_
          refine goT c155 ?_
          obtain rfl := Option.some.inj hm
          have S156 : Sta F136 ([] ++ R) _ := S138.pick [] (by decide) rfl
          exact kk _ _ (s7.trans (s20.trans (s33.trans (s69.trans (s80.trans (s119.trans s137)))))) S156
        · revert hm; refine ifFI c155 fun hm => ?_
          refine goF c155 ?_
          refine hN133 _ _ ?_
          refine seqI fun N157 hN158 => ?_
          revert hm; refine bndI fun b159 e160 hm => ?_
          refine ⟨fun b H' => ∃ (F161 : Hp), Same F136 F161 ∧ Sta F161 ([(a41, HO.lst v72), (a35, HO.lst v36)] ++ R) H' ∧ V.bl b159 = b, ?_, ?_⟩
          · clear hm
            have hm := e160
            clear e160
            refine ⟨_, rfl, (by show 0 ≤ sizeLine; decide), ?_⟩
            intro a164 np165
            have hl166 : LR ((rLst K rInt) F136) [] ([] : (List (List Int))) := trivial
            have S167 : Sta F136 ([(a164, HO.lst []), (a41, HO.lst v72), (a35, HO.lst v36)] ++ R) _ := S138.new np165 _
            refine ⟨_, _, (dat_dp (K := K) (r := (rLst K (rLst K rInt))) ⟨_, _, rfl, (SqL.mono hs_log0 ((s7.trans (s20.trans (s33.trans (s69.trans (s80.trans (s119.trans s137)))))).trans S167.sub)), LR.mono (hl_log0.mono (s7.trans (s20.trans (s33.trans (s69.trans (s80.trans (s119.trans s137))))))) S167.sub⟩), (dat_dp (K := K) (r := (rLst K (rLst K rInt))) ⟨_, _, rfl, (SqL.of (S167.get 0 rfl)), LR.mono hl166 S167.sub⟩), (dat_shaped (K := K) (r := (rLst K (rLst K rInt))) (Nat.le_of_ble_eq_true rfl) _ (DPl.pl _)), (dat_shaped (K := K) (r := (rLst K (rLst K rInt))) (Nat.le_of_ble_eq_true rfl) _ (DPl.pl _)), ?_⟩
            clear S138
            rw [dat_eqv (K := K) (r := (rLst K (rLst K rInt))) x_log0 ([] : (List (List Int)))]
            refine ⟨_, rfl, ?_⟩
            by_cases c168 : (!decide (x_log0 = ([] : (List (List Int))))) = true
            · revert hm; refine ifTI c168 fun hm => ?_
              refine goT c168 ?_
              refine ⟨_, rfl, rfl, ?_⟩
              rw [show _ = (st2).isNone from (opt_isN (r := rInt) (F := F118) p123)]
              refine ⟨_, rfl, ?_⟩
              by_cases c169 : (st2).isNone = true
              · revert hm; refine ifTI c169 fun hm => ?_
                refine goT c169 ?_
                refine ⟨_, rfl, _, rfl, _, _, rfl, .inl (SqL.mono hs_log0 ((s7.trans (s20.trans (s33.trans (s69.trans (s80.trans (s119.trans s137)))))).trans S167.sub)), ?_⟩
                rw [LR.length (hl_log0.mono (s7.trans (s20.trans (s33.trans (s69.trans (s80.trans (s119.trans s137)))))))]
                revert hm; refine bndI fun y170 e171 hm => ?_
                obtain ⟨v172, ev173, rv174⟩ := LR.atI hl_log0 e171
                obtain ⟨a175, v176, rfl, hs177, hl178⟩ := rv174
                refine ⟨_, _, rfl, rfl, _, _, _, _, rfl, rfl, (SqL.mono hs_log0 ((s7.trans (s20.trans (s33.trans (s69.trans (s80.trans (s119.trans s137)))))).trans S167.sub)), ev173, (by show 0 ≤ sizeLine; decide), ?_⟩
                intro a179 np180
                have hl181 : LR (rInt F136) [] ([] : (List Int)) := trivial
                have S182 : Sta F136 ([(a179, HO.lst []), (a164, HO.lst []), (a41, HO.lst v72), (a35, HO.lst v36)] ++ R) _ := S167.new np180 _
                refine ⟨_, _, (dat_dp (K := K) (r := (rLst K rInt)) ⟨_, _, rfl, (SqL.mono hs177 ((s7.trans (s20.trans (s33.trans (s69.trans (s80.trans (s119.trans s137)))))).trans S182.sub)), LR.mono (hl178.mono (s7.trans (s20.trans (s33.trans (s69.trans (s80.trans (s119.trans s137))))))) S182.sub⟩), (dat_dp (K := K) (r := (rLst K rInt)) ⟨_, _, rfl, (SqL.of (S182.get 0 rfl)), LR.mono hl181 S182.sub⟩), (dat_shaped (K := K) (r := (rLst K rInt)) (Nat.le_of_ble_eq_true rfl) _ (DPl.pl _)), (dat_shaped (K := K) (r := (rLst K rInt)) (Nat.le_of_ble_eq_true rfl) _ (DPl.pl _)), ?_⟩
                clear S167
                rw [dat_eqv (K := K) (r := (rLst K rInt)) y170 ([] : (List Int))]
                obtain rfl := Option.some.inj hm
                have S183 : Sta F136 ([(a41, HO.lst v72), (a35, HO.lst v36)] ++ R) _ := S182.pick [2, 3] (by decide) rfl
                exact ⟨F136, (Same.refl _), S183, rfl⟩
              · revert hm; refine ifFI c169 fun hm => ?_
                obtain rfl := Option.some.inj hm
                have S184 : Sta F136 ([(a41, HO.lst v72), (a35, HO.lst v36)] ++ R) _ := S167.pick [1, 2] (by decide) rfl
                exact goF c169 ⟨F136, (Same.refl _), S184, rfl⟩
            · revert hm; refine ifFI c168 fun hm => ?_
              obtain rfl := Option.some.inj hm
              have S185 : Sta F136 ([(a41, HO.lst v72), (a35, HO.lst v36)] ++ R) _ := S167.pick [1, 2] (by decide) rfl
              exact goF c168 ⟨F136, (Same.refl _), S185, rfl⟩
          rintro b186 H187 ⟨F161, s162, S163, rfl⟩
          refine hN158 _ _ ?_
          refine seqI fun N188 hN189 => ?_
          revert hm; refine bndI fun y190 e191 hm => ?_
          refine ⟨_, rfl, _, rfl, F161, ([(a41, HO.lst v72), (a35, HO.lst v36)] ++ R), a9, v10, y3, a22, v23, y16, y190, rfl, (SqL.mono hs11 (s20.trans (s33.trans (s69.trans (s80.trans (s119.trans (s137.trans s162))))))), ((hl12.mono (s20.trans (s33.trans (s69.trans (s80.trans (s119.trans (s137.trans s162)))))))), (SqL.mono hs24 (s33.trans (s69.trans (s80.trans (s119.trans (s137.trans s162)))))), ((hl25.mono (s33.trans (s69.trans (s80.trans (s119.trans (s137.trans s162))))))), S163, (by exact e191), fun F192 H193 s194 S195 => ?_⟩
          have S196 : Sta F192 ([(a41, HO.lst v72), (a35, HO.lst v36)] ++ R) _ := S195
          refine ⟨_, rfl, y190, b159, _, rfl, rfl, _, rfl, ?_⟩
          clear S195
          by_cases c197 : (!(m_law_same y190 b159)) = true
          · revert hm; refine ifTI c197 fun hm => ?_
            refine goT c197 ?_
            obtain rfl := Option.some.inj hm
            have S198 : Sta F192 ([] ++ R) _ := S196.pick [] (by decide) rfl
            exact kk _ _ (s7.trans (s20.trans (s33.trans (s69.trans (s80.trans (s119.trans (s137.trans (s162.trans s194)))))))) S198
          · revert hm; refine ifFI c197 fun hm => ?_
            refine goF c197 ?_
            refine hN189 _ _ ?_
            revert hm; refine bndI fun b199 e200 hm => ?_
            refine ⟨fun b H' => ∃ (F201 : Hp), Same F192 F201 ∧ Sta F201 ([(a41, HO.lst v72), (a35, HO.lst v36)] ++ R) H' ∧ V.bl b199 = b, ?_, ?_⟩
            · clear hm
              have hm := e200
              clear e200
              revert hm; refine bndI fun y204 e205 hm => ?_
              refine ⟨_, rfl, _, rfl, F192, ([(a41, HO.lst v72), (a35, HO.lst v36)] ++ R), a_clauses0, v_clauses0, x_clauses0, y204, rfl, (SqL.mono hs_clauses0 (s7.trans (s20.trans (s33.trans (s69.trans (s80.trans (s119.trans (s137.trans (s162.trans s194))))))))), ((hl_clauses0.mono (s7.trans (s20.trans (s33.trans (s69.trans (s80.trans (s119.trans (s137.trans (s162.trans s194)))))))))), S196, (by exact e205), fun F206 H207 a210 v211 s208 S209 hs212 hl213 => ?_⟩
              have S214 : Sta F206 ([(a41, HO.lst v72), (a35, HO.lst v36)] ++ R) _ := S209
              refine ⟨_, _, (dat_dp (K := K) (r := (rLst K (rSeq K rInt))) ⟨_, _, rfl, (SqL.mono hs11 ((s20.trans (s33.trans (s69.trans (s80.trans (s119.trans (s137.trans (s162.trans (s194.trans s208)))))))).trans S214.sub)), LR.mono (hl12.mono (s20.trans (s33.trans (s69.trans (s80.trans (s119.trans (s137.trans (s162.trans (s194.trans s208))))))))) S214.sub⟩), (dat_dp (K := K) (r := (rLst K (rSeq K rInt))) ⟨_, _, rfl, (SqL.mono hs212 ((Same.refl _).trans S214.sub)), LR.mono hl213 S214.sub⟩), (dat_shaped (K := K) (r := (rLst K (rSeq K rInt))) (Nat.le_of_ble_eq_true rfl) _ (DPl.pl _)), (dat_shaped (K := K) (r := (rLst K (rSeq K rInt))) (Nat.le_of_ble_eq_true rfl) _ (DPl.pl _)), ?_⟩
              clear S209
              rw [dat_eqv (K := K) (r := (rLst K (rSeq K rInt))) y3 y204]
              refine ⟨_, rfl, ?_⟩
              by_cases c215 : (decide (y3 = y204)) = true
              · revert hm; refine ifTI c215 fun hm => ?_
                refine goT c215 ?_
                revert hm; refine bndI fun y216 e217 hm => ?_
                refine ⟨_, rfl, _, rfl, F206, ([(a41, HO.lst v72), (a35, HO.lst v36)] ++ R), a_log0, v_log0, x_log0, y216, rfl, (SqL.mono hs_log0 (s7.trans (s20.trans (s33.trans (s69.trans (s80.trans (s119.trans (s137.trans (s162.trans (s194.trans s208)))))))))), ((hl_log0.mono (s7.trans (s20.trans (s33.trans (s69.trans (s80.trans (s119.trans (s137.trans (s162.trans (s194.trans s208))))))))))), S214, (by exact e217), fun F218 H219 a222 v223 s220 S221 hs224 hl225 => ?_⟩
                have S226 : Sta F218 ([(a41, HO.lst v72), (a35, HO.lst v36)] ++ R) _ := S221
                refine ⟨_, _, (dat_dp (K := K) (r := (rLst K (rSeq K rInt))) ⟨_, _, rfl, (SqL.mono hs24 ((s33.trans (s69.trans (s80.trans (s119.trans (s137.trans (s162.trans (s194.trans (s208.trans s220)))))))).trans S226.sub)), LR.mono (hl25.mono (s33.trans (s69.trans (s80.trans (s119.trans (s137.trans (s162.trans (s194.trans (s208.trans s220))))))))) S226.sub⟩), (dat_dp (K := K) (r := (rLst K (rSeq K rInt))) ⟨_, _, rfl, (SqL.mono hs224 ((Same.refl _).trans S226.sub)), LR.mono hl225 S226.sub⟩), (dat_shaped (K := K) (r := (rLst K (rSeq K rInt))) (Nat.le_of_ble_eq_true rfl) _ (DPl.pl _)), (dat_shaped (K := K) (r := (rLst K (rSeq K rInt))) (Nat.le_of_ble_eq_true rfl) _ (DPl.pl _)), ?_⟩
                clear S221
                rw [dat_eqv (K := K) (r := (rLst K (rSeq K rInt))) y16 y216]
                obtain rfl := Option.some.inj hm
                exact ⟨F218, (s208.trans s220), S226, rfl⟩
              · revert hm; refine ifFI c215 fun hm => ?_
                obtain rfl := Option.some.inj hm
                exact goF c215 ⟨F206, s208, S214, rfl⟩
            rintro b227 H228 ⟨F201, s202, S203, rfl⟩
            obtain rfl := Option.some.inj hm
            have S229 : Sta F201 ([] ++ R) _ := S203.pick [] (by decide) rfl
            exact kk _ _ (s7.trans (s20.trans (s33.trans (s69.trans (s80.trans (s119.trans (s137.trans (s162.trans (s194.trans s202))))))))) S229

def sp_law_literal (T : Txt K mg) : Sp := fun vs H Q _ => ∃ (F0 : Hp) (R : Own) (a_script0 : Addr) (v_script0 : List V) (x_script0 : (List Int)) (a_source0 : Addr) (v_source0 : List V) (x_source0 : (List Int)) (a_letters0 : Addr) (v_letters0 : List V) (x_letters0 : (List Int)) (r : (Int × (List Int))),
  vs = [V.ref a_script0, V.ref a_source0, V.ref a_letters0] ∧ SqL K F0 a_script0 v_script0 ∧ LR (rInt F0) v_script0 x_script0 ∧ LR (rInt F0) v_source0 x_source0 ∧ SqL K (ov F0 R) a_letters0 v_letters0 ∧ LR (rInt F0) v_letters0 x_letters0 ∧ Sta F0 ([(a_source0, HO.lst v_source0)] ++ R) H ∧ m_law_literal x_script0 x_source0 x_letters0 = some r ∧ ∀ (F1 : Hp) (H1 : Hp) (v_source0p : List V), Same F0 F1 → Sta F1 ([(a_source0, HO.lst v_source0p)] ++ R) H1 → LR (rInt F1) v_source0p r.2 → Q (V.int r.1) H1

theorem ok_law_literal (T : Txt K mg) : FnOk P w K mg base CX0 2 T.a_law_literal T.d_law_literal ["script", "source", "letters"] (sp_law_literal T) := by
  refine T.F_law_literal.ok sc_law_literal (fun vs H Q E h => ?_) (fun cdv A outer s H vs Q E hr h => ?_)
  · obtain ⟨_, _, _, _, _, _, _, _, _, _, _, _, rfl, _⟩ := h
    rfl
  · obtain ⟨F0, R, a_script0, v_script0, x_script0, a_source0, v_source0, x_source0, a_letters0, v_letters0, x_letters0, r, rfl, hs_script0, hl_script0, hl_source0, hs_letters0, hl_letters0, S0, hm, kk⟩ := h
    have hu := hu_of hr
    unfold m_law_literal at hm
    refine ⟨_, (pss_cons (ps_set (i := 3) sc_law_literal.nd rfl (Or.inl rfl) (pe_ix ix_list (pv 2) (pe_call (ok_law_take T) (hr.mono (by decide)) rfl T.g_law_take T.F_law_take.kp T.b_law_take .nil pass0 (pa_cons (pv 0) (pa_cons (pv 1) (pa_cons (pe_callB call_len_seq (by rfl) T.z_len PySem.boot_len (pa_cons (pv 2) pa_nil)) pa_nil)))) (fun _ _ => rfl))) (pss_cons (ps_if (pt_cmpR oI_eq (pe_call (ok_law_take T) (hr.mono (by decide)) rfl T.g_law_take T.F_law_take.kp T.b_law_take .nil pass0 (pa_cons (pv 0) (pa_cons (pv 1) (pa_cons pe_int pa_nil)))) pe_int (nomark _)) (pss_one (ps_ret (pe_op op_sub pe_int (pv 3)))) pss_nil) (pss_one (ps_ret (pv 3))))), ?_⟩
    refine seqI fun N1 hN2 => ?_
    refine ⟨_, rfl, _, rfl, _, rfl, _, rfl, _, _, rfl, .inl (SqL.mono hs_letters0 (S0.bor (Same.refl _) (fun _ q => (List.mem_append_right _ q)))), ?_⟩
    rw [LR.length hl_letters0]
    revert hm; refine bndI fun y3 e4 hm => ?_
    refine ⟨F0, ([] ++ R), a_script0, v_script0, x_script0, a_source0, v_source0, x_source0, (x_letters0.length : Int), y3, rfl, (SqL.mono hs_script0 (Same.refl _)), (hl_script0), hl_source0, S0, (by exact e4), fun F5 H6 v9 s7 S8 hl10 => ?_⟩
    have S11 : Sta F5 ([(a_source0, HO.lst v9)] ++ R) _ := S8
    revert hm; refine bndI fun y12 e13 hm => ?_
    obtain ⟨v14, ev15, rv16⟩ := LR.atI hl_letters0 e13
    obtain rfl := rInt_e rv16
    refine ⟨_, _, _, _, rfl, rfl, (SqL.mono hs_letters0 (S11.bor s7 (fun _ q => (List.mem_append_right _ q)))), ev15, ?_⟩
    clear S8
    refine hN2 _ _ ?_
    refine seqI fun N17 hN18 => ?_
    revert hm; refine bndI fun y19 e20 hm => ?_
    refine ⟨_, rfl, _, rfl, F5, ([] ++ R), a_script0, v_script0, x_script0, a_source0, v9, y3.2, (2 : Int), y19, rfl, (SqL.mono hs_script0 s7), ((hl_script0.mono s7)), hl10, S11, (by exact e20), fun F21 H22 v25 s23 S24 hl26 => ?_⟩
    have S27 : Sta F21 ([(a_source0, HO.lst v25)] ++ R) _ := S24
    refine ⟨_, _, rfl, rfl, _, rfl, ?_⟩
    clear S24
    by_cases c28 : (decide (y19.1 = (1 : Int))) = true
    · revert hm; refine ifTI c28 fun hm => ?_
      refine goT c28 ?_
      refine ⟨_, rfl, _, _, rfl, rfl, ?_⟩
      obtain rfl := Option.some.inj hm
      exact kk _ _ v25 (s7.trans s23) S27 hl26
    · revert hm; refine ifFI c28 fun hm => ?_
      refine goF c28 ?_
      refine hN18 _ _ ?_
      refine ⟨_, rfl, ?_⟩
      obtain rfl := Option.some.inj hm
      exact kk _ _ v25 (s7.trans s23) S27 hl26

def sp_law_line (T : Txt K mg) : Sp := fun vs H Q _ => ∃ (F0 : Hp) (R : Own) (a_script0 : Addr) (v_script0 : List V) (x_script0 : (List Int)) (a_source0 : Addr) (v_source0 : List V) (x_source0 : (List Int)) (a_letters0 : Addr) (v_letters0 : List V) (x_letters0 : (List Int)) (r : ((List Int) × (List Int))),
  vs = [V.ref a_script0, V.ref a_source0, V.ref a_letters0] ∧ SqL K F0 a_script0 v_script0 ∧ LR (rInt F0) v_script0 x_script0 ∧ LR (rInt F0) v_source0 x_source0 ∧ SqL K (ov F0 R) a_letters0 v_letters0 ∧ LR (rInt F0) v_letters0 x_letters0 ∧ Sta F0 ([(a_source0, HO.lst v_source0)] ++ R) H ∧ m_law_line x_script0 x_source0 x_letters0 = some r ∧ ∀ (F1 : Hp) (H1 : Hp) (v_source0p : List V) (a_ret0p : Addr) (v_ret0p : List V), Same F0 F1 → Sta F1 ([(a_source0, HO.lst v_source0p)] ++ R) H1 → LR (rInt F1) v_source0p r.2 → SqL K F1 a_ret0p v_ret0p → LR (rInt F1) v_ret0p r.1 → Q (V.ref a_ret0p) H1

theorem ok_law_line (T : Txt K mg) : FnOk P w K mg base CX0 3 T.a_law_line T.d_law_line ["script", "source", "letters"] (sp_law_line T) := by
  refine T.F_law_line.ok sc_law_line (fun vs H Q E h => ?_) (fun cdv A outer s H vs Q E hr h => ?_)
  · obtain ⟨_, _, _, _, _, _, _, _, _, _, _, _, rfl, _⟩ := h
    rfl
  · obtain ⟨F0, R, a_script0, v_script0, x_script0, a_source0, v_source0, x_source0, a_letters0, v_letters0, x_letters0, r, rfl, hs_script0, hl_script0, hl_source0, hs_letters0, hl_letters0, S0, hm, kk⟩ := h
    have hu := hu_of hr
    unfold m_law_line at hm
    refine ⟨_, (pss_cons (ps_set (i := 3) sc_law_line.nd rfl (Or.inl rfl) (pe_lst pa_nil)) (pss_cons (ps_for PassesOwn.never rfl (pi_range1 rfl T.z_range (pa_cons (pe_ix ix_list (pe_lst (pa_cons pe_int (pa_cons pe_int (pa_cons pe_int (pa_cons pe_int (pa_cons pe_int (pa_cons pe_int (pa_cons pe_int (pa_cons pe_int pa_nil))))))))) (pe_call (ok_law_take T) (hr.mono (by decide)) rfl T.g_law_take T.F_law_take.kp T.b_law_take .nil pass0 (pa_cons (pv 0) (pa_cons (pv 1) (pa_cons pe_int pa_nil)))) (fun _ _ => rfl)) pa_nil)) (pg_name (i := 4) sc_law_line.nd rfl (Or.inl rfl)) (pss_one (ps_expr (pe_bm PySem.F.plainAttrs_list PySem.F.slot_list_append PySem.F.type_list_append mt_append (pv 3) (pa_cons (pe_call (ok_law_literal T) (hr.mono (by decide)) rfl T.g_law_literal T.F_law_literal.kp T.b_law_literal .nil pass0 (pa_cons (pv 0) (pa_cons (pv 1) (pa_cons (pv 2) pa_nil)))) pa_nil))))) (pss_one (ps_ret (pv 3))))), ?_⟩
    refine seqI fun N1 hN2 => ?_
    refine ⟨(by show 0 ≤ sizeLine; decide), ?_⟩
    intro a3 np4
    have hl5 : LR (rInt F0) [] ([] : (List Int)) := trivial
    have S6 : Sta F0 ([(a3, HO.lst []), (a_source0, HO.lst v_source0)] ++ R) _ := S0.new np4 _
    refine hN2 _ _ ?_
    refine seqI fun N7 hN8 => ?_
    refine ⟨(by show 8 ≤ sizeLine; decide), ?_⟩
    clear S0
    intro a12 np13
    have hl14 : LR (rInt F0) [V.int 1, V.int 2, V.int 0, V.int 2, V.int 3, V.int 1, V.int 2, V.int 1] ([(1 : Int), (2 : Int), (0 : Int), (2 : Int), (3 : Int), (1 : Int), (2 : Int), (1 : Int)] : (List Int)) := ⟨rfl, rfl, rfl, rfl, rfl, rfl, rfl, rfl, trivial⟩
    have S15 : Sta F0 ([(a12, HO.lst [V.int 1, V.int 2, V.int 0, V.int 2, V.int 3, V.int 1, V.int 2, V.int 1]), (a3, HO.lst []), (a_source0, HO.lst v_source0)] ++ R) _ := S6.new np13 _
    have S16 : Sta F0 ([(a_source0, HO.lst v_source0), (a12, HO.lst [V.int 1, V.int 2, V.int 0, V.int 2, V.int 3, V.int 1, V.int 2, V.int 1]), (a3, HO.lst [])] ++ R) _ := S15.pick [2, 0, 1] (by decide) rfl
    revert hm; refine bndI fun y17 e18 hm => ?_
    refine ⟨_, rfl, _, rfl, F0, ([(a12, HO.lst [V.int 1, V.int 2, V.int 0, V.int 2, V.int 3, V.int 1, V.int 2, V.int 1]), (a3, HO.lst [])] ++ R), a_script0, v_script0, x_script0, a_source0, v_source0, x_source0, (8 : Int), y17, rfl, (SqL.mono hs_script0 (Same.refl _)), (hl_script0), hl_source0, S16, (by exact e18), fun F19 H20 v23 s21 S22 hl24 => ?_⟩
    clear S6 S15
    have S25 : Sta F19 ([(a_source0, HO.lst v23), (a12, HO.lst [V.int 1, V.int 2, V.int 0, V.int 2, V.int 3, V.int 1, V.int 2, V.int 1]), (a3, HO.lst [])] ++ R) _ := S22
    revert hm; refine bndI fun y26 e27 hm => ?_
    obtain ⟨v28, ev29, rv30⟩ := LR.atI hl14 e27
    obtain rfl := rInt_e rv30
    revert hm; refine grdI fun g31 hm => ?_
    revert hm; refine bndI fun y9 e10 hm11 => ?_
    refine ⟨_, _, _, _, rfl, rfl, (SqL.of (S25.get 1 rfl)), ev29, _, rfl, (rngOk_lo g31), (rngOk_hi g31), for_rng (lo := 0) (n := y26.toNat) (fun i σ H2 => ∃ (st1 : ((List Int) × (List Int))) (F52 : Hp) (v56 : List V) (v58 : List V) (o55 : Option V), σ = [some (V.ref a_script0), some (V.ref a_source0), some (V.ref a_letters0), some (V.ref a3), o55] ∧ Same F19 F52 ∧ Sta F52 ([(a_source0, HO.lst v56), (a12, HO.lst [V.int 1, V.int 2, V.int 0, V.int 2, V.int 3, V.int 1, V.int 2, V.int 1]), (a3, HO.lst v58)] ++ R) H2 ∧ LR (rInt F52) v56 st1.1 ∧ LR (rInt F52) v58 st1.2 ∧ m_law_line_l1 x_script0 x_letters0 (List.drop i (pyRange 0 y26.toNat)) st1 = some y9) ⟨(y17.2, ([] : (List Int))), F19, v23, [], _, rfl, (Same.refl _), S25, hl24, (hl5.mono s21), e10⟩ ?_ ?_⟩
    clear S22
    · rintro i x60 σ H2 hi ⟨st1, F52, v56, v58, o55, rfl, s53, S54, hl57, hl59, hm⟩
      rw [drop_cons hi, m_law_line_l1] at hm
      revert hm; refine bndI fun y62 e63 hm => ?_
      refine ⟨_, rfl, .inl ⟨rfl, _, (SqL.of (S54.get 2 rfl))⟩, _, rfl, _, rfl, _, rfl, F52, ([(a12, HO.lst [V.int 1, V.int 2, V.int 0, V.int 2, V.int 3, V.int 1, V.int 2, V.int 1]), (a3, HO.lst v58)] ++ R), a_script0, v_script0, x_script0, a_source0, v56, st1.1, a_letters0, v_letters0, x_letters0, y62, rfl, (SqL.mono hs_script0 (s21.trans s53)), ((hl_script0.mono (s21.trans s53))), hl57, (SqL.mono hs_letters0 (S54.tl.ovR (s21.trans s53) (fun _ q => (List.mem_append_right _ q)))), (hl_letters0.mono (s21.trans s53)), S54, (by exact e63), fun F64 H65 v68 s66 S67 hl69 => ?_⟩
      have S70 : Sta F64 ([(a_source0, HO.lst v68), (a12, HO.lst [V.int 1, V.int 2, V.int 0, V.int 2, V.int 3, V.int 1, V.int 2, V.int 1]), (a3, HO.lst v58)] ++ R) _ := S67
      revert hm; refine grdI fun g71 hm => ?_
      refine ⟨_, _, _, rfl, rfl, (S70.get 2 rfl), (by rw [LR.length (hl59.mono s66)]; exact of_decide_eq_true g71), ?_⟩
      clear S67
      have hl72 : LR (rInt F64) (v58 ++ [V.int y62.1]) (st1.2 ++ [y62.1]) := LR.snoc (hl59.mono s66) rfl
      have S73 : Sta F64 ([(a_source0, HO.lst v68), (a12, HO.lst [V.int 1, V.int 2, V.int 0, V.int 2, V.int 3, V.int 1, V.int 2, V.int 1]), (a3, HO.lst (v58 ++ [V.int y62.1]))] ++ R) _ := S70.set 2 rfl _
      exact ⟨(y62.2, (st1.2 ++ [y62.1])), F64, v68, (v58 ++ [V.int y62.1]), _, rfl, (s53.trans s66), S73, hl69, hl72, hm⟩
    · rintro σ H2 ⟨st1, F52, v56, v58, o55, rfl, s53, S54, hl57, hl59, hm⟩
      rw [drop_rng, m_law_line_l1] at hm
      obtain rfl := Option.some.inj hm
      have hm := hm11
      refine hN8 _ _ ?_
      refine ⟨_, rfl, ?_⟩
      have S74 : Sta F52 ([(a3, HO.lst v58), (a_source0, HO.lst v56), (a12, HO.lst [V.int 1, V.int 2, V.int 0, V.int 2, V.int 3, V.int 1, V.int 2, V.int 1])] ++ R) _ := S54.pick [2, 0, 1] (by decide) rfl
      obtain ⟨F75, s76, S77, h78⟩ : ∃ F', Same F52 F' ∧ Sta F' ([(a_source0, HO.lst v56), (a12, HO.lst [V.int 1, V.int 2, V.int 0, V.int 2, V.int 3, V.int 1, V.int 2, V.int 1])] ++ R) _ ∧ F' a3 = some (HO.lst v58) := ⟨_, S74.frzS, S74.frz, upd_same⟩
      obtain rfl := Option.some.inj hm
      have S79 : Sta F75 ([(a_source0, HO.lst v56)] ++ R) _ := S77.pick [0] (by decide) rfl
      exact kk _ _ v56 a3 v58 (s21.trans (s53.trans s76)) S79 (hl57.mono s76) (SqL.mono (SqL.of h78) (Same.refl _)) (hl59.mono s76)

def sp_law_more (T : Txt K mg) : Sp := fun vs H Q _ => ∃ (F0 : Hp) (R : Own) (a_script0 : Addr) (v_script0 : List V) (x_script0 : (List Int)) (a_source0 : Addr) (v_source0 : List V) (x_source0 : (List Int)) (a_letters0 : Addr) (v_letters0 : List V) (x_letters0 : (List Int)) (a_clauses0 : Addr) (v_clauses0 : List V) (x_clauses0 : (List (List Int))) (r : ((List (List Int)) × (List Int))),
  vs = [V.ref a_script0, V.ref a_source0, V.ref a_letters0, V.ref a_clauses0] ∧ SqL K F0 a_script0 v_script0 ∧ LR (rInt F0) v_script0 x_script0 ∧ LR (rInt F0) v_source0 x_source0 ∧ SqL K (ov F0 R) a_letters0 v_letters0 ∧ LR (rInt F0) v_letters0 x_letters0 ∧ SqL K F0 a_clauses0 v_clauses0 ∧ LR ((rLst K rInt) F0) v_clauses0 x_clauses0 ∧ Sta F0 ([(a_source0, HO.lst v_source0)] ++ R) H ∧ m_law_more x_script0 x_source0 x_letters0 x_clauses0 = some r ∧ ∀ (F1 : Hp) (H1 : Hp) (v_source0p : List V) (a_ret0p : Addr) (v_ret0p : List V), Same F0 F1 → Sta F1 ([(a_ret0p, HO.lst v_ret0p), (a_source0, HO.lst v_source0p)] ++ R) H1 → LR (rInt F1) v_source0p r.2 → LR ((rLst K rInt) F1) v_ret0p r.1 → Q (V.ref a_ret0p) H1

theorem ok_law_more (T : Txt K mg) : FnOk P w K mg base CX0 4 T.a_law_more T.d_law_more ["script", "source", "letters", "clauses"] (sp_law_more T) := by
  refine T.F_law_more.ok sc_law_more (fun vs H Q E h => ?_) (fun cdv A outer s H vs Q E hr h => ?_)
  · obtain ⟨_, _, _, _, _, _, _, _, _, _, _, _, _, _, _, rfl, _⟩ := h
    rfl
  · obtain ⟨F0, R, a_script0, v_script0, x_script0, a_source0, v_source0, x_source0, a_letters0, v_letters0, x_letters0, a_clauses0, v_clauses0, x_clauses0, r, rfl, hs_script0, hl_script0, hl_source0, hs_letters0, hl_letters0, hs_clauses0, hl_clauses0, S0, hm, kk⟩ := h
    have hu := hu_of hr
    unfold m_law_more at hm
    refine ⟨_, (pss_cons (ps_setLc (i := 5) (own := [("clause", 4)]) rfl sc_law_more.nd rfl rfl (sw_true rfl rfl rfl (by decide +kernel)) (pi_list (pv 3)) (blkOk_by (own := [("clause", 4)]) (N := ["script", "source", "letters", "clauses", "clause", "more", "k", "kind"]) (sc := defScope s_law_more) (by decide +kernel)) (fun _ _ _ _ _ => (pg_name (i := 4) sc_law_more.nd rfl (Or.inl rfl))) (fun _ _ _ _ _ => pts_nil) (fun _ _ _ _ _ => (pv 4))) (pss_cons (ps_for PassesOwn.never rfl (pi_range1 rfl T.z_range (pa_cons (pe_call (ok_law_take T) (hr.mono (by decide)) rfl T.g_law_take T.F_law_take.kp T.b_law_take .nil pass0 (pa_cons (pv 0) (pa_cons (pv 1) (pa_cons pe_int pa_nil)))) pa_nil)) (pg_name (i := 6) sc_law_more.nd rfl (Or.inl rfl)) (pss_cons (ps_set (i := 4) sc_law_more.nd rfl (Or.inl rfl) (pe_ix ix_list (pv 3) (pe_call (ok_law_take T) (hr.mono (by decide)) rfl T.g_law_take T.F_law_take.kp T.b_law_take .nil pass0 (pa_cons (pv 0) (pa_cons (pv 1) (pa_cons (pe_callB call_len_seq (by rfl) T.z_len PySem.boot_len (pa_cons (pv 3) pa_nil)) pa_nil)))) (fun _ _ => rfl))) (pss_cons (ps_set (i := 7) sc_law_more.nd rfl (Or.inl rfl) (pe_call (ok_law_take T) (hr.mono (by decide)) rfl T.g_law_take T.F_law_take.kp T.b_law_take .nil pass0 (pa_cons (pv 0) (pa_cons (pv 1) (pa_cons pe_int pa_nil))))) (C8.pss_cut (ps_if (pt_cmpR oI_eq (pv 7) pe_int (nomark _)) (pss_one (ps_set (i := 4) sc_law_more.nd rfl (Or.inl rfl) (pe_op op_catS (pv 4) (pe_lst (pa_cons (pe_call (ok_law_literal T) (hr.mono (by decide)) rfl T.g_law_literal T.F_law_literal.kp T.b_law_literal .nil pass0 (pa_cons (pv 0) (pa_cons (pv 1) (pa_cons (pv 2) pa_nil)))) pa_nil))))) pss_nil) (C8.pss_cut (ps_if (pt_cmpR op_gt (pv 7) pe_int (nomark _)) (pss_one (ps_set (i := 4) sc_law_more.nd rfl (Or.inl rfl) (pe_op op_catS (pe_call (ok_law_line T) (hr.mono (by decide)) rfl T.g_law_line T.F_law_line.kp T.b_law_line .nil pass0 (pa_cons (pv 0) (pa_cons (pv 1) (pa_cons (pv 2) pa_nil)))) (pe_lst (pa_cons (pe_call (ok_law_literal T) (hr.mono (by decide)) rfl T.g_law_literal T.F_law_literal.kp T.b_law_literal .nil pass0 (pa_cons (pv 0) (pa_cons (pv 1) (pa_cons (pv 2) pa_nil)))) pa_nil))))) pss_nil) (pss_one (ps_expr (pe_bm PySem.F.plainAttrs_list PySem.F.slot_list_insert PySem.F.type_list_insert mt_insert (pv 5) (pa_cons (pe_call (ok_law_take T) (hr.mono (by decide)) rfl T.g_law_take T.F_law_take.kp T.b_law_take .nil pass0 (pa_cons (pv 0) (pa_cons (pv 1) (pa_cons (pe_op op_add (pe_callB call_len_seq (by rfl) T.z_len PySem.boot_len (pa_cons (pv 5) pa_nil)) pe_int) pa_nil)))) (pa_cons (pv 4) pa_nil)))))))))) (pss_one (ps_ret (pv 5))))), ?_⟩
    refine seqI fun N1 hN2 => ?_
    revert hm; refine grdI fun g17 hm => ?_
    have e3 : lcO (fun x7 => some (some x7)) x_clauses0 = some (x_clauses0.map fun x7 => x7) := lc_map (fun x7 => x7) x_clauses0
    refine ⟨_, rfl, _, rfl, ⟨_, (SqL.mono hs_clauses0 ((Same.refl _).trans S0.sub))⟩, fun a15 np16 => lc_list (K := K) (a := a_clauses0) (xs := v_clauses0) (fun i H2 => ∃ (F8 : Hp) (v9 : List V) (acc10 : List (List Int)) (r4 : List (List Int)), Same F0 F8 ∧ Sta F8 ([(a15, HO.lst v9), (a_source0, HO.lst v_source0)] ++ R) H2 ∧ LR ((rLst K rInt) F8) v9 acc10 ∧ acc10.length ≤ i ∧ lcO (fun x7 => some (some x7)) (List.drop i x_clauses0) = some r4 ∧ (x_clauses0.map fun x7 => x7) = acc10 ++ r4) ⟨F0, [], [], _, Same.refl _, S0.new np16 _, trivial, Nat.le_refl _, e3, rfl⟩ (by rintro i H2 _ ⟨F8, v9, acc10, r4, s11, S12, hl13, hn14, hr5, hy6⟩; exact (SqL.mono hs_clauses0 (s11.trans S12.sub))) ?_ ?_⟩
    · rintro i v18 H2 hi ⟨F8, v9, acc10, r4, s11, S12, hl13, hn14, hr5, hy6⟩
      obtain ⟨x7, hx19, rx20⟩ := LR.getV hl_clauses0 hi
      rw [drop_cons hx19] at hr5
      revert hr5; refine lcI fun y21 r22 hm hr24 hc25 => ?_
      obtain ⟨a26, v27, rfl, hs28, hl29⟩ := rx20
      refine ⟨rfl, ?_⟩
      refine tYesI ?_
      rw [if_pos rfl]
      refine ⟨_, rfl, ?_⟩
      obtain rfl := Option.some.inj hm
      have hlt : v9.length < 16777216 := by rw [LR.length hl13]; have := (List.getElem?_eq_some_iff.mp hx19).1; have := of_decide_eq_true g17; omega
      have S30 : Sta F8 ([(a15, HO.lst (v9 ++ [V.ref a26])), (a_source0, HO.lst v_source0)] ++ R) _ := S12.set 0 rfl _
      exact ⟨_, (S12.get 0 rfl), hlt, F8, _, (acc10 ++ [x7]), r22, s11, S30, LR.snoc hl13 ⟨_, _, rfl, SqL.mono hs28 s11, (hl29.mono s11)⟩, by rw [List.length_append]; exact Nat.succ_le_succ hn14, hr24, by rw [List.append_assoc]; exact hy6.trans (congrArg (acc10 ++ ·) hc25)⟩
    rintro H2 ⟨F8, v9, acc10, r4, s11, S12, hl13, hn14, hr5, hy6⟩
    rw [LR.dropEnd hl_clauses0] at hr5
    obtain rfl := Option.some.inj hr5
    rw [List.append_nil] at hy6
    subst hy6
    have S31 : Sta F8 ([(a15, HO.lst v9), (a_source0, HO.lst v_source0)] ++ R) _ := S12
    refine hN2 _ _ ?_
    refine seqI fun N32 hN33 => ?_
    have S37 : Sta F8 ([(a_source0, HO.lst v_source0), (a15, HO.lst v9)] ++ R) _ := S31.pick [1, 0] (by decide) rfl
    revert hm; refine bndI fun y38 e39 hm => ?_
    refine ⟨_, rfl, _, rfl, F8, ([(a15, HO.lst v9)] ++ R), a_script0, v_script0, x_script0, a_source0, v_source0, x_source0, (4 : Int), y38, rfl, (SqL.mono hs_script0 s11), ((hl_script0.mono s11)), (hl_source0.mono s11), S37, (by exact e39), fun F40 H41 v44 s42 S43 hl45 => ?_⟩
    clear S12 S31
    have S46 : Sta F40 ([(a_source0, HO.lst v44), (a15, HO.lst v9)] ++ R) _ := S43
    revert hm; refine grdI fun g47 hm => ?_
    revert hm; refine bndI fun y34 e35 hm36 => ?_
    refine ⟨_, rfl, (rngOk_lo g47), (rngOk_hi g47), for_rng (lo := 0) (n := y38.1.toNat) (fun i σ H2 => ∃ (st1 : ((List Int) × (List (List Int)))) (F74 : Hp) (v80 : List V) (v82 : List V) (o77 : Option V) (o78 : Option V) (o79 : Option V), σ = [some (V.ref a_script0), some (V.ref a_source0), some (V.ref a_letters0), some (V.ref a_clauses0), o77, some (V.ref a15), o78, o79] ∧ Same F40 F74 ∧ Sta F74 ([(a_source0, HO.lst v80), (a15, HO.lst v82)] ++ R) H2 ∧ LR (rInt F74) v80 st1.1 ∧ LR ((rLst K rInt) F74) v82 st1.2 ∧ m_law_more_l1 x_script0 x_letters0 x_clauses0 (List.drop i (pyRange 0 y38.1.toNat)) st1 = some y34) ⟨(y38.2, (x_clauses0.map fun x7 => x7)), F40, v44, v9, _, _, _, rfl, (Same.refl _), S46, hl45, (hl13.mono s42), e35⟩ ?_ ?_⟩
    clear S43
    · rintro i x84 σ H2 hi ⟨st1, F74, v80, v82, o77, o78, o79, rfl, s75, S76, hl81, hl83, hm⟩
      rw [drop_cons hi, m_law_more_l1] at hm
      refine seqI fun N86 hN87 => ?_
      refine ⟨_, rfl, _, rfl, _, rfl, _, rfl, _, _, rfl, .inl (SqL.mono hs_clauses0 ((s11.trans (s42.trans s75)).trans S76.sub)), ?_⟩
      rw [LR.length (hl_clauses0.mono (s11.trans (s42.trans s75)))]
      revert hm; refine bndI fun y88 e89 hm => ?_
      refine ⟨F74, ([(a15, HO.lst v82)] ++ R), a_script0, v_script0, x_script0, a_source0, v80, st1.1, (x_clauses0.length : Int), y88, rfl, (SqL.mono hs_script0 (s11.trans (s42.trans s75))), ((hl_script0.mono (s11.trans (s42.trans s75)))), hl81, S76, (by exact e89), fun F90 H91 v94 s92 S93 hl95 => ?_⟩
      have S96 : Sta F90 ([(a_source0, HO.lst v94), (a15, HO.lst v82)] ++ R) _ := S93
      revert hm; refine bndI fun y97 e98 hm => ?_
      obtain ⟨v99, ev100, rv101⟩ := LR.atI hl_clauses0 e98
      obtain ⟨a102, v103, rfl, hs104, hl105⟩ := rv101
      refine ⟨_, _, _, _, rfl, rfl, (SqL.mono hs_clauses0 ((s11.trans (s42.trans (s75.trans s92))).trans S96.sub)), ev100, ?_⟩
      clear S93
      refine hN87 _ _ ?_
      refine seqI fun N106 hN107 => ?_
      revert hm; refine bndI fun y108 e109 hm => ?_
      refine ⟨_, rfl, _, rfl, F90, ([(a15, HO.lst v82)] ++ R), a_script0, v_script0, x_script0, a_source0, v94, y88.2, (4 : Int), y108, rfl, (SqL.mono hs_script0 (s11.trans (s42.trans (s75.trans s92)))), ((hl_script0.mono (s11.trans (s42.trans (s75.trans s92))))), hl95, S96, (by exact e109), fun F110 H111 v114 s112 S113 hl115 => ?_⟩
      have S116 : Sta F110 ([(a_source0, HO.lst v114), (a15, HO.lst v82)] ++ R) _ := S113
      refine hN107 _ _ ?_
      revert hm; refine bndI fun y126 e127 hm => ?_
      refine ⟨fun σ H2 => ∃ (F117 : Hp) (a120 : Addr) (v121 : List V) (v124 : List V), σ = [some (V.ref a_script0), some (V.ref a_source0), some (V.ref a_letters0), some (V.ref a_clauses0), some (V.ref a120), some (V.ref a15), some (V.int x84), some (V.int y108.1)] ∧ Same F110 F117 ∧ Sta F117 ([(a_source0, HO.lst v124), (a15, HO.lst v82)] ++ R) H2 ∧ SqL K F117 a120 v121 ∧ LR (rInt F117) v121 y126.1 ∧ LR (rInt F117) v124 y126.2, ?_, ?_⟩
      · clear hm; have hm := e127; clear e127
        refine ⟨_, rfl, _, _, rfl, rfl, _, rfl, ?_⟩
        by_cases c128 : (decide (y108.1 = (1 : Int))) = true
        · revert hm; refine ifTI c128 fun hm => ?_
          refine goT c128 ?_
          revert hm; refine bndI fun y129 e130 hm => ?_
          refine ⟨_, rfl, _, rfl, _, rfl, _, rfl, F110, ([(a15, HO.lst v82)] ++ R), a_script0, v_script0, x_script0, a_source0, v114, y108.2, a_letters0, v_letters0, x_letters0, y129, rfl, (SqL.mono hs_script0 (s11.trans (s42.trans (s75.trans (s92.trans s112))))), ((hl_script0.mono (s11.trans (s42.trans (s75.trans (s92.trans s112)))))), hl115, (SqL.mono hs_letters0 (S116.tl.ovR (s11.trans (s42.trans (s75.trans (s92.trans s112)))) (fun _ q => (List.mem_append_right _ q)))), (hl_letters0.mono (s11.trans (s42.trans (s75.trans (s92.trans s112))))), S116, (by exact e130), fun F131 H132 v135 s133 S134 hl136 => ?_⟩
          have S137 : Sta F131 ([(a_source0, HO.lst v135), (a15, HO.lst v82)] ++ R) _ := S134
          refine ⟨(by show 1 ≤ sizeLine; decide), ?_⟩
          clear S134
          intro a138 np139
          have hl140 : LR (rInt F131) [V.int y129.1] ([y129.1] : (List Int)) := ⟨rfl, trivial⟩
          have S141 : Sta F131 ([(a138, HO.lst [V.int y129.1]), (a_source0, HO.lst v135), (a15, HO.lst v82)] ++ R) _ := S137.new np139 _
          revert hm; refine grdI fun g142 hm => ?_
          refine ⟨_, _, _, _, rfl, rfl, (SqL.mono hs104 ((s11.trans (s42.trans (s75.trans (s92.trans (s112.trans s133))))).trans S141.sub)), (SqL.of (S141.get 0 rfl)), (by rw [LR.length (hl105.mono (s11.trans (s42.trans (s75.trans (s92.trans (s112.trans s133)))))), LR.length hl140]; exact of_decide_eq_true g142), ?_⟩
          clear S137
          intro a143 np144
          have hl145 : LR (rInt F131) (v103 ++ [V.int y129.1]) (y97 ++ ([y129.1] : (List Int))) := LR.append (hl105.mono (s11.trans (s42.trans (s75.trans (s92.trans (s112.trans s133)))))) hl140
          have S146 : Sta F131 ([(a143, HO.lst (v103 ++ [V.int y129.1])), (a138, HO.lst [V.int y129.1]), (a_source0, HO.lst v135), (a15, HO.lst v82)] ++ R) _ := S141.new np144 _
          obtain ⟨F147, s148, S149, h150⟩ : ∃ F', Same F131 F' ∧ Sta F' ([(a138, HO.lst [V.int y129.1]), (a_source0, HO.lst v135), (a15, HO.lst v82)] ++ R) _ ∧ F' a143 = some (HO.lst (v103 ++ [V.int y129.1])) := ⟨_, S146.frzS, S146.frz, upd_same⟩
          obtain rfl := Option.some.inj hm
          have S151 : Sta F147 ([(a_source0, HO.lst v135), (a15, HO.lst v82)] ++ R) _ := S149.pick [1, 2] (by decide) rfl
          exact ⟨F147, a143, (v103 ++ [V.int y129.1]), v135, rfl, (s133.trans s148), S151, SqL.mono (SqL.of h150) (Same.refl _), (hl145.mono s148), (hl136.mono s148)⟩
        · revert hm; refine ifFI c128 fun hm => ?_
          refine goF c128 ?_
          obtain rfl := Option.some.inj hm
          exact ⟨F110, a102, v103, v114, rfl, (Same.refl _), S116, SqL.mono hs104 (s11.trans (s42.trans (s75.trans (s92.trans s112)))), (hl105.mono (s11.trans (s42.trans (s75.trans (s92.trans s112))))), hl115⟩
      · rintro σ H2 ⟨F117, a120, v121, v124, rfl, s118, S119, hs122, hl123, hl125⟩
        revert hm; refine bndI fun y161 e162 hm => ?_
        refine ⟨fun σ H2 => ∃ (F152 : Hp) (a155 : Addr) (v156 : List V) (v159 : List V), σ = [some (V.ref a_script0), some (V.ref a_source0), some (V.ref a_letters0), some (V.ref a_clauses0), some (V.ref a155), some (V.ref a15), some (V.int x84), some (V.int y108.1)] ∧ Same F117 F152 ∧ Sta F152 ([(a_source0, HO.lst v159), (a15, HO.lst v82)] ++ R) H2 ∧ SqL K F152 a155 v156 ∧ LR (rInt F152) v156 y161.1 ∧ LR (rInt F152) v159 y161.2, ?_, ?_⟩
        · clear hm; have hm := e162; clear e162
          refine ⟨_, rfl, _, _, rfl, rfl, _, rfl, ?_⟩
          by_cases c163 : (decide (y108.1 > (1 : Int))) = true
          · revert hm; refine ifTI c163 fun hm => ?_
            refine goT c163 ?_
            revert hm; refine bndI fun y164 e165 hm => ?_
            refine ⟨_, rfl, _, rfl, _, rfl, F117, ([(a15, HO.lst v82)] ++ R), a_script0, v_script0, x_script0, a_source0, v124, y126.2, a_letters0, v_letters0, x_letters0, y164, rfl, (SqL.mono hs_script0 (s11.trans (s42.trans (s75.trans (s92.trans (s112.trans s118)))))), ((hl_script0.mono (s11.trans (s42.trans (s75.trans (s92.trans (s112.trans s118))))))), hl125, (SqL.mono hs_letters0 (S119.tl.ovR (s11.trans (s42.trans (s75.trans (s92.trans (s112.trans s118))))) (fun _ q => (List.mem_append_right _ q)))), (hl_letters0.mono (s11.trans (s42.trans (s75.trans (s92.trans (s112.trans s118)))))), S119, (by exact e165), fun F166 H167 v170 a172 v173 s168 S169 hl171 hs174 hl175 => ?_⟩
            have S176 : Sta F166 ([(a_source0, HO.lst v170), (a15, HO.lst v82)] ++ R) _ := S169
            revert hm; refine bndI fun y177 e178 hm => ?_
            refine ⟨_, rfl, _, rfl, _, rfl, F166, ([(a15, HO.lst v82)] ++ R), a_script0, v_script0, x_script0, a_source0, v170, y164.2, a_letters0, v_letters0, x_letters0, y177, rfl, (SqL.mono hs_script0 (s11.trans (s42.trans (s75.trans (s92.trans (s112.trans (s118.trans s168))))))), ((hl_script0.mono (s11.trans (s42.trans (s75.trans (s92.trans (s112.trans (s118.trans s168)))))))), hl171, (SqL.mono hs_letters0 (S176.tl.ovR (s11.trans (s42.trans (s75.trans (s92.trans (s112.trans (s118.trans s168)))))) (fun _ q => (List.mem_append_right _ q)))), (hl_letters0.mono (s11.trans (s42.trans (s75.trans (s92.trans (s112.trans (s118.trans s168))))))), S176, (by exact e178), fun F179 H180 v183 s181 S182 hl184 => ?_⟩
            clear S169
            have S185 : Sta F179 ([(a_source0, HO.lst v183), (a15, HO.lst v82)] ++ R) _ := S182
            refine ⟨(by show 1 ≤ sizeLine; decide), ?_⟩
            clear S182
            intro a186 np187
            have hl188 : LR (rInt F179) [V.int y177.1] ([y177.1] : (List Int)) := ⟨rfl, trivial⟩
            have S189 : Sta F179 ([(a186, HO.lst [V.int y177.1]), (a_source0, HO.lst v183), (a15, HO.lst v82)] ++ R) _ := S185.new np187 _
            revert hm; refine grdI fun g190 hm => ?_
            refine ⟨_, _, _, _, rfl, rfl, (SqL.mono hs174 (s181.trans S189.sub)), (SqL.of (S189.get 0 rfl)), (by rw [LR.length (hl175.mono s181), LR.length hl188]; exact of_decide_eq_true g190), ?_⟩
            clear S185
            intro a191 np192
            have hl193 : LR (rInt F179) (v173 ++ [V.int y177.1]) (y164.1 ++ ([y177.1] : (List Int))) := LR.append (hl175.mono s181) hl188
            have S194 : Sta F179 ([(a191, HO.lst (v173 ++ [V.int y177.1])), (a186, HO.lst [V.int y177.1]), (a_source0, HO.lst v183), (a15, HO.lst v82)] ++ R) _ := S189.new np192 _
            obtain ⟨F195, s196, S197, h198⟩ : ∃ F', Same F179 F' ∧ Sta F' ([(a186, HO.lst [V.int y177.1]), (a_source0, HO.lst v183), (a15, HO.lst v82)] ++ R) _ ∧ F' a191 = some (HO.lst (v173 ++ [V.int y177.1])) := ⟨_, S194.frzS, S194.frz, upd_same⟩
            obtain rfl := Option.some.inj hm
            have S199 : Sta F195 ([(a_source0, HO.lst v183), (a15, HO.lst v82)] ++ R) _ := S197.pick [1, 2] (by decide) rfl
            exact ⟨F195, a191, (v173 ++ [V.int y177.1]), v183, rfl, (s168.trans (s181.trans s196)), S199, SqL.mono (SqL.of h198) (Same.refl _), (hl193.mono s196), (hl184.mono s196)⟩
          · revert hm; refine ifFI c163 fun hm => ?_
            refine goF c163 ?_
            obtain rfl := Option.some.inj hm
            exact ⟨F117, a120, v121, v124, rfl, (Same.refl _), S119, SqL.mono hs122 (Same.refl _), hl123, hl125⟩
        · rintro σ H2 ⟨F152, a155, v156, v159, rfl, s153, S154, hs157, hl158, hl160⟩
          refine ⟨_, rfl, .inl ⟨rfl, _, (SqL.of (S154.get 1 rfl))⟩, _, rfl, _, rfl, _, rfl, _, _, rfl, .inl (SqL.of (S154.get 1 rfl)), ?_⟩
          rw [LR.length (hl83.mono (s92.trans (s112.trans (s118.trans s153))))]
          revert hm; refine bndI fun y200 e201 hm => ?_
          refine ⟨_, _, rfl, rfl, F152, ([(a15, HO.lst v82)] ++ R), a_script0, v_script0, x_script0, a_source0, v159, y161.2, ((st1.2.length : Int) + (1 : Int)), y200, rfl, (SqL.mono hs_script0 (s11.trans (s42.trans (s75.trans (s92.trans (s112.trans (s118.trans s153))))))), ((hl_script0.mono (s11.trans (s42.trans (s75.trans (s92.trans (s112.trans (s118.trans s153)))))))), hl160, S154, (by exact e201), fun F202 H203 v206 s204 S205 hl207 => ?_⟩
          have S208 : Sta F202 ([(a_source0, HO.lst v206), (a15, HO.lst v82)] ++ R) _ := S205
          revert hm; refine grdI fun g209 hm => ?_
          revert hm; refine grdI fun g210 hm => ?_
          refine ⟨_, rfl, ?_⟩
          clear S205
          obtain ⟨rg1, rg2⟩ := of_decide_eq_true g210
          refine ⟨_, _, _, _, rfl, rfl, (S208.get 1 rfl), (by rw [LR.length (hl83.mono (s92.trans (s112.trans (s118.trans (s153.trans s204)))))]; exact of_decide_eq_true g209), rg1, (by omega), ?_⟩
          have hl211 : LR ((rLst K rInt) F202) (v82.take y200.1.toNat ++ [V.ref a155] ++ v82.drop y200.1.toNat) (st1.2.take y200.1.toNat ++ [y161.1] ++ st1.2.drop y200.1.toNat) := LR.insI ⟨_, _, rfl, SqL.mono hs157 s204, (hl158.mono s204)⟩ _ (hl83.mono (s92.trans (s112.trans (s118.trans (s153.trans s204)))))
          have S212 : Sta F202 ([(a_source0, HO.lst v206), (a15, HO.lst (v82.take y200.1.toNat ++ [V.ref a155] ++ v82.drop y200.1.toNat))] ++ R) _ := S208.set 1 rfl _
          exact ⟨(y200.2, (st1.2.take y200.1.toNat ++ [y161.1] ++ st1.2.drop y200.1.toNat)), F202, v206, (v82.take y200.1.toNat ++ [V.ref a155] ++ v82.drop y200.1.toNat), _, _, _, rfl, (s75.trans (s92.trans (s112.trans (s118.trans (s153.trans s204))))), S212, hl207, hl211, hm⟩
    · rintro σ H2 ⟨st1, F74, v80, v82, o77, o78, o79, rfl, s75, S76, hl81, hl83, hm⟩
      rw [drop_rng, m_law_more_l1] at hm
      obtain rfl := Option.some.inj hm
      have hm := hm36
      refine hN33 _ _ ?_
      refine ⟨_, rfl, ?_⟩
      obtain rfl := Option.some.inj hm
      have S213 : Sta F74 ([(a15, HO.lst v82), (a_source0, HO.lst v80)] ++ R) _ := S76.pick [1, 0] (by decide) rfl
      exact kk _ _ v80 a15 v82 (s11.trans (s42.trans s75)) S213 hl81 hl83

def sp_law_bent (T : Txt K mg) : Sp := fun vs H Q _ => ∃ (F0 : Hp) (R : Own) (a_script0 : Addr) (v_script0 : List V) (x_script0 : (List Int)) (a_source0 : Addr) (v_source0 : List V) (x_source0 : (List Int)) (a_letters0 : Addr) (v_letters0 : List V) (x_letters0 : (List Int)) (a_line0 : Addr) (v_line0 : List V) (x_line0 : (List Int)) (r : ((List Int) × (List Int))),
  vs = [V.ref a_script0, V.ref a_source0, V.ref a_letters0, V.ref a_line0] ∧ SqL K F0 a_script0 v_script0 ∧ LR (rInt F0) v_script0 x_script0 ∧ LR (rInt F0) v_source0 x_source0 ∧ SqL K (ov F0 R) a_letters0 v_letters0 ∧ LR (rInt F0) v_letters0 x_letters0 ∧ SqL K F0 a_line0 v_line0 ∧ LR (rInt F0) v_line0 x_line0 ∧ Sta F0 ([(a_source0, HO.lst v_source0)] ++ R) H ∧ m_law_bent x_script0 x_source0 x_letters0 x_line0 = some r ∧ ∀ (F1 : Hp) (H1 : Hp) (v_source0p : List V) (a_ret0p : Addr) (v_ret0p : List V), Same F0 F1 → Sta F1 ([(a_source0, HO.lst v_source0p)] ++ R) H1 → LR (rInt F1) v_source0p r.2 → SqL K F1 a_ret0p v_ret0p → LR (rInt F1) v_ret0p r.1 → Q (V.ref a_ret0p) H1

theorem ok_law_bent (T : Txt K mg) : FnOk P w K mg base CX0 3 T.a_law_bent T.d_law_bent ["script", "source", "letters", "line"] (sp_law_bent T) := by
  refine T.F_law_bent.ok sc_law_bent (fun vs H Q E h => ?_) (fun cdv A outer s H vs Q E hr h => ?_)
  · obtain ⟨_, _, _, _, _, _, _, _, _, _, _, _, _, _, _, rfl, _⟩ := h
    rfl
  · obtain ⟨F0, R, a_script0, v_script0, x_script0, a_source0, v_source0, x_source0, a_letters0, v_letters0, x_letters0, a_line0, v_line0, x_line0, r, rfl, hs_script0, hl_script0, hl_source0, hs_letters0, hl_letters0, hs_line0, hl_line0, S0, hm, kk⟩ := h
    have hu := hu_of hr
    unfold m_law_bent at hm
    refine ⟨_, (pss_cons (ps_set (i := 4) sc_law_bent.nd rfl (Or.inl rfl) (pe_call (ok_law_take T) (hr.mono (by decide)) rfl T.g_law_take T.F_law_take.kp T.b_law_take .nil pass0 (pa_cons (pv 0) (pa_cons (pv 1) (pa_cons pe_int pa_nil))))) (pss_cons (ps_set (i := 5) sc_law_bent.nd rfl (Or.inl rfl) (pe_call (ok_law_literal T) (hr.mono (by decide)) rfl T.g_law_literal T.F_law_literal.kp T.b_law_literal .nil pass0 (pa_cons (pv 0) (pa_cons (pv 1) (pa_cons (pv 2) pa_nil))))) (pss_cons (ps_if (pt_cut (PW.pt (pw_or (pt_cmpR (op_eqD hr.units) (pv 3) (pe_lst pa_nil) (nomark _)) (pw_or1 (pt_cmpR oI_eq (pv 4) pe_int (nomark _)))))) (pss_one (ps_ret (pe_op op_catS (pv 3) (pe_lst (pa_cons (pv 5) pa_nil))))) pss_nil) (pss_cons (ps_set (i := 6) sc_law_bent.nd rfl (Or.inl rfl) (pe_call (ok_law_take T) (hr.mono (by decide)) rfl T.g_law_take T.F_law_take.kp T.b_law_take .nil pass0 (pa_cons (pv 0) (pa_cons (pv 1) (pa_cons (pe_callB call_len_seq (by rfl) T.z_len PySem.boot_len (pa_cons (pv 3) pa_nil)) pa_nil))))) (pss_cons (ps_if (pt_cmpR oI_eq (pv 4) pe_int (nomark _)) (pss_one (ps_ret (pe_op op_catS (pe_slice sl_list (pv 3) po_none (po_some (pv 6))) (pe_slice sl_list (pv 3) (po_some (pe_op op_add (pv 6) pe_int)) po_none)))) pss_nil) (pss_cons (ps_if (pt_cmpR oI_eq (pv 4) pe_int (nomark _)) (pss_one (ps_ret (pe_op op_catS (pe_op op_catS (pe_slice sl_list (pv 3) po_none (po_some (pv 6))) (pe_lst (pa_cons (pe_op op_sub pe_int (pe_ix ix_list (pv 3) (pv 6) (fun _ _ => rfl))) pa_nil))) (pe_slice sl_list (pv 3) (po_some (pe_op op_add (pv 6) pe_int)) po_none)))) pss_nil) (pss_one (ps_ret (pe_op op_catS (pv 3) (pe_lst (pa_cons (pe_ix ix_list (pv 3) (pv 6) (fun _ _ => rfl)) pa_nil))))))))))), ?_⟩
    refine seqI fun N1 hN2 => ?_
    revert hm; refine bndI fun y3 e4 hm => ?_
    refine ⟨_, rfl, _, rfl, F0, ([] ++ R), a_script0, v_script0, x_script0, a_source0, v_source0, x_source0, (4 : Int), y3, rfl, (SqL.mono hs_script0 (Same.refl _)), (hl_script0), hl_source0, S0, (by exact e4), fun F5 H6 v9 s7 S8 hl10 => ?_⟩
    have S11 : Sta F5 ([(a_source0, HO.lst v9)] ++ R) _ := S8
    refine hN2 _ _ ?_
    refine seqI fun N12 hN13 => ?_
    revert hm; refine bndI fun y14 e15 hm => ?_
    refine ⟨_, rfl, _, rfl, _, rfl, F5, ([] ++ R), a_script0, v_script0, x_script0, a_source0, v9, y3.2, a_letters0, v_letters0, x_letters0, y14, rfl, (SqL.mono hs_script0 s7), ((hl_script0.mono s7)), hl10, (SqL.mono hs_letters0 (S11.tl.ovR s7 (fun _ q => (List.mem_append_right _ q)))), (hl_letters0.mono s7), S11, (by exact e15), fun F16 H17 v20 s18 S19 hl21 => ?_⟩
    clear S8
    have S22 : Sta F16 ([(a_source0, HO.lst v20)] ++ R) _ := S19
    refine hN13 _ _ ?_
    refine seqI fun N23 hN24 => ?_
    revert hm; refine bndI fun b25 e26 hm => ?_
    refine ⟨fun b H' => ∃ (F27 : Hp), Same F16 F27 ∧ Sta F27 ([(a_source0, HO.lst v20)] ++ R) H' ∧ b25 = b, ?_, ?_⟩
    · clear hm
      have hm := e26
      clear e26
      refine ⟨_, rfl, (by show 0 ≤ sizeLine; decide), ?_⟩
      intro a30 np31
      have hl32 : LR (rInt F16) [] ([] : (List Int)) := trivial
      have S33 : Sta F16 ([(a30, HO.lst []), (a_source0, HO.lst v20)] ++ R) _ := S22.new np31 _
      refine ⟨_, _, (dat_dp (K := K) (r := (rLst K rInt)) ⟨_, _, rfl, (SqL.mono hs_line0 ((s7.trans s18).trans S33.sub)), LR.mono (hl_line0.mono (s7.trans s18)) S33.sub⟩), (dat_dp (K := K) (r := (rLst K rInt)) ⟨_, _, rfl, (SqL.of (S33.get 0 rfl)), LR.mono hl32 S33.sub⟩), (dat_shaped (K := K) (r := (rLst K rInt)) (Nat.le_of_ble_eq_true rfl) _ (DPl.pl _)), (dat_shaped (K := K) (r := (rLst K rInt)) (Nat.le_of_ble_eq_true rfl) _ (DPl.pl _)), ?_⟩
      clear S22
      rw [dat_eqv (K := K) (r := (rLst K rInt)) x_line0 ([] : (List Int))]
      refine ⟨_, rfl, ?_⟩
      by_cases c34 : (decide (x_line0 = ([] : (List Int)))) = true
      · revert hm; refine ifTI c34 fun hm => ?_
        obtain rfl := Option.some.inj hm
        have S35 : Sta F16 ([(a_source0, HO.lst v20)] ++ R) _ := S33.pick [1] (by decide) rfl
        exact goT c34 ⟨F16, (Same.refl _), S35, rfl⟩
      · revert hm; refine ifFI c34 fun hm => ?_
        refine goF c34 ?_
        refine ⟨_, rfl, _, _, rfl, rfl, _, rfl, ?_⟩
        obtain rfl := Option.some.inj hm
        have S36 : Sta F16 ([(a_source0, HO.lst v20)] ++ R) _ := S33.pick [1] (by decide) rfl
        exact ⟨F16, (Same.refl _), S36, rfl⟩
    rintro b37 H38 ⟨F27, s28, S29, rfl⟩
    by_cases c39 : b25 = true
    · revert hm; refine ifTI c39 fun hm => ?_
      refine goT c39 ?_
      refine ⟨_, rfl, _, rfl, (by show 1 ≤ sizeLine; decide), ?_⟩
      intro a40 np41
      have hl42 : LR (rInt F27) [V.int y14.1] ([y14.1] : (List Int)) := ⟨rfl, trivial⟩
      have S43 : Sta F27 ([(a40, HO.lst [V.int y14.1]), (a_source0, HO.lst v20)] ++ R) _ := S29.new np41 _
      revert hm; refine grdI fun g44 hm => ?_
      refine ⟨_, _, _, _, rfl, rfl, (SqL.mono hs_line0 ((s7.trans (s18.trans s28)).trans S43.sub)), (SqL.of (S43.get 0 rfl)), (by rw [LR.length (hl_line0.mono (s7.trans (s18.trans s28))), LR.length hl42]; exact of_decide_eq_true g44), ?_⟩
      clear S29
      intro a45 np46
      have hl47 : LR (rInt F27) (v_line0 ++ [V.int y14.1]) (x_line0 ++ ([y14.1] : (List Int))) := LR.append (hl_line0.mono (s7.trans (s18.trans s28))) hl42
      have S48 : Sta F27 ([(a45, HO.lst (v_line0 ++ [V.int y14.1])), (a40, HO.lst [V.int y14.1]), (a_source0, HO.lst v20)] ++ R) _ := S43.new np46 _
      obtain ⟨F49, s50, S51, h52⟩ : ∃ F', Same F27 F' ∧ Sta F' ([(a40, HO.lst [V.int y14.1]), (a_source0, HO.lst v20)] ++ R) _ ∧ F' a45 = some (HO.lst (v_line0 ++ [V.int y14.1])) := ⟨_, S48.frzS, S48.frz, upd_same⟩
      obtain rfl := Option.some.inj hm
      have S53 : Sta F49 ([(a_source0, HO.lst v20)] ++ R) _ := S51.pick [1] (by decide) rfl
      exact kk _ _ v20 a45 (v_line0 ++ [V.int y14.1]) (s7.trans (s18.trans (s28.trans s50))) S53 (hl21.mono (s28.trans s50)) (SqL.mono (SqL.of h52) (Same.refl _)) (hl47.mono s50)
    · revert hm; refine ifFI c39 fun hm => ?_
      refine goF c39 ?_
      refine hN24 _ _ ?_
      refine seqI fun N54 hN55 => ?_
      refine ⟨_, rfl, _, rfl, _, rfl, _, _, rfl, .inl (SqL.mono hs_line0 ((s7.trans (s18.trans s28)).trans S29.sub)), ?_⟩
      rw [LR.length (hl_line0.mono (s7.trans (s18.trans s28)))]
      revert hm; refine bndI fun y56 e57 hm => ?_
      refine ⟨F27, ([] ++ R), a_script0, v_script0, x_script0, a_source0, v20, y14.2, (x_line0.length : Int), y56, rfl, (SqL.mono hs_script0 (s7.trans (s18.trans s28))), ((hl_script0.mono (s7.trans (s18.trans s28)))), (hl21.mono s28), S29, (by exact e57), fun F58 H59 v62 s60 S61 hl63 => ?_⟩
      have S64 : Sta F58 ([(a_source0, HO.lst v62)] ++ R) _ := S61
      refine hN55 _ _ ?_
      refine seqI fun N65 hN66 => ?_
      refine ⟨_, rfl, _, _, rfl, rfl, _, rfl, ?_⟩
      clear S61
      by_cases c67 : (decide (y3.1 = (1 : Int))) = true
      · revert hm; refine ifTI c67 fun hm => ?_
        refine goT c67 ?_
        refine ⟨_, rfl, _, rfl, _, rfl, _, _, rfl, (SqL.mono hs_line0 ((s7.trans (s18.trans (s28.trans s60))).trans S64.sub)), ?_⟩
        intro a68 np69
        have hl70 : LR (rInt F58) (cutV v_line0 none (some y56.1)) (cutL x_line0 none (some y56.1)) := LR.cut (hl_line0.mono (s7.trans (s18.trans (s28.trans s60)))) _ _
        have S71 : Sta F58 ([(a68, HO.lst (cutV v_line0 none (some y56.1))), (a_source0, HO.lst v62)] ++ R) _ := S64.new np69 _
        refine ⟨_, rfl, _, rfl, _, _, rfl, rfl, _, rfl, _, _, rfl, (SqL.mono hs_line0 ((s7.trans (s18.trans (s28.trans s60))).trans S71.sub)), ?_⟩
        clear S64
        intro a72 np73
        have hl74 : LR (rInt F58) (cutV v_line0 (some (y56.1 + (1 : Int))) none) (cutL x_line0 (some (y56.1 + (1 : Int))) none) := LR.cut (hl_line0.mono (s7.trans (s18.trans (s28.trans s60)))) _ _
        have S75 : Sta F58 ([(a72, HO.lst (cutV v_line0 (some (y56.1 + (1 : Int))) none)), (a68, HO.lst (cutV v_line0 none (some y56.1))), (a_source0, HO.lst v62)] ++ R) _ := S71.new np73 _
        revert hm; refine grdI fun g76 hm => ?_
        refine ⟨_, _, _, _, rfl, rfl, (SqL.of (S75.get 1 rfl)), (SqL.of (S75.get 0 rfl)), (by rw [LR.length hl70, LR.length hl74]; exact of_decide_eq_true g76), ?_⟩
        clear S71
        intro a77 np78
        have hl79 : LR (rInt F58) ((cutV v_line0 none (some y56.1)) ++ (cutV v_line0 (some (y56.1 + (1 : Int))) none)) ((cutL x_line0 none (some y56.1)) ++ (cutL x_line0 (some (y56.1 + (1 : Int))) none)) := LR.append hl70 hl74
        have S80 : Sta F58 ([(a77, HO.lst ((cutV v_line0 none (some y56.1)) ++ (cutV v_line0 (some (y56.1 + (1 : Int))) none))), (a72, HO.lst (cutV v_line0 (some (y56.1 + (1 : Int))) none)), (a68, HO.lst (cutV v_line0 none (some y56.1))), (a_source0, HO.lst v62)] ++ R) _ := S75.new np78 _
        obtain ⟨F81, s82, S83, h84⟩ : ∃ F', Same F58 F' ∧ Sta F' ([(a72, HO.lst (cutV v_line0 (some (y56.1 + (1 : Int))) none)), (a68, HO.lst (cutV v_line0 none (some y56.1))), (a_source0, HO.lst v62)] ++ R) _ ∧ F' a77 = some (HO.lst ((cutV v_line0 none (some y56.1)) ++ (cutV v_line0 (some (y56.1 + (1 : Int))) none))) := ⟨_, S80.frzS, S80.frz, upd_same⟩
        obtain rfl := Option.some.inj hm
        have S85 : Sta F81 ([(a_source0, HO.lst v62)] ++ R) _ := S83.pick [2] (by decide) rfl
        exact kk _ _ v62 a77 ((cutV v_line0 none (some y56.1)) ++ (cutV v_line0 (some (y56.1 + (1 : Int))) none)) (s7.trans (s18.trans (s28.trans (s60.trans s82)))) S85 (hl63.mono s82) (SqL.mono (SqL.of h84) (Same.refl _)) (hl79.mono s82)
      · revert hm; refine ifFI c67 fun hm => ?_
        refine goF c67 ?_
        refine hN66 _ _ ?_
        refine seqI fun N86 hN87 => ?_
        refine ⟨_, rfl, _, _, rfl, rfl, _, rfl, ?_⟩
        by_cases c88 : (decide (y3.1 = (2 : Int))) = true
        · revert hm; refine ifTI c88 fun hm => ?_
          refine goT c88 ?_
          refine ⟨_, rfl, _, rfl, _, rfl, _, _, rfl, (SqL.mono hs_line0 ((s7.trans (s18.trans (s28.trans s60))).trans S64.sub)), ?_⟩
          intro a89 np90
          have hl91 : LR (rInt F58) (cutV v_line0 none (some y56.1)) (cutL x_line0 none (some y56.1)) := LR.cut (hl_line0.mono (s7.trans (s18.trans (s28.trans s60)))) _ _
          have S92 : Sta F58 ([(a89, HO.lst (cutV v_line0 none (some y56.1))), (a_source0, HO.lst v62)] ++ R) _ := S64.new np90 _
          revert hm; refine bndI fun y93 e94 hm => ?_
          obtain ⟨v95, ev96, rv97⟩ := LR.atI hl_line0 e94
          obtain rfl := rInt_e rv97
          refine ⟨_, rfl, _, rfl, _, _, _, _, rfl, rfl, (SqL.mono hs_line0 ((s7.trans (s18.trans (s28.trans s60))).trans S92.sub)), ev96, _, _, rfl, rfl, (by show 1 ≤ sizeLine; decide), ?_⟩
          clear S64
          intro a98 np99
          have hl100 : LR (rInt F58) [V.int ((0 : Int) - y93)] ([((0 : Int) - y93)] : (List Int)) := ⟨rfl, trivial⟩
          have S101 : Sta F58 ([(a98, HO.lst [V.int ((0 : Int) - y93)]), (a89, HO.lst (cutV v_line0 none (some y56.1))), (a_source0, HO.lst v62)] ++ R) _ := S92.new np99 _
          revert hm; refine grdI fun g102 hm => ?_
          refine ⟨_, _, _, _, rfl, rfl, (SqL.of (S101.get 1 rfl)), (SqL.of (S101.get 0 rfl)), (by rw [LR.length hl91, LR.length hl100]; exact of_decide_eq_true g102), ?_⟩
          clear S92
          intro a103 np104
          have hl105 : LR (rInt F58) ((cutV v_line0 none (some y56.1)) ++ [V.int ((0 : Int) - y93)]) ((cutL x_line0 none (some y56.1)) ++ ([((0 : Int) - y93)] : (List Int))) := LR.append hl91 hl100
          have S106 : Sta F58 ([(a103, HO.lst ((cutV v_line0 none (some y56.1)) ++ [V.int ((0 : Int) - y93)])), (a98, HO.lst [V.int ((0 : Int) - y93)]), (a89, HO.lst (cutV v_line0 none (some y56.1))), (a_source0, HO.lst v62)] ++ R) _ := S101.new np104 _
          refine ⟨_, rfl, _, rfl, _, _, rfl, rfl, _, rfl, _, _, rfl, (SqL.mono hs_line0 ((s7.trans (s18.trans (s28.trans s60))).trans S106.sub)), ?_⟩
          clear S101
          intro a107 np108
          have hl109 : LR (rInt F58) (cutV v_line0 (some (y56.1 + (1 : Int))) none) (cutL x_line0 (some (y56.1 + (1 : Int))) none) := LR.cut (hl_line0.mono (s7.trans (s18.trans (s28.trans s60)))) _ _
          have S110 : Sta F58 ([(a107, HO.lst (cutV v_line0 (some (y56.1 + (1 : Int))) none)), (a103, HO.lst ((cutV v_line0 none (some y56.1)) ++ [V.int ((0 : Int) - y93)])), (a98, HO.lst [V.int ((0 : Int) - y93)]), (a89, HO.lst (cutV v_line0 none (some y56.1))), (a_source0, HO.lst v62)] ++ R) _ := S106.new np108 _
          revert hm; refine grdI fun g111 hm => ?_
          refine ⟨_, _, _, _, rfl, rfl, (SqL.of (S110.get 1 rfl)), (SqL.of (S110.get 0 rfl)), (by rw [LR.length hl105, LR.length hl109]; exact of_decide_eq_true g111), ?_⟩
          clear S106
          intro a112 np113
          have hl114 : LR (rInt F58) (((cutV v_line0 none (some y56.1)) ++ [V.int ((0 : Int) - y93)]) ++ (cutV v_line0 (some (y56.1 + (1 : Int))) none)) (((cutL x_line0 none (some y56.1)) ++ ([((0 : Int) - y93)] : (List Int))) ++ (cutL x_line0 (some (y56.1 + (1 : Int))) none)) := LR.append hl105 hl109
          have S115 : Sta F58 ([(a112, HO.lst (((cutV v_line0 none (some y56.1)) ++ [V.int ((0 : Int) - y93)]) ++ (cutV v_line0 (some (y56.1 + (1 : Int))) none))), (a107, HO.lst (cutV v_line0 (some (y56.1 + (1 : Int))) none)), (a103, HO.lst ((cutV v_line0 none (some y56.1)) ++ [V.int ((0 : Int) - y93)])), (a98, HO.lst [V.int ((0 : Int) - y93)]), (a89, HO.lst (cutV v_line0 none (some y56.1))), (a_source0, HO.lst v62)] ++ R) _ := S110.new np113 _
          obtain ⟨F116, s117, S118, h119⟩ : ∃ F', Same F58 F' ∧ Sta F' ([(a107, HO.lst (cutV v_line0 (some (y56.1 + (1 : Int))) none)), (a103, HO.lst ((cutV v_line0 none (some y56.1)) ++ [V.int ((0 : Int) - y93)])), (a98, HO.lst [V.int ((0 : Int) - y93)]), (a89, HO.lst (cutV v_line0 none (some y56.1))), (a_source0, HO.lst v62)] ++ R) _ ∧ F' a112 = some (HO.lst (((cutV v_line0 none (some y56.1)) ++ [V.int ((0 : Int) - y93)]) ++ (cutV v_line0 (some (y56.1 + (1 : Int))) none))) := ⟨_, S115.frzS, S115.frz, upd_same⟩
          obtain rfl := Option.some.inj hm
          have S120 : Sta F116 ([(a_source0, HO.lst v62)] ++ R) _ := S118.pick [4] (by decide) rfl
          exact kk _ _ v62 a112 (((cutV v_line0 none (some y56.1)) ++ [V.int ((0 : Int) - y93)]) ++ (cutV v_line0 (some (y56.1 + (1 : Int))) none)) (s7.trans (s18.trans (s28.trans (s60.trans s117)))) S120 (hl63.mono s117) (SqL.mono (SqL.of h119) (Same.refl _)) (hl114.mono s117)
        · revert hm; refine ifFI c88 fun hm => ?_
          refine goF c88 ?_
          refine hN87 _ _ ?_
          revert hm; refine bndI fun y121 e122 hm => ?_
          obtain ⟨v123, ev124, rv125⟩ := LR.atI hl_line0 e122
          obtain rfl := rInt_e rv125
          refine ⟨_, rfl, _, rfl, _, rfl, _, _, _, _, rfl, rfl, (SqL.mono hs_line0 ((s7.trans (s18.trans (s28.trans s60))).trans S64.sub)), ev124, (by show 1 ≤ sizeLine; decide), ?_⟩
          intro a126 np127
          have hl128 : LR (rInt F58) [V.int y121] ([y121] : (List Int)) := ⟨rfl, trivial⟩
          have S129 : Sta F58 ([(a126, HO.lst [V.int y121]), (a_source0, HO.lst v62)] ++ R) _ := S64.new np127 _
          revert hm; refine grdI fun g130 hm => ?_
          refine ⟨_, _, _, _, rfl, rfl, (SqL.mono hs_line0 ((s7.trans (s18.trans (s28.trans s60))).trans S129.sub)), (SqL.of (S129.get 0 rfl)), (by rw [LR.length (hl_line0.mono (s7.trans (s18.trans (s28.trans s60)))), LR.length hl128]; exact of_decide_eq_true g130), ?_⟩
          clear S64
          intro a131 np132
          have hl133 : LR (rInt F58) (v_line0 ++ [V.int y121]) (x_line0 ++ ([y121] : (List Int))) := LR.append (hl_line0.mono (s7.trans (s18.trans (s28.trans s60)))) hl128
          have S134 : Sta F58 ([(a131, HO.lst (v_line0 ++ [V.int y121])), (a126, HO.lst [V.int y121]), (a_source0, HO.lst v62)] ++ R) _ := S129.new np132 _
          obtain ⟨F135, s136, S137, h138⟩ : ∃ F', Same F58 F' ∧ Sta F' ([(a126, HO.lst [V.int y121]), (a_source0, HO.lst v62)] ++ R) _ ∧ F' a131 = some (HO.lst (v_line0 ++ [V.int y121])) := ⟨_, S134.frzS, S134.frz, upd_same⟩
          obtain rfl := Option.some.inj hm
          have S139 : Sta F135 ([(a_source0, HO.lst v62)] ++ R) _ := S137.pick [1] (by decide) rfl
          exact kk _ _ v62 a131 (v_line0 ++ [V.int y121]) (s7.trans (s18.trans (s28.trans (s60.trans s136)))) S139 (hl63.mono s136) (SqL.mono (SqL.of h138) (Same.refl _)) (hl133.mono s136)

def sp_law_logs (T : Txt K mg) : Sp := fun vs H Q _ => ∃ (F0 : Hp) (R : Own) (a_script0 : Addr) (v_script0 : List V) (x_script0 : (List Int)) (a_source0 : Addr) (v_source0 : List V) (x_source0 : (List Int)) (a_letters0 : Addr) (v_letters0 : List V) (x_letters0 : (List Int)) (a_log0 : Addr) (v_log0 : List V) (x_log0 : (List (List Int))) (r : ((List (List (List Int))) × (List Int))),
  vs = [V.ref a_script0, V.ref a_source0, V.ref a_letters0, V.ref a_log0] ∧ SqL K F0 a_script0 v_script0 ∧ LR (rInt F0) v_script0 x_script0 ∧ LR (rInt F0) v_source0 x_source0 ∧ SqL K (ov F0 R) a_letters0 v_letters0 ∧ LR (rInt F0) v_letters0 x_letters0 ∧ SqL K F0 a_log0 v_log0 ∧ LR ((rLst K rInt) F0) v_log0 x_log0 ∧ Sta F0 ([(a_source0, HO.lst v_source0)] ++ R) H ∧ m_law_logs x_script0 x_source0 x_letters0 x_log0 = some r ∧ ∀ (F1 : Hp) (H1 : Hp) (v_source0p : List V) (a_ret0p : Addr) (v_ret0p : List V), Same F0 F1 → Sta F1 ([(a_ret0p, HO.lst v_ret0p), (a_source0, HO.lst v_source0p)] ++ R) H1 → LR (rInt F1) v_source0p r.2 → LR ((rLst K (rLst K rInt)) F1) v_ret0p r.1 → Q (V.ref a_ret0p) H1

theorem ok_law_logs (T : Txt K mg) : FnOk P w K mg base CX0 4 T.a_law_logs T.d_law_logs ["script", "source", "letters", "log"] (sp_law_logs T) := by
  refine T.F_law_logs.ok sc_law_logs (fun vs H Q E h => ?_) (fun cdv A outer s H vs Q E hr h => ?_)
  · obtain ⟨_, _, _, _, _, _, _, _, _, _, _, _, _, _, _, rfl, _⟩ := h
    rfl
  · obtain ⟨F0, R, a_script0, v_script0, x_script0, a_source0, v_source0, x_source0, a_letters0, v_letters0, x_letters0, a_log0, v_log0, x_log0, r, rfl, hs_script0, hl_script0, hl_source0, hs_letters0, hl_letters0, hs_log0, hl_log0, S0, hm, kk⟩ := h
    have hu := hu_of hr
    unfold m_law_logs at hm
    refine ⟨_, (pss_cons (ps_set (i := 4) sc_law_logs.nd rfl (Or.inl rfl) (pe_op op_sub (pe_callB call_len_seq (by rfl) T.z_len PySem.boot_len (pa_cons (pv 3) pa_nil)) pe_int)) (pss_cons (ps_set (i := 5) sc_law_logs.nd rfl (Or.inl rfl) (pe_call (ok_law_line T) (hr.mono (by decide)) rfl T.g_law_line T.F_law_line.kp T.b_law_line .nil pass0 (pa_cons (pv 0) (pa_cons (pv 1) (pa_cons (pv 2) pa_nil))))) (pss_cons (ps_set (i := 6) sc_law_logs.nd rfl (Or.inl rfl) (pe_call (ok_law_line T) (hr.mono (by decide)) rfl T.g_law_line T.F_law_line.kp T.b_law_line .nil pass0 (pa_cons (pv 0) (pa_cons (pv 1) (pa_cons (pv 2) pa_nil))))) (pss_cons (ps_set (i := 7) sc_law_logs.nd rfl (Or.inl rfl) (pe_lst (pa_cons (pv 3) (pa_cons (pe_slice sl_list (pv 3) po_none (po_some (pv 4))) (pa_cons (pe_op op_catS (pv 3) (pe_lst (pa_cons (pv 5) pa_nil))) (pa_cons (pe_lst (pa_cons (pv 5) (pa_cons (pv 5) (pa_cons (pv 6) (pa_cons (pv 5) (pa_cons (pe_lst pa_nil) pa_nil)))))) (pa_cons (pe_lst (pa_cons (pe_lst pa_nil) (pa_cons (pv 6) (pa_cons (pv 5) (pa_cons (pe_lst pa_nil) pa_nil))))) (pa_cons (pe_lst (pa_cons (pe_lst pa_nil) pa_nil)) (pa_cons (pe_lst pa_nil) (pa_cons (pe_lst (pa_cons (pv 5) (pa_cons (pv 6) pa_nil))) pa_nil)))))))))) (pss_cons (ps_for PassesOwn.never rfl (pi_range1 rfl T.z_range (pa_cons pe_int pa_nil)) (pg_name (i := 8) sc_law_logs.nd rfl (Or.inl rfl)) (pss_cons (ps_set (i := 9) sc_law_logs.nd rfl (Or.inl rfl) (pe_call (ok_law_take T) (hr.mono (by decide)) rfl T.g_law_take T.F_law_take.kp T.b_law_take .nil pass0 (pa_cons (pv 0) (pa_cons (pv 1) (pa_cons (pe_callB call_len_seq (by rfl) T.z_len PySem.boot_len (pa_cons (pv 3) pa_nil)) pa_nil))))) (pss_one (ps_expr (pe_bm PySem.F.plainAttrs_list PySem.F.slot_list_append PySem.F.type_list_append mt_append (pv 7) (pa_cons (pe_op op_catS (pe_op op_catS (pe_slice sl_list (pv 3) po_none (po_some (pv 9))) (pe_lst (pa_cons (pe_call (ok_law_bent T) (hr.mono (by decide)) rfl T.g_law_bent T.F_law_bent.kp T.b_law_bent .nil pass0 (pa_cons (pv 0) (pa_cons (pv 1) (pa_cons (pv 2) (pa_cons (pe_ix ix_list (pv 3) (pv 9) (fun _ _ => rfl)) pa_nil))))) pa_nil))) (pe_slice sl_list (pv 3) (po_some (pe_op op_add (pv 9) pe_int)) po_none)) pa_nil)))))) (pss_cons (ps_set (i := 9) sc_law_logs.nd rfl (Or.inl rfl) (pe_call (ok_law_take T) (hr.mono (by decide)) rfl T.g_law_take T.F_law_take.kp T.b_law_take .nil pass0 (pa_cons (pv 0) (pa_cons (pv 1) (pa_cons (pe_callB call_len_seq (by rfl) T.z_len PySem.boot_len (pa_cons (pv 3) pa_nil)) pa_nil))))) (pss_cons (ps_set (i := 10) sc_law_logs.nd rfl (Or.inl rfl) (pe_op op_catS (pe_slice sl_list (pv 3) po_none (po_some (pv 9))) (pe_slice sl_list (pv 3) (po_some (pe_op op_add (pv 9) pe_int)) po_none))) (pss_cons (ps_set (i := 11) sc_law_logs.nd rfl (Or.inl rfl) (pe_call (ok_law_take T) (hr.mono (by decide)) rfl T.g_law_take T.F_law_take.kp T.b_law_take .nil pass0 (pa_cons (pv 0) (pa_cons (pv 1) (pa_cons (pe_op op_add (pe_callB call_len_seq (by rfl) T.z_len PySem.boot_len (pa_cons (pv 10) pa_nil)) pe_int) pa_nil))))) (pss_cons (ps_expr (pe_bm PySem.F.plainAttrs_list PySem.F.slot_list_append PySem.F.type_list_append mt_append (pv 7) (pa_cons (pv 10) pa_nil))) (pss_cons (ps_expr (pe_bm PySem.F.plainAttrs_list PySem.F.slot_list_append PySem.F.type_list_append mt_append (pv 7) (pa_cons (pe_op op_catS (pe_op op_catS (pe_slice sl_list (pv 10) po_none (po_some (pv 11))) (pe_lst (pa_cons (pe_ix ix_list (pv 3) (pv 9) (fun _ _ => rfl)) pa_nil))) (pe_slice sl_list (pv 10) (po_some (pv 11)) po_none)) pa_nil))) (pss_cons (ps_expr (pe_bm PySem.F.plainAttrs_list PySem.F.slot_list_append PySem.F.type_list_append mt_append (pv 7) (pa_cons (pe_op op_catS (pe_op op_catS (pe_slice sl_list (pv 3) po_none (po_some (pv 9))) (pe_lst (pa_cons (pe_ix ix_list (pv 3) (pv 9) (fun _ _ => rfl)) pa_nil))) (pe_slice sl_list (pv 3) (po_some (pv 9)) po_none)) pa_nil))) (pss_cons (ps_set (i := 11) sc_law_logs.nd rfl (Or.inl rfl) (pe_call (ok_law_take T) (hr.mono (by decide)) rfl T.g_law_take T.F_law_take.kp T.b_law_take .nil pass0 (pa_cons (pv 0) (pa_cons (pv 1) (pa_cons (pe_op op_add (pe_callB call_len_seq (by rfl) T.z_len PySem.boot_len (pa_cons (pv 3) pa_nil)) pe_int) pa_nil))))) (pss_cons (ps_expr (pe_bm PySem.F.plainAttrs_list PySem.F.slot_list_append PySem.F.type_list_append mt_append (pv 7) (pa_cons (pe_op op_catS (pe_op op_catS (pe_slice sl_list (pv 3) po_none (po_some (pv 11))) (pe_lst (pa_cons (pe_lst pa_nil) pa_nil))) (pe_slice sl_list (pv 3) (po_some (pv 11)) po_none)) pa_nil))) (pss_one (ps_ret (pv 7)))))))))))))))), ?_⟩
    refine seqI fun N1 hN2 => ?_
    refine ⟨_, rfl, _, _, rfl, .inl (SqL.mono hs_log0 ((Same.refl _).trans S0.sub)), ?_⟩
    rw [LR.length hl_log0]
    refine ⟨_, _, rfl, rfl, ?_⟩
    refine hN2 _ _ ?_
    refine seqI fun N3 hN4 => ?_
    revert hm; refine bndI fun y5 e6 hm => ?_
    refine ⟨_, rfl, _, rfl, _, rfl, F0, ([] ++ R), a_script0, v_script0, x_script0, a_source0, v_source0, x_source0, a_letters0, v_letters0, x_letters0, y5, rfl, (SqL.mono hs_script0 (Same.refl _)), (hl_script0), hl_source0, (SqL.mono hs_letters0 (S0.tl.ovR (Same.refl _) (fun _ q => (List.mem_append_right _ q)))), hl_letters0, S0, (by exact e6), fun F7 H8 v11 a13 v14 s9 S10 hl12 hs15 hl16 => ?_⟩
    have S17 : Sta F7 ([(a_source0, HO.lst v11)] ++ R) _ := S10
    refine hN4 _ _ ?_
    refine seqI fun N18 hN19 => ?_
    revert hm; refine bndI fun y20 e21 hm => ?_
    refine ⟨_, rfl, _, rfl, _, rfl, F7, ([] ++ R), a_script0, v_script0, x_script0, a_source0, v11, y5.2, a_letters0, v_letters0, x_letters0, y20, rfl, (SqL.mono hs_script0 s9), ((hl_script0.mono s9)), hl12, (SqL.mono hs_letters0 (S17.tl.ovR s9 (fun _ q => (List.mem_append_right _ q)))), (hl_letters0.mono s9), S17, (by exact e21), fun F22 H23 v26 a28 v29 s24 S25 hl27 hs30 hl31 => ?_⟩
    clear S10
    have S32 : Sta F22 ([(a_source0, HO.lst v26)] ++ R) _ := S25
    refine hN19 _ _ ?_
    refine seqI fun N33 hN34 => ?_
    refine ⟨_, rfl, _, rfl, _, rfl, _, rfl, _, _, rfl, (SqL.mono hs_log0 ((s9.trans s24).trans S32.sub)), ?_⟩
    clear S25
    intro a35 np36
    have hl37 : LR ((rLst K rInt) F22) (cutV v_log0 none (some ((x_log0.length : Int) - (1 : Int)))) (cutL x_log0 none (some ((x_log0.length : Int) - (1 : Int)))) := LR.cut (hl_log0.mono (s9.trans s24)) _ _
    have S38 : Sta F22 ([(a35, HO.lst (cutV v_log0 none (some ((x_log0.length : Int) - (1 : Int))))), (a_source0, HO.lst v26)] ++ R) _ := S32.new np36 _
    refine ⟨_, rfl, _, rfl, (by show 1 ≤ sizeLine; decide), ?_⟩
    clear S32
    intro a39 np40
    have hl41 : LR ((rLst K rInt) F22) [V.ref a13] ([y5.1] : (List (List Int))) := ⟨⟨_, _, rfl, SqL.mono hs15 s24, (hl16.mono s24)⟩, trivial⟩
    have S42 : Sta F22 ([(a39, HO.lst [V.ref a13]), (a35, HO.lst (cutV v_log0 none (some ((x_log0.length : Int) - (1 : Int))))), (a_source0, HO.lst v26)] ++ R) _ := S38.new np40 _
    revert hm; refine grdI fun g43 hm => ?_
    refine ⟨_, _, _, _, rfl, rfl, (SqL.mono hs_log0 ((s9.trans s24).trans S42.sub)), (SqL.of (S42.get 0 rfl)), (by rw [LR.length (hl_log0.mono (s9.trans s24)), LR.length hl41]; exact of_decide_eq_true g43), ?_⟩
    clear S38
    intro a44 np45
    have hl46 : LR ((rLst K rInt) F22) (v_log0 ++ [V.ref a13]) (x_log0 ++ ([y5.1] : (List (List Int)))) := LR.append (hl_log0.mono (s9.trans s24)) hl41
    have S47 : Sta F22 ([(a44, HO.lst (v_log0 ++ [V.ref a13])), (a39, HO.lst [V.ref a13]), (a35, HO.lst (cutV v_log0 none (some ((x_log0.length : Int) - (1 : Int))))), (a_source0, HO.lst v26)] ++ R) _ := S42.new np45 _
    refine ⟨_, rfl, _, rfl, _, rfl, _, rfl, (by show 0 ≤ sizeLine; decide), ?_⟩
    clear S42
    intro a48 np49
    have hl50 : LR (rInt F22) [] ([] : (List Int)) := trivial
    have S51 : Sta F22 ([(a48, HO.lst []), (a44, HO.lst (v_log0 ++ [V.ref a13])), (a39, HO.lst [V.ref a13]), (a35, HO.lst (cutV v_log0 none (some ((x_log0.length : Int) - (1 : Int))))), (a_source0, HO.lst v26)] ++ R) _ := S47.new np49 _
    obtain ⟨F52, s53, S54, h55⟩ : ∃ F', Same F22 F' ∧ Sta F' ([(a44, HO.lst (v_log0 ++ [V.ref a13])), (a39, HO.lst [V.ref a13]), (a35, HO.lst (cutV v_log0 none (some ((x_log0.length : Int) - (1 : Int))))), (a_source0, HO.lst v26)] ++ R) _ ∧ F' a48 = some (HO.lst []) := ⟨_, S51.frzS, S51.frz, upd_same⟩
    refine ⟨(by show 5 ≤ sizeLine; decide), ?_⟩
    clear S47
    intro a56 np57
    have hl58 : LR ((rLst K rInt) F52) [V.ref a13, V.ref a13, V.ref a28, V.ref a13, V.ref a48] ([y5.1, y5.1, y20.1, y5.1, ([] : (List Int))] : (List (List Int))) := ⟨⟨_, _, rfl, SqL.mono hs15 (s24.trans s53), (hl16.mono (s24.trans s53))⟩, ⟨_, _, rfl, SqL.mono hs15 (s24.trans s53), (hl16.mono (s24.trans s53))⟩, ⟨_, _, rfl, SqL.mono hs30 s53, (hl31.mono s53)⟩, ⟨_, _, rfl, SqL.mono hs15 (s24.trans s53), (hl16.mono (s24.trans s53))⟩, ⟨_, _, rfl, SqL.mono (SqL.of h55) (Same.refl _), (hl50.mono s53)⟩, trivial⟩
    have S59 : Sta F52 ([(a56, HO.lst [V.ref a13, V.ref a13, V.ref a28, V.ref a13, V.ref a48]), (a44, HO.lst (v_log0 ++ [V.ref a13])), (a39, HO.lst [V.ref a13]), (a35, HO.lst (cutV v_log0 none (some ((x_log0.length : Int) - (1 : Int))))), (a_source0, HO.lst v26)] ++ R) _ := S54.new np57 _
    refine ⟨(by show 0 ≤ sizeLine; decide), ?_⟩
    clear S54
    intro a60 np61
    have hl62 : LR (rInt F52) [] ([] : (List Int)) := trivial
    have S63 : Sta F52 ([(a60, HO.lst []), (a56, HO.lst [V.ref a13, V.ref a13, V.ref a28, V.ref a13, V.ref a48]), (a44, HO.lst (v_log0 ++ [V.ref a13])), (a39, HO.lst [V.ref a13]), (a35, HO.lst (cutV v_log0 none (some ((x_log0.length : Int) - (1 : Int))))), (a_source0, HO.lst v26)] ++ R) _ := S59.new np61 _
    refine ⟨_, rfl, _, rfl, (by show 0 ≤ sizeLine; decide), ?_⟩
    clear S59
    intro a64 np65
    have hl66 : LR (rInt F52) [] ([] : (List Int)) := trivial
    have S67 : Sta F52 ([(a64, HO.lst []), (a60, HO.lst []), (a56, HO.lst [V.ref a13, V.ref a13, V.ref a28, V.ref a13, V.ref a48]), (a44, HO.lst (v_log0 ++ [V.ref a13])), (a39, HO.lst [V.ref a13]), (a35, HO.lst (cutV v_log0 none (some ((x_log0.length : Int) - (1 : Int))))), (a_source0, HO.lst v26)] ++ R) _ := S63.new np65 _
    have S68 : Sta F52 ([(a60, HO.lst []), (a64, HO.lst []), (a56, HO.lst [V.ref a13, V.ref a13, V.ref a28, V.ref a13, V.ref a48]), (a44, HO.lst (v_log0 ++ [V.ref a13])), (a39, HO.lst [V.ref a13]), (a35, HO.lst (cutV v_log0 none (some ((x_log0.length : Int) - (1 : Int))))), (a_source0, HO.lst v26)] ++ R) _ := S67.pick [1, 0, 2, 3, 4, 5, 6] (by decide) rfl
    obtain ⟨F69, s70, S71, h72⟩ : ∃ F', Same F52 F' ∧ Sta F' ([(a64, HO.lst []), (a56, HO.lst [V.ref a13, V.ref a13, V.ref a28, V.ref a13, V.ref a48]), (a44, HO.lst (v_log0 ++ [V.ref a13])), (a39, HO.lst [V.ref a13]), (a35, HO.lst (cutV v_log0 none (some ((x_log0.length : Int) - (1 : Int))))), (a_source0, HO.lst v26)] ++ R) _ ∧ F' a60 = some (HO.lst []) := ⟨_, S68.frzS, S68.frz, upd_same⟩
    obtain ⟨F73, s74, S75, h76⟩ : ∃ F', Same F69 F' ∧ Sta F' ([(a56, HO.lst [V.ref a13, V.ref a13, V.ref a28, V.ref a13, V.ref a48]), (a44, HO.lst (v_log0 ++ [V.ref a13])), (a39, HO.lst [V.ref a13]), (a35, HO.lst (cutV v_log0 none (some ((x_log0.length : Int) - (1 : Int))))), (a_source0, HO.lst v26)] ++ R) _ ∧ F' a64 = some (HO.lst []) := ⟨_, S71.frzS, S71.frz, upd_same⟩
    refine ⟨(by show 4 ≤ sizeLine; decide), ?_⟩
    clear S63 S67
    intro a77 np78
    have hl79 : LR ((rLst K rInt) F73) [V.ref a60, V.ref a28, V.ref a13, V.ref a64] ([([] : (List Int)), y20.1, y5.1, ([] : (List Int))] : (List (List Int))) := ⟨⟨_, _, rfl, SqL.mono (SqL.of h72) s74, (hl62.mono (s70.trans s74))⟩, ⟨_, _, rfl, SqL.mono hs30 (s53.trans (s70.trans s74)), (hl31.mono (s53.trans (s70.trans s74)))⟩, ⟨_, _, rfl, SqL.mono hs15 (s24.trans (s53.trans (s70.trans s74))), (hl16.mono (s24.trans (s53.trans (s70.trans s74))))⟩, ⟨_, _, rfl, SqL.mono (SqL.of h76) (Same.refl _), (hl66.mono (s70.trans s74))⟩, trivial⟩
    have S80 : Sta F73 ([(a77, HO.lst [V.ref a60, V.ref a28, V.ref a13, V.ref a64]), (a56, HO.lst [V.ref a13, V.ref a13, V.ref a28, V.ref a13, V.ref a48]), (a44, HO.lst (v_log0 ++ [V.ref a13])), (a39, HO.lst [V.ref a13]), (a35, HO.lst (cutV v_log0 none (some ((x_log0.length : Int) - (1 : Int))))), (a_source0, HO.lst v26)] ++ R) _ := S75.new np78 _
    refine ⟨(by show 0 ≤ sizeLine; decide), ?_⟩
    clear S75
    intro a81 np82
    have hl83 : LR (rInt F73) [] ([] : (List Int)) := trivial
    have S84 : Sta F73 ([(a81, HO.lst []), (a77, HO.lst [V.ref a60, V.ref a28, V.ref a13, V.ref a64]), (a56, HO.lst [V.ref a13, V.ref a13, V.ref a28, V.ref a13, V.ref a48]), (a44, HO.lst (v_log0 ++ [V.ref a13])), (a39, HO.lst [V.ref a13]), (a35, HO.lst (cutV v_log0 none (some ((x_log0.length : Int) - (1 : Int))))), (a_source0, HO.lst v26)] ++ R) _ := S80.new np82 _
    obtain ⟨F85, s86, S87, h88⟩ : ∃ F', Same F73 F' ∧ Sta F' ([(a77, HO.lst [V.ref a60, V.ref a28, V.ref a13, V.ref a64]), (a56, HO.lst [V.ref a13, V.ref a13, V.ref a28, V.ref a13, V.ref a48]), (a44, HO.lst (v_log0 ++ [V.ref a13])), (a39, HO.lst [V.ref a13]), (a35, HO.lst (cutV v_log0 none (some ((x_log0.length : Int) - (1 : Int))))), (a_source0, HO.lst v26)] ++ R) _ ∧ F' a81 = some (HO.lst []) := ⟨_, S84.frzS, S84.frz, upd_same⟩
    refine ⟨(by show 1 ≤ sizeLine; decide), ?_⟩
    clear S80
    intro a89 np90
    have hl91 : LR ((rLst K rInt) F85) [V.ref a81] ([([] : (List Int))] : (List (List Int))) := ⟨⟨_, _, rfl, SqL.mono (SqL.of h88) (Same.refl _), (hl83.mono s86)⟩, trivial⟩
    have S92 : Sta F85 ([(a89, HO.lst [V.ref a81]), (a77, HO.lst [V.ref a60, V.ref a28, V.ref a13, V.ref a64]), (a56, HO.lst [V.ref a13, V.ref a13, V.ref a28, V.ref a13, V.ref a48]), (a44, HO.lst (v_log0 ++ [V.ref a13])), (a39, HO.lst [V.ref a13]), (a35, HO.lst (cutV v_log0 none (some ((x_log0.length : Int) - (1 : Int))))), (a_source0, HO.lst v26)] ++ R) _ := S87.new np90 _
    refine ⟨(by show 0 ≤ sizeLine; decide), ?_⟩
    clear S87
    intro a93 np94
    have hl95 : LR ((rLst K rInt) F85) [] ([] : (List (List Int))) := trivial
    have S96 : Sta F85 ([(a93, HO.lst []), (a89, HO.lst [V.ref a81]), (a77, HO.lst [V.ref a60, V.ref a28, V.ref a13, V.ref a64]), (a56, HO.lst [V.ref a13, V.ref a13, V.ref a28, V.ref a13, V.ref a48]), (a44, HO.lst (v_log0 ++ [V.ref a13])), (a39, HO.lst [V.ref a13]), (a35, HO.lst (cutV v_log0 none (some ((x_log0.length : Int) - (1 : Int))))), (a_source0, HO.lst v26)] ++ R) _ := S92.new np94 _
    refine ⟨_, rfl, _, rfl, (by show 2 ≤ sizeLine; decide), ?_⟩
    clear S92
    intro a97 np98
    have hl99 : LR ((rLst K rInt) F85) [V.ref a13, V.ref a28] ([y5.1, y20.1] : (List (List Int))) := ⟨⟨_, _, rfl, SqL.mono hs15 (s24.trans (s53.trans (s70.trans (s74.trans s86)))), (hl16.mono (s24.trans (s53.trans (s70.trans (s74.trans s86)))))⟩, ⟨_, _, rfl, SqL.mono hs30 (s53.trans (s70.trans (s74.trans s86))), (hl31.mono (s53.trans (s70.trans (s74.trans s86))))⟩, trivial⟩
    have S100 : Sta F85 ([(a97, HO.lst [V.ref a13, V.ref a28]), (a93, HO.lst []), (a89, HO.lst [V.ref a81]), (a77, HO.lst [V.ref a60, V.ref a28, V.ref a13, V.ref a64]), (a56, HO.lst [V.ref a13, V.ref a13, V.ref a28, V.ref a13, V.ref a48]), (a44, HO.lst (v_log0 ++ [V.ref a13])), (a39, HO.lst [V.ref a13]), (a35, HO.lst (cutV v_log0 none (some ((x_log0.length : Int) - (1 : Int))))), (a_source0, HO.lst v26)] ++ R) _ := S96.new np98 _
    have S101 : Sta F85 ([(a35, HO.lst (cutV v_log0 none (some ((x_log0.length : Int) - (1 : Int))))), (a97, HO.lst [V.ref a13, V.ref a28]), (a93, HO.lst []), (a89, HO.lst [V.ref a81]), (a77, HO.lst [V.ref a60, V.ref a28, V.ref a13, V.ref a64]), (a56, HO.lst [V.ref a13, V.ref a13, V.ref a28, V.ref a13, V.ref a48]), (a44, HO.lst (v_log0 ++ [V.ref a13])), (a39, HO.lst [V.ref a13]), (a_source0, HO.lst v26)] ++ R) _ := S100.pick [7, 0, 1, 2, 3, 4, 5, 6, 8] (by decide) rfl
    obtain ⟨F102, s103, S104, h105⟩ : ∃ F', Same F85 F' ∧ Sta F' ([(a97, HO.lst [V.ref a13, V.ref a28]), (a93, HO.lst []), (a89, HO.lst [V.ref a81]), (a77, HO.lst [V.ref a60, V.ref a28, V.ref a13, V.ref a64]), (a56, HO.lst [V.ref a13, V.ref a13, V.ref a28, V.ref a13, V.ref a48]), (a44, HO.lst (v_log0 ++ [V.ref a13])), (a39, HO.lst [V.ref a13]), (a_source0, HO.lst v26)] ++ R) _ ∧ F' a35 = some (HO.lst (cutV v_log0 none (some ((x_log0.length : Int) - (1 : Int))))) := ⟨_, S101.frzS, S101.frz, upd_same⟩
    have S106 : Sta F102 ([(a44, HO.lst (v_log0 ++ [V.ref a13])), (a97, HO.lst [V.ref a13, V.ref a28]), (a93, HO.lst []), (a89, HO.lst [V.ref a81]), (a77, HO.lst [V.ref a60, V.ref a28, V.ref a13, V.ref a64]), (a56, HO.lst [V.ref a13, V.ref a13, V.ref a28, V.ref a13, V.ref a48]), (a39, HO.lst [V.ref a13]), (a_source0, HO.lst v26)] ++ R) _ := S104.pick [5, 0, 1, 2, 3, 4, 6, 7] (by decide) rfl
    obtain ⟨F107, s108, S109, h110⟩ : ∃ F', Same F102 F' ∧ Sta F' ([(a97, HO.lst [V.ref a13, V.ref a28]), (a93, HO.lst []), (a89, HO.lst [V.ref a81]), (a77, HO.lst [V.ref a60, V.ref a28, V.ref a13, V.ref a64]), (a56, HO.lst [V.ref a13, V.ref a13, V.ref a28, V.ref a13, V.ref a48]), (a39, HO.lst [V.ref a13]), (a_source0, HO.lst v26)] ++ R) _ ∧ F' a44 = some (HO.lst (v_log0 ++ [V.ref a13])) := ⟨_, S106.frzS, S106.frz, upd_same⟩
    have S111 : Sta F107 ([(a56, HO.lst [V.ref a13, V.ref a13, V.ref a28, V.ref a13, V.ref a48]), (a97, HO.lst [V.ref a13, V.ref a28]), (a93, HO.lst []), (a89, HO.lst [V.ref a81]), (a77, HO.lst [V.ref a60, V.ref a28, V.ref a13, V.ref a64]), (a39, HO.lst [V.ref a13]), (a_source0, HO.lst v26)] ++ R) _ := S109.pick [4, 0, 1, 2, 3, 5, 6] (by decide) rfl
    obtain ⟨F112, s113, S114, h115⟩ : ∃ F', Same F107 F' ∧ Sta F' ([(a97, HO.lst [V.ref a13, V.ref a28]), (a93, HO.lst []), (a89, HO.lst [V.ref a81]), (a77, HO.lst [V.ref a60, V.ref a28, V.ref a13, V.ref a64]), (a39, HO.lst [V.ref a13]), (a_source0, HO.lst v26)] ++ R) _ ∧ F' a56 = some (HO.lst [V.ref a13, V.ref a13, V.ref a28, V.ref a13, V.ref a48]) := ⟨_, S111.frzS, S111.frz, upd_same⟩
    have S116 : Sta F112 ([(a77, HO.lst [V.ref a60, V.ref a28, V.ref a13, V.ref a64]), (a97, HO.lst [V.ref a13, V.ref a28]), (a93, HO.lst []), (a89, HO.lst [V.ref a81]), (a39, HO.lst [V.ref a13]), (a_source0, HO.lst v26)] ++ R) _ := S114.pick [3, 0, 1, 2, 4, 5] (by decide) rfl
    obtain ⟨F117, s118, S119, h120⟩ : ∃ F', Same F112 F' ∧ Sta F' ([(a97, HO.lst [V.ref a13, V.ref a28]), (a93, HO.lst []), (a89, HO.lst [V.ref a81]), (a39, HO.lst [V.ref a13]), (a_source0, HO.lst v26)] ++ R) _ ∧ F' a77 = some (HO.lst [V.ref a60, V.ref a28, V.ref a13, V.ref a64]) := ⟨_, S116.frzS, S116.frz, upd_same⟩
    have S121 : Sta F117 ([(a89, HO.lst [V.ref a81]), (a97, HO.lst [V.ref a13, V.ref a28]), (a93, HO.lst []), (a39, HO.lst [V.ref a13]), (a_source0, HO.lst v26)] ++ R) _ := S119.pick [2, 0, 1, 3, 4] (by decide) rfl
    obtain ⟨F122, s123, S124, h125⟩ : ∃ F', Same F117 F' ∧ Sta F' ([(a97, HO.lst [V.ref a13, V.ref a28]), (a93, HO.lst []), (a39, HO.lst [V.ref a13]), (a_source0, HO.lst v26)] ++ R) _ ∧ F' a89 = some (HO.lst [V.ref a81]) := ⟨_, S121.frzS, S121.frz, upd_same⟩
    have S126 : Sta F122 ([(a93, HO.lst []), (a97, HO.lst [V.ref a13, V.ref a28]), (a39, HO.lst [V.ref a13]), (a_source0, HO.lst v26)] ++ R) _ := S124.pick [1, 0, 2, 3] (by decide) rfl
    obtain ⟨F127, s128, S129, h130⟩ : ∃ F', Same F122 F' ∧ Sta F' ([(a97, HO.lst [V.ref a13, V.ref a28]), (a39, HO.lst [V.ref a13]), (a_source0, HO.lst v26)] ++ R) _ ∧ F' a93 = some (HO.lst []) := ⟨_, S126.frzS, S126.frz, upd_same⟩
    obtain ⟨F131, s132, S133, h134⟩ : ∃ F', Same F127 F' ∧ Sta F' ([(a39, HO.lst [V.ref a13]), (a_source0, HO.lst v26)] ++ R) _ ∧ F' a97 = some (HO.lst [V.ref a13, V.ref a28]) := ⟨_, S129.frzS, S129.frz, upd_same⟩
    refine ⟨(by show 8 ≤ sizeLine; decide), ?_⟩
    clear S96 S100 S104 S109 S114 S119 S124
    intro a135 np136
    have hl137 : LR ((rLst K (rLst K rInt)) F131) [V.ref a_log0, V.ref a35, V.ref a44, V.ref a56, V.ref a77, V.ref a89, V.ref a93, V.ref a97] ([x_log0, (cutL x_log0 none (some ((x_log0.length : Int) - (1 : Int)))), (x_log0 ++ ([y5.1] : (List (List Int)))), ([y5.1, y5.1, y20.1, y5.1, ([] : (List Int))] : (List (List Int))), ([([] : (List Int)), y20.1, y5.1, ([] : (List Int))] : (List (List Int))), ([([] : (List Int))] : (List (List Int))), ([] : (List (List Int))), ([y5.1, y20.1] : (List (List Int)))] : (List (List (List Int)))) := ⟨⟨_, _, rfl, SqL.mono hs_log0 (s9.trans (s24.trans (s53.trans (s70.trans (s74.trans (s86.trans (s103.trans (s108.trans (s113.trans (s118.trans (s123.trans (s128.trans s132)))))))))))), (hl_log0.mono (s9.trans (s24.trans (s53.trans (s70.trans (s74.trans (s86.trans (s103.trans (s108.trans (s113.trans (s118.trans (s123.trans (s128.trans s132)))))))))))))⟩, ⟨_, _, rfl, SqL.mono (SqL.of h105) (s108.trans (s113.trans (s118.trans (s123.trans (s128.trans s132))))), (hl37.mono (s53.trans (s70.trans (s74.trans (s86.trans (s103.trans (s108.trans (s113.trans (s118.trans (s123.trans (s128.trans s132)))))))))))⟩, ⟨_, _, rfl, SqL.mono (SqL.of h110) (s113.trans (s118.trans (s123.trans (s128.trans s132)))), (hl46.mono (s53.trans (s70.trans (s74.trans (s86.trans (s103.trans (s108.trans (s113.trans (s118.trans (s123.trans (s128.trans s132)))))))))))⟩, ⟨_, _, rfl, SqL.mono (SqL.of h115) (s118.trans (s123.trans (s128.trans s132))), (hl58.mono (s70.trans (s74.trans (s86.trans (s103.trans (s108.trans (s113.trans (s118.trans (s123.trans (s128.trans s132))))))))))⟩, ⟨_, _, rfl, SqL.mono (SqL.of h120) (s123.trans (s128.trans s132)), (hl79.mono (s86.trans (s103.trans (s108.trans (s113.trans (s118.trans (s123.trans (s128.trans s132))))))))⟩, ⟨_, _, rfl, SqL.mono (SqL.of h125) (s128.trans s132), (hl91.mono (s103.trans (s108.trans (s113.trans (s118.trans (s123.trans (s128.trans s132)))))))⟩, ⟨_, _, rfl, SqL.mono (SqL.of h130) s132, (hl95.mono (s103.trans (s108.trans (s113.trans (s118.trans (s123.trans (s128.trans s132)))))))⟩, ⟨_, _, rfl, SqL.mono (SqL.of h134) (Same.refl _), (hl99.mono (s103.trans (s108.trans (s113.trans (s118.trans (s123.trans (s128.trans s132)))))))⟩, trivial⟩
    have S138 : Sta F131 ([(a135, HO.lst [V.ref a_log0, V.ref a35, V.ref a44, V.ref a56, V.ref a77, V.ref a89, V.ref a93, V.ref a97]), (a39, HO.lst [V.ref a13]), (a_source0, HO.lst v26)] ++ R) _ := S133.new np136 _
    refine hN34 _ _ ?_
    refine seqI fun N139 hN140 => ?_
    revert hm; refine bndI fun y141 e142 hm143 => ?_
    refine ⟨_, rfl, (by decide), (by decide), for_rng (lo := 0) (n := (2 : Int).toNat) (fun i σ H2 => ∃ (st1 : ((List (List (List Int))) × (List Int))) (F167 : Hp) (v172 : List V) (v174 : List V) (o170 : Option V) (o171 : Option V), σ = [some (V.ref a_script0), some (V.ref a_source0), some (V.ref a_letters0), some (V.ref a_log0), some (V.int ((x_log0.length : Int) - (1 : Int))), some (V.ref a13), some (V.ref a28), some (V.ref a135), o170, o171, none, none] ∧ Same F131 F167 ∧ Sta F167 ([(a135, HO.lst v172), (a39, HO.lst [V.ref a13]), (a_source0, HO.lst v174)] ++ R) H2 ∧ LR ((rLst K (rLst K rInt)) F167) v172 st1.1 ∧ LR (rInt F167) v174 st1.2 ∧ m_law_logs_l1 x_script0 x_letters0 x_log0 (List.drop i (pyRange 0 (2 : Int).toNat)) st1 = some y141) ⟨(([x_log0, (cutL x_log0 none (some ((x_log0.length : Int) - (1 : Int)))), (x_log0 ++ ([y5.1] : (List (List Int)))), ([y5.1, y5.1, y20.1, y5.1, ([] : (List Int))] : (List (List Int))), ([([] : (List Int)), y20.1, y5.1, ([] : (List Int))] : (List (List Int))), ([([] : (List Int))] : (List (List Int))), ([] : (List (List Int))), ([y5.1, y20.1] : (List (List Int)))] : (List (List (List Int)))), y20.2), F131, [V.ref a_log0, V.ref a35, V.ref a44, V.ref a56, V.ref a77, V.ref a89, V.ref a93, V.ref a97], v26, _, _, rfl, (Same.refl _), S138, hl137, (hl27.mono (s53.trans (s70.trans (s74.trans (s86.trans (s103.trans (s108.trans (s113.trans (s118.trans (s123.trans (s128.trans s132))))))))))), e142⟩ ?_ ?_⟩
    clear S133
    · rintro i x176 σ H2 hi ⟨st1, F167, v172, v174, o170, o171, rfl, s168, S169, hl173, hl175, hm⟩
      rw [drop_cons hi, m_law_logs_l1] at hm
      refine seqI fun N178 hN179 => ?_
      refine ⟨_, rfl, _, rfl, _, rfl, _, _, rfl, .inl (SqL.mono hs_log0 ((s9.trans (s24.trans (s53.trans (s70.trans (s74.trans (s86.trans (s103.trans (s108.trans (s113.trans (s118.trans (s123.trans (s128.trans (s132.trans s168))))))))))))).trans S169.sub)), ?_⟩
      rw [LR.length (hl_log0.mono (s9.trans (s24.trans (s53.trans (s70.trans (s74.trans (s86.trans (s103.trans (s108.trans (s113.trans (s118.trans (s123.trans (s128.trans (s132.trans s168))))))))))))))]
      have S180 : Sta F167 ([(a_source0, HO.lst v174), (a135, HO.lst v172), (a39, HO.lst [V.ref a13])] ++ R) _ := S169.pick [2, 0, 1] (by decide) rfl
      revert hm; refine bndI fun y181 e182 hm => ?_
      refine ⟨F167, ([(a135, HO.lst v172), (a39, HO.lst [V.ref a13])] ++ R), a_script0, v_script0, x_script0, a_source0, v174, st1.2, (x_log0.length : Int), y181, rfl, (SqL.mono hs_script0 (s9.trans (s24.trans (s53.trans (s70.trans (s74.trans (s86.trans (s103.trans (s108.trans (s113.trans (s118.trans (s123.trans (s128.trans (s132.trans s168)))))))))))))), ((hl_script0.mono (s9.trans (s24.trans (s53.trans (s70.trans (s74.trans (s86.trans (s103.trans (s108.trans (s113.trans (s118.trans (s123.trans (s128.trans (s132.trans s168))))))))))))))), hl175, S180, (by exact e182), fun F183 H184 v187 s185 S186 hl188 => ?_⟩
      clear S169
      have S189 : Sta F183 ([(a_source0, HO.lst v187), (a135, HO.lst v172), (a39, HO.lst [V.ref a13])] ++ R) _ := S186
      refine hN179 _ _ ?_
      refine ⟨_, rfl, .inl ⟨rfl, _, (SqL.of (S189.get 1 rfl))⟩, _, rfl, _, rfl, _, rfl, _, _, rfl, (SqL.mono hs_log0 ((s9.trans (s24.trans (s53.trans (s70.trans (s74.trans (s86.trans (s103.trans (s108.trans (s113.trans (s118.trans (s123.trans (s128.trans (s132.trans (s168.trans s185)))))))))))))).trans S189.sub)), ?_⟩
      clear S186
      intro a190 np191
      have hl192 : LR ((rLst K rInt) F183) (cutV v_log0 none (some y181.1)) (cutL x_log0 none (some y181.1)) := LR.cut (hl_log0.mono (s9.trans (s24.trans (s53.trans (s70.trans (s74.trans (s86.trans (s103.trans (s108.trans (s113.trans (s118.trans (s123.trans (s128.trans (s132.trans (s168.trans s185))))))))))))))) _ _
      have S193 : Sta F183 ([(a190, HO.lst (cutV v_log0 none (some y181.1))), (a_source0, HO.lst v187), (a135, HO.lst v172), (a39, HO.lst [V.ref a13])] ++ R) _ := S189.new np191 _
      revert hm; refine bndI fun y194 e195 hm => ?_
      obtain ⟨v196, ev197, rv198⟩ := LR.atI hl_log0 e195
      obtain ⟨a199, v200, rfl, hs201, hl202⟩ := rv198
      have S203 : Sta F183 ([(a_source0, HO.lst v187), (a190, HO.lst (cutV v_log0 none (some y181.1))), (a135, HO.lst v172), (a39, HO.lst [V.ref a13])] ++ R) _ := S193.pick [1, 0, 2, 3] (by decide) rfl
      revert hm; refine bndI fun y204 e205 hm => ?_
      refine ⟨_, rfl, _, rfl, _, rfl, _, rfl, _, rfl, _, _, _, _, rfl, rfl, (SqL.mono hs_log0 ((s9.trans (s24.trans (s53.trans (s70.trans (s74.trans (s86.trans (s103.trans (s108.trans (s113.trans (s118.trans (s123.trans (s128.trans (s132.trans (s168.trans s185)))))))))))))).trans S193.sub)), ev197, F183, ([(a190, HO.lst (cutV v_log0 none (some y181.1))), (a135, HO.lst v172), (a39, HO.lst [V.ref a13])] ++ R), a_script0, v_script0, x_script0, a_source0, v187, y181.2, a_letters0, v_letters0, x_letters0, a199, v200, y194, y204, rfl, (SqL.mono hs_script0 (s9.trans (s24.trans (s53.trans (s70.trans (s74.trans (s86.trans (s103.trans (s108.trans (s113.trans (s118.trans (s123.trans (s128.trans (s132.trans (s168.trans s185))))))))))))))), ((hl_script0.mono (s9.trans (s24.trans (s53.trans (s70.trans (s74.trans (s86.trans (s103.trans (s108.trans (s113.trans (s118.trans (s123.trans (s128.trans (s132.trans (s168.trans s185)))))))))))))))), hl188, (SqL.mono hs_letters0 (S203.tl.ovR (s9.trans (s24.trans (s53.trans (s70.trans (s74.trans (s86.trans (s103.trans (s108.trans (s113.trans (s118.trans (s123.trans (s128.trans (s132.trans (s168.trans s185)))))))))))))) (fun _ q => (List.mem_append_right _ q)))), (hl_letters0.mono (s9.trans (s24.trans (s53.trans (s70.trans (s74.trans (s86.trans (s103.trans (s108.trans (s113.trans (s118.trans (s123.trans (s128.trans (s132.trans (s168.trans s185))))))))))))))), (SqL.mono hs201 (s9.trans (s24.trans (s53.trans (s70.trans (s74.trans (s86.trans (s103.trans (s108.trans (s113.trans (s118.trans (s123.trans (s128.trans (s132.trans (s168.trans s185))))))))))))))), ((hl202.mono (s9.trans (s24.trans (s53.trans (s70.trans (s74.trans (s86.trans (s103.trans (s108.trans (s113.trans (s118.trans (s123.trans (s128.trans (s132.trans (s168.trans s185)))))))))))))))), S203, (by exact e205), fun F206 H207 v210 a212 v213 s208 S209 hl211 hs214 hl215 => ?_⟩
      clear S189 S193
      have S216 : Sta F206 ([(a_source0, HO.lst v210), (a190, HO.lst (cutV v_log0 none (some y181.1))), (a135, HO.lst v172), (a39, HO.lst [V.ref a13])] ++ R) _ := S209
      refine ⟨(by show 1 ≤ sizeLine; decide), ?_⟩
      clear S209
      intro a217 np218
      have hl219 : LR ((rLst K rInt) F206) [V.ref a212] ([y204.1] : (List (List Int))) := ⟨⟨_, _, rfl, SqL.mono hs214 (Same.refl _), hl215⟩, trivial⟩
      have S220 : Sta F206 ([(a217, HO.lst [V.ref a212]), (a_source0, HO.lst v210), (a190, HO.lst (cutV v_log0 none (some y181.1))), (a135, HO.lst v172), (a39, HO.lst [V.ref a13])] ++ R) _ := S216.new np218 _
      revert hm; refine grdI fun g221 hm => ?_
      refine ⟨_, _, _, _, rfl, rfl, (SqL.of (S220.get 2 rfl)), (SqL.of (S220.get 0 rfl)), (by rw [LR.length (hl192.mono s208), LR.length hl219]; exact of_decide_eq_true g221), ?_⟩
      clear S216
      intro a222 np223
      have hl224 : LR ((rLst K rInt) F206) ((cutV v_log0 none (some y181.1)) ++ [V.ref a212]) ((cutL x_log0 none (some y181.1)) ++ ([y204.1] : (List (List Int)))) := LR.append (hl192.mono s208) hl219
      have S225 : Sta F206 ([(a222, HO.lst ((cutV v_log0 none (some y181.1)) ++ [V.ref a212])), (a217, HO.lst [V.ref a212]), (a_source0, HO.lst v210), (a190, HO.lst (cutV v_log0 none (some y181.1))), (a135, HO.lst v172), (a39, HO.lst [V.ref a13])] ++ R) _ := S220.new np223 _
      refine ⟨_, rfl, _, rfl, _, _, rfl, rfl, _, rfl, _, _, rfl, (SqL.mono hs_log0 ((s9.trans (s24.trans (s53.trans (s70.trans (s74.trans (s86.trans (s103.trans (s108.trans (s113.trans (s118.trans (s123.trans (s128.trans (s132.trans (s168.trans (s185.trans s208))))))))))))))).trans S225.sub)), ?_⟩
      clear S220
      intro a226 np227
      have hl228 : LR ((rLst K rInt) F206) (cutV v_log0 (some (y181.1 + (1 : Int))) none) (cutL x_log0 (some (y181.1 + (1 : Int))) none) := LR.cut (hl_log0.mono (s9.trans (s24.trans (s53.trans (s70.trans (s74.trans (s86.trans (s103.trans (s108.trans (s113.trans (s118.trans (s123.trans (s128.trans (s132.trans (s168.trans (s185.trans s208)))))))))))))))) _ _
      have S229 : Sta F206 ([(a226, HO.lst (cutV v_log0 (some (y181.1 + (1 : Int))) none)), (a222, HO.lst ((cutV v_log0 none (some y181.1)) ++ [V.ref a212])), (a217, HO.lst [V.ref a212]), (a_source0, HO.lst v210), (a190, HO.lst (cutV v_log0 none (some y181.1))), (a135, HO.lst v172), (a39, HO.lst [V.ref a13])] ++ R) _ := S225.new np227 _
      revert hm; refine grdI fun g230 hm => ?_
      refine ⟨_, _, _, _, rfl, rfl, (SqL.of (S229.get 1 rfl)), (SqL.of (S229.get 0 rfl)), (by rw [LR.length hl224, LR.length hl228]; exact of_decide_eq_true g230), ?_⟩
      clear S225
      intro a231 np232
      have hl233 : LR ((rLst K rInt) F206) (((cutV v_log0 none (some y181.1)) ++ [V.ref a212]) ++ (cutV v_log0 (some (y181.1 + (1 : Int))) none)) (((cutL x_log0 none (some y181.1)) ++ ([y204.1] : (List (List Int)))) ++ (cutL x_log0 (some (y181.1 + (1 : Int))) none)) := LR.append hl224 hl228
      have S234 : Sta F206 ([(a231, HO.lst (((cutV v_log0 none (some y181.1)) ++ [V.ref a212]) ++ (cutV v_log0 (some (y181.1 + (1 : Int))) none))), (a226, HO.lst (cutV v_log0 (some (y181.1 + (1 : Int))) none)), (a222, HO.lst ((cutV v_log0 none (some y181.1)) ++ [V.ref a212])), (a217, HO.lst [V.ref a212]), (a_source0, HO.lst v210), (a190, HO.lst (cutV v_log0 none (some y181.1))), (a135, HO.lst v172), (a39, HO.lst [V.ref a13])] ++ R) _ := S229.new np232 _
      obtain ⟨F235, s236, S237, h238⟩ : ∃ F', Same F206 F' ∧ Sta F' ([(a226, HO.lst (cutV v_log0 (some (y181.1 + (1 : Int))) none)), (a222, HO.lst ((cutV v_log0 none (some y181.1)) ++ [V.ref a212])), (a217, HO.lst [V.ref a212]), (a_source0, HO.lst v210), (a190, HO.lst (cutV v_log0 none (some y181.1))), (a135, HO.lst v172), (a39, HO.lst [V.ref a13])] ++ R) _ ∧ F' a231 = some (HO.lst (((cutV v_log0 none (some y181.1)) ++ [V.ref a212]) ++ (cutV v_log0 (some (y181.1 + (1 : Int))) none))) := ⟨_, S234.frzS, S234.frz, upd_same⟩
      revert hm; refine grdI fun g239 hm => ?_
      refine ⟨_, _, _, rfl, rfl, (S237.get 5 rfl), (by rw [LR.length (hl173.mono (s185.trans (s208.trans s236)))]; exact of_decide_eq_true g239), ?_⟩
      clear S229
      have hl240 : LR ((rLst K (rLst K rInt)) F235) (v172 ++ [V.ref a231]) (st1.1 ++ [(((cutL x_log0 none (some y181.1)) ++ ([y204.1] : (List (List Int)))) ++ (cutL x_log0 (some (y181.1 + (1 : Int))) none))]) := LR.snoc (hl173.mono (s185.trans (s208.trans s236))) ⟨_, _, rfl, SqL.mono (SqL.of h238) (Same.refl _), (hl233.mono s236)⟩
      have S241 : Sta F235 ([(a226, HO.lst (cutV v_log0 (some (y181.1 + (1 : Int))) none)), (a222, HO.lst ((cutV v_log0 none (some y181.1)) ++ [V.ref a212])), (a217, HO.lst [V.ref a212]), (a_source0, HO.lst v210), (a190, HO.lst (cutV v_log0 none (some y181.1))), (a135, HO.lst (v172 ++ [V.ref a231])), (a39, HO.lst [V.ref a13])] ++ R) _ := S237.set 5 rfl _
      have S242 : Sta F235 ([(a135, HO.lst (v172 ++ [V.ref a231])), (a39, HO.lst [V.ref a13]), (a_source0, HO.lst v210)] ++ R) _ := S241.pick [5, 6, 3] (by decide) rfl
      exact ⟨((st1.1 ++ [(((cutL x_log0 none (some y181.1)) ++ ([y204.1] : (List (List Int)))) ++ (cutL x_log0 (some (y181.1 + (1 : Int))) none))]), y204.2), F235, (v172 ++ [V.ref a231]), v210, _, _, rfl, (s168.trans (s185.trans (s208.trans s236))), S242, hl240, (hl211.mono s236), hm⟩
    · rintro σ H2 ⟨st1, F167, v172, v174, o170, o171, rfl, s168, S169, hl173, hl175, hm⟩
      rw [drop_rng, m_law_logs_l1] at hm
      obtain rfl := Option.some.inj hm
      have hm := hm143
      refine hN140 _ _ ?_
      refine seqI fun N243 hN244 => ?_
      refine ⟨_, rfl, _, rfl, _, rfl, _, _, rfl, .inl (SqL.mono hs_log0 ((s9.trans (s24.trans (s53.trans (s70.trans (s74.trans (s86.trans (s103.trans (s108.trans (s113.trans (s118.trans (s123.trans (s128.trans (s132.trans s168))))))))))))).trans S169.sub)), ?_⟩
      rw [LR.length (hl_log0.mono (s9.trans (s24.trans (s53.trans (s70.trans (s74.trans (s86.trans (s103.trans (s108.trans (s113.trans (s118.trans (s123.trans (s128.trans (s132.trans s168))))))))))))))]
      have S245 : Sta F167 ([(a_source0, HO.lst v174), (a135, HO.lst v172), (a39, HO.lst [V.ref a13])] ++ R) _ := S169.pick [2, 0, 1] (by decide) rfl
      revert hm; refine bndI fun y246 e247 hm => ?_
      refine ⟨F167, ([(a135, HO.lst v172), (a39, HO.lst [V.ref a13])] ++ R), a_script0, v_script0, x_script0, a_source0, v174, st1.2, (x_log0.length : Int), y246, rfl, (SqL.mono hs_script0 (s9.trans (s24.trans (s53.trans (s70.trans (s74.trans (s86.trans (s103.trans (s108.trans (s113.trans (s118.trans (s123.trans (s128.trans (s132.trans s168)))))))))))))), ((hl_script0.mono (s9.trans (s24.trans (s53.trans (s70.trans (s74.trans (s86.trans (s103.trans (s108.trans (s113.trans (s118.trans (s123.trans (s128.trans (s132.trans s168))))))))))))))), hl175, S245, (by exact e247), fun F248 H249 v252 s250 S251 hl253 => ?_⟩
      clear S169
      have S254 : Sta F248 ([(a_source0, HO.lst v252), (a135, HO.lst v172), (a39, HO.lst [V.ref a13])] ++ R) _ := S251
      refine hN244 _ _ ?_
      refine seqI fun N255 hN256 => ?_
      refine ⟨_, rfl, _, rfl, _, rfl, _, _, rfl, (SqL.mono hs_log0 ((s9.trans (s24.trans (s53.trans (s70.trans (s74.trans (s86.trans (s103.trans (s108.trans (s113.trans (s118.trans (s123.trans (s128.trans (s132.trans (s168.trans s250)))))))))))))).trans S254.sub)), ?_⟩
      clear S251
      intro a257 np258
      have hl259 : LR ((rLst K rInt) F248) (cutV v_log0 none (some y246.1)) (cutL x_log0 none (some y246.1)) := LR.cut (hl_log0.mono (s9.trans (s24.trans (s53.trans (s70.trans (s74.trans (s86.trans (s103.trans (s108.trans (s113.trans (s118.trans (s123.trans (s128.trans (s132.trans (s168.trans s250))))))))))))))) _ _
      have S260 : Sta F248 ([(a257, HO.lst (cutV v_log0 none (some y246.1))), (a_source0, HO.lst v252), (a135, HO.lst v172), (a39, HO.lst [V.ref a13])] ++ R) _ := S254.new np258 _
      refine ⟨_, rfl, _, rfl, _, _, rfl, rfl, _, rfl, _, _, rfl, (SqL.mono hs_log0 ((s9.trans (s24.trans (s53.trans (s70.trans (s74.trans (s86.trans (s103.trans (s108.trans (s113.trans (s118.trans (s123.trans (s128.trans (s132.trans (s168.trans s250)))))))))))))).trans S260.sub)), ?_⟩
      clear S254
      intro a261 np262
      have hl263 : LR ((rLst K rInt) F248) (cutV v_log0 (some (y246.1 + (1 : Int))) none) (cutL x_log0 (some (y246.1 + (1 : Int))) none) := LR.cut (hl_log0.mono (s9.trans (s24.trans (s53.trans (s70.trans (s74.trans (s86.trans (s103.trans (s108.trans (s113.trans (s118.trans (s123.trans (s128.trans (s132.trans (s168.trans s250))))))))))))))) _ _
      have S264 : Sta F248 ([(a261, HO.lst (cutV v_log0 (some (y246.1 + (1 : Int))) none)), (a257, HO.lst (cutV v_log0 none (some y246.1))), (a_source0, HO.lst v252), (a135, HO.lst v172), (a39, HO.lst [V.ref a13])] ++ R) _ := S260.new np262 _
      revert hm; refine grdI fun g265 hm => ?_
      refine ⟨_, _, _, _, rfl, rfl, (SqL.of (S264.get 1 rfl)), (SqL.of (S264.get 0 rfl)), (by rw [LR.length hl259, LR.length hl263]; exact of_decide_eq_true g265), ?_⟩
      clear S260
      intro a266 np267
      have hl268 : LR ((rLst K rInt) F248) ((cutV v_log0 none (some y246.1)) ++ (cutV v_log0 (some (y246.1 + (1 : Int))) none)) ((cutL x_log0 none (some y246.1)) ++ (cutL x_log0 (some (y246.1 + (1 : Int))) none)) := LR.append hl259 hl263
      have S269 : Sta F248 ([(a266, HO.lst ((cutV v_log0 none (some y246.1)) ++ (cutV v_log0 (some (y246.1 + (1 : Int))) none))), (a261, HO.lst (cutV v_log0 (some (y246.1 + (1 : Int))) none)), (a257, HO.lst (cutV v_log0 none (some y246.1))), (a_source0, HO.lst v252), (a135, HO.lst v172), (a39, HO.lst [V.ref a13])] ++ R) _ := S264.new np267 _
      refine hN256 _ _ ?_
      refine seqI fun N270 hN271 => ?_
      refine ⟨_, rfl, _, rfl, _, rfl, _, _, rfl, .inl (SqL.of (S269.get 0 rfl)), ?_⟩
      clear S264
      rw [LR.length hl268]
      have S272 : Sta F248 ([(a_source0, HO.lst v252), (a266, HO.lst ((cutV v_log0 none (some y246.1)) ++ (cutV v_log0 (some (y246.1 + (1 : Int))) none))), (a261, HO.lst (cutV v_log0 (some (y246.1 + (1 : Int))) none)), (a257, HO.lst (cutV v_log0 none (some y246.1))), (a135, HO.lst v172), (a39, HO.lst [V.ref a13])] ++ R) _ := S269.pick [3, 0, 1, 2, 4, 5] (by decide) rfl
      revert hm; refine bndI fun y273 e274 hm => ?_
      refine ⟨_, _, rfl, rfl, F248, ([(a266, HO.lst ((cutV v_log0 none (some y246.1)) ++ (cutV v_log0 (some (y246.1 + (1 : Int))) none))), (a261, HO.lst (cutV v_log0 (some (y246.1 + (1 : Int))) none)), (a257, HO.lst (cutV v_log0 none (some y246.1))), (a135, HO.lst v172), (a39, HO.lst [V.ref a13])] ++ R), a_script0, v_script0, x_script0, a_source0, v252, y246.2, ((((cutL x_log0 none (some y246.1)) ++ (cutL x_log0 (some (y246.1 + (1 : Int))) none)).length : Int) + (1 : Int)), y273, rfl, (SqL.mono hs_script0 (s9.trans (s24.trans (s53.trans (s70.trans (s74.trans (s86.trans (s103.trans (s108.trans (s113.trans (s118.trans (s123.trans (s128.trans (s132.trans (s168.trans s250))))))))))))))), ((hl_script0.mono (s9.trans (s24.trans (s53.trans (s70.trans (s74.trans (s86.trans (s103.trans (s108.trans (s113.trans (s118.trans (s123.trans (s128.trans (s132.trans (s168.trans s250)))))))))))))))), hl253, S272, (by exact e274), fun F275 H276 v279 s277 S278 hl280 => ?_⟩
      clear S269
      have S281 : Sta F275 ([(a_source0, HO.lst v279), (a266, HO.lst ((cutV v_log0 none (some y246.1)) ++ (cutV v_log0 (some (y246.1 + (1 : Int))) none))), (a261, HO.lst (cutV v_log0 (some (y246.1 + (1 : Int))) none)), (a257, HO.lst (cutV v_log0 none (some y246.1))), (a135, HO.lst v172), (a39, HO.lst [V.ref a13])] ++ R) _ := S278
      refine hN271 _ _ ?_
      refine seqI fun N282 hN283 => ?_
      have S284 : Sta F275 ([(a266, HO.lst ((cutV v_log0 none (some y246.1)) ++ (cutV v_log0 (some (y246.1 + (1 : Int))) none))), (a_source0, HO.lst v279), (a261, HO.lst (cutV v_log0 (some (y246.1 + (1 : Int))) none)), (a257, HO.lst (cutV v_log0 none (some y246.1))), (a135, HO.lst v172), (a39, HO.lst [V.ref a13])] ++ R) _ := S281.pick [1, 0, 2, 3, 4, 5] (by decide) rfl
      obtain ⟨F285, s286, S287, h288⟩ : ∃ F', Same F275 F' ∧ Sta F' ([(a_source0, HO.lst v279), (a261, HO.lst (cutV v_log0 (some (y246.1 + (1 : Int))) none)), (a257, HO.lst (cutV v_log0 none (some y246.1))), (a135, HO.lst v172), (a39, HO.lst [V.ref a13])] ++ R) _ ∧ F' a266 = some (HO.lst ((cutV v_log0 none (some y246.1)) ++ (cutV v_log0 (some (y246.1 + (1 : Int))) none))) := ⟨_, S284.frzS, S284.frz, upd_same⟩
      revert hm; refine grdI fun g289 hm => ?_
      refine ⟨_, rfl, .inl ⟨rfl, _, (SqL.of (S281.get 4 rfl))⟩, _, rfl, _, _, _, rfl, rfl, (S287.get 3 rfl), (by rw [LR.length (hl173.mono (s250.trans (s277.trans s286)))]; exact of_decide_eq_true g289), ?_⟩
      clear S278 S281
      have hl290 : LR ((rLst K (rLst K rInt)) F285) (v172 ++ [V.ref a266]) (st1.1 ++ [((cutL x_log0 none (some y246.1)) ++ (cutL x_log0 (some (y246.1 + (1 : Int))) none))]) := LR.snoc (hl173.mono (s250.trans (s277.trans s286))) ⟨_, _, rfl, SqL.mono (SqL.of h288) (Same.refl _), (hl268.mono (s277.trans s286))⟩
      have S291 : Sta F285 ([(a_source0, HO.lst v279), (a261, HO.lst (cutV v_log0 (some (y246.1 + (1 : Int))) none)), (a257, HO.lst (cutV v_log0 none (some y246.1))), (a135, HO.lst (v172 ++ [V.ref a266])), (a39, HO.lst [V.ref a13])] ++ R) _ := S287.set 3 rfl _
      refine hN283 _ _ ?_
      refine seqI fun N292 hN293 => ?_
      refine ⟨_, rfl, .inl ⟨rfl, _, (SqL.of (S291.get 3 rfl))⟩, _, rfl, _, rfl, _, rfl, _, _, rfl, (SqL.mono (SqL.of h288) ((Same.refl _).trans S291.sub)), ?_⟩
      clear S287
      intro a294 np295
      have hl296 : LR ((rLst K rInt) F285) (cutV ((cutV v_log0 none (some y246.1)) ++ (cutV v_log0 (some (y246.1 + (1 : Int))) none)) none (some y273.1)) (cutL ((cutL x_log0 none (some y246.1)) ++ (cutL x_log0 (some (y246.1 + (1 : Int))) none)) none (some y273.1)) := LR.cut (hl268.mono (s277.trans s286)) _ _
      have S297 : Sta F285 ([(a294, HO.lst (cutV ((cutV v_log0 none (some y246.1)) ++ (cutV v_log0 (some (y246.1 + (1 : Int))) none)) none (some y273.1))), (a_source0, HO.lst v279), (a261, HO.lst (cutV v_log0 (some (y246.1 + (1 : Int))) none)), (a257, HO.lst (cutV v_log0 none (some y246.1))), (a135, HO.lst (v172 ++ [V.ref a266])), (a39, HO.lst [V.ref a13])] ++ R) _ := S291.new np295 _
      revert hm; refine bndI fun y298 e299 hm => ?_
      obtain ⟨v300, ev301, rv302⟩ := LR.atI hl_log0 e299
      obtain ⟨a303, v304, rfl, hs305, hl306⟩ := rv302
      refine ⟨_, rfl, _, rfl, _, _, _, _, rfl, rfl, (SqL.mono hs_log0 ((s9.trans (s24.trans (s53.trans (s70.trans (s74.trans (s86.trans (s103.trans (s108.trans (s113.trans (s118.trans (s123.trans (s128.trans (s132.trans (s168.trans (s250.trans (s277.trans s286)))))))))))))))).trans S297.sub)), ev301, (by show 1 ≤ sizeLine; decide), ?_⟩
      clear S291
      intro a307 np308
      have hl309 : LR ((rLst K rInt) F285) [V.ref a303] ([y298] : (List (List Int))) := ⟨⟨_, _, rfl, SqL.mono hs305 (s9.trans (s24.trans (s53.trans (s70.trans (s74.trans (s86.trans (s103.trans (s108.trans (s113.trans (s118.trans (s123.trans (s128.trans (s132.trans (s168.trans (s250.trans (s277.trans s286)))))))))))))))), (hl306.mono (s9.trans (s24.trans (s53.trans (s70.trans (s74.trans (s86.trans (s103.trans (s108.trans (s113.trans (s118.trans (s123.trans (s128.trans (s132.trans (s168.trans (s250.trans (s277.trans s286)))))))))))))))))⟩, trivial⟩
      have S310 : Sta F285 ([(a307, HO.lst [V.ref a303]), (a294, HO.lst (cutV ((cutV v_log0 none (some y246.1)) ++ (cutV v_log0 (some (y246.1 + (1 : Int))) none)) none (some y273.1))), (a_source0, HO.lst v279), (a261, HO.lst (cutV v_log0 (some (y246.1 + (1 : Int))) none)), (a257, HO.lst (cutV v_log0 none (some y246.1))), (a135, HO.lst (v172 ++ [V.ref a266])), (a39, HO.lst [V.ref a13])] ++ R) _ := S297.new np308 _
      revert hm; refine grdI fun g311 hm => ?_
      refine ⟨_, _, _, _, rfl, rfl, (SqL.of (S310.get 1 rfl)), (SqL.of (S310.get 0 rfl)), (by rw [LR.length hl296, LR.length hl309]; exact of_decide_eq_true g311), ?_⟩
      clear S297
      intro a312 np313
      have hl314 : LR ((rLst K rInt) F285) ((cutV ((cutV v_log0 none (some y246.1)) ++ (cutV v_log0 (some (y246.1 + (1 : Int))) none)) none (some y273.1)) ++ [V.ref a303]) ((cutL ((cutL x_log0 none (some y246.1)) ++ (cutL x_log0 (some (y246.1 + (1 : Int))) none)) none (some y273.1)) ++ ([y298] : (List (List Int)))) := LR.append hl296 hl309
      have S315 : Sta F285 ([(a312, HO.lst ((cutV ((cutV v_log0 none (some y246.1)) ++ (cutV v_log0 (some (y246.1 + (1 : Int))) none)) none (some y273.1)) ++ [V.ref a303])), (a307, HO.lst [V.ref a303]), (a294, HO.lst (cutV ((cutV v_log0 none (some y246.1)) ++ (cutV v_log0 (some (y246.1 + (1 : Int))) none)) none (some y273.1))), (a_source0, HO.lst v279), (a261, HO.lst (cutV v_log0 (some (y246.1 + (1 : Int))) none)), (a257, HO.lst (cutV v_log0 none (some y246.1))), (a135, HO.lst (v172 ++ [V.ref a266])), (a39, HO.lst [V.ref a13])] ++ R) _ := S310.new np313 _
      refine ⟨_, rfl, _, rfl, _, rfl, _, _, rfl, (SqL.mono (SqL.of h288) ((Same.refl _).trans S315.sub)), ?_⟩
      clear S310
      intro a316 np317
      have hl318 : LR ((rLst K rInt) F285) (cutV ((cutV v_log0 none (some y246.1)) ++ (cutV v_log0 (some (y246.1 + (1 : Int))) none)) (some y273.1) none) (cutL ((cutL x_log0 none (some y246.1)) ++ (cutL x_log0 (some (y246.1 + (1 : Int))) none)) (some y273.1) none) := LR.cut (hl268.mono (s277.trans s286)) _ _
      have S319 : Sta F285 ([(a316, HO.lst (cutV ((cutV v_log0 none (some y246.1)) ++ (cutV v_log0 (some (y246.1 + (1 : Int))) none)) (some y273.1) none)), (a312, HO.lst ((cutV ((cutV v_log0 none (some y246.1)) ++ (cutV v_log0 (some (y246.1 + (1 : Int))) none)) none (some y273.1)) ++ [V.ref a303])), (a307, HO.lst [V.ref a303]), (a294, HO.lst (cutV ((cutV v_log0 none (some y246.1)) ++ (cutV v_log0 (some (y246.1 + (1 : Int))) none)) none (some y273.1))), (a_source0, HO.lst v279), (a261, HO.lst (cutV v_log0 (some (y246.1 + (1 : Int))) none)), (a257, HO.lst (cutV v_log0 none (some y246.1))), (a135, HO.lst (v172 ++ [V.ref a266])), (a39, HO.lst [V.ref a13])] ++ R) _ := S315.new np317 _
      revert hm; refine grdI fun g320 hm => ?_
      refine ⟨_, _, _, _, rfl, rfl, (SqL.of (S319.get 1 rfl)), (SqL.of (S319.get 0 rfl)), (by rw [LR.length hl314, LR.length hl318]; exact of_decide_eq_true g320), ?_⟩
      clear S315
      intro a321 np322
      have hl323 : LR ((rLst K rInt) F285) (((cutV ((cutV v_log0 none (some y246.1)) ++ (cutV v_log0 (some (y246.1 + (1 : Int))) none)) none (some y273.1)) ++ [V.ref a303]) ++ (cutV ((cutV v_log0 none (some y246.1)) ++ (cutV v_log0 (some (y246.1 + (1 : Int))) none)) (some y273.1) none)) (((cutL ((cutL x_log0 none (some y246.1)) ++ (cutL x_log0 (some (y246.1 + (1 : Int))) none)) none (some y273.1)) ++ ([y298] : (List (List Int)))) ++ (cutL ((cutL x_log0 none (some y246.1)) ++ (cutL x_log0 (some (y246.1 + (1 : Int))) none)) (some y273.1) none)) := LR.append hl314 hl318
      have S324 : Sta F285 ([(a321, HO.lst (((cutV ((cutV v_log0 none (some y246.1)) ++ (cutV v_log0 (some (y246.1 + (1 : Int))) none)) none (some y273.1)) ++ [V.ref a303]) ++ (cutV ((cutV v_log0 none (some y246.1)) ++ (cutV v_log0 (some (y246.1 + (1 : Int))) none)) (some y273.1) none))), (a316, HO.lst (cutV ((cutV v_log0 none (some y246.1)) ++ (cutV v_log0 (some (y246.1 + (1 : Int))) none)) (some y273.1) none)), (a312, HO.lst ((cutV ((cutV v_log0 none (some y246.1)) ++ (cutV v_log0 (some (y246.1 + (1 : Int))) none)) none (some y273.1)) ++ [V.ref a303])), (a307, HO.lst [V.ref a303]), (a294, HO.lst (cutV ((cutV v_log0 none (some y246.1)) ++ (cutV v_log0 (some (y246.1 + (1 : Int))) none)) none (some y273.1))), (a_source0, HO.lst v279), (a261, HO.lst (cutV v_log0 (some (y246.1 + (1 : Int))) none)), (a257, HO.lst (cutV v_log0 none (some y246.1))), (a135, HO.lst (v172 ++ [V.ref a266])), (a39, HO.lst [V.ref a13])] ++ R) _ := S319.new np322 _
      obtain ⟨F325, s326, S327, h328⟩ : ∃ F', Same F285 F' ∧ Sta F' ([(a316, HO.lst (cutV ((cutV v_log0 none (some y246.1)) ++ (cutV v_log0 (some (y246.1 + (1 : Int))) none)) (some y273.1) none)), (a312, HO.lst ((cutV ((cutV v_log0 none (some y246.1)) ++ (cutV v_log0 (some (y246.1 + (1 : Int))) none)) none (some y273.1)) ++ [V.ref a303])), (a307, HO.lst [V.ref a303]), (a294, HO.lst (cutV ((cutV v_log0 none (some y246.1)) ++ (cutV v_log0 (some (y246.1 + (1 : Int))) none)) none (some y273.1))), (a_source0, HO.lst v279), (a261, HO.lst (cutV v_log0 (some (y246.1 + (1 : Int))) none)), (a257, HO.lst (cutV v_log0 none (some y246.1))), (a135, HO.lst (v172 ++ [V.ref a266])), (a39, HO.lst [V.ref a13])] ++ R) _ ∧ F' a321 = some (HO.lst (((cutV ((cutV v_log0 none (some y246.1)) ++ (cutV v_log0 (some (y246.1 + (1 : Int))) none)) none (some y273.1)) ++ [V.ref a303]) ++ (cutV ((cutV v_log0 none (some y246.1)) ++ (cutV v_log0 (some (y246.1 + (1 : Int))) none)) (some y273.1) none))) := ⟨_, S324.frzS, S324.frz, upd_same⟩
      revert hm; refine grdI fun g329 hm => ?_
      refine ⟨_, _, _, rfl, rfl, (S327.get 7 rfl), (by rw [LR.length (hl290.mono s326)]; exact of_decide_eq_true g329), ?_⟩
      clear S319
      have hl330 : LR ((rLst K (rLst K rInt)) F325) ((v172 ++ [V.ref a266]) ++ [V.ref a321]) ((st1.1 ++ [((cutL x_log0 none (some y246.1)) ++ (cutL x_log0 (some (y246.1 + (1 : Int))) none))]) ++ [(((cutL ((cutL x_log0 none (some y246.1)) ++ (cutL x_log0 (some (y246.1 + (1 : Int))) none)) none (some y273.1)) ++ ([y298] : (List (List Int)))) ++ (cutL ((cutL x_log0 none (some y246.1)) ++ (cutL x_log0 (some (y246.1 + (1 : Int))) none)) (some y273.1) none))]) := LR.snoc (hl290.mono s326) ⟨_, _, rfl, SqL.mono (SqL.of h328) (Same.refl _), (hl323.mono s326)⟩
      have S331 : Sta F325 ([(a316, HO.lst (cutV ((cutV v_log0 none (some y246.1)) ++ (cutV v_log0 (some (y246.1 + (1 : Int))) none)) (some y273.1) none)), (a312, HO.lst ((cutV ((cutV v_log0 none (some y246.1)) ++ (cutV v_log0 (some (y246.1 + (1 : Int))) none)) none (some y273.1)) ++ [V.ref a303])), (a307, HO.lst [V.ref a303]), (a294, HO.lst (cutV ((cutV v_log0 none (some y246.1)) ++ (cutV v_log0 (some (y246.1 + (1 : Int))) none)) none (some y273.1))), (a_source0, HO.lst v279), (a261, HO.lst (cutV v_log0 (some (y246.1 + (1 : Int))) none)), (a257, HO.lst (cutV v_log0 none (some y246.1))), (a135, HO.lst ((v172 ++ [V.ref a266]) ++ [V.ref a321])), (a39, HO.lst [V.ref a13])] ++ R) _ := S327.set 7 rfl _
      refine hN293 _ _ ?_
      refine seqI fun N332 hN333 => ?_
      refine ⟨_, rfl, .inl ⟨rfl, _, (SqL.of (S331.get 7 rfl))⟩, _, rfl, _, rfl, _, rfl, _, _, rfl, (SqL.mono hs_log0 ((s9.trans (s24.trans (s53.trans (s70.trans (s74.trans (s86.trans (s103.trans (s108.trans (s113.trans (s118.trans (s123.trans (s128.trans (s132.trans (s168.trans (s250.trans (s277.trans (s286.trans s326))))))))))))))))).trans S331.sub)), ?_⟩
      clear S327
      intro a334 np335
      have hl336 : LR ((rLst K rInt) F325) (cutV v_log0 none (some y246.1)) (cutL x_log0 none (some y246.1)) := LR.cut (hl_log0.mono (s9.trans (s24.trans (s53.trans (s70.trans (s74.trans (s86.trans (s103.trans (s108.trans (s113.trans (s118.trans (s123.trans (s128.trans (s132.trans (s168.trans (s250.trans (s277.trans (s286.trans s326)))))))))))))))))) _ _
      have S337 : Sta F325 ([(a334, HO.lst (cutV v_log0 none (some y246.1))), (a316, HO.lst (cutV ((cutV v_log0 none (some y246.1)) ++ (cutV v_log0 (some (y246.1 + (1 : Int))) none)) (some y273.1) none)), (a312, HO.lst ((cutV ((cutV v_log0 none (some y246.1)) ++ (cutV v_log0 (some (y246.1 + (1 : Int))) none)) none (some y273.1)) ++ [V.ref a303])), (a307, HO.lst [V.ref a303]), (a294, HO.lst (cutV ((cutV v_log0 none (some y246.1)) ++ (cutV v_log0 (some (y246.1 + (1 : Int))) none)) none (some y273.1))), (a_source0, HO.lst v279), (a261, HO.lst (cutV v_log0 (some (y246.1 + (1 : Int))) none)), (a257, HO.lst (cutV v_log0 none (some y246.1))), (a135, HO.lst ((v172 ++ [V.ref a266]) ++ [V.ref a321])), (a39, HO.lst [V.ref a13])] ++ R) _ := S331.new np335 _
      revert hm; refine bndI fun y338 e339 hm => ?_
      obtain ⟨v340, ev341, rv342⟩ := LR.atI hl_log0 e339
      obtain ⟨a343, v344, rfl, hs345, hl346⟩ := rv342
      refine ⟨_, rfl, _, rfl, _, _, _, _, rfl, rfl, (SqL.mono hs_log0 ((s9.trans (s24.trans (s53.trans (s70.trans (s74.trans (s86.trans (s103.trans (s108.trans (s113.trans (s118.trans (s123.trans (s128.trans (s132.trans (s168.trans (s250.trans (s277.trans (s286.trans s326))))))))))))))))).trans S337.sub)), ev341, (by show 1 ≤ sizeLine; decide), ?_⟩
      clear S331
      intro a347 np348
      have hl349 : LR ((rLst K rInt) F325) [V.ref a343] ([y338] : (List (List Int))) := ⟨⟨_, _, rfl, SqL.mono hs345 (s9.trans (s24.trans (s53.trans (s70.trans (s74.trans (s86.trans (s103.trans (s108.trans (s113.trans (s118.trans (s123.trans (s128.trans (s132.trans (s168.trans (s250.trans (s277.trans (s286.trans s326))))))))))))))))), (hl346.mono (s9.trans (s24.trans (s53.trans (s70.trans (s74.trans (s86.trans (s103.trans (s108.trans (s113.trans (s118.trans (s123.trans (s128.trans (s132.trans (s168.trans (s250.trans (s277.trans (s286.trans s326))))))))))))))))))⟩, trivial⟩
      have S350 : Sta F325 ([(a347, HO.lst [V.ref a343]), (a334, HO.lst (cutV v_log0 none (some y246.1))), (a316, HO.lst (cutV ((cutV v_log0 none (some y246.1)) ++ (cutV v_log0 (some (y246.1 + (1 : Int))) none)) (some y273.1) none)), (a312, HO.lst ((cutV ((cutV v_log0 none (some y246.1)) ++ (cutV v_log0 (some (y246.1 + (1 : Int))) none)) none (some y273.1)) ++ [V.ref a303])), (a307, HO.lst [V.ref a303]), (a294, HO.lst (cutV ((cutV v_log0 none (some y246.1)) ++ (cutV v_log0 (some (y246.1 + (1 : Int))) none)) none (some y273.1))), (a_source0, HO.lst v279), (a261, HO.lst (cutV v_log0 (some (y246.1 + (1 : Int))) none)), (a257, HO.lst (cutV v_log0 none (some y246.1))), (a135, HO.lst ((v172 ++ [V.ref a266]) ++ [V.ref a321])), (a39, HO.lst [V.ref a13])] ++ R) _ := S337.new np348 _
      revert hm; refine grdI fun g351 hm => ?_
      refine ⟨_, _, _, _, rfl, rfl, (SqL.of (S350.get 1 rfl)), (SqL.of (S350.get 0 rfl)), (by rw [LR.length hl336, LR.length hl349]; exact of_decide_eq_true g351), ?_⟩
      clear S337
      intro a352 np353
      have hl354 : LR ((rLst K rInt) F325) ((cutV v_log0 none (some y246.1)) ++ [V.ref a343]) ((cutL x_log0 none (some y246.1)) ++ ([y338] : (List (List Int)))) := LR.append hl336 hl349
      have S355 : Sta F325 ([(a352, HO.lst ((cutV v_log0 none (some y246.1)) ++ [V.ref a343])), (a347, HO.lst [V.ref a343]), (a334, HO.lst (cutV v_log0 none (some y246.1))), (a316, HO.lst (cutV ((cutV v_log0 none (some y246.1)) ++ (cutV v_log0 (some (y246.1 + (1 : Int))) none)) (some y273.1) none)), (a312, HO.lst ((cutV ((cutV v_log0 none (some y246.1)) ++ (cutV v_log0 (some (y246.1 + (1 : Int))) none)) none (some y273.1)) ++ [V.ref a303])), (a307, HO.lst [V.ref a303]), (a294, HO.lst (cutV ((cutV v_log0 none (some y246.1)) ++ (cutV v_log0 (some (y246.1 + (1 : Int))) none)) none (some y273.1))), (a_source0, HO.lst v279), (a261, HO.lst (cutV v_log0 (some (y246.1 + (1 : Int))) none)), (a257, HO.lst (cutV v_log0 none (some y246.1))), (a135, HO.lst ((v172 ++ [V.ref a266]) ++ [V.ref a321])), (a39, HO.lst [V.ref a13])] ++ R) _ := S350.new np353 _
      refine ⟨_, rfl, _, rfl, _, rfl, _, _, rfl, (SqL.mono hs_log0 ((s9.trans (s24.trans (s53.trans (s70.trans (s74.trans (s86.trans (s103.trans (s108.trans (s113.trans (s118.trans (s123.trans (s128.trans (s132.trans (s168.trans (s250.trans (s277.trans (s286.trans s326))))))))))))))))).trans S355.sub)), ?_⟩
      clear S350
      intro a356 np357
      have hl358 : LR ((rLst K rInt) F325) (cutV v_log0 (some y246.1) none) (cutL x_log0 (some y246.1) none) := LR.cut (hl_log0.mono (s9.trans (s24.trans (s53.trans (s70.trans (s74.trans (s86.trans (s103.trans (s108.trans (s113.trans (s118.trans (s123.trans (s128.trans (s132.trans (s168.trans (s250.trans (s277.trans (s286.trans s326)))))))))))))))))) _ _
      have S359 : Sta F325 ([(a356, HO.lst (cutV v_log0 (some y246.1) none)), (a352, HO.lst ((cutV v_log0 none (some y246.1)) ++ [V.ref a343])), (a347, HO.lst [V.ref a343]), (a334, HO.lst (cutV v_log0 none (some y246.1))), (a316, HO.lst (cutV ((cutV v_log0 none (some y246.1)) ++ (cutV v_log0 (some (y246.1 + (1 : Int))) none)) (some y273.1) none)), (a312, HO.lst ((cutV ((cutV v_log0 none (some y246.1)) ++ (cutV v_log0 (some (y246.1 + (1 : Int))) none)) none (some y273.1)) ++ [V.ref a303])), (a307, HO.lst [V.ref a303]), (a294, HO.lst (cutV ((cutV v_log0 none (some y246.1)) ++ (cutV v_log0 (some (y246.1 + (1 : Int))) none)) none (some y273.1))), (a_source0, HO.lst v279), (a261, HO.lst (cutV v_log0 (some (y246.1 + (1 : Int))) none)), (a257, HO.lst (cutV v_log0 none (some y246.1))), (a135, HO.lst ((v172 ++ [V.ref a266]) ++ [V.ref a321])), (a39, HO.lst [V.ref a13])] ++ R) _ := S355.new np357 _
      revert hm; refine grdI fun g360 hm => ?_
      refine ⟨_, _, _, _, rfl, rfl, (SqL.of (S359.get 1 rfl)), (SqL.of (S359.get 0 rfl)), (by rw [LR.length hl354, LR.length hl358]; exact of_decide_eq_true g360), ?_⟩
      clear S355
      intro a361 np362
      have hl363 : LR ((rLst K rInt) F325) (((cutV v_log0 none (some y246.1)) ++ [V.ref a343]) ++ (cutV v_log0 (some y246.1) none)) (((cutL x_log0 none (some y246.1)) ++ ([y338] : (List (List Int)))) ++ (cutL x_log0 (some y246.1) none)) := LR.append hl354 hl358
      have S364 : Sta F325 ([(a361, HO.lst (((cutV v_log0 none (some y246.1)) ++ [V.ref a343]) ++ (cutV v_log0 (some y246.1) none))), (a356, HO.lst (cutV v_log0 (some y246.1) none)), (a352, HO.lst ((cutV v_log0 none (some y246.1)) ++ [V.ref a343])), (a347, HO.lst [V.ref a343]), (a334, HO.lst (cutV v_log0 none (some y246.1))), (a316, HO.lst (cutV ((cutV v_log0 none (some y246.1)) ++ (cutV v_log0 (some (y246.1 + (1 : Int))) none)) (some y273.1) none)), (a312, HO.lst ((cutV ((cutV v_log0 none (some y246.1)) ++ (cutV v_log0 (some (y246.1 + (1 : Int))) none)) none (some y273.1)) ++ [V.ref a303])), (a307, HO.lst [V.ref a303]), (a294, HO.lst (cutV ((cutV v_log0 none (some y246.1)) ++ (cutV v_log0 (some (y246.1 + (1 : Int))) none)) none (some y273.1))), (a_source0, HO.lst v279), (a261, HO.lst (cutV v_log0 (some (y246.1 + (1 : Int))) none)), (a257, HO.lst (cutV v_log0 none (some y246.1))), (a135, HO.lst ((v172 ++ [V.ref a266]) ++ [V.ref a321])), (a39, HO.lst [V.ref a13])] ++ R) _ := S359.new np362 _
      obtain ⟨F365, s366, S367, h368⟩ : ∃ F', Same F325 F' ∧ Sta F' ([(a356, HO.lst (cutV v_log0 (some y246.1) none)), (a352, HO.lst ((cutV v_log0 none (some y246.1)) ++ [V.ref a343])), (a347, HO.lst [V.ref a343]), (a334, HO.lst (cutV v_log0 none (some y246.1))), (a316, HO.lst (cutV ((cutV v_log0 none (some y246.1)) ++ (cutV v_log0 (some (y246.1 + (1 : Int))) none)) (some y273.1) none)), (a312, HO.lst ((cutV ((cutV v_log0 none (some y246.1)) ++ (cutV v_log0 (some (y246.1 + (1 : Int))) none)) none (some y273.1)) ++ [V.ref a303])), (a307, HO.lst [V.ref a303]), (a294, HO.lst (cutV ((cutV v_log0 none (some y246.1)) ++ (cutV v_log0 (some (y246.1 + (1 : Int))) none)) none (some y273.1))), (a_source0, HO.lst v279), (a261, HO.lst (cutV v_log0 (some (y246.1 + (1 : Int))) none)), (a257, HO.lst (cutV v_log0 none (some y246.1))), (a135, HO.lst ((v172 ++ [V.ref a266]) ++ [V.ref a321])), (a39, HO.lst [V.ref a13])] ++ R) _ ∧ F' a361 = some (HO.lst (((cutV v_log0 none (some y246.1)) ++ [V.ref a343]) ++ (cutV v_log0 (some y246.1) none))) := ⟨_, S364.frzS, S364.frz, upd_same⟩
      revert hm; refine grdI fun g369 hm => ?_
      refine ⟨_, _, _, rfl, rfl, (S367.get 11 rfl), (by rw [LR.length (hl330.mono s366)]; exact of_decide_eq_true g369), ?_⟩
      clear S359
      have hl370 : LR ((rLst K (rLst K rInt)) F365) (((v172 ++ [V.ref a266]) ++ [V.ref a321]) ++ [V.ref a361]) (((st1.1 ++ [((cutL x_log0 none (some y246.1)) ++ (cutL x_log0 (some (y246.1 + (1 : Int))) none))]) ++ [(((cutL ((cutL x_log0 none (some y246.1)) ++ (cutL x_log0 (some (y246.1 + (1 : Int))) none)) none (some y273.1)) ++ ([y298] : (List (List Int)))) ++ (cutL ((cutL x_log0 none (some y246.1)) ++ (cutL x_log0 (some (y246.1 + (1 : Int))) none)) (some y273.1) none))]) ++ [(((cutL x_log0 none (some y246.1)) ++ ([y338] : (List (List Int)))) ++ (cutL x_log0 (some y246.1) none))]) := LR.snoc (hl330.mono s366) ⟨_, _, rfl, SqL.mono (SqL.of h368) (Same.refl _), (hl363.mono s366)⟩
      have S371 : Sta F365 ([(a356, HO.lst (cutV v_log0 (some y246.1) none)), (a352, HO.lst ((cutV v_log0 none (some y246.1)) ++ [V.ref a343])), (a347, HO.lst [V.ref a343]), (a334, HO.lst (cutV v_log0 none (some y246.1))), (a316, HO.lst (cutV ((cutV v_log0 none (some y246.1)) ++ (cutV v_log0 (some (y246.1 + (1 : Int))) none)) (some y273.1) none)), (a312, HO.lst ((cutV ((cutV v_log0 none (some y246.1)) ++ (cutV v_log0 (some (y246.1 + (1 : Int))) none)) none (some y273.1)) ++ [V.ref a303])), (a307, HO.lst [V.ref a303]), (a294, HO.lst (cutV ((cutV v_log0 none (some y246.1)) ++ (cutV v_log0 (some (y246.1 + (1 : Int))) none)) none (some y273.1))), (a_source0, HO.lst v279), (a261, HO.lst (cutV v_log0 (some (y246.1 + (1 : Int))) none)), (a257, HO.lst (cutV v_log0 none (some y246.1))), (a135, HO.lst (((v172 ++ [V.ref a266]) ++ [V.ref a321]) ++ [V.ref a361])), (a39, HO.lst [V.ref a13])] ++ R) _ := S367.set 11 rfl _
      refine hN333 _ _ ?_
      refine seqI fun N372 hN373 => ?_
      refine ⟨_, rfl, _, rfl, _, rfl, _, _, rfl, .inl (SqL.mono hs_log0 ((s9.trans (s24.trans (s53.trans (s70.trans (s74.trans (s86.trans (s103.trans (s108.trans (s113.trans (s118.trans (s123.trans (s128.trans (s132.trans (s168.trans (s250.trans (s277.trans (s286.trans (s326.trans s366)))))))))))))))))).trans S371.sub)), ?_⟩
      clear S367
      rw [LR.length (hl_log0.mono (s9.trans (s24.trans (s53.trans (s70.trans (s74.trans (s86.trans (s103.trans (s108.trans (s113.trans (s118.trans (s123.trans (s128.trans (s132.trans (s168.trans (s250.trans (s277.trans (s286.trans (s326.trans s366)))))))))))))))))))]
      have S374 : Sta F365 ([(a_source0, HO.lst v279), (a356, HO.lst (cutV v_log0 (some y246.1) none)), (a352, HO.lst ((cutV v_log0 none (some y246.1)) ++ [V.ref a343])), (a347, HO.lst [V.ref a343]), (a334, HO.lst (cutV v_log0 none (some y246.1))), (a316, HO.lst (cutV ((cutV v_log0 none (some y246.1)) ++ (cutV v_log0 (some (y246.1 + (1 : Int))) none)) (some y273.1) none)), (a312, HO.lst ((cutV ((cutV v_log0 none (some y246.1)) ++ (cutV v_log0 (some (y246.1 + (1 : Int))) none)) none (some y273.1)) ++ [V.ref a303])), (a307, HO.lst [V.ref a303]), (a294, HO.lst (cutV ((cutV v_log0 none (some y246.1)) ++ (cutV v_log0 (some (y246.1 + (1 : Int))) none)) none (some y273.1))), (a261, HO.lst (cutV v_log0 (some (y246.1 + (1 : Int))) none)), (a257, HO.lst (cutV v_log0 none (some y246.1))), (a135, HO.lst (((v172 ++ [V.ref a266]) ++ [V.ref a321]) ++ [V.ref a361])), (a39, HO.lst [V.ref a13])] ++ R) _ := S371.pick [8, 0, 1, 2, 3, 4, 5, 6, 7, 9, 10, 11, 12] (by decide) rfl
      revert hm; refine bndI fun y375 e376 hm => ?_
      refine ⟨_, _, rfl, rfl, F365, ([(a356, HO.lst (cutV v_log0 (some y246.1) none)), (a352, HO.lst ((cutV v_log0 none (some y246.1)) ++ [V.ref a343])), (a347, HO.lst [V.ref a343]), (a334, HO.lst (cutV v_log0 none (some y246.1))), (a316, HO.lst (cutV ((cutV v_log0 none (some y246.1)) ++ (cutV v_log0 (some (y246.1 + (1 : Int))) none)) (some y273.1) none)), (a312, HO.lst ((cutV ((cutV v_log0 none (some y246.1)) ++ (cutV v_log0 (some (y246.1 + (1 : Int))) none)) none (some y273.1)) ++ [V.ref a303])), (a307, HO.lst [V.ref a303]), (a294, HO.lst (cutV ((cutV v_log0 none (some y246.1)) ++ (cutV v_log0 (some (y246.1 + (1 : Int))) none)) none (some y273.1))), (a261, HO.lst (cutV v_log0 (some (y246.1 + (1 : Int))) none)), (a257, HO.lst (cutV v_log0 none (some y246.1))), (a135, HO.lst (((v172 ++ [V.ref a266]) ++ [V.ref a321]) ++ [V.ref a361])), (a39, HO.lst [V.ref a13])] ++ R), a_script0, v_script0, x_script0, a_source0, v279, y273.2, ((x_log0.length : Int) + (1 : Int)), y375, rfl, (SqL.mono hs_script0 (s9.trans (s24.trans (s53.trans (s70.trans (s74.trans (s86.trans (s103.trans (s108.trans (s113.trans (s118.trans (s123.trans (s128.trans (s132.trans (s168.trans (s250.trans (s277.trans (s286.trans (s326.trans s366))))))))))))))))))), ((hl_script0.mono (s9.trans (s24.trans (s53.trans (s70.trans (s74.trans (s86.trans (s103.trans (s108.trans (s113.trans (s118.trans (s123.trans (s128.trans (s132.trans (s168.trans (s250.trans (s277.trans (s286.trans (s326.trans s366)))))))))))))))))))), (hl280.mono (s286.trans (s326.trans s366))), S374, (by exact e376), fun F377 H378 v381 s379 S380 hl382 => ?_⟩
      clear S371
      have S383 : Sta F377 ([(a_source0, HO.lst v381), (a356, HO.lst (cutV v_log0 (some y246.1) none)), (a352, HO.lst ((cutV v_log0 none (some y246.1)) ++ [V.ref a343])), (a347, HO.lst [V.ref a343]), (a334, HO.lst (cutV v_log0 none (some y246.1))), (a316, HO.lst (cutV ((cutV v_log0 none (some y246.1)) ++ (cutV v_log0 (some (y246.1 + (1 : Int))) none)) (some y273.1) none)), (a312, HO.lst ((cutV ((cutV v_log0 none (some y246.1)) ++ (cutV v_log0 (some (y246.1 + (1 : Int))) none)) none (some y273.1)) ++ [V.ref a303])), (a307, HO.lst [V.ref a303]), (a294, HO.lst (cutV ((cutV v_log0 none (some y246.1)) ++ (cutV v_log0 (some (y246.1 + (1 : Int))) none)) none (some y273.1))), (a261, HO.lst (cutV v_log0 (some (y246.1 + (1 : Int))) none)), (a257, HO.lst (cutV v_log0 none (some y246.1))), (a135, HO.lst (((v172 ++ [V.ref a266]) ++ [V.ref a321]) ++ [V.ref a361])), (a39, HO.lst [V.ref a13])] ++ R) _ := S380
      refine hN373 _ _ ?_
      refine seqI fun N384 hN385 => ?_
      refine ⟨_, rfl, .inl ⟨rfl, _, (SqL.of (S383.get 11 rfl))⟩, _, rfl, _, rfl, _, rfl, _, _, rfl, (SqL.mono hs_log0 ((s9.trans (s24.trans (s53.trans (s70.trans (s74.trans (s86.trans (s103.trans (s108.trans (s113.trans (s118.trans (s123.trans (s128.trans (s132.trans (s168.trans (s250.trans (s277.trans (s286.trans (s326.trans (s366.trans s379))))))))))))))))))).trans S383.sub)), ?_⟩
      clear S380
      intro a386 np387
      have hl388 : LR ((rLst K rInt) F377) (cutV v_log0 none (some y375.1)) (cutL x_log0 none (some y375.1)) := LR.cut (hl_log0.mono (s9.trans (s24.trans (s53.trans (s70.trans (s74.trans (s86.trans (s103.trans (s108.trans (s113.trans (s118.trans (s123.trans (s128.trans (s132.trans (s168.trans (s250.trans (s277.trans (s286.trans (s326.trans (s366.trans s379)))))))))))))))))))) _ _
      have S389 : Sta F377 ([(a386, HO.lst (cutV v_log0 none (some y375.1))), (a_source0, HO.lst v381), (a356, HO.lst (cutV v_log0 (some y246.1) none)), (a352, HO.lst ((cutV v_log0 none (some y246.1)) ++ [V.ref a343])), (a347, HO.lst [V.ref a343]), (a334, HO.lst (cutV v_log0 none (some y246.1))), (a316, HO.lst (cutV ((cutV v_log0 none (some y246.1)) ++ (cutV v_log0 (some (y246.1 + (1 : Int))) none)) (some y273.1) none)), (a312, HO.lst ((cutV ((cutV v_log0 none (some y246.1)) ++ (cutV v_log0 (some (y246.1 + (1 : Int))) none)) none (some y273.1)) ++ [V.ref a303])), (a307, HO.lst [V.ref a303]), (a294, HO.lst (cutV ((cutV v_log0 none (some y246.1)) ++ (cutV v_log0 (some (y246.1 + (1 : Int))) none)) none (some y273.1))), (a261, HO.lst (cutV v_log0 (some (y246.1 + (1 : Int))) none)), (a257, HO.lst (cutV v_log0 none (some y246.1))), (a135, HO.lst (((v172 ++ [V.ref a266]) ++ [V.ref a321]) ++ [V.ref a361])), (a39, HO.lst [V.ref a13])] ++ R) _ := S383.new np387 _
      refine ⟨(by show 0 ≤ sizeLine; decide), ?_⟩
      clear S383
      intro a390 np391
      have hl392 : LR (rInt F377) [] ([] : (List Int)) := trivial
      have S393 : Sta F377 ([(a390, HO.lst []), (a386, HO.lst (cutV v_log0 none (some y375.1))), (a_source0, HO.lst v381), (a356, HO.lst (cutV v_log0 (some y246.1) none)), (a352, HO.lst ((cutV v_log0 none (some y246.1)) ++ [V.ref a343])), (a347, HO.lst [V.ref a343]), (a334, HO.lst (cutV v_log0 none (some y246.1))), (a316, HO.lst (cutV ((cutV v_log0 none (some y246.1)) ++ (cutV v_log0 (some (y246.1 + (1 : Int))) none)) (some y273.1) none)), (a312, HO.lst ((cutV ((cutV v_log0 none (some y246.1)) ++ (cutV v_log0 (some (y246.1 + (1 : Int))) none)) none (some y273.1)) ++ [V.ref a303])), (a307, HO.lst [V.ref a303]), (a294, HO.lst (cutV ((cutV v_log0 none (some y246.1)) ++ (cutV v_log0 (some (y246.1 + (1 : Int))) none)) none (some y273.1))), (a261, HO.lst (cutV v_log0 (some (y246.1 + (1 : Int))) none)), (a257, HO.lst (cutV v_log0 none (some y246.1))), (a135, HO.lst (((v172 ++ [V.ref a266]) ++ [V.ref a321]) ++ [V.ref a361])), (a39, HO.lst [V.ref a13])] ++ R) _ := S389.new np391 _
      obtain ⟨F394, s395, S396, h397⟩ : ∃ F', Same F377 F' ∧ Sta F' ([(a386, HO.lst (cutV v_log0 none (some y375.1))), (a_source0, HO.lst v381), (a356, HO.lst (cutV v_log0 (some y246.1) none)), (a352, HO.lst ((cutV v_log0 none (some y246.1)) ++ [V.ref a343])), (a347, HO.lst [V.ref a343]), (a334, HO.lst (cutV v_log0 none (some y246.1))), (a316, HO.lst (cutV ((cutV v_log0 none (some y246.1)) ++ (cutV v_log0 (some (y246.1 + (1 : Int))) none)) (some y273.1) none)), (a312, HO.lst ((cutV ((cutV v_log0 none (some y246.1)) ++ (cutV v_log0 (some (y246.1 + (1 : Int))) none)) none (some y273.1)) ++ [V.ref a303])), (a307, HO.lst [V.ref a303]), (a294, HO.lst (cutV ((cutV v_log0 none (some y246.1)) ++ (cutV v_log0 (some (y246.1 + (1 : Int))) none)) none (some y273.1))), (a261, HO.lst (cutV v_log0 (some (y246.1 + (1 : Int))) none)), (a257, HO.lst (cutV v_log0 none (some y246.1))), (a135, HO.lst (((v172 ++ [V.ref a266]) ++ [V.ref a321]) ++ [V.ref a361])), (a39, HO.lst [V.ref a13])] ++ R) _ ∧ F' a390 = some (HO.lst []) := ⟨_, S393.frzS, S393.frz, upd_same⟩
      refine ⟨(by show 1 ≤ sizeLine; decide), ?_⟩
      clear S389
      intro a398 np399
      have hl400 : LR ((rLst K rInt) F394) [V.ref a390] ([([] : (List Int))] : (List (List Int))) := ⟨⟨_, _, rfl, SqL.mono (SqL.of h397) (Same.refl _), (hl392.mono s395)⟩, trivial⟩
      have S401 : Sta F394 ([(a398, HO.lst [V.ref a390]), (a386, HO.lst (cutV v_log0 none (some y375.1))), (a_source0, HO.lst v381), (a356, HO.lst (cutV v_log0 (some y246.1) none)), (a352, HO.lst ((cutV v_log0 none (some y246.1)) ++ [V.ref a343])), (a347, HO.lst [V.ref a343]), (a334, HO.lst (cutV v_log0 none (some y246.1))), (a316, HO.lst (cutV ((cutV v_log0 none (some y246.1)) ++ (cutV v_log0 (some (y246.1 + (1 : Int))) none)) (some y273.1) none)), (a312, HO.lst ((cutV ((cutV v_log0 none (some y246.1)) ++ (cutV v_log0 (some (y246.1 + (1 : Int))) none)) none (some y273.1)) ++ [V.ref a303])), (a307, HO.lst [V.ref a303]), (a294, HO.lst (cutV ((cutV v_log0 none (some y246.1)) ++ (cutV v_log0 (some (y246.1 + (1 : Int))) none)) none (some y273.1))), (a261, HO.lst (cutV v_log0 (some (y246.1 + (1 : Int))) none)), (a257, HO.lst (cutV v_log0 none (some y246.1))), (a135, HO.lst (((v172 ++ [V.ref a266]) ++ [V.ref a321]) ++ [V.ref a361])), (a39, HO.lst [V.ref a13])] ++ R) _ := S396.new np399 _
      revert hm; refine grdI fun g402 hm => ?_
      refine ⟨_, _, _, _, rfl, rfl, (SqL.of (S401.get 1 rfl)), (SqL.of (S401.get 0 rfl)), (by rw [LR.length (hl388.mono s395), LR.length hl400]; exact of_decide_eq_true g402), ?_⟩
      clear S396
      intro a403 np404
      have hl405 : LR ((rLst K rInt) F394) ((cutV v_log0 none (some y375.1)) ++ [V.ref a390]) ((cutL x_log0 none (some y375.1)) ++ ([([] : (List Int))] : (List (List Int)))) := LR.append (hl388.mono s395) hl400
      have S406 : Sta F394 ([(a403, HO.lst ((cutV v_log0 none (some y375.1)) ++ [V.ref a390])), (a398, HO.lst [V.ref a390]), (a386, HO.lst (cutV v_log0 none (some y375.1))), (a_source0, HO.lst v381), (a356, HO.lst (cutV v_log0 (some y246.1) none)), (a352, HO.lst ((cutV v_log0 none (some y246.1)) ++ [V.ref a343])), (a347, HO.lst [V.ref a343]), (a334, HO.lst (cutV v_log0 none (some y246.1))), (a316, HO.lst (cutV ((cutV v_log0 none (some y246.1)) ++ (cutV v_log0 (some (y246.1 + (1 : Int))) none)) (some y273.1) none)), (a312, HO.lst ((cutV ((cutV v_log0 none (some y246.1)) ++ (cutV v_log0 (some (y246.1 + (1 : Int))) none)) none (some y273.1)) ++ [V.ref a303])), (a307, HO.lst [V.ref a303]), (a294, HO.lst (cutV ((cutV v_log0 none (some y246.1)) ++ (cutV v_log0 (some (y246.1 + (1 : Int))) none)) none (some y273.1))), (a261, HO.lst (cutV v_log0 (some (y246.1 + (1 : Int))) none)), (a257, HO.lst (cutV v_log0 none (some y246.1))), (a135, HO.lst (((v172 ++ [V.ref a266]) ++ [V.ref a321]) ++ [V.ref a361])), (a39, HO.lst [V.ref a13])] ++ R) _ := S401.new np404 _
      refine ⟨_, rfl, _, rfl, _, rfl, _, _, rfl, (SqL.mono hs_log0 ((s9.trans (s24.trans (s53.trans (s70.trans (s74.trans (s86.trans (s103.trans (s108.trans (s113.trans (s118.trans (s123.trans (s128.trans (s132.trans (s168.trans (s250.trans (s277.trans (s286.trans (s326.trans (s366.trans (s379.trans s395)))))))))))))))))))).trans S406.sub)), ?_⟩
      clear S401
      intro a407 np408
      have hl409 : LR ((rLst K rInt) F394) (cutV v_log0 (some y375.1) none) (cutL x_log0 (some y375.1) none) := LR.cut (hl_log0.mono (s9.trans (s24.trans (s53.trans (s70.trans (s74.trans (s86.trans (s103.trans (s108.trans (s113.trans (s118.trans (s123.trans (s128.trans (s132.trans (s168.trans (s250.trans (s277.trans (s286.trans (s326.trans (s366.trans (s379.trans s395))))))))))))))))))))) _ _
      have S410 : Sta F394 ([(a407, HO.lst (cutV v_log0 (some y375.1) none)), (a403, HO.lst ((cutV v_log0 none (some y375.1)) ++ [V.ref a390])), (a398, HO.lst [V.ref a390]), (a386, HO.lst (cutV v_log0 none (some y375.1))), (a_source0, HO.lst v381), (a356, HO.lst (cutV v_log0 (some y246.1) none)), (a352, HO.lst ((cutV v_log0 none (some y246.1)) ++ [V.ref a343])), (a347, HO.lst [V.ref a343]), (a334, HO.lst (cutV v_log0 none (some y246.1))), (a316, HO.lst (cutV ((cutV v_log0 none (some y246.1)) ++ (cutV v_log0 (some (y246.1 + (1 : Int))) none)) (some y273.1) none)), (a312, HO.lst ((cutV ((cutV v_log0 none (some y246.1)) ++ (cutV v_log0 (some (y246.1 + (1 : Int))) none)) none (some y273.1)) ++ [V.ref a303])), (a307, HO.lst [V.ref a303]), (a294, HO.lst (cutV ((cutV v_log0 none (some y246.1)) ++ (cutV v_log0 (some (y246.1 + (1 : Int))) none)) none (some y273.1))), (a261, HO.lst (cutV v_log0 (some (y246.1 + (1 : Int))) none)), (a257, HO.lst (cutV v_log0 none (some y246.1))), (a135, HO.lst (((v172 ++ [V.ref a266]) ++ [V.ref a321]) ++ [V.ref a361])), (a39, HO.lst [V.ref a13])] ++ R) _ := S406.new np408 _
      revert hm; refine grdI fun g411 hm => ?_
      refine ⟨_, _, _, _, rfl, rfl, (SqL.of (S410.get 1 rfl)), (SqL.of (S410.get 0 rfl)), (by rw [LR.length hl405, LR.length hl409]; exact of_decide_eq_true g411), ?_⟩
      clear S406
      intro a412 np413
      have hl414 : LR ((rLst K rInt) F394) (((cutV v_log0 none (some y375.1)) ++ [V.ref a390]) ++ (cutV v_log0 (some y375.1) none)) (((cutL x_log0 none (some y375.1)) ++ ([([] : (List Int))] : (List (List Int)))) ++ (cutL x_log0 (some y375.1) none)) := LR.append hl405 hl409
      have S415 : Sta F394 ([(a412, HO.lst (((cutV v_log0 none (some y375.1)) ++ [V.ref a390]) ++ (cutV v_log0 (some y375.1) none))), (a407, HO.lst (cutV v_log0 (some y375.1) none)), (a403, HO.lst ((cutV v_log0 none (some y375.1)) ++ [V.ref a390])), (a398, HO.lst [V.ref a390]), (a386, HO.lst (cutV v_log0 none (some y375.1))), (a_source0, HO.lst v381), (a356, HO.lst (cutV v_log0 (some y246.1) none)), (a352, HO.lst ((cutV v_log0 none (some y246.1)) ++ [V.ref a343])), (a347, HO.lst [V.ref a343]), (a334, HO.lst (cutV v_log0 none (some y246.1))), (a316, HO.lst (cutV ((cutV v_log0 none (some y246.1)) ++ (cutV v_log0 (some (y246.1 + (1 : Int))) none)) (some y273.1) none)), (a312, HO.lst ((cutV ((cutV v_log0 none (some y246.1)) ++ (cutV v_log0 (some (y246.1 + (1 : Int))) none)) none (some y273.1)) ++ [V.ref a303])), (a307, HO.lst [V.ref a303]), (a294, HO.lst (cutV ((cutV v_log0 none (some y246.1)) ++ (cutV v_log0 (some (y246.1 + (1 : Int))) none)) none (some y273.1))), (a261, HO.lst (cutV v_log0 (some (y246.1 + (1 : Int))) none)), (a257, HO.lst (cutV v_log0 none (some y246.1))), (a135, HO.lst (((v172 ++ [V.ref a266]) ++ [V.ref a321]) ++ [V.ref a361])), (a39, HO.lst [V.ref a13])] ++ R) _ := S410.new np413 _
      obtain ⟨F416, s417, S418, h419⟩ : ∃ F', Same F394 F' ∧ Sta F' ([(a407, HO.lst (cutV v_log0 (some y375.1) none)), (a403, HO.lst ((cutV v_log0 none (some y375.1)) ++ [V.ref a390])), (a398, HO.lst [V.ref a390]), (a386, HO.lst (cutV v_log0 none (some y375.1))), (a_source0, HO.lst v381), (a356, HO.lst (cutV v_log0 (some y246.1) none)), (a352, HO.lst ((cutV v_log0 none (some y246.1)) ++ [V.ref a343])), (a347, HO.lst [V.ref a343]), (a334, HO.lst (cutV v_log0 none (some y246.1))), (a316, HO.lst (cutV ((cutV v_log0 none (some y246.1)) ++ (cutV v_log0 (some (y246.1 + (1 : Int))) none)) (some y273.1) none)), (a312, HO.lst ((cutV ((cutV v_log0 none (some y246.1)) ++ (cutV v_log0 (some (y246.1 + (1 : Int))) none)) none (some y273.1)) ++ [V.ref a303])), (a307, HO.lst [V.ref a303]), (a294, HO.lst (cutV ((cutV v_log0 none (some y246.1)) ++ (cutV v_log0 (some (y246.1 + (1 : Int))) none)) none (some y273.1))), (a261, HO.lst (cutV v_log0 (some (y246.1 + (1 : Int))) none)), (a257, HO.lst (cutV v_log0 none (some y246.1))), (a135, HO.lst (((v172 ++ [V.ref a266]) ++ [V.ref a321]) ++ [V.ref a361])), (a39, HO.lst [V.ref a13])] ++ R) _ ∧ F' a412 = some (HO.lst (((cutV v_log0 none (some y375.1)) ++ [V.ref a390]) ++ (cutV v_log0 (some y375.1) none))) := ⟨_, S415.frzS, S415.frz, upd_same⟩
      revert hm; refine grdI fun g420 hm => ?_
      refine ⟨_, _, _, rfl, rfl, (S418.get 15 rfl), (by rw [LR.length (hl370.mono (s379.trans (s395.trans s417)))]; exact of_decide_eq_true g420), ?_⟩
      clear S410
      have hl421 : LR ((rLst K (rLst K rInt)) F416) ((((v172 ++ [V.ref a266]) ++ [V.ref a321]) ++ [V.ref a361]) ++ [V.ref a412]) ((((st1.1 ++ [((cutL x_log0 none (some y246.1)) ++ (cutL x_log0 (some (y246.1 + (1 : Int))) none))]) ++ [(((cutL ((cutL x_log0 none (some y246.1)) ++ (cutL x_log0 (some (y246.1 + (1 : Int))) none)) none (some y273.1)) ++ ([y298] : (List (List Int)))) ++ (cutL ((cutL x_log0 none (some y246.1)) ++ (cutL x_log0 (some (y246.1 + (1 : Int))) none)) (some y273.1) none))]) ++ [(((cutL x_log0 none (some y246.1)) ++ ([y338] : (List (List Int)))) ++ (cutL x_log0 (some y246.1) none))]) ++ [(((cutL x_log0 none (some y375.1)) ++ ([([] : (List Int))] : (List (List Int)))) ++ (cutL x_log0 (some y375.1) none))]) := LR.snoc (hl370.mono (s379.trans (s395.trans s417))) ⟨_, _, rfl, SqL.mono (SqL.of h419) (Same.refl _), (hl414.mono s417)⟩
      have S422 : Sta F416 ([(a407, HO.lst (cutV v_log0 (some y375.1) none)), (a403, HO.lst ((cutV v_log0 none (some y375.1)) ++ [V.ref a390])), (a398, HO.lst [V.ref a390]), (a386, HO.lst (cutV v_log0 none (some y375.1))), (a_source0, HO.lst v381), (a356, HO.lst (cutV v_log0 (some y246.1) none)), (a352, HO.lst ((cutV v_log0 none (some y246.1)) ++ [V.ref a343])), (a347, HO.lst [V.ref a343]), (a334, HO.lst (cutV v_log0 none (some y246.1))), (a316, HO.lst (cutV ((cutV v_log0 none (some y246.1)) ++ (cutV v_log0 (some (y246.1 + (1 : Int))) none)) (some y273.1) none)), (a312, HO.lst ((cutV ((cutV v_log0 none (some y246.1)) ++ (cutV v_log0 (some (y246.1 + (1 : Int))) none)) none (some y273.1)) ++ [V.ref a303])), (a307, HO.lst [V.ref a303]), (a294, HO.lst (cutV ((cutV v_log0 none (some y246.1)) ++ (cutV v_log0 (some (y246.1 + (1 : Int))) none)) none (some y273.1))), (a261, HO.lst (cutV v_log0 (some (y246.1 + (1 : Int))) none)), (a257, HO.lst (cutV v_log0 none (some y246.1))), (a135, HO.lst ((((v172 ++ [V.ref a266]) ++ [V.ref a321]) ++ [V.ref a361]) ++ [V.ref a412])), (a39, HO.lst [V.ref a13])] ++ R) _ := S418.set 15 rfl _
      refine hN385 _ _ ?_
      refine ⟨_, rfl, ?_⟩
      clear S418
      obtain rfl := Option.some.inj hm
      have S423 : Sta F416 ([(a135, HO.lst ((((v172 ++ [V.ref a266]) ++ [V.ref a321]) ++ [V.ref a361]) ++ [V.ref a412])), (a_source0, HO.lst v381)] ++ R) _ := S422.pick [15, 4] (by decide) rfl
      exact kk _ _ v381 a135 ((((v172 ++ [V.ref a266]) ++ [V.ref a321]) ++ [V.ref a361]) ++ [V.ref a412]) (s9.trans (s24.trans (s53.trans (s70.trans (s74.trans (s86.trans (s103.trans (s108.trans (s113.trans (s118.trans (s123.trans (s128.trans (s132.trans (s168.trans (s250.trans (s277.trans (s286.trans (s326.trans (s366.trans (s379.trans (s395.trans s417))))))))))))))))))))) S423 (hl382.mono (s395.trans s417)) hl421

def sp_law (T : Txt K mg) : Sp := fun vs H Q _ => ∃ (F0 : Hp) (R : Own) (a_script0 : Addr) (v_script0 : List V) (x_script0 : (List Int)) (r : Bool),
  vs = [V.ref a_script0] ∧ SqL K F0 a_script0 v_script0 ∧ LR (rInt F0) v_script0 x_script0 ∧ Sta F0 ([] ++ R) H ∧ m_law x_script0 = some r ∧ ∀ (F1 : Hp) (H1 : Hp), Same F0 F1 → Sta F1 ([] ++ R) H1 → Q (V.bl r) H1

theorem ok_law (T : Txt K mg) : FnOk P w K mg base CX0 10 T.a_law T.d_law ["script"] (sp_law T) := by
  refine T.F_law.ok sc_law (fun vs H Q E h => ?_) (fun cdv A outer s H vs Q E hr h => ?_)
  · obtain ⟨_, _, _, _, _, _, rfl, _⟩ := h
    rfl
  · obtain ⟨F0, R, a_script0, v_script0, x_script0, r, rfl, hs_script0, hl_script0, S0, hm, kk⟩ := h
    have hu := hu_of hr
    unfold m_law at hm
    refine ⟨_, (pss_cons (ps_set (i := 1) sc_law.nd rfl (Or.inl rfl) (pe_lst (pa_cons pe_int (pa_cons pe_int (pa_cons (pe_call (ok_law_seed T) (hr.mono (by decide)) rfl T.g_law_seed T.F_law_seed.kp T.b_law_seed .nil pass0 (pa_cons (pv 0) pa_nil)) (pa_cons pe_int pa_nil)))))) (pss_cons (ps_set (i := 2) sc_law.nd rfl (Or.inl rfl) (pe_ix ix_list (pe_lst (pa_cons pe_int (pa_cons pe_int (pa_cons pe_int (pa_cons pe_int (pa_cons pe_int (pa_cons pe_int (pa_cons pe_int (pa_cons pe_int pa_nil))))))))) (pe_call (ok_law_take T) (hr.mono (by decide)) rfl T.g_law_take T.F_law_take.kp T.b_law_take .nil pass0 (pa_cons (pv 0) (pa_cons (pv 1) (pa_cons pe_int pa_nil)))) (fun _ _ => rfl))) (pss_cons (ps_set (i := 3) sc_law.nd rfl (Or.inl rfl) (pe_ix ix_list (pe_lst (pa_cons pe_int (pa_cons pe_int (pa_cons pe_int (pa_cons pe_int (pa_cons pe_int (pa_cons pe_int (pa_cons pe_int (pa_cons pe_int pa_nil))))))))) (pe_call (ok_law_take T) (hr.mono (by decide)) rfl T.g_law_take T.F_law_take.kp T.b_law_take .nil pass0 (pa_cons (pv 0) (pa_cons (pv 1) (pa_cons pe_int pa_nil)))) (fun _ _ => rfl))) (C8.pss_cut (ps_if (pt_cmpR oI_eq (pe_call (ok_law_take T) (hr.mono (by decide)) rfl T.g_law_take T.F_law_take.kp T.b_law_take .nil pass0 (pa_cons (pv 0) (pa_cons (pv 1) (pa_cons pe_int pa_nil)))) pe_int (nomark _)) (pss_one (ps_set (i := 3) sc_law.nd rfl (Or.inl rfl) (pe_op op_add (pv 3) pe_int))) pss_nil) (pss_cons (ps_set (i := 4) sc_law.nd rfl (Or.inl rfl) (pe_call (ok_law_letters T) (hr.mono (by decide)) rfl T.g_law_letters T.F_law_letters.kp T.b_law_letters .nil pass0 (pa_cons (pv 0) (pa_cons (pv 1) (pa_cons (pv 2) pa_nil))))) (pss_cons (ps_asg (pe_call (ok_law_split T) (hr.mono (by decide)) rfl T.g_law_split T.F_law_split.kp T.b_law_split .nil pass0 (pa_cons (pv 0) (pa_cons (pv 1) (pa_cons (pv 4) (pa_cons (pv 3) pa_nil))))) (pg_tup rfl (pgs_cons (pg_name (i := 5) sc_law.nd rfl (Or.inl rfl)) (pgs_cons (pg_name (i := 6) sc_law.nd rfl (Or.inl rfl)) pgs_nil)))) (pss_cons (ps_if (pt_cut (PW.pt (pw_or (pt_not (pt_val (pe_call (ok_law_asked T) (hr.mono (by decide)) rfl T.g_law_asked T.F_law_asked.kp T.b_law_asked .nil pass0 (pa_cons (pv 5) (pa_cons (pv 6) pa_nil))))) (pw_or1 (pt_not (pt_val (pe_call (ok_law_same T) (hr.mono (by decide)) rfl T.g_law_same T.F_law_same.kp T.b_law_same .nil pass0 (pa_cons (pe_call (ok_refutes T) (hr.mono (by decide)) rfl T.g_refutes T.F_refutes.kp T.b_refutes .nil pass0 (pa_cons (pe_call (ok_law_handed T) (hr.mono (by decide)) rfl T.g_law_handed T.F_law_handed.kp T.b_law_handed .nil pass0 (pa_cons (pv 5) pa_nil)) (pa_cons (pe_call (ok_law_handed T) (hr.mono (by decide)) rfl T.g_law_handed T.F_law_handed.kp T.b_law_handed .nil pass0 (pa_cons (pv 6) pa_nil)) pa_nil))) (pa_cons pe_bl pa_nil))))))))) (pss_one ps_never) pss_nil) (pss_cons (ps_set (i := 7) sc_law.nd rfl (Or.inl rfl) (pe_call (ok_law_take T) (hr.mono (by decide)) rfl T.g_law_take T.F_law_take.kp T.b_law_take .nil pass0 (pa_cons (pv 0) (pa_cons (pv 1) (pa_cons (pe_callB call_len_seq (by rfl) T.z_len PySem.boot_len (pa_cons (pv 5) pa_nil)) pa_nil))))) (pss_cons (ps_set (i := 8) sc_law.nd rfl (Or.inl rfl) (pe_call (ok_law_more T) (hr.mono (by decide)) rfl T.g_law_more T.F_law_more.kp T.b_law_more .nil pass0 (pa_cons (pv 0) (pa_cons (pv 1) (pa_cons (pv 4) (pa_cons (pv 5) pa_nil)))))) (pss_cons (ps_set (i := 9) sc_law.nd rfl (Or.inl rfl) (pe_op op_catS (pe_slice sl_list (pv 5) po_none (po_some (pv 7))) (pe_slice sl_list (pv 5) (po_some (pe_op op_add (pv 7) pe_int)) po_none))) (pss_cons (ps_for PassesOwn.never rfl (pi_list (pe_call (ok_law_logs T) (hr.mono (by decide)) rfl T.g_law_logs T.F_law_logs.kp T.b_law_logs .nil pass0 (pa_cons (pv 0) (pa_cons (pv 1) (pa_cons (pv 4) (pa_cons (pv 6) pa_nil)))))) (pg_name (i := 10) sc_law.nd rfl (Or.inl rfl)) (pss_one (ps_if (pt_cut (PW.pt (pw_or (pt_not (pt_val (pe_call (ok_law_asked T) (hr.mono (by decide)) rfl T.g_law_asked T.F_law_asked.kp T.b_law_asked .nil pass0 (pa_cons (pv 8) (pa_cons (pv 10) pa_nil))))) (pw_or1 (pt_not (pt_val (pe_call (ok_law_asked T) (hr.mono (by decide)) rfl T.g_law_asked T.F_law_asked.kp T.b_law_asked .nil pass0 (pa_cons (pv 9) (pa_cons (pv 10) pa_nil))))))))) (pss_one ps_never) pss_nil))) (pss_one (ps_ret pe_bl))))))))))))), ?_⟩
    refine seqI fun N1 hN2 => ?_
    revert hm; refine bndI fun y3 e4 hm => ?_
    refine ⟨_, rfl, F0, ([] ++ R), a_script0, v_script0, x_script0, y3, rfl, (SqL.mono hs_script0 (Same.refl _)), (hl_script0), S0, (by exact e4), (by show 4 ≤ sizeLine; decide), ?_⟩
    intro a5 np6
    have hl7 : LR (rInt F0) [V.int 0, V.int 0, V.int y3, V.int 0] ([(0 : Int), (0 : Int), y3, (0 : Int)] : (List Int)) := ⟨rfl, rfl, rfl, rfl, trivial⟩
    have S8 : Sta F0 ([(a5, HO.lst [V.int 0, V.int 0, V.int y3, V.int 0])] ++ R) _ := S0.new np6 _
    refine hN2 _ _ ?_
    refine seqI fun N9 hN10 => ?_
    refine ⟨(by show 8 ≤ sizeLine; decide), ?_⟩
    clear S0
    intro a11 np12
    have hl13 : LR (rInt F0) [V.int 4, V.int 3, V.int 5, V.int 2, V.int 4, V.int 6, V.int 3, V.int 1] ([(4 : Int), (3 : Int), (5 : Int), (2 : Int), (4 : Int), (6 : Int), (3 : Int), (1 : Int)] : (List Int)) := ⟨rfl, rfl, rfl, rfl, rfl, rfl, rfl, rfl, trivial⟩
    have S14 : Sta F0 ([(a11, HO.lst [V.int 4, V.int 3, V.int 5, V.int 2, V.int 4, V.int 6, V.int 3, V.int 1]), (a5, HO.lst [V.int 0, V.int 0, V.int y3, V.int 0])] ++ R) _ := S8.new np12 _
    have S15 : Sta F0 ([(a5, HO.lst [V.int 0, V.int 0, V.int y3, V.int 0]), (a11, HO.lst [V.int 4, V.int 3, V.int 5, V.int 2, V.int 4, V.int 6, V.int 3, V.int 1])] ++ R) _ := S14.pick [1, 0] (by decide) rfl
    revert hm; refine bndI fun y16 e17 hm => ?_
    refine ⟨_, rfl, _, rfl, F0, ([(a11, HO.lst [V.int 4, V.int 3, V.int 5, V.int 2, V.int 4, V.int 6, V.int 3, V.int 1])] ++ R), a_script0, v_script0, x_script0, a5, [V.int 0, V.int 0, V.int y3, V.int 0], ([(0 : Int), (0 : Int), y3, (0 : Int)] : (List Int)), (8 : Int), y16, rfl, (SqL.mono hs_script0 (Same.refl _)), (hl_script0), hl7, S15, (by exact e17), fun F18 H19 v22 s20 S21 hl23 => ?_⟩
    clear S8 S14
    have S24 : Sta F18 ([(a5, HO.lst v22), (a11, HO.lst [V.int 4, V.int 3, V.int 5, V.int 2, V.int 4, V.int 6, V.int 3, V.int 1])] ++ R) _ := S21
    revert hm; refine bndI fun y25 e26 hm => ?_
    obtain ⟨v27, ev28, rv29⟩ := LR.atI hl13 e26
    obtain rfl := rInt_e rv29
    refine ⟨_, _, _, _, rfl, rfl, (SqL.of (S24.get 1 rfl)), ev28, ?_⟩
    clear S21
    refine hN10 _ _ ?_
    refine seqI fun N30 hN31 => ?_
    refine ⟨(by show 8 ≤ sizeLine; decide), ?_⟩
    intro a32 np33
    have hl34 : LR (rInt F18) [V.int 4, V.int 3, V.int 5, V.int 2, V.int 6, V.int 7, V.int 1, V.int 0] ([(4 : Int), (3 : Int), (5 : Int), (2 : Int), (6 : Int), (7 : Int), (1 : Int), (0 : Int)] : (List Int)) := ⟨rfl, rfl, rfl, rfl, rfl, rfl, rfl, rfl, trivial⟩
    have S35 : Sta F18 ([(a32, HO.lst [V.int 4, V.int 3, V.int 5, V.int 2, V.int 6, V.int 7, V.int 1, V.int 0]), (a5, HO.lst v22), (a11, HO.lst [V.int 4, V.int 3, V.int 5, V.int 2, V.int 4, V.int 6, V.int 3, V.int 1])] ++ R) _ := S24.new np33 _
    have S36 : Sta F18 ([(a5, HO.lst v22), (a32, HO.lst [V.int 4, V.int 3, V.int 5, V.int 2, V.int 6, V.int 7, V.int 1, V.int 0]), (a11, HO.lst [V.int 4, V.int 3, V.int 5, V.int 2, V.int 4, V.int 6, V.int 3, V.int 1])] ++ R) _ := S35.pick [1, 0, 2] (by decide) rfl
    revert hm; refine bndI fun y37 e38 hm => ?_
    refine ⟨_, rfl, _, rfl, F18, ([(a32, HO.lst [V.int 4, V.int 3, V.int 5, V.int 2, V.int 6, V.int 7, V.int 1, V.int 0]), (a11, HO.lst [V.int 4, V.int 3, V.int 5, V.int 2, V.int 4, V.int 6, V.int 3, V.int 1])] ++ R), a_script0, v_script0, x_script0, a5, v22, y16.2, (8 : Int), y37, rfl, (SqL.mono hs_script0 s20), ((hl_script0.mono s20)), hl23, S36, (by exact e38), fun F39 H40 v43 s41 S42 hl44 => ?_⟩
    clear S24 S35
    have S45 : Sta F39 ([(a5, HO.lst v43), (a32, HO.lst [V.int 4, V.int 3, V.int 5, V.int 2, V.int 6, V.int 7, V.int 1, V.int 0]), (a11, HO.lst [V.int 4, V.int 3, V.int 5, V.int 2, V.int 4, V.int 6, V.int 3, V.int 1])] ++ R) _ := S42
    revert hm; refine bndI fun y46 e47 hm => ?_
    obtain ⟨v48, ev49, rv50⟩ := LR.atI hl34 e47
    obtain rfl := rInt_e rv50
    refine ⟨_, _, _, _, rfl, rfl, (SqL.of (S45.get 1 rfl)), ev49, ?_⟩
    clear S42
    refine hN31 _ _ ?_
    revert hm; refine bndI fun y56 e57 hm => ?_
    refine ⟨fun σ H2 => ∃ (F51 : Hp) (v54 : List V), σ = [some (V.ref a_script0), some (V.ref a5), some (V.int y25), some (V.int y56.1), none, none, none, none, none, none, none] ∧ Same F39 F51 ∧ Sta F51 ([(a5, HO.lst v54), (a32, HO.lst [V.int 4, V.int 3, V.int 5, V.int 2, V.int 6, V.int 7, V.int 1, V.int 0]), (a11, HO.lst [V.int 4, V.int 3, V.int 5, V.int 2, V.int 4, V.int 6, V.int 3, V.int 1])] ++ R) H2 ∧ LR (rInt F51) v54 y56.2, ?_, ?_⟩
    · clear hm; have hm := e57; clear e57
      revert hm; refine bndI fun y58 e59 hm => ?_
      refine ⟨_, rfl, _, rfl, F39, ([(a32, HO.lst [V.int 4, V.int 3, V.int 5, V.int 2, V.int 6, V.int 7, V.int 1, V.int 0]), (a11, HO.lst [V.int 4, V.int 3, V.int 5, V.int 2, V.int 4, V.int 6, V.int 3, V.int 1])] ++ R), a_script0, v_script0, x_script0, a5, v43, y37.2, (8 : Int), y58, rfl, (SqL.mono hs_script0 (s20.trans s41)), ((hl_script0.mono (s20.trans s41))), hl44, S45, (by exact e59), fun F60 H61 v64 s62 S63 hl65 => ?_⟩
      have S66 : Sta F60 ([(a5, HO.lst v64), (a32, HO.lst [V.int 4, V.int 3, V.int 5, V.int 2, V.int 6, V.int 7, V.int 1, V.int 0]), (a11, HO.lst [V.int 4, V.int 3, V.int 5, V.int 2, V.int 4, V.int 6, V.int 3, V.int 1])] ++ R) _ := S63
      refine ⟨_, _, rfl, rfl, _, rfl, ?_⟩
      clear S63
      by_cases c67 : (decide (y58.1 = (5 : Int))) = true
      · revert hm; refine ifTI c67 fun hm => ?_
        refine goT c67 ?_
        refine ⟨_, rfl, _, _, rfl, rfl, ?_⟩
        obtain rfl := Option.some.inj hm
        exact ⟨F60, v64, rfl, s62, S66, hl65⟩
      · revert hm; refine ifFI c67 fun hm => ?_
        refine goF c67 ?_
        obtain rfl := Option.some.inj hm
        exact ⟨F60, v64, rfl, s62, S66, hl65⟩
    · rintro σ H2 ⟨F51, v54, rfl, s52, S53, hl55⟩
      refine seqI fun N68 hN69 => ?_
      revert hm; refine bndI fun y70 e71 hm => ?_
      refine ⟨_, rfl, _, rfl, _, rfl, F51, ([(a32, HO.lst [V.int 4, V.int 3, V.int 5, V.int 2, V.int 6, V.int 7, V.int 1, V.int 0]), (a11, HO.lst [V.int 4, V.int 3, V.int 5, V.int 2, V.int 4, V.int 6, V.int 3, V.int 1])] ++ R), a_script0, v_script0, x_script0, a5, v54, y56.2, y25, y70, rfl, (SqL.mono hs_script0 (s20.trans (s41.trans s52))), ((hl_script0.mono (s20.trans (s41.trans s52)))), hl55, S53, (by exact e71), fun F72 H73 v76 a78 v79 s74 S75 hl77 hl80 => ?_⟩
      have S81 : Sta F72 ([(a78, HO.lst v79), (a5, HO.lst v76), (a32, HO.lst [V.int 4, V.int 3, V.int 5, V.int 2, V.int 6, V.int 7, V.int 1, V.int 0]), (a11, HO.lst [V.int 4, V.int 3, V.int 5, V.int 2, V.int 4, V.int 6, V.int 3, V.int 1])] ++ R) _ := S75
      refine hN69 _ _ ?_
      refine seqI fun N82 hN83 => ?_
      have S84 : Sta F72 ([(a5, HO.lst v76), (a78, HO.lst v79), (a32, HO.lst [V.int 4, V.int 3, V.int 5, V.int 2, V.int 6, V.int 7, V.int 1, V.int 0]), (a11, HO.lst [V.int 4, V.int 3, V.int 5, V.int 2, V.int 4, V.int 6, V.int 3, V.int 1])] ++ R) _ := S81.pick [1, 0, 2, 3] (by decide) rfl
      revert hm; refine bndI fun y85 e86 hm => ?_
      refine ⟨_, rfl, _, rfl, _, rfl, _, rfl, F72, ([(a78, HO.lst v79), (a32, HO.lst [V.int 4, V.int 3, V.int 5, V.int 2, V.int 6, V.int 7, V.int 1, V.int 0]), (a11, HO.lst [V.int 4, V.int 3, V.int 5, V.int 2, V.int 4, V.int 6, V.int 3, V.int 1])] ++ R), a_script0, v_script0, x_script0, a5, v76, y70.2, a78, v79, y70.1, y56.1, y85, rfl, (SqL.mono hs_script0 (s20.trans (s41.trans (s52.trans s74)))), ((hl_script0.mono (s20.trans (s41.trans (s52.trans s74))))), hl77, (SqL.of (S84.tl.getO 0 rfl)), hl80, S84, (by exact e86), fun F87 H88 v91 v93 s89 S90 hl92 p94 => ?_⟩
      clear S75 S81
      have S95 : Sta F87 ([(a5, HO.lst v91), (a78, HO.lst v79), (a32, HO.lst [V.int 4, V.int 3, V.int 5, V.int 2, V.int 6, V.int 7, V.int 1, V.int 0]), (a11, HO.lst [V.int 4, V.int 3, V.int 5, V.int 2, V.int 4, V.int 6, V.int 3, V.int 1])] ++ R) _ := S90
      obtain ⟨a96, u98, u99, rfl, hs97, p100, p101⟩ := p94
      obtain ⟨a102, v103, rfl, hs104, hl105⟩ := p100
      obtain ⟨a106, v107, rfl, hs108, hl109⟩ := p101
      refine ⟨_, _, rfl, (SqT.mono hs97 ((Same.refl _).trans S95.sub)), rfl, _, _, rfl, _, _, rfl, rfl, ?_⟩
      clear S90
      refine hN83 _ _ ?_
      refine seqI fun N110 hN111 => ?_
      revert hm; refine bndI fun b112 e113 hm => ?_
      refine ⟨fun b H' => ∃ (F114 : Hp), Same F87 F114 ∧ Sta F114 ([(a5, HO.lst v91), (a78, HO.lst v79), (a32, HO.lst [V.int 4, V.int 3, V.int 5, V.int 2, V.int 6, V.int 7, V.int 1, V.int 0]), (a11, HO.lst [V.int 4, V.int 3, V.int 5, V.int 2, V.int 4, V.int 6, V.int 3, V.int 1])] ++ R) H' ∧ b112 = b, ?_, ?_⟩
      · clear hm
        have hm := e113
        clear e113
        revert hm; refine bndI fun y117 e118 hm => ?_
        refine ⟨_, rfl, _, rfl, F87, ([(a5, HO.lst v91), (a78, HO.lst v79), (a32, HO.lst [V.int 4, V.int 3, V.int 5, V.int 2, V.int 6, V.int 7, V.int 1, V.int 0]), (a11, HO.lst [V.int 4, V.int 3, V.int 5, V.int 2, V.int 4, V.int 6, V.int 3, V.int 1])] ++ R), a102, v103, y85.1.1, a106, v107, y85.1.2, y117, rfl, (SqL.mono hs104 (Same.refl _)), (hl105), (SqL.mono hs108 (Same.refl _)), (hl109), S95, (by exact e118), fun F119 H120 s121 S122 => ?_⟩
        have S123 : Sta F119 ([(a5, HO.lst v91), (a78, HO.lst v79), (a32, HO.lst [V.int 4, V.int 3, V.int 5, V.int 2, V.int 6, V.int 7, V.int 1, V.int 0]), (a11, HO.lst [V.int 4, V.int 3, V.int 5, V.int 2, V.int 4, V.int 6, V.int 3, V.int 1])] ++ R) _ := S122
        refine ⟨_, rfl, ?_⟩
        clear S122
        by_cases c124 : (!y117) = true
        · revert hm; refine ifTI c124 fun hm => ?_
          obtain rfl := Option.some.inj hm
          exact goT c124 ⟨F119, s121, S123, rfl⟩
        · revert hm; refine ifFI c124 fun hm => ?_
          refine goF c124 ?_
          revert hm; refine bndI fun y125 e126 hm => ?_
          refine ⟨_, rfl, F119, ([(a5, HO.lst v91), (a78, HO.lst v79), (a32, HO.lst [V.int 4, V.int 3, V.int 5, V.int 2, V.int 6, V.int 7, V.int 1, V.int 0]), (a11, HO.lst [V.int 4, V.int 3, V.int 5, V.int 2, V.int 4, V.int 6, V.int 3, V.int 1])] ++ R), a102, v103, y85.1.1, y125, rfl, (SqL.mono hs104 s121), ((hl105.mono s121)), S123, (by exact e126), fun F127 H128 a131 v132 s129 S130 hs133 hl134 => ?_⟩
          have S135 : Sta F127 ([(a5, HO.lst v91), (a78, HO.lst v79), (a32, HO.lst [V.int 4, V.int 3, V.int 5, V.int 2, V.int 6, V.int 7, V.int 1, V.int 0]), (a11, HO.lst [V.int 4, V.int 3, V.int 5, V.int 2, V.int 4, V.int 6, V.int 3, V.int 1])] ++ R) _ := S130
          revert hm; refine bndI fun y136 e137 hm => ?_
          refine ⟨_, rfl, F127, ([(a5, HO.lst v91), (a78, HO.lst v79), (a32, HO.lst [V.int 4, V.int 3, V.int 5, V.int 2, V.int 6, V.int 7, V.int 1, V.int 0]), (a11, HO.lst [V.int 4, V.int 3, V.int 5, V.int 2, V.int 4, V.int 6, V.int 3, V.int 1])] ++ R), a106, v107, y85.1.2, y136, rfl, (SqL.mono hs108 (s121.trans s129)), ((hl109.mono (s121.trans s129))), S135, (by exact e137), fun F138 H139 a142 v143 s140 S141 hs144 hl145 => ?_⟩
          clear S130
          have S146 : Sta F138 ([(a5, HO.lst v91), (a78, HO.lst v79), (a32, HO.lst [V.int 4, V.int 3, V.int 5, V.int 2, V.int 6, V.int 7, V.int 1, V.int 0]), (a11, HO.lst [V.int 4, V.int 3, V.int 5, V.int 2, V.int 4, V.int 6, V.int 3, V.int 1])] ++ R) _ := S141
          revert hm; refine bndI fun y147 e148 hm => ?_
          refine ⟨F138, ([(a5, HO.lst v91), (a78, HO.lst v79), (a32, HO.lst [V.int 4, V.int 3, V.int 5, V.int 2, V.int 6, V.int 7, V.int 1, V.int 0]), (a11, HO.lst [V.int 4, V.int 3, V.int 5, V.int 2, V.int 4, V.int 6, V.int 3, V.int 1])] ++ R), a131, v132, y125, a142, v143, y136, y147, rfl, (SqL.mono hs133 s140), ((hl134.mono s140)), (SqL.mono hs144 (Same.refl _)), (hl145), S146, (by exact e148), fun F149 H150 s151 S152 => ?_⟩
          clear S141
          have S153 : Sta F149 ([(a5, HO.lst v91), (a78, HO.lst v79), (a32, HO.lst [V.int 4, V.int 3, V.int 5, V.int 2, V.int 6, V.int 7, V.int 1, V.int 0]), (a11, HO.lst [V.int 4, V.int 3, V.int 5, V.int 2, V.int 4, V.int 6, V.int 3, V.int 1])] ++ R) _ := S152
          refine ⟨y147, true, _, rfl, rfl, _, rfl, ?_⟩
          clear S152
          obtain rfl := Option.some.inj hm
          exact ⟨F149, (s121.trans (s129.trans (s140.trans s151))), S153, rfl⟩
      rintro b154 H155 ⟨F114, s115, S116, rfl⟩
      by_cases c156 : b112 = true
      · revert hm; refine ifTI c156 fun hm => ?_
        cases hm
      · revert hm; refine ifFI c156 fun hm => ?_
        refine goF c156 ?_
        refine hN111 _ _ ?_
        refine seqI fun N157 hN158 => ?_
        refine ⟨_, rfl, _, rfl, _, rfl, _, _, rfl, .inl (SqL.mono hs104 (s115.trans S116.sub)), ?_⟩
        rw [LR.length (hl105.mono s115)]
        revert hm; refine bndI fun y159 e160 hm => ?_
        refine ⟨F114, ([(a78, HO.lst v79), (a32, HO.lst [V.int 4, V.int 3, V.int 5, V.int 2, V.int 6, V.int 7, V.int 1, V.int 0]), (a11, HO.lst [V.int 4, V.int 3, V.int 5, V.int 2, V.int 4, V.int 6, V.int 3, V.int 1])] ++ R), a_script0, v_script0, x_script0, a5, v91, y85.2, (y85.1.1.length : Int), y159, rfl, (SqL.mono hs_script0 (s20.trans (s41.trans (s52.trans (s74.trans (s89.trans s115)))))), ((hl_script0.mono (s20.trans (s41.trans (s52.trans (s74.trans (s89.trans s115))))))), (hl92.mono s115), S116, (by exact e160), fun F161 H162 v165 s163 S164 hl166 => ?_⟩
        have S167 : Sta F161 ([(a5, HO.lst v165), (a78, HO.lst v79), (a32, HO.lst [V.int 4, V.int 3, V.int 5, V.int 2, V.int 6, V.int 7, V.int 1, V.int 0]), (a11, HO.lst [V.int 4, V.int 3, V.int 5, V.int 2, V.int 4, V.int 6, V.int 3, V.int 1])] ++ R) _ := S164
        refine hN158 _ _ ?_
        refine seqI fun N168 hN169 => ?_
        revert hm; refine bndI fun y170 e171 hm => ?_
        refine ⟨_, rfl, _, rfl, _, rfl, _, rfl, F161, ([(a78, HO.lst v79), (a32, HO.lst [V.int 4, V.int 3, V.int 5, V.int 2, V.int 6, V.int 7, V.int 1, V.int 0]), (a11, HO.lst [V.int 4, V.int 3, V.int 5, V.int 2, V.int 4, V.int 6, V.int 3, V.int 1])] ++ R), a_script0, v_script0, x_script0, a5, v165, y159.2, a78, v79, y70.1, a102, v103, y85.1.1, y170, rfl, (SqL.mono hs_script0 (s20.trans (s41.trans (s52.trans (s74.trans (s89.trans (s115.trans s163))))))), ((hl_script0.mono (s20.trans (s41.trans (s52.trans (s74.trans (s89.trans (s115.trans s163)))))))), hl166, (SqL.of (S167.tl.getO 0 rfl)), (hl80.mono (s89.trans (s115.trans s163))), (SqL.mono hs104 (s115.trans s163)), ((hl105.mono (s115.trans s163))), S167, (by exact e171), fun F172 H173 v176 a178 v179 s174 S175 hl177 hl180 => ?_⟩
        clear S164
        have S181 : Sta F172 ([(a178, HO.lst v179), (a5, HO.lst v176), (a78, HO.lst v79), (a32, HO.lst [V.int 4, V.int 3, V.int 5, V.int 2, V.int 6, V.int 7, V.int 1, V.int 0]), (a11, HO.lst [V.int 4, V.int 3, V.int 5, V.int 2, V.int 4, V.int 6, V.int 3, V.int 1])] ++ R) _ := S175
        refine hN169 _ _ ?_
        obtain ⟨F182, s183, S184, h185⟩ : ∃ F', Same F172 F' ∧ Sta F' ([(a5, HO.lst v176), (a78, HO.lst v79), (a32, HO.lst [V.int 4, V.int 3, V.int 5, V.int 2, V.int 6, V.int 7, V.int 1, V.int 0]), (a11, HO.lst [V.int 4, V.int 3, V.int 5, V.int 2, V.int 4, V.int 6, V.int 3, V.int 1])] ++ R) _ ∧ F' a178 = some (HO.lst v179) := ⟨_, S181.frzS, S181.frz, upd_same⟩
        refine seqI fun N186 hN187 => ?_
        refine ⟨_, rfl, _, rfl, _, rfl, _, _, rfl, (SqL.mono hs104 ((s115.trans (s163.trans (s174.trans s183))).trans S184.sub)), ?_⟩
        clear S175
        intro a188 np189
        have hl190 : LR ((rLst K rInt) F182) (cutV v103 none (some y159.1)) (cutL y85.1.1 none (some y159.1)) := LR.cut (hl105.mono (s115.trans (s163.trans (s174.trans s183)))) _ _
        have S191 : Sta F182 ([(a188, HO.lst (cutV v103 none (some y159.1))), (a5, HO.lst v176), (a78, HO.lst v79), (a32, HO.lst [V.int 4, V.int 3, V.int 5, V.int 2, V.int 6, V.int 7, V.int 1, V.int 0]), (a11, HO.lst [V.int 4, V.int 3, V.int 5, V.int 2, V.int 4, V.int 6, V.int 3, V.int 1])] ++ R) _ := S184.new np189 _
        refine ⟨_, rfl, _, rfl, _, _, rfl, rfl, _, rfl, _, _, rfl, (SqL.mono hs104 ((s115.trans (s163.trans (s174.trans s183))).trans S191.sub)), ?_⟩
        clear S184
        intro a192 np193
        have hl194 : LR ((rLst K rInt) F182) (cutV v103 (some (y159.1 + (1 : Int))) none) (cutL y85.1.1 (some (y159.1 + (1 : Int))) none) := LR.cut (hl105.mono (s115.trans (s163.trans (s174.trans s183)))) _ _
        have S195 : Sta F182 ([(a192, HO.lst (cutV v103 (some (y159.1 + (1 : Int))) none)), (a188, HO.lst (cutV v103 none (some y159.1))), (a5, HO.lst v176), (a78, HO.lst v79), (a32, HO.lst [V.int 4, V.int 3, V.int 5, V.int 2, V.int 6, V.int 7, V.int 1, V.int 0]), (a11, HO.lst [V.int 4, V.int 3, V.int 5, V.int 2, V.int 4, V.int 6, V.int 3, V.int 1])] ++ R) _ := S191.new np193 _
        revert hm; refine grdI fun g196 hm => ?_
        refine ⟨_, _, _, _, rfl, rfl, (SqL.of (S195.get 1 rfl)), (SqL.of (S195.get 0 rfl)), (by rw [LR.length hl190, LR.length hl194]; exact of_decide_eq_true g196), ?_⟩
        clear S191
        intro a197 np198
        have hl199 : LR ((rLst K rInt) F182) ((cutV v103 none (some y159.1)) ++ (cutV v103 (some (y159.1 + (1 : Int))) none)) ((cutL y85.1.1 none (some y159.1)) ++ (cutL y85.1.1 (some (y159.1 + (1 : Int))) none)) := LR.append hl190 hl194
        have S200 : Sta F182 ([(a197, HO.lst ((cutV v103 none (some y159.1)) ++ (cutV v103 (some (y159.1 + (1 : Int))) none))), (a192, HO.lst (cutV v103 (some (y159.1 + (1 : Int))) none)), (a188, HO.lst (cutV v103 none (some y159.1))), (a5, HO.lst v176), (a78, HO.lst v79), (a32, HO.lst [V.int 4, V.int 3, V.int 5, V.int 2, V.int 6, V.int 7, V.int 1, V.int 0]), (a11, HO.lst [V.int 4, V.int 3, V.int 5, V.int 2, V.int 4, V.int 6, V.int 3, V.int 1])] ++ R) _ := S195.new np198 _
        refine hN187 _ _ ?_
        obtain ⟨F201, s202, S203, h204⟩ : ∃ F', Same F182 F' ∧ Sta F' ([(a192, HO.lst (cutV v103 (some (y159.1 + (1 : Int))) none)), (a188, HO.lst (cutV v103 none (some y159.1))), (a5, HO.lst v176), (a78, HO.lst v79), (a32, HO.lst [V.int 4, V.int 3, V.int 5, V.int 2, V.int 6, V.int 7, V.int 1, V.int 0]), (a11, HO.lst [V.int 4, V.int 3, V.int 5, V.int 2, V.int 4, V.int 6, V.int 3, V.int 1])] ++ R) _ ∧ F' a197 = some (HO.lst ((cutV v103 none (some y159.1)) ++ (cutV v103 (some (y159.1 + (1 : Int))) none))) := ⟨_, S200.frzS, S200.frz, upd_same⟩
        refine seqI fun N205 hN206 => ?_
        have S210 : Sta F201 ([(a5, HO.lst v176), (a192, HO.lst (cutV v103 (some (y159.1 + (1 : Int))) none)), (a188, HO.lst (cutV v103 none (some y159.1))), (a78, HO.lst v79), (a32, HO.lst [V.int 4, V.int 3, V.int 5, V.int 2, V.int 6, V.int 7, V.int 1, V.int 0]), (a11, HO.lst [V.int 4, V.int 3, V.int 5, V.int 2, V.int 4, V.int 6, V.int 3, V.int 1])] ++ R) _ := S203.pick [2, 0, 1, 3, 4, 5] (by decide) rfl
        revert hm; refine bndI fun y211 e212 hm => ?_
        refine ⟨_, rfl, _, rfl, _, rfl, _, rfl, F201, ([(a192, HO.lst (cutV v103 (some (y159.1 + (1 : Int))) none)), (a188, HO.lst (cutV v103 none (some y159.1))), (a78, HO.lst v79), (a32, HO.lst [V.int 4, V.int 3, V.int 5, V.int 2, V.int 6, V.int 7, V.int 1, V.int 0]), (a11, HO.lst [V.int 4, V.int 3, V.int 5, V.int 2, V.int 4, V.int 6, V.int 3, V.int 1])] ++ R), a_script0, v_script0, x_script0, a5, v176, y170.2, a78, v79, y70.1, a106, v107, y85.1.2, y211, rfl, (SqL.mono hs_script0 (s20.trans (s41.trans (s52.trans (s74.trans (s89.trans (s115.trans (s163.trans (s174.trans (s183.trans s202)))))))))), ((hl_script0.mono (s20.trans (s41.trans (s52.trans (s74.trans (s89.trans (s115.trans (s163.trans (s174.trans (s183.trans s202))))))))))), (hl177.mono (s183.trans s202)), (SqL.of (S210.tl.getO 2 rfl)), (hl80.mono (s89.trans (s115.trans (s163.trans (s174.trans (s183.trans s202)))))), (SqL.mono hs108 (s115.trans (s163.trans (s174.trans (s183.trans s202))))), ((hl109.mono (s115.trans (s163.trans (s174.trans (s183.trans s202)))))), S210, (by exact e212), fun F213 H214 v217 a219 v220 s215 S216 hl218 hl221 => ?_⟩
        clear S195 S203
        have S222 : Sta F213 ([(a219, HO.lst v220), (a5, HO.lst v217), (a192, HO.lst (cutV v103 (some (y159.1 + (1 : Int))) none)), (a188, HO.lst (cutV v103 none (some y159.1))), (a78, HO.lst v79), (a32, HO.lst [V.int 4, V.int 3, V.int 5, V.int 2, V.int 6, V.int 7, V.int 1, V.int 0]), (a11, HO.lst [V.int 4, V.int 3, V.int 5, V.int 2, V.int 4, V.int 6, V.int 3, V.int 1])] ++ R) _ := S216
        revert hm; refine bndI fun y207 e208 hm209 => ?_
        refine ⟨_, rfl, ⟨_, (SqL.of (S222.get 0 rfl))⟩, for_list (K := K) (a := a219) (xs := v220) (fun i σ H2 => ∃ (st1 : Unit) (F235 : Hp) (o238 : Option V), σ = [some (V.ref a_script0), some (V.ref a5), some (V.int y25), some (V.int y56.1), some (V.ref a78), some (V.ref a102), some (V.ref a106), some (V.int y159.1), some (V.ref a178), some (V.ref a197), o238] ∧ Same F213 F235 ∧ Sta F235 ([(a219, HO.lst v220), (a5, HO.lst v217), (a192, HO.lst (cutV v103 (some (y159.1 + (1 : Int))) none)), (a188, HO.lst (cutV v103 none (some y159.1))), (a78, HO.lst v79), (a32, HO.lst [V.int 4, V.int 3, V.int 5, V.int 2, V.int 6, V.int 7, V.int 1, V.int 0]), (a11, HO.lst [V.int 4, V.int 3, V.int 5, V.int 2, V.int 4, V.int 6, V.int 3, V.int 1])] ++ R) H2 ∧ m_law_l1 y85 y159 y170 (List.drop i y211.1) st1 = some y207) ⟨(), F213, _, rfl, (Same.refl _), S222, e208⟩ (by rintro i σ H2 _ ⟨st1, F235, o238, rfl, s236, S237, _⟩; exact (SqL.of (S237.get 0 rfl))) ?_ ?_⟩
        clear S216
        · rintro i v240 σ H2 hi ⟨st1, F235, o238, rfl, s236, S237, hm⟩
          obtain ⟨x239, hx241, rx242⟩ := LR.getV hl221 hi
          rw [drop_cons hx241, m_law_l1] at hm
          obtain ⟨a243, v244, rfl, hs245, hl246⟩ := rx242
          revert hm; refine bndI fun b247 e248 hm => ?_
          refine ⟨fun b H' => ∃ (F249 : Hp), Same F235 F249 ∧ Sta F249 ([(a219, HO.lst v220), (a5, HO.lst v217), (a192, HO.lst (cutV v103 (some (y159.1 + (1 : Int))) none)), (a188, HO.lst (cutV v103 none (some y159.1))), (a78, HO.lst v79), (a32, HO.lst [V.int 4, V.int 3, V.int 5, V.int 2, V.int 6, V.int 7, V.int 1, V.int 0]), (a11, HO.lst [V.int 4, V.int 3, V.int 5, V.int 2, V.int 4, V.int 6, V.int 3, V.int 1])] ++ R) H' ∧ b247 = b, ?_, ?_⟩
          · clear hm
            have hm := e248
            clear e248
            revert hm; refine bndI fun y252 e253 hm => ?_
            refine ⟨_, rfl, _, rfl, F235, ([(a219, HO.lst v220), (a5, HO.lst v217), (a192, HO.lst (cutV v103 (some (y159.1 + (1 : Int))) none)), (a188, HO.lst (cutV v103 none (some y159.1))), (a78, HO.lst v79), (a32, HO.lst [V.int 4, V.int 3, V.int 5, V.int 2, V.int 6, V.int 7, V.int 1, V.int 0]), (a11, HO.lst [V.int 4, V.int 3, V.int 5, V.int 2, V.int 4, V.int 6, V.int 3, V.int 1])] ++ R), a178, v179, y170.1, a243, v244, x239, y252, rfl, (SqL.mono (SqL.of h185) (s202.trans (s215.trans s236))), ((hl180.mono (s183.trans (s202.trans (s215.trans s236))))), (SqL.mono hs245 s236), ((hl246.mono s236)), S237, (by exact e253), fun F254 H255 s256 S257 => ?_⟩
            have S258 : Sta F254 ([(a219, HO.lst v220), (a5, HO.lst v217), (a192, HO.lst (cutV v103 (some (y159.1 + (1 : Int))) none)), (a188, HO.lst (cutV v103 none (some y159.1))), (a78, HO.lst v79), (a32, HO.lst [V.int 4, V.int 3, V.int 5, V.int 2, V.int 6, V.int 7, V.int 1, V.int 0]), (a11, HO.lst [V.int 4, V.int 3, V.int 5, V.int 2, V.int 4, V.int 6, V.int 3, V.int 1])] ++ R) _ := S257
            refine ⟨_, rfl, ?_⟩
            clear S257
            by_cases c259 : (!y252) = true
            · revert hm; refine ifTI c259 fun hm => ?_
              obtain rfl := Option.some.inj hm
              exact goT c259 ⟨F254, s256, S258, rfl⟩
            · revert hm; refine ifFI c259 fun hm => ?_
              refine goF c259 ?_
              revert hm; refine bndI fun y260 e261 hm => ?_
              refine ⟨_, rfl, _, rfl, F254, ([(a219, HO.lst v220), (a5, HO.lst v217), (a192, HO.lst (cutV v103 (some (y159.1 + (1 : Int))) none)), (a188, HO.lst (cutV v103 none (some y159.1))), (a78, HO.lst v79), (a32, HO.lst [V.int 4, V.int 3, V.int 5, V.int 2, V.int 6, V.int 7, V.int 1, V.int 0]), (a11, HO.lst [V.int 4, V.int 3, V.int 5, V.int 2, V.int 4, V.int 6, V.int 3, V.int 1])] ++ R), a197, ((cutV v103 none (some y159.1)) ++ (cutV v103 (some (y159.1 + (1 : Int))) none)), ((cutL y85.1.1 none (some y159.1)) ++ (cutL y85.1.1 (some (y159.1 + (1 : Int))) none)), a243, v244, x239, y260, rfl, (SqL.mono (SqL.of h204) (s215.trans (s236.trans s256))), ((hl199.mono (s202.trans (s215.trans (s236.trans s256))))), (SqL.mono hs245 (s236.trans s256)), ((hl246.mono (s236.trans s256))), S258, (by exact e261), fun F262 H263 s264 S265 => ?_⟩
              have S266 : Sta F262 ([(a219, HO.lst v220), (a5, HO.lst v217), (a192, HO.lst (cutV v103 (some (y159.1 + (1 : Int))) none)), (a188, HO.lst (cutV v103 none (some y159.1))), (a78, HO.lst v79), (a32, HO.lst [V.int 4, V.int 3, V.int 5, V.int 2, V.int 6, V.int 7, V.int 1, V.int 0]), (a11, HO.lst [V.int 4, V.int 3, V.int 5, V.int 2, V.int 4, V.int 6, V.int 3, V.int 1])] ++ R) _ := S265
              refine ⟨_, rfl, ?_⟩
              clear S265
              obtain rfl := Option.some.inj hm
              exact ⟨F262, (s256.trans s264), S266, rfl⟩
          rintro b267 H268 ⟨F249, s250, S251, rfl⟩
          by_cases c269 : b247 = true
          · revert hm; refine ifTI c269 fun hm => ?_
            cases hm
          · revert hm; refine ifFI c269 fun hm => ?_
            refine goF c269 ?_
            exact ⟨(), F249, _, rfl, (s236.trans s250), S251, hm⟩
        · rintro σ H2 ⟨st1, F235, o238, rfl, s236, S237, hm⟩
          rw [LR.dropEnd hl221, m_law_l1] at hm
          obtain rfl := Option.some.inj hm
          have hm := hm209
          refine hN206 _ _ ?_
          obtain rfl := Option.some.inj hm
          have S270 : Sta F235 ([] ++ R) _ := S237.pick [] (by decide) rfl
          exact kk _ _ (s20.trans (s41.trans (s52.trans (s74.trans (s89.trans (s115.trans (s163.trans (s174.trans (s183.trans (s202.trans (s215.trans s236))))))))))) S270

end
end G

namespace G
open PySem PySem.Spec PyProof.Rows L2
def spTop (K : PySem.W.Frag) : Sp := fun vs H Q _ => ∃ (a : Addr) (ns : List Int), vs = [V.ref a] ∧ SqL K H a (ns.map V.int) ∧ ns.length ≤ 63 ∧ ∀ H', Q (.bl true) H'
theorem top_of {P : Program} {w : World} {K : PySem.W.Frag} {mg : Str → Option Value} {base : Heap} (T : Txt K mg) : FnOk P w K mg base CX0 10 T.a_law T.d_law ["script"] (spTop K) :=
  (ok_law T).imp fun vs H Q E ⟨a, ns, e, hs, hl, k⟩ => by
    subst e
    refine ⟨H, [], a, ns.map V.int, ns, true, rfl, hs, lr_ints ns, sta0 H, law_true ns hl, ?_⟩
    first
      | exact k _
      | (intro F1 H1 _ _; exact k _)
theorem all_mk {l : PySem.W.OpenLaw} {w : World} {K : PySem.W.Frag} {h : Heap} {mg : Str → Option Value} {fa a_law a_law_seed a_law_take a_law_letter a_law_letters a_law_split a_law_handed a_law_forced a_law_follows a_Pusher_include a_Pusher_init a_Pusher_push a_Pusher_forced a_checked_lines a_law_same a_first_bad a_refutes a_law_asked a_law_literal a_law_line a_law_more a_law_bent a_law_logs a_Pusher : Addr} (X : K.In h) (G : h.Ns mainGlobals mg) (hfa : mg "law" = some (.ref fa))
    {od_law_seed an_law_seed od_law_take an_law_take od_law_letter an_law_letter od_law_letters an_law_letters od_law_split an_law_split od_law_handed an_law_handed od_law_forced an_law_forced od_law_follows an_law_follows od_Pusher_include an_Pusher_include od_Pusher_init an_Pusher_init od_Pusher_push an_Pusher_push od_Pusher_forced an_Pusher_forced od_checked_lines an_checked_lines od_law_same an_law_same od_first_bad an_first_bad od_refutes an_refutes od_law_asked an_law_asked od_law_literal an_law_literal od_law_line an_law_line od_law_more an_law_more od_law_bent an_law_bent od_law_logs an_law_logs od_law an_law : Option Addr} {sl_law_seed sl_law_take sl_law_letter sl_law_letters sl_law_split sl_law_handed sl_law_forced sl_law_follows sl_Pusher_include sl_Pusher_init sl_Pusher_push sl_Pusher_forced sl_checked_lines sl_law_same sl_first_bad sl_refutes sl_law_asked sl_law_literal sl_law_line sl_law_more sl_law_bent sl_law_logs sl_law : Array (Option Value)} {oc_law_seed kV_law_seed dc_law_seed pm_law_seed cd_law_seed ct_law_seed oc_law_take kV_law_take dc_law_take pm_law_take cd_law_take ct_law_take oc_law_letter kV_law_letter dc_law_letter pm_law_letter cd_law_letter ct_law_letter oc_law_letters kV_law_letters dc_law_letters pm_law_letters cd_law_letters ct_law_letters oc_law_split kV_law_split dc_law_split pm_law_split cd_law_split ct_law_split oc_law_handed kV_law_handed dc_law_handed pm_law_handed cd_law_handed ct_law_handed oc_law_forced kV_law_forced dc_law_forced pm_law_forced cd_law_forced ct_law_forced oc_law_follows kV_law_follows dc_law_follows pm_law_follows cd_law_follows ct_law_follows oc_Pusher_include kV_Pusher_include dc_Pusher_include pm_Pusher_include cd_Pusher_include ct_Pusher_include oc_Pusher_init kV_Pusher_init dc_Pusher_init pm_Pusher_init cd_Pusher_init ct_Pusher_init oc_Pusher_push kV_Pusher_push dc_Pusher_push pm_Pusher_push cd_Pusher_push ct_Pusher_push oc_Pusher_forced kV_Pusher_forced dc_Pusher_forced pm_Pusher_forced cd_Pusher_forced ct_Pusher_forced oc_checked_lines kV_checked_lines dc_checked_lines pm_checked_lines cd_checked_lines ct_checked_lines oc_law_same kV_law_same dc_law_same pm_law_same cd_law_same ct_law_same oc_first_bad kV_first_bad dc_first_bad pm_first_bad cd_first_bad ct_first_bad oc_refutes kV_refutes dc_refutes pm_refutes cd_refutes ct_refutes oc_law_asked kV_law_asked dc_law_asked pm_law_asked cd_law_asked ct_law_asked oc_law_literal kV_law_literal dc_law_literal pm_law_literal cd_law_literal ct_law_literal oc_law_line kV_law_line dc_law_line pm_law_line cd_law_line ct_law_line oc_law_more kV_law_more dc_law_more pm_law_more cd_law_more ct_law_more oc_law_bent kV_law_bent dc_law_bent pm_law_bent cd_law_bent ct_law_bent oc_law_logs kV_law_logs dc_law_logs pm_law_logs cd_law_logs ct_law_logs oc_law kV_law dc_law pm_law cd_law ct_law : Value}
    (qc_Pusher : PySem.W.nsIn K mainGlobals "Pusher" = some (some (.ref a_Pusher)))
    (q_law_seed : PySem.W.nsIn K mainGlobals "_law_seed" = some (some (.ref a_law_seed)))
    (l_law_seed : K.lookup a_law_seed = some ⟨oc_law_seed, od_law_seed, .func (PySem.W.fnOf "_law_seed" "_law_seed" (defArgs s_law_seed) (defBody s_law_seed) (defScope s_law_seed) .none kV_law_seed dc_law_seed pm_law_seed an_law_seed cd_law_seed ct_law_seed), sl_law_seed⟩)
    (c_law_seed : PySem.W.codeIn K cd_law_seed "_law_seed" = true)
    (k_law_seed : PySem.W.keepIn K (.ref a_law_seed) = true)
    (q_law_take : PySem.W.nsIn K mainGlobals "_law_take" = some (some (.ref a_law_take)))
    (l_law_take : K.lookup a_law_take = some ⟨oc_law_take, od_law_take, .func (PySem.W.fnOf "_law_take" "_law_take" (defArgs s_law_take) (defBody s_law_take) (defScope s_law_take) .none kV_law_take dc_law_take pm_law_take an_law_take cd_law_take ct_law_take), sl_law_take⟩)
    (c_law_take : PySem.W.codeIn K cd_law_take "_law_take" = true)
    (k_law_take : PySem.W.keepIn K (.ref a_law_take) = true)
    (q_law_letter : PySem.W.nsIn K mainGlobals "_law_letter" = some (some (.ref a_law_letter)))
    (l_law_letter : K.lookup a_law_letter = some ⟨oc_law_letter, od_law_letter, .func (PySem.W.fnOf "_law_letter" "_law_letter" (defArgs s_law_letter) (defBody s_law_letter) (defScope s_law_letter) .none kV_law_letter dc_law_letter pm_law_letter an_law_letter cd_law_letter ct_law_letter), sl_law_letter⟩)
    (c_law_letter : PySem.W.codeIn K cd_law_letter "_law_letter" = true)
    (k_law_letter : PySem.W.keepIn K (.ref a_law_letter) = true)
    (q_law_letters : PySem.W.nsIn K mainGlobals "_law_letters" = some (some (.ref a_law_letters)))
    (l_law_letters : K.lookup a_law_letters = some ⟨oc_law_letters, od_law_letters, .func (PySem.W.fnOf "_law_letters" "_law_letters" (defArgs s_law_letters) (defBody s_law_letters) (defScope s_law_letters) .none kV_law_letters dc_law_letters pm_law_letters an_law_letters cd_law_letters ct_law_letters), sl_law_letters⟩)
    (c_law_letters : PySem.W.codeIn K cd_law_letters "_law_letters" = true)
    (k_law_letters : PySem.W.keepIn K (.ref a_law_letters) = true)
    (q_law_split : PySem.W.nsIn K mainGlobals "_law_split" = some (some (.ref a_law_split)))
    (l_law_split : K.lookup a_law_split = some ⟨oc_law_split, od_law_split, .func (PySem.W.fnOf "_law_split" "_law_split" (defArgs s_law_split) (defBody s_law_split) (defScope s_law_split) .none kV_law_split dc_law_split pm_law_split an_law_split cd_law_split ct_law_split), sl_law_split⟩)
    (c_law_split : PySem.W.codeIn K cd_law_split "_law_split" = true)
    (k_law_split : PySem.W.keepIn K (.ref a_law_split) = true)
    (q_law_handed : PySem.W.nsIn K mainGlobals "_law_handed" = some (some (.ref a_law_handed)))
    (l_law_handed : K.lookup a_law_handed = some ⟨oc_law_handed, od_law_handed, .func (PySem.W.fnOf "_law_handed" "_law_handed" (defArgs s_law_handed) (defBody s_law_handed) (defScope s_law_handed) .none kV_law_handed dc_law_handed pm_law_handed an_law_handed cd_law_handed ct_law_handed), sl_law_handed⟩)
    (c_law_handed : PySem.W.codeIn K cd_law_handed "_law_handed" = true)
    (k_law_handed : PySem.W.keepIn K (.ref a_law_handed) = true)
    (q_law_forced : PySem.W.nsIn K mainGlobals "_law_forced" = some (some (.ref a_law_forced)))
    (l_law_forced : K.lookup a_law_forced = some ⟨oc_law_forced, od_law_forced, .func (PySem.W.fnOf "_law_forced" "_law_forced" (defArgs s_law_forced) (defBody s_law_forced) (defScope s_law_forced) .none kV_law_forced dc_law_forced pm_law_forced an_law_forced cd_law_forced ct_law_forced), sl_law_forced⟩)
    (c_law_forced : PySem.W.codeIn K cd_law_forced "_law_forced" = true)
    (k_law_forced : PySem.W.keepIn K (.ref a_law_forced) = true)
    (q_law_follows : PySem.W.nsIn K mainGlobals "_law_follows" = some (some (.ref a_law_follows)))
    (l_law_follows : K.lookup a_law_follows = some ⟨oc_law_follows, od_law_follows, .func (PySem.W.fnOf "_law_follows" "_law_follows" (defArgs s_law_follows) (defBody s_law_follows) (defScope s_law_follows) .none kV_law_follows dc_law_follows pm_law_follows an_law_follows cd_law_follows ct_law_follows), sl_law_follows⟩)
    (c_law_follows : PySem.W.codeIn K cd_law_follows "_law_follows" = true)
    (k_law_follows : PySem.W.keepIn K (.ref a_law_follows) = true)
    (q_Pusher_include : PySem.W.findIn K (.ref a_Pusher) "include" = some (some (.ref a_Pusher_include)))
    (i_Pusher_include : PySem.W.isFn K (.ref a_Pusher_include) = true)
    (l_Pusher_include : K.lookup a_Pusher_include = some ⟨oc_Pusher_include, od_Pusher_include, .func (PySem.W.fnOf "include" "Pusher.include" (defArgs s_Pusher_include) (defBody s_Pusher_include) (defScope s_Pusher_include) .none kV_Pusher_include dc_Pusher_include pm_Pusher_include an_Pusher_include cd_Pusher_include ct_Pusher_include), sl_Pusher_include⟩)
    (c_Pusher_include : PySem.W.codeIn K cd_Pusher_include "Pusher.include" = true)
    (k_Pusher_include : PySem.W.keepIn K (.ref a_Pusher_include) = true)
    (q_Pusher_init : PySem.W.findIn K (.ref a_Pusher) "__init__" = some (some (.ref a_Pusher_init)))
    (i_Pusher_init : PySem.W.isFn K (.ref a_Pusher_init) = true)
    (l_Pusher_init : K.lookup a_Pusher_init = some ⟨oc_Pusher_init, od_Pusher_init, .func (PySem.W.fnOf "__init__" "Pusher.__init__" (defArgs s_Pusher_init) (defBody s_Pusher_init) (defScope s_Pusher_init) .none kV_Pusher_init dc_Pusher_init pm_Pusher_init an_Pusher_init cd_Pusher_init ct_Pusher_init), sl_Pusher_init⟩)
    (c_Pusher_init : PySem.W.codeIn K cd_Pusher_init "Pusher.__init__" = true)
    (k_Pusher_init : PySem.W.keepIn K (.ref a_Pusher_init) = true)
    (q_Pusher_push : PySem.W.findIn K (.ref a_Pusher) "_push" = some (some (.ref a_Pusher_push)))
    (i_Pusher_push : PySem.W.isFn K (.ref a_Pusher_push) = true)
    (l_Pusher_push : K.lookup a_Pusher_push = some ⟨oc_Pusher_push, od_Pusher_push, .func (PySem.W.fnOf "_push" "Pusher._push" (defArgs s_Pusher_push) (defBody s_Pusher_push) (defScope s_Pusher_push) .none kV_Pusher_push dc_Pusher_push pm_Pusher_push an_Pusher_push cd_Pusher_push ct_Pusher_push), sl_Pusher_push⟩)
    (c_Pusher_push : PySem.W.codeIn K cd_Pusher_push "Pusher._push" = true)
    (k_Pusher_push : PySem.W.keepIn K (.ref a_Pusher_push) = true)
    (q_Pusher_forced : PySem.W.findIn K (.ref a_Pusher) "forced" = some (some (.ref a_Pusher_forced)))
    (i_Pusher_forced : PySem.W.isFn K (.ref a_Pusher_forced) = true)
    (l_Pusher_forced : K.lookup a_Pusher_forced = some ⟨oc_Pusher_forced, od_Pusher_forced, .func (PySem.W.fnOf "forced" "Pusher.forced" (defArgs s_Pusher_forced) (defBody s_Pusher_forced) (defScope s_Pusher_forced) .none kV_Pusher_forced dc_Pusher_forced pm_Pusher_forced an_Pusher_forced cd_Pusher_forced ct_Pusher_forced), sl_Pusher_forced⟩)
    (c_Pusher_forced : PySem.W.codeIn K cd_Pusher_forced "Pusher.forced" = true)
    (k_Pusher_forced : PySem.W.keepIn K (.ref a_Pusher_forced) = true)
    (q_checked_lines : PySem.W.nsIn K mainGlobals "checked_lines" = some (some (.ref a_checked_lines)))
    (l_checked_lines : K.lookup a_checked_lines = some ⟨oc_checked_lines, od_checked_lines, .func (PySem.W.fnOf "checked_lines" "checked_lines" (defArgs s_checked_lines) (defBody s_checked_lines) (defScope s_checked_lines) .none kV_checked_lines dc_checked_lines pm_checked_lines an_checked_lines cd_checked_lines ct_checked_lines), sl_checked_lines⟩)
    (c_checked_lines : PySem.W.codeIn K cd_checked_lines "checked_lines" = true)
    (k_checked_lines : PySem.W.keepIn K (.ref a_checked_lines) = true)
    (q_law_same : PySem.W.nsIn K mainGlobals "_law_same" = some (some (.ref a_law_same)))
    (l_law_same : K.lookup a_law_same = some ⟨oc_law_same, od_law_same, .func (PySem.W.fnOf "_law_same" "_law_same" (defArgs s_law_same) (defBody s_law_same) (defScope s_law_same) .none kV_law_same dc_law_same pm_law_same an_law_same cd_law_same ct_law_same), sl_law_same⟩)
    (c_law_same : PySem.W.codeIn K cd_law_same "_law_same" = true)
    (k_law_same : PySem.W.keepIn K (.ref a_law_same) = true)
    (q_first_bad : PySem.W.nsIn K mainGlobals "first_bad" = some (some (.ref a_first_bad)))
    (l_first_bad : K.lookup a_first_bad = some ⟨oc_first_bad, od_first_bad, .func (PySem.W.fnOf "first_bad" "first_bad" (defArgs s_first_bad) (defBody s_first_bad) (defScope s_first_bad) .none kV_first_bad dc_first_bad pm_first_bad an_first_bad cd_first_bad ct_first_bad), sl_first_bad⟩)
    (c_first_bad : PySem.W.codeIn K cd_first_bad "first_bad" = true)
    (k_first_bad : PySem.W.keepIn K (.ref a_first_bad) = true)
    (q_refutes : PySem.W.nsIn K mainGlobals "refutes" = some (some (.ref a_refutes)))
    (l_refutes : K.lookup a_refutes = some ⟨oc_refutes, od_refutes, .func (PySem.W.fnOf "refutes" "refutes" (defArgs s_refutes) (defBody s_refutes) (defScope s_refutes) .none kV_refutes dc_refutes pm_refutes an_refutes cd_refutes ct_refutes), sl_refutes⟩)
    (c_refutes : PySem.W.codeIn K cd_refutes "refutes" = true)
    (k_refutes : PySem.W.keepIn K (.ref a_refutes) = true)
    (q_law_asked : PySem.W.nsIn K mainGlobals "_law_asked" = some (some (.ref a_law_asked)))
    (l_law_asked : K.lookup a_law_asked = some ⟨oc_law_asked, od_law_asked, .func (PySem.W.fnOf "_law_asked" "_law_asked" (defArgs s_law_asked) (defBody s_law_asked) (defScope s_law_asked) .none kV_law_asked dc_law_asked pm_law_asked an_law_asked cd_law_asked ct_law_asked), sl_law_asked⟩)
    (c_law_asked : PySem.W.codeIn K cd_law_asked "_law_asked" = true)
    (k_law_asked : PySem.W.keepIn K (.ref a_law_asked) = true)
    (q_law_literal : PySem.W.nsIn K mainGlobals "_law_literal" = some (some (.ref a_law_literal)))
    (l_law_literal : K.lookup a_law_literal = some ⟨oc_law_literal, od_law_literal, .func (PySem.W.fnOf "_law_literal" "_law_literal" (defArgs s_law_literal) (defBody s_law_literal) (defScope s_law_literal) .none kV_law_literal dc_law_literal pm_law_literal an_law_literal cd_law_literal ct_law_literal), sl_law_literal⟩)
    (c_law_literal : PySem.W.codeIn K cd_law_literal "_law_literal" = true)
    (k_law_literal : PySem.W.keepIn K (.ref a_law_literal) = true)
    (q_law_line : PySem.W.nsIn K mainGlobals "_law_line" = some (some (.ref a_law_line)))
    (l_law_line : K.lookup a_law_line = some ⟨oc_law_line, od_law_line, .func (PySem.W.fnOf "_law_line" "_law_line" (defArgs s_law_line) (defBody s_law_line) (defScope s_law_line) .none kV_law_line dc_law_line pm_law_line an_law_line cd_law_line ct_law_line), sl_law_line⟩)
    (c_law_line : PySem.W.codeIn K cd_law_line "_law_line" = true)
    (k_law_line : PySem.W.keepIn K (.ref a_law_line) = true)
    (q_law_more : PySem.W.nsIn K mainGlobals "_law_more" = some (some (.ref a_law_more)))
    (l_law_more : K.lookup a_law_more = some ⟨oc_law_more, od_law_more, .func (PySem.W.fnOf "_law_more" "_law_more" (defArgs s_law_more) (defBody s_law_more) (defScope s_law_more) .none kV_law_more dc_law_more pm_law_more an_law_more cd_law_more ct_law_more), sl_law_more⟩)
    (c_law_more : PySem.W.codeIn K cd_law_more "_law_more" = true)
    (k_law_more : PySem.W.keepIn K (.ref a_law_more) = true)
    (q_law_bent : PySem.W.nsIn K mainGlobals "_law_bent" = some (some (.ref a_law_bent)))
    (l_law_bent : K.lookup a_law_bent = some ⟨oc_law_bent, od_law_bent, .func (PySem.W.fnOf "_law_bent" "_law_bent" (defArgs s_law_bent) (defBody s_law_bent) (defScope s_law_bent) .none kV_law_bent dc_law_bent pm_law_bent an_law_bent cd_law_bent ct_law_bent), sl_law_bent⟩)
    (c_law_bent : PySem.W.codeIn K cd_law_bent "_law_bent" = true)
    (k_law_bent : PySem.W.keepIn K (.ref a_law_bent) = true)
    (q_law_logs : PySem.W.nsIn K mainGlobals "_law_logs" = some (some (.ref a_law_logs)))
    (l_law_logs : K.lookup a_law_logs = some ⟨oc_law_logs, od_law_logs, .func (PySem.W.fnOf "_law_logs" "_law_logs" (defArgs s_law_logs) (defBody s_law_logs) (defScope s_law_logs) .none kV_law_logs dc_law_logs pm_law_logs an_law_logs cd_law_logs ct_law_logs), sl_law_logs⟩)
    (c_law_logs : PySem.W.codeIn K cd_law_logs "_law_logs" = true)
    (k_law_logs : PySem.W.keepIn K (.ref a_law_logs) = true)
    (q_law : PySem.W.nsIn K mainGlobals "law" = some (some (.ref a_law)))
    (l_law : K.lookup a_law = some ⟨oc_law, od_law, .func (PySem.W.fnOf "law" "law" (defArgs s_law) (defBody s_law) (defScope s_law) .none kV_law dc_law pm_law an_law cd_law ct_law), sl_law⟩)
    (c_law : PySem.W.codeIn K cd_law "law" = true)
    (k_law : PySem.W.keepIn K (.ref a_law) = true)
    (pg_Pusher : PySem.W.plainGet K a_Pusher Str.empty = true)
    (hd_Pusher : PySem.W.hasDictIn K a_Pusher = true)
    (po_Pusher : PySem.W.plainOver K a_Pusher = true)
    (sa_Pusher : PySem.W.findIn K (.ref a_Pusher) "__setattr__" = some (some (.builtin "object.__setattr__")))
    (mk_Pusher : PySem.W.makesIn K a_Pusher = true)
    (kc_Pusher : PySem.W.keepIn K (.ref a_Pusher) = true)
    (nf_Pusher_clauses : PySem.W.findIn K (.ref a_Pusher) "_clauses" = some none)
    (nf_Pusher_places : PySem.W.findIn K (.ref a_Pusher) "_places" = some none)
    (nf_Pusher_starts : PySem.W.findIn K (.ref a_Pusher) "_starts" = some none)
    (nf_Pusher_empty : PySem.W.findIn K (.ref a_Pusher) "_empty" = some none)
    (zz_abs : PySem.W.nsIn K mainGlobals "abs" = some none)
    (zz_bool : PySem.W.nsIn K mainGlobals "bool" = some none)
    (zz_dict : PySem.W.nsIn K mainGlobals "dict" = some none)
    (zz_enumerate : PySem.W.nsIn K mainGlobals "enumerate" = some none)
    (zz_int : PySem.W.nsIn K mainGlobals "int" = some none)
    (zz_isinstance : PySem.W.nsIn K mainGlobals "isinstance" = some none)
    (zz_len : PySem.W.nsIn K mainGlobals "len" = some none)
    (zz_list : PySem.W.nsIn K mainGlobals "list" = some none)
    (zz_range : PySem.W.nsIn K mainGlobals "range" = some none)
    (zz_set : PySem.W.nsIn K mainGlobals "set" = some none)
    (zz_sorted : PySem.W.nsIn K mainGlobals "sorted" = some none)
    (zz_str : PySem.W.nsIn K mainGlobals "str" = some none)
    (zz_tuple : PySem.W.nsIn K mainGlobals "tuple" = some none) :
    ∃ fd : FuncData, (∀ (s : Shared) (v : Value), BindsTo s fd ⟨[v], []⟩ [("script", v)]) ∧ ∀ base : Heap, K.In base → base.Ns mainGlobals mg → FnOk l.prog w K mg base CX0 10 fa fd ["script"] (spTop K) := by
  have e := hfa.symm.trans (PySem.W.mg_of X G q_law)
  cases e
  let T : Txt K mg := {
    z_abs := PySem.W.mg_none_of X G zz_abs,
    z_bool := PySem.W.mg_none_of X G zz_bool,
    z_dict := PySem.W.mg_none_of X G zz_dict,
    z_enumerate := PySem.W.mg_none_of X G zz_enumerate,
    z_int := PySem.W.mg_none_of X G zz_int,
    z_isinstance := PySem.W.mg_none_of X G zz_isinstance,
    z_len := PySem.W.mg_none_of X G zz_len,
    z_list := PySem.W.mg_none_of X G zz_list,
    z_range := PySem.W.mg_none_of X G zz_range,
    z_set := PySem.W.mg_none_of X G zz_set,
    z_sorted := PySem.W.mg_none_of X G zz_sorted,
    z_str := PySem.W.mg_none_of X G zz_str,
    z_tuple := PySem.W.mg_none_of X G zz_tuple,
    a_law_seed := a_law_seed,
    d_law_seed := _,
    F_law_seed := fun_mk (st := s_law_seed) l_law_seed c_law_seed k_law_seed,
    b_law_seed := (fun_mk (st := s_law_seed) l_law_seed c_law_seed k_law_seed).binds (ps := ["script"]) (fun _ _ _ _ _ _ us hl => match us, hl with | [_], _ => rfl),
    g_law_seed := PySem.W.mg_of X G q_law_seed,
    a_law_take := a_law_take,
    d_law_take := _,
    F_law_take := fun_mk (st := s_law_take) l_law_take c_law_take k_law_take,
    b_law_take := (fun_mk (st := s_law_take) l_law_take c_law_take k_law_take).binds (ps := ["script", "source", "size"]) (fun _ _ _ _ _ _ us hl => match us, hl with | [_, _, _], _ => rfl),
    g_law_take := PySem.W.mg_of X G q_law_take,
    a_law_letter := a_law_letter,
    d_law_letter := _,
    F_law_letter := fun_mk (st := s_law_letter) l_law_letter c_law_letter k_law_letter,
    b_law_letter := (fun_mk (st := s_law_letter) l_law_letter c_law_letter k_law_letter).binds (ps := ["script", "source"]) (fun _ _ _ _ _ _ us hl => match us, hl with | [_, _], _ => rfl),
    g_law_letter := PySem.W.mg_of X G q_law_letter,
    a_law_letters := a_law_letters,
    d_law_letters := _,
    F_law_letters := fun_mk (st := s_law_letters) l_law_letters c_law_letters k_law_letters,
    b_law_letters := (fun_mk (st := s_law_letters) l_law_letters c_law_letters k_law_letters).binds (ps := ["script", "source", "count"]) (fun _ _ _ _ _ _ us hl => match us, hl with | [_, _, _], _ => rfl),
    g_law_letters := PySem.W.mg_of X G q_law_letters,
    a_law_split := a_law_split,
    d_law_split := _,
    F_law_split := fun_mk (st := s_law_split) l_law_split c_law_split k_law_split,
    b_law_split := (fun_mk (st := s_law_split) l_law_split c_law_split k_law_split).binds (ps := ["script", "source", "letters", "count"]) (fun _ _ _ _ _ _ us hl => match us, hl with | [_, _, _, _], _ => rfl),
    g_law_split := PySem.W.mg_of X G q_law_split,
    a_law_handed := a_law_handed,
    d_law_handed := _,
    F_law_handed := fun_mk (st := s_law_handed) l_law_handed c_law_handed k_law_handed,
    b_law_handed := (fun_mk (st := s_law_handed) l_law_handed c_law_handed k_law_handed).binds (ps := ["rows"]) (fun _ _ _ _ _ _ us hl => match us, hl with | [_], _ => rfl),
    g_law_handed := PySem.W.mg_of X G q_law_handed,
    a_law_forced := a_law_forced,
    d_law_forced := _,
    F_law_forced := fun_mk (st := s_law_forced) l_law_forced c_law_forced k_law_forced,
    b_law_forced := (fun_mk (st := s_law_forced) l_law_forced c_law_forced k_law_forced).binds (ps := ["clauses", "given"]) (fun _ _ _ _ _ _ us hl => match us, hl with | [_, _], _ => rfl),
    g_law_forced := PySem.W.mg_of X G q_law_forced,
    a_law_follows := a_law_follows,
    d_law_follows := _,
    F_law_follows := fun_mk (st := s_law_follows) l_law_follows c_law_follows k_law_follows,
    b_law_follows := (fun_mk (st := s_law_follows) l_law_follows c_law_follows k_law_follows).binds (ps := ["clauses", "log"]) (fun _ _ _ _ _ _ us hl => match us, hl with | [_, _], _ => rfl),
    g_law_follows := PySem.W.mg_of X G q_law_follows,
    a_Pusher_include := a_Pusher_include,
    d_Pusher_include := _,
    F_Pusher_include := fun_mk (st := s_Pusher_include) l_Pusher_include c_Pusher_include k_Pusher_include,
    b_Pusher_include := (fun_mk (st := s_Pusher_include) l_Pusher_include c_Pusher_include k_Pusher_include).binds (ps := ["self", "clause"]) (fun _ _ _ _ _ _ us hl => match us, hl with | [_, _], _ => rfl),
    a_Pusher_init := a_Pusher_init,
    d_Pusher_init := _,
    F_Pusher_init := fun_mk (st := s_Pusher_init) l_Pusher_init c_Pusher_init k_Pusher_init,
    b_Pusher_init := (fun_mk (st := s_Pusher_init) l_Pusher_init c_Pusher_init k_Pusher_init).binds (ps := ["self", "clauses"]) (fun _ _ _ _ _ _ us hl => match us, hl with | [_, _], _ => rfl),
    a_Pusher_push := a_Pusher_push,
    d_Pusher_push := _,
    F_Pusher_push := fun_mk (st := s_Pusher_push) l_Pusher_push c_Pusher_push k_Pusher_push,
    b_Pusher_push := (fun_mk (st := s_Pusher_push) l_Pusher_push c_Pusher_push k_Pusher_push).binds (ps := ["self", "literal", "known", "open_counts"]) (fun _ _ _ _ _ _ us hl => match us, hl with | [_, _, _, _], _ => rfl),
    a_Pusher_forced := a_Pusher_forced,
    d_Pusher_forced := _,
    F_Pusher_forced := fun_mk (st := s_Pusher_forced) l_Pusher_forced c_Pusher_forced k_Pusher_forced,
    b_Pusher_forced := (fun_mk (st := s_Pusher_forced) l_Pusher_forced c_Pusher_forced k_Pusher_forced).binds (ps := ["self", "literals"]) (fun _ _ _ _ _ _ us hl => match us, hl with | [_, _], _ => rfl),
    a_checked_lines := a_checked_lines,
    d_checked_lines := _,
    F_checked_lines := fun_mk (st := s_checked_lines) l_checked_lines c_checked_lines k_checked_lines,
    b_checked_lines := (fun_mk (st := s_checked_lines) l_checked_lines c_checked_lines k_checked_lines).binds (ps := ["clauses", "log"]) (fun _ _ _ _ _ _ us hl => match us, hl with | [_, _], _ => rfl),
    g_checked_lines := PySem.W.mg_of X G q_checked_lines,
    a_law_same := a_law_same,
    d_law_same := _,
    F_law_same := fun_mk (st := s_law_same) l_law_same c_law_same k_law_same,
    b_law_same := (fun_mk (st := s_law_same) l_law_same c_law_same k_law_same).binds (ps := ["actual", "due"]) (fun _ _ _ _ _ _ us hl => match us, hl with | [_, _], _ => rfl),
    g_law_same := PySem.W.mg_of X G q_law_same,
    a_first_bad := a_first_bad,
    d_first_bad := _,
    F_first_bad := fun_mk (st := s_first_bad) l_first_bad c_first_bad k_first_bad,
    b_first_bad := (fun_mk (st := s_first_bad) l_first_bad c_first_bad k_first_bad).binds (ps := ["clauses", "log"]) (fun _ _ _ _ _ _ us hl => match us, hl with | [_, _], _ => rfl),
    g_first_bad := PySem.W.mg_of X G q_first_bad,
    a_refutes := a_refutes,
    d_refutes := _,
    F_refutes := fun_mk (st := s_refutes) l_refutes c_refutes k_refutes,
    b_refutes := (fun_mk (st := s_refutes) l_refutes c_refutes k_refutes).binds (ps := ["clauses", "log"]) (fun _ _ _ _ _ _ us hl => match us, hl with | [_, _], _ => rfl),
    g_refutes := PySem.W.mg_of X G q_refutes,
    a_law_asked := a_law_asked,
    d_law_asked := _,
    F_law_asked := fun_mk (st := s_law_asked) l_law_asked c_law_asked k_law_asked,
    b_law_asked := (fun_mk (st := s_law_asked) l_law_asked c_law_asked k_law_asked).binds (ps := ["clauses", "log"]) (fun _ _ _ _ _ _ us hl => match us, hl with | [_, _], _ => rfl),
    g_law_asked := PySem.W.mg_of X G q_law_asked,
    a_law_literal := a_law_literal,
    d_law_literal := _,
    F_law_literal := fun_mk (st := s_law_literal) l_law_literal c_law_literal k_law_literal,
    b_law_literal := (fun_mk (st := s_law_literal) l_law_literal c_law_literal k_law_literal).binds (ps := ["script", "source", "letters"]) (fun _ _ _ _ _ _ us hl => match us, hl with | [_, _, _], _ => rfl),
    g_law_literal := PySem.W.mg_of X G q_law_literal,
    a_law_line := a_law_line,
    d_law_line := _,
    F_law_line := fun_mk (st := s_law_line) l_law_line c_law_line k_law_line,
    b_law_line := (fun_mk (st := s_law_line) l_law_line c_law_line k_law_line).binds (ps := ["script", "source", "letters"]) (fun _ _ _ _ _ _ us hl => match us, hl with | [_, _, _], _ => rfl),
    g_law_line := PySem.W.mg_of X G q_law_line,
    a_law_more := a_law_more,
    d_law_more := _,
    F_law_more := fun_mk (st := s_law_more) l_law_more c_law_more k_law_more,
    b_law_more := (fun_mk (st := s_law_more) l_law_more c_law_more k_law_more).binds (ps := ["script", "source", "letters", "clauses"]) (fun _ _ _ _ _ _ us hl => match us, hl with | [_, _, _, _], _ => rfl),
    g_law_more := PySem.W.mg_of X G q_law_more,
    a_law_bent := a_law_bent,
    d_law_bent := _,
    F_law_bent := fun_mk (st := s_law_bent) l_law_bent c_law_bent k_law_bent,
    b_law_bent := (fun_mk (st := s_law_bent) l_law_bent c_law_bent k_law_bent).binds (ps := ["script", "source", "letters", "line"]) (fun _ _ _ _ _ _ us hl => match us, hl with | [_, _, _, _], _ => rfl),
    g_law_bent := PySem.W.mg_of X G q_law_bent,
    a_law_logs := a_law_logs,
    d_law_logs := _,
    F_law_logs := fun_mk (st := s_law_logs) l_law_logs c_law_logs k_law_logs,
    b_law_logs := (fun_mk (st := s_law_logs) l_law_logs c_law_logs k_law_logs).binds (ps := ["script", "source", "letters", "log"]) (fun _ _ _ _ _ _ us hl => match us, hl with | [_, _, _, _], _ => rfl),
    g_law_logs := PySem.W.mg_of X G q_law_logs,
    a_law := fa,
    d_law := _,
    F_law := fun_mk (st := s_law) l_law c_law k_law,
    b_law := (fun_mk (st := s_law) l_law c_law k_law).binds (ps := ["script"]) (fun _ _ _ _ _ _ us hl => match us, hl with | [_], _ => rfl),
    g_law := PySem.W.mg_of X G q_law,
    a_Pusher := a_Pusher,
    cl_Pusher := ⟨pg_Pusher, hd_Pusher, po_Pusher, sa_Pusher⟩,
    g_Pusher := PySem.W.mg_of X G qc_Pusher,
    n_Pusher_clauses := nf_Pusher_clauses,
    n_Pusher_places := nf_Pusher_places,
    n_Pusher_starts := nf_Pusher_starts,
    n_Pusher_empty := nf_Pusher_empty,
    h_Pusher_include := ⟨q_Pusher_include, i_Pusher_include, k_Pusher_include⟩,
    mk_Pusher := ⟨mk_Pusher, q_Pusher_init, i_Pusher_init, kc_Pusher⟩,
    h_Pusher_push := ⟨q_Pusher_push, i_Pusher_push, k_Pusher_push⟩,
    h_Pusher_forced := ⟨q_Pusher_forced, i_Pusher_forced, k_Pusher_forced⟩ }
  exact ⟨T.d_law, fun s v => .of_eq rfl, fun base _ _ => top_of T⟩
theorem walk {l : PySem.W.OpenLaw} {q : Program} {loose : List Str} {XP : (Str → Option Value) → Heap → Prop} {YP : World → Heap → Prop} {d : DefRec} {K : Params → PySem.W.Frag} (hn : l.most = some 63) (hdf : d.params.defaults = [])
    (hY : ∀ (w : World) (h : Heap), YP w h → (K w.params).In h)
    (F : ∀ (w : World) (mg : Str → Option Value) (fa : Addr) (h : Heap), (K w.params).In h → h.Ns mainGlobals mg → mg d.name = some (.ref fa) →
      ∃ fd : FuncData, (∀ (s : Shared) (u : Value), BindsTo s fd ⟨[u], []⟩ [("script", u)]) ∧ ∀ base : Heap, (K w.params).In base → base.Ns mainGlobals mg → FnOk l.prog w (K w.params) mg base CX0 10 fa fd ["script"] (spTop (K w.params))) :
    PySem.W.WalkO q loose XP YP l.row.toRowW d [] (fun f vs => PySem.call f vs) :=
  L2.walk_of (n := 63) (k := 10) (x := "script") (CX := fun _ => CX0) (sp := fun w => spTop (K w.params)) hn (by decide) hdf ⟨rfl, by decide, by decide⟩ hY F (fun _ _ a ns hl _ hS => ⟨a, ns, rfl, hS, hl, fun _ => rfl⟩) fun _ _ _ _ _ z => z
end G
open PySem PySem.W PyProof.Rows
set_option maxRecDepth 100000 in
set_option maxHeartbeats 0 in
theorem PySem.Challenge.cw_someandall_k36_log_lines_exactly_holds : PySem.Challenge.rw_someandall_k36_log_lines_exactly.Holds := by
  w_on; o_law; k_head; (case hw => w_witness2)
  k_fill
  refine G.walk (l := PySem.Challenge.rw_someandall_k36_log_lines_exactly) rfl rfl (fun w h Y => PySem.W.kIn_of Y) ?F
  case F =>
    intro w mg fa h KX G0 hmg
    refine' G.all_mk KX G0 hmg ?qc_Pusher ?q_law_seed ?l_law_seed ?c_law_seed ?k_law_seed ?q_law_take ?l_law_take ?c_law_take ?k_law_take ?q_law_letter ?l_law_letter ?c_law_letter ?k_law_letter ?q_law_letters ?l_law_letters ?c_law_letters ?k_law_letters ?q_law_split ?l_law_split ?c_law_split ?k_law_split ?q_law_handed ?l_law_handed ?c_law_handed ?k_law_handed ?q_law_forced ?l_law_forced ?c_law_forced ?k_law_forced ?q_law_follows ?l_law_follows ?c_law_follows ?k_law_follows ?q_Pusher_include ?i_Pusher_include ?l_Pusher_include ?c_Pusher_include ?k_Pusher_include ?q_Pusher_init ?i_Pusher_init ?l_Pusher_init ?c_Pusher_init ?k_Pusher_init ?q_Pusher_push ?i_Pusher_push ?l_Pusher_push ?c_Pusher_push ?k_Pusher_push ?q_Pusher_forced ?i_Pusher_forced ?l_Pusher_forced ?c_Pusher_forced ?k_Pusher_forced ?q_checked_lines ?l_checked_lines ?c_checked_lines ?k_checked_lines ?q_law_same ?l_law_same ?c_law_same ?k_law_same ?q_first_bad ?l_first_bad ?c_first_bad ?k_first_bad ?q_refutes ?l_refutes ?c_refutes ?k_refutes ?q_law_asked ?l_law_asked ?c_law_asked ?k_law_asked ?q_law_literal ?l_law_literal ?c_law_literal ?k_law_literal ?q_law_line ?l_law_line ?c_law_line ?k_law_line ?q_law_more ?l_law_more ?c_law_more ?k_law_more ?q_law_bent ?l_law_bent ?c_law_bent ?k_law_bent ?q_law_logs ?l_law_logs ?c_law_logs ?k_law_logs ?q_law ?l_law ?c_law ?k_law ?pg_Pusher ?hd_Pusher ?po_Pusher ?sa_Pusher ?mk_Pusher ?kc_Pusher ?nf_Pusher_clauses ?nf_Pusher_places ?nf_Pusher_starts ?nf_Pusher_empty ?zz_abs ?zz_bool ?zz_dict ?zz_enumerate ?zz_int ?zz_isinstance ?zz_len ?zz_list ?zz_range ?zz_set ?zz_sorted ?zz_str ?zz_tuple
    (case qc_Pusher => k_is)
    (case q_law_seed => k_is)
    (case l_law_seed => k_is)
    (case c_law_seed => k_is)
    (case k_law_seed => k_is)
    (case q_law_take => k_is)
    (case l_law_take => k_is)
    (case c_law_take => k_is)
    (case k_law_take => k_is)
    (case q_law_letter => k_is)
    (case l_law_letter => k_is)
    (case c_law_letter => k_is)
    (case k_law_letter => k_is)
    (case q_law_letters => k_is)
    (case l_law_letters => k_is)
    (case c_law_letters => k_is)
    (case k_law_letters => k_is)
    (case q_law_split => k_is)
    (case l_law_split => k_is)
    (case c_law_split => k_is)
    (case k_law_split => k_is)
    (case q_law_handed => k_is)
    (case l_law_handed => k_is)
    (case c_law_handed => k_is)
    (case k_law_handed => k_is)
    (case q_law_forced => k_is)
    (case l_law_forced => k_is)
    (case c_law_forced => k_is)
    (case k_law_forced => k_is)
    (case q_law_follows => k_is)
    (case l_law_follows => k_is)
    (case c_law_follows => k_is)
    (case k_law_follows => k_is)
    (case q_Pusher_include => k_is)
    (case i_Pusher_include => k_is)
    (case l_Pusher_include => k_is)
    (case c_Pusher_include => k_is)
    (case k_Pusher_include => k_is)
    (case q_Pusher_init => k_is)
    (case i_Pusher_init => k_is)
    (case l_Pusher_init => k_is)
    (case c_Pusher_init => k_is)
    (case k_Pusher_init => k_is)
    (case q_Pusher_push => k_is)
    (case i_Pusher_push => k_is)
    (case l_Pusher_push => k_is)
    (case c_Pusher_push => k_is)
    (case k_Pusher_push => k_is)
    (case q_Pusher_forced => k_is)
    (case i_Pusher_forced => k_is)
    (case l_Pusher_forced => k_is)
    (case c_Pusher_forced => k_is)
    (case k_Pusher_forced => k_is)
    (case q_checked_lines => k_is)
    (case l_checked_lines => k_is)
    (case c_checked_lines => k_is)
    (case k_checked_lines => k_is)
    (case q_law_same => k_is)
    (case l_law_same => k_is)
    (case c_law_same => k_is)
    (case k_law_same => k_is)
    (case q_first_bad => k_is)
    (case l_first_bad => k_is)
    (case c_first_bad => k_is)
    (case k_first_bad => k_is)
    (case q_refutes => k_is)
    (case l_refutes => k_is)
    (case c_refutes => k_is)
    (case k_refutes => k_is)
    (case q_law_asked => k_is)
    (case l_law_asked => k_is)
    (case c_law_asked => k_is)
    (case k_law_asked => k_is)
    (case q_law_literal => k_is)
    (case l_law_literal => k_is)
    (case c_law_literal => k_is)
    (case k_law_literal => k_is)
    (case q_law_line => k_is)
    (case l_law_line => k_is)
    (case c_law_line => k_is)
    (case k_law_line => k_is)
    (case q_law_more => k_is)
    (case l_law_more => k_is)
    (case c_law_more => k_is)
    (case k_law_more => k_is)
    (case q_law_bent => k_is)
    (case l_law_bent => k_is)
    (case c_law_bent => k_is)
    (case k_law_bent => k_is)
    (case q_law_logs => k_is)
    (case l_law_logs => k_is)
    (case c_law_logs => k_is)
    (case k_law_logs => k_is)
    (case q_law => k_is)
    (case l_law => k_is)
    (case c_law => k_is)
    (case k_law => k_is)
    (case pg_Pusher => k_is)
    (case hd_Pusher => k_is)
    (case po_Pusher => k_is)
    (case sa_Pusher => k_is)
    (case mk_Pusher => k_is)
    (case kc_Pusher => k_is)
    (case nf_Pusher_clauses => k_is)
    (case nf_Pusher_places => k_is)
    (case nf_Pusher_starts => k_is)
    (case nf_Pusher_empty => k_is)
    (case zz_abs => k_is)
    (case zz_bool => k_is)
    (case zz_dict => k_is)
    (case zz_enumerate => k_is)
    (case zz_int => k_is)
    (case zz_isinstance => k_is)
    (case zz_len => k_is)
    (case zz_list => k_is)
    (case zz_range => k_is)
    (case zz_set => k_is)
    (case zz_sorted => k_is)
    (case zz_str => k_is)
    (case zz_tuple => k_is)
