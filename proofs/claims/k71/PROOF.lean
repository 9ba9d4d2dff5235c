import PyProof.Rows.All
import HandS.Deep
import HandS.Evl
import HandS.ForMost
import HandS.IsInst
import HandS.SetFor
import HandS.SetIn
import HandS.SortInts
import HandS.Strs
import HandS.Text
import HandS.Walk
import HandS.Wide
import OpenK.AllK
import Wide.All
import Wide.FinOn
import PySem.Challenge.RW_tintonce_k71_texts_of_webs
set_option Elab.async false
set_option linter.all false
set_option maxRecDepth 100000
set_option maxHeartbeats 4000000
/-! Tw: typed readings. A heap H, the part G of it that never changes any more, the mutable roots M. -/
namespace Tw
open PySem L2

/-! ### extension of heaps -/
def Ex (H H' : Hp) : Prop := ∀ a o, H a = some o → H' a = some o
theorem Ex.refl (H : Hp) : Ex H H := fun _ _ h => h
theorem Ex.trans {H H1 H2 : Hp} (a : Ex H H1) (b : Ex H1 H2) : Ex H H2 := fun x o h => b x o (a x o h)
theorem Ex.new {H : Hp} {p : Addr} {o : HO} (h : H p = none) : Ex H (upd H p o) := fun a u e => by
  rw [upd_ne (ne_of_none e h)]
  exact e
theorem Ex.free {H H' : Hp} {p : Addr} (e : Ex H H') (h : H' p = none) : H p = none := by
  cases h1 : H p with
  | none => rfl
  | some o =>
    rw [e p o h1] at h
    cases h
theorem ex_rd {H H' : Hp} {a : Addr} {u : HO} (e : Ex H H') (h : Rd H a u) : Rd H' a u := by
  rcases h with h | ⟨o, h⟩
  · exact Or.inl (e a _ h)
  · exact Or.inr ⟨o, e a _ h⟩
theorem ex_l {K : PySem.W.Frag} {H H' : Hp} {a : Addr} {xs : List V} (e : Ex H H') (h : SqL K H a xs) : SqL K H' a xs := by
  rcases h with h | h
  · exact Or.inl (ex_rd e h)
  · exact Or.inr h
theorem ex_t {K : PySem.W.Frag} {H H' : Hp} {a : Addr} {xs : List V} (e : Ex H H') (h : SqT K H a xs) : SqT K H' a xs := by
  rcases h with h | h
  · exact Or.inl (ex_rd e h)
  · exact Or.inr h

/-! ### lists item by item -/
inductive A2 {α β : Type} (F : α → β → Prop) : List α → List β → Prop where
  | nil : A2 F [] []
  | cons {x y xs ys} (h : F x y) (t : A2 F xs ys) : A2 F (x :: xs) (y :: ys)
section
variable {α β : Type} {F F' : α → β → Prop}
theorem A2.len : ∀ {xs : List α} {ys : List β}, A2 F xs ys → xs.length = ys.length
  | _, _, .nil => rfl
  | _, _, .cons _ t => by rw [List.length_cons, List.length_cons, t.len]
theorem A2.imp (f : ∀ x y, F x y → F' x y) : ∀ {xs : List α} {ys : List β}, A2 F xs ys → A2 F' xs ys
  | _, _, .nil => .nil
  | _, _, .cons h t => .cons (f _ _ h) (t.imp f)
theorem A2.get : ∀ {xs : List α} {ys : List β} {i : Nat} {y : β}, A2 F xs ys → ys[i]? = some y → ∃ x, xs[i]? = some x ∧ F x y
  | _, _, i, _, .nil, e => by simp at e
  | _, _, 0, _, .cons h _, e => by
    simp only [List.getElem?_cons_zero, Option.some.injEq] at e
    subst e
    exact ⟨_, rfl, h⟩
  | _, _, i + 1, _, .cons _ t, e => by
    obtain ⟨x, h1, h2⟩ := A2.get t (by simpa using e)
    exact ⟨x, by simpa using h1, h2⟩
theorem A2.get' : ∀ {xs : List α} {ys : List β} {i : Nat} {x : α}, A2 F xs ys → xs[i]? = some x → ∃ y, ys[i]? = some y ∧ F x y
  | _, _, i, _, .nil, e => by simp at e
  | _, _, 0, _, .cons h _, e => by
    simp only [List.getElem?_cons_zero, Option.some.injEq] at e
    subst e
    exact ⟨_, rfl, h⟩
  | _, _, i + 1, _, .cons _ t, e => by
    obtain ⟨x, h1, h2⟩ := A2.get' t (by simpa using e)
    exact ⟨x, by simpa using h1, h2⟩
theorem A2.app : ∀ {xs xs' : List α} {ys ys' : List β}, A2 F xs ys → A2 F xs' ys' → A2 F (xs ++ xs') (ys ++ ys')
  | _, _, _, _, .nil, h => h
  | _, _, _, _, .cons h t, h' => .cons h (t.app h')
theorem A2.one {x : α} {y : β} (h : F x y) : A2 F [x] [y] := .cons h .nil
theorem A2.take : ∀ {xs : List α} {ys : List β} (n : Nat), A2 F xs ys → A2 F (xs.take n) (ys.take n)
  | _, _, 0, _ => .nil
  | _, _, _ + 1, .nil => .nil
  | _, _, n + 1, .cons h t => .cons h (t.take n)
theorem A2.drop : ∀ {xs : List α} {ys : List β} (n : Nat), A2 F xs ys → A2 F (xs.drop n) (ys.drop n)
  | _, _, 0, h => h
  | _, _, _ + 1, .nil => .nil
  | _, _, n + 1, .cons _ t => A2.drop n t
theorem A2.set : ∀ {xs : List α} {ys : List β} (n : Nat) {x : α} {y : β}, A2 F xs ys → F x y → A2 F (xs.set n x) (ys.set n y)
  | _, _, _, _, _, .nil, _ => .nil
  | _, _, 0, _, _, .cons _ t, h => .cons h t
  | _, _, n + 1, _, _, .cons h' t, h => .cons h' (t.set n h)
theorem A2.rev : ∀ {xs : List α} {ys : List β}, A2 F xs ys → A2 F xs.reverse ys.reverse
  | _, _, .nil => .nil
  | _, _, .cons h t => by
    rw [List.reverse_cons, List.reverse_cons]
    exact t.rev.app (.one h)
theorem A2.map {γ : Type} {f : β → α} (g : γ → β) (h : ∀ c, F (f (g c)) (g c)) : ∀ cs : List γ, A2 F (cs.map fun c => f (g c)) (cs.map g)
  | [] => .nil
  | c :: cs => .cons (h c) (A2.map g h cs)
theorem A2.mapL {f : β → α} (h : ∀ c, F (f c) c) : ∀ cs : List β, A2 F (cs.map f) cs
  | [] => .nil
  | c :: cs => .cons (h c) (A2.mapL h cs)
theorem A2.eqmap {f : β → α} (h : ∀ x c, F x c → x = f c) : ∀ {xs : List α} {cs : List β}, A2 F xs cs → xs = cs.map f
  | _, _, .nil => rfl
  | _, _, .cons e t => by rw [List.map_cons, h _ _ e, t.eqmap h]
theorem A2.all {p : α → Bool} (h : ∀ x c, F x c → p x = true) : ∀ {xs : List α} {cs : List β}, A2 F xs cs → xs.all p = true
  | _, _, .nil => rfl
  | _, _, .cons e t => by rw [List.all_cons, h _ _ e, t.all h]; rfl
theorem A2.rep {x : α} {y : β} (h : F x y) : ∀ n, A2 F (List.replicate n x) (List.replicate n y)
  | 0 => .nil
  | n + 1 => by
    rw [List.replicate_succ, List.replicate_succ]
    exact .cons h (A2.rep h n)
end

/-! ### how a value shows a datum -/
structure Rep (α : Type) where
  r : Hp → V → α → Prop
  mono : ∀ {G G' v x}, Ex G G' → r G v x → r G' v x
def rI : Rep Int := ⟨fun _ v x => v = .int x, fun _ h => h⟩
def rB : Rep Bool := ⟨fun _ v x => v = .bl x, fun _ h => h⟩
def rS : Rep Str := ⟨fun _ v x => v = .str x, fun _ h => h⟩
def rN : Rep Unit := ⟨fun _ v _ => v = .non, fun _ h => h⟩
def rO {α : Type} (ρ : Rep α) : Rep (Option α) := ⟨fun G v x => match x with | none => v = .non | some y => ρ.r G v y, fun {G G' v x} e h => by
  cases x with
  | none => exact h
  | some y => exact ρ.mono e h⟩
abbrev AL {α : Type} (ρ : Rep α) (G : Hp) : List V → List α → Prop := A2 (ρ.r G)
theorem AL.mono {α : Type} {ρ : Rep α} {G G' : Hp} {vs : List V} {xs : List α} (e : Ex G G') (h : AL ρ G vs xs) : AL ρ G' vs xs := A2.imp (fun _ _ => ρ.mono e) h
def rL {α : Type} (ρ : Rep α) : Rep (List α) := ⟨fun G v xs => ∃ a vs, v = .ref a ∧ G a = some (.lst vs) ∧ AL ρ G vs xs, fun e ⟨a, vs, h1, h2, h3⟩ => ⟨a, vs, h1, e a _ h2, h3.mono e⟩⟩
def rT2 {α β : Type} (ρ : Rep α) (τ : Rep β) : Rep (α × β) := ⟨fun G v x => ∃ a v1 v2, v = .ref a ∧ G a = some (.tup [v1, v2]) ∧ ρ.r G v1 x.1 ∧ τ.r G v2 x.2,
  fun e ⟨a, v1, v2, h1, h2, h3, h4⟩ => ⟨a, v1, v2, h1, e a _ h2, ρ.mono e h3, τ.mono e h4⟩⟩
def rT3 {α β γ : Type} (ρ : Rep α) (τ : Rep β) (υ : Rep γ) : Rep (α × β × γ) := ⟨fun G v x => ∃ a v1 v2 v3, v = .ref a ∧ G a = some (.tup [v1, v2, v3]) ∧ ρ.r G v1 x.1 ∧ τ.r G v2 x.2.1 ∧ υ.r G v3 x.2.2,
  fun e ⟨a, v1, v2, v3, h1, h2, h3, h4, h5⟩ => ⟨a, v1, v2, v3, h1, e a _ h2, ρ.mono e h3, τ.mono e h4, υ.mono e h5⟩⟩
theorem al_I {G : Hp} {vs : List V} {xs : List Int} (h : AL rI G vs xs) : vs = xs.map V.int := A2.eqmap (fun _ _ e => e) h
theorem al_S {G : Hp} {vs : List V} {xs : List Str} (h : AL rS G vs xs) : vs = xs.map V.str := A2.eqmap (fun _ _ e => e) h
theorem al_B {G : Hp} {vs : List V} {xs : List Bool} (h : AL rB G vs xs) : vs = xs.map V.bl := A2.eqmap (fun _ _ e => e) h
theorem la_I (G : Hp) (xs : List Int) : AL rI G (xs.map V.int) xs := A2.mapL (f := V.int) (fun _ => rfl) xs
theorem la_S (G : Hp) (xs : List Str) : AL rS G (xs.map V.str) xs := A2.mapL (f := V.str) (fun _ => rfl) xs
theorem la_B (G : Hp) (xs : List Bool) : AL rB G (xs.map V.bl) xs := A2.mapL (f := V.bl) (fun _ => rfl) xs

/-! ### the state of a body: Bs borrowed roots, H0 G0 at the entry, G fixed, M the mutable roots -/
abbrev MM := List (Addr × HO)
structure Cf (Bs : List Addr) (H0 G0 G : Hp) (M : MM) (H : Hp) : Prop where
  ex0 : ∀ a o, a ∉ Bs → H0 a = some o → H a = some o
  bh : ∀ b ∈ Bs, H b ≠ none
  g0 : Ex G0 G
  fr : ∀ a, H0 a ≠ none → G a = G0 a
  gh : Ex G H
  own : ∀ x ∈ M, H x.1 = some x.2 ∧ G x.1 = none ∧ (H0 x.1 = none ∨ x.1 ∈ Bs)
  nd : (M.map Prod.fst).Nodup
/-- what a call does -/
structure Stp (Bs : List Addr) (G G' H H' : Hp) : Prop where
  ex : ∀ a o, a ∉ Bs → H a = some o → H' a = some o
  gg : Ex G G'
  fr : ∀ a, H a ≠ none → G' a = G a
  gh : Ex G' H'
section
variable {Bs : List Addr} {H0 G0 G G' H H' : Hp} {M M' : MM} {p q : Addr} {o o' : HO} {k : Nat}
theorem Cf.start (h : Ex G0 H0) : Cf [] H0 G0 G0 [] H0 := ⟨fun _ _ _ e => e, fun _ z => (nomatch z), Ex.refl _, fun _ _ => rfl, h, fun _ z => (nomatch z), List.nodup_nil⟩
theorem Cf.start1 (h : Ex G0 H0) (hp : H0 p = some o) (g : G0 p = none) : Cf [p] H0 G0 G0 [(p, o)] H0 := by
  refine ⟨fun _ _ _ e => e, fun b z => ?_, Ex.refl _, fun _ _ => rfl, h, fun x z => ?_, by simp⟩
  · have e : b = p := by simpa using z
    rw [e, hp]
    exact fun z => nomatch z
  · have e : x = (p, o) := by simpa using z
    subst e
    exact ⟨hp, g, .inr (by simp)⟩
theorem Cf.start2 (h : Ex G0 H0) (hp : H0 p = some o) (g : G0 p = none) (hq : H0 q = some o') (gq : G0 q = none) (ne : p ≠ q) : Cf [p, q] H0 G0 G0 [(p, o), (q, o')] H0 := by
  refine ⟨fun _ _ _ e => e, fun b z => ?_, Ex.refl _, fun _ _ => rfl, h, fun x z => ?_, by simp [ne]⟩
  · simp only [List.mem_cons, List.not_mem_nil, or_false] at z
    rcases z with e | e
    · rw [e, hp]
      exact fun z => nomatch z
    · rw [e, hq]
      exact fun z => nomatch z
  · simp only [List.mem_cons, List.not_mem_nil, or_false] at z
    rcases z with e | e
    · subst e
      exact ⟨hp, g, .inr (by simp)⟩
    · subst e
      exact ⟨hq, gq, .inr (by simp)⟩
theorem Cf.h0 (c : Cf Bs H0 G0 G M H) (hp : H p = none) : H0 p = none ∧ p ∉ Bs := by
  have nb : p ∉ Bs := fun z => c.bh p z hp
  refine ⟨?_, nb⟩
  cases e : H0 p with
  | none => rfl
  | some u =>
    rw [c.ex0 p u nb e] at hp
    cases hp
theorem Cf.notM (c : Cf Bs H0 G0 G M H) (hp : H p = none) : p ∉ M.map Prod.fst := fun z => by
  obtain ⟨x, hx, e⟩ := List.mem_map.mp z
  rw [← e, (c.own x hx).1] at hp
  cases hp
/-- an object that is not to be looked at again -/
theorem Cf.junk (c : Cf Bs H0 G0 G M H) (hp : H p = none) (o : HO) : Cf Bs H0 G0 G M (upd H p o) := by
  have key : ∀ a u, H a = some u → upd H p o a = some u := Ex.new hp
  refine ⟨fun a u n e => key a u (c.ex0 a u n e), fun b hb => ?_, c.g0, c.fr, fun a u e => key a u (c.gh a u e), fun x hx => ?_, c.nd⟩
  · cases e : H b with
    | none => exact absurd e (c.bh b hb)
    | some u =>
      rw [key b u e]
      exact fun z => nomatch z
  · obtain ⟨h1, h2, h3⟩ := c.own x hx
    exact ⟨key _ _ h1, h2, h3⟩
/-- a new mutable object -/
theorem Cf.newO (c : Cf Bs H0 G0 G M H) (hp : H p = none) (o : HO) : Cf Bs H0 G0 G ((p, o) :: M) (upd H p o) := by
  have j := c.junk hp o
  refine ⟨j.ex0, j.bh, j.g0, j.fr, j.gh, fun x hx => ?_, ?_⟩
  · rcases List.mem_cons.mp hx with e | hx
    · subst e
      exact ⟨upd_same, c.gh.free hp, .inl (c.h0 hp).1⟩
    · exact j.own x hx
  · rw [List.map_cons, List.nodup_cons]
    exact ⟨c.notM hp, c.nd⟩
/-- a new object that will not change -/
theorem Cf.newF (c : Cf Bs H0 G0 G M H) (hp : H p = none) (o : HO) : Cf Bs H0 G0 (upd G p o) M (upd H p o) := by
  have j := c.junk hp o
  have gp := c.gh.free hp
  have ex : Ex G (upd G p o) := Ex.new gp
  refine ⟨j.ex0, j.bh, c.g0.trans ex, fun a ha => ?_, fun a u e => ?_, fun x hx => ?_, c.nd⟩
  · have ne : a ≠ p := fun z => ha (by rw [z]; exact (c.h0 hp).1)
    rw [upd_ne ne]
    exact c.fr a ha
  · by_cases ne : a = p
    · subst ne
      rw [upd_same] at e ⊢
      exact e
    · rw [upd_ne ne] at e ⊢
      exact c.gh a u e
  · obtain ⟨h1, h2, h3⟩ := j.own x hx
    have ne : x.1 ≠ p := fun z => by
      rw [← z, (c.own x hx).1] at hp
      cases hp
    exact ⟨h1, by rw [upd_ne ne]; exact h2, h3⟩
theorem newF_ex (c : Cf Bs H0 G0 G M H) (hp : H p = none) (o : HO) : Ex G (upd G p o) := Ex.new (c.gh.free hp)
theorem Cf.get (c : Cf Bs H0 G0 G M H) (k : Nat) (h : M[k]? = some (p, o)) : H p = some o := (c.own _ (List.mem_of_getElem? h)).1
theorem Cf.ng (c : Cf Bs H0 G0 G M H) (k : Nat) (h : M[k]? = some (p, o)) : G p = none := (c.own _ (List.mem_of_getElem? h)).2.1
theorem Cf.hd (c : Cf Bs H0 G0 G ((p, o) :: M) H) : H p = some o := c.get 0 rfl
theorem Cf.hdg (c : Cf Bs H0 G0 G ((p, o) :: M) H) : G p = none := c.ng 0 rfl
/-- roots that are named differ -/
theorem Cf.ne (c : Cf Bs H0 G0 G M H) {i j : Nat} (h : M[i]? = some (p, o)) (h' : M[j]? = some (q, o')) (ij : i ≠ j) : p ≠ q := fun e => by
  have h1 : (M.map Prod.fst)[i]? = some p := by rw [List.getElem?_map, h]; rfl
  have h2 : (M.map Prod.fst)[j]? = some p := by rw [List.getElem?_map, h', e]; rfl
  obtain ⟨a1, a2⟩ := List.getElem?_eq_some_iff.mp h1
  obtain ⟨b1, b2⟩ := List.getElem?_eq_some_iff.mp h2
  exact ij ((List.getElem_inj c.nd).mp (a2.trans b2.symm))
theorem Cf.perm (c : Cf Bs H0 G0 G M H) (h : M.Perm M') : Cf Bs H0 G0 G M' H :=
  ⟨c.ex0, c.bh, c.g0, c.fr, c.gh, fun x hx => c.own x (h.mem_iff.mpr hx), (h.map Prod.fst).nodup_iff.mp c.nd⟩
theorem perm_at {α : Type} : ∀ (M : List α) (k : Nat) (x : α), M[k]? = some x → M.Perm (x :: M.eraseIdx k)
  | [], _, _, h => by simp at h
  | y :: M, 0, x, h => by
    simp only [List.getElem?_cons_zero, Option.some.injEq] at h
    subst h
    exact .refl _
  | y :: M, k + 1, x, h => by
    have ih := perm_at M k x (by simpa using h)
    rw [List.eraseIdx_cons_succ]
    exact (ih.cons y).trans (List.Perm.swap x y _)
/-- the k-th to the front -/
theorem Cf.front (c : Cf Bs H0 G0 G M H) (k : Nat) {x : Addr × HO} (h : M[k]? = some x) : Cf Bs H0 G0 G (x :: M.eraseIdx k) H := c.perm (perm_at M k x h)
theorem Cf.drop (c : Cf Bs H0 G0 G ((p, o) :: M) H) : Cf Bs H0 G0 G M H :=
  ⟨c.ex0, c.bh, c.g0, c.fr, c.gh, fun x hx => c.own x (List.mem_cons_of_mem _ hx), (List.nodup_cons.mp c.nd).2⟩
/-- the first root is changed -/
theorem Cf.mut (c : Cf Bs H0 G0 G ((p, o) :: M) H) (o' : HO) : Cf Bs H0 G0 G ((p, o') :: M) (upd H p o') := by
  obtain ⟨h1, h2, h3⟩ := c.own (p, o) List.mem_cons_self
  have nd := List.nodup_cons.mp c.nd
  refine ⟨fun a u n e => ?_, fun b hb => ?_, c.g0, c.fr, fun a u e => ?_, fun x hx => ?_, c.nd⟩
  · have ne : a ≠ p := fun z => by
      subst z
      rcases h3 with h3 | h3
      · have h3 : H0 a = none := h3
        rw [h3] at e
        cases e
      · exact n h3
    rw [upd_ne ne]
    exact c.ex0 a u n e
  · by_cases ne : b = p
    · rw [ne, upd_same]
      exact fun z => nomatch z
    · rw [upd_ne ne]
      exact c.bh b hb
  · have ne : a ≠ p := fun z => by
      subst z
      have h2 : G a = none := h2
      rw [h2] at e
      cases e
    rw [upd_ne ne]
    exact c.gh a u e
  · rcases List.mem_cons.mp hx with e | hx
    · subst e
      exact ⟨upd_same, h2, h3⟩
    · obtain ⟨g1, g2, g3⟩ := c.own x (List.mem_cons_of_mem _ hx)
      have ne : x.1 ≠ p := fun z => nd.1 (List.mem_map.mpr ⟨x, hx, z⟩)
      exact ⟨by rw [upd_ne ne]; exact g1, g2, g3⟩
/-- the first root will not change any more -/
theorem Cf.freeze (c : Cf Bs H0 G0 G ((p, o) :: M) H) (hb : ∀ b ∈ Bs, b ∈ M.map Prod.fst) : Cf Bs H0 G0 (upd G p o) M H := by
  obtain ⟨h1, h2, h3⟩ := c.own (p, o) List.mem_cons_self
  have nd := List.nodup_cons.mp c.nd
  have nb : p ∉ Bs := fun z => nd.1 (hb p z)
  have hn : H0 p = none := h3.resolve_right nb
  refine ⟨c.ex0, c.bh, c.g0.trans (Ex.new h2), fun a ha => ?_, fun a u e => ?_, fun x hx => ?_, nd.2⟩
  · have ne : a ≠ p := fun z => ha (by rw [z]; exact hn)
    rw [upd_ne ne]
    exact c.fr a ha
  · by_cases ne : a = p
    · subst ne
      rw [upd_same] at e
      rw [← e]
      exact h1
    · rw [upd_ne ne] at e
      exact c.gh a u e
  · obtain ⟨g1, g2, g3⟩ := c.own x (List.mem_cons_of_mem _ hx)
    have ne : x.1 ≠ p := fun z => nd.1 (List.mem_map.mpr ⟨x, hx, z⟩)
    exact ⟨g1, by rw [upd_ne ne]; exact g2, g3⟩
theorem freeze_ex (c : Cf Bs H0 G0 G ((p, o) :: M) H) : Ex G (upd G p o) := Ex.new c.hdg
/-- behind a call that changes none of ours -/
theorem Cf.call (c : Cf Bs H0 G0 G M H) (s : Stp [] G G' H H') : Cf Bs H0 G0 G' M H' := by
  have ex : Ex H H' := fun a o e => s.ex a o (by simp) e
  refine ⟨fun a o n e => ex a o (c.ex0 a o n e), fun b hb => ?_, c.g0.trans s.gg, fun a ha => ?_, s.gh, fun x hx => ?_, c.nd⟩
  · cases e : H b with
    | none => exact absurd e (c.bh b hb)
    | some u =>
      rw [ex b u e]
      exact fun z => nomatch z
  · have hh : H a ≠ none := by
      by_cases hb : a ∈ Bs
      · exact c.bh a hb
      · cases e : H0 a with
        | none => exact absurd e ha
        | some u =>
          rw [c.ex0 a u hb e]
          exact fun z => nomatch z
    rw [s.fr a hh]
    exact c.fr a ha
  · obtain ⟨h1, h2, h3⟩ := c.own x hx
    refine ⟨ex _ _ h1, ?_, h3⟩
    rw [s.fr x.1 (by rw [h1]; exact fun z => nomatch z)]
    exact h2
/-- behind a call that may read all of it and hands back a plain value -/
theorem Cf.callH (c : Cf Bs H0 G0 G M H) {Ga Gb : Hp} (s : Stp [] Ga Gb H H') : Cf Bs H0 G0 G M H' := by
  have ex : Ex H H' := fun a o e => s.ex a o (by simp) e
  refine ⟨fun a o n e => ex a o (c.ex0 a o n e), fun b hb => ?_, c.g0, c.fr, c.gh.trans ex, fun x hx => ?_, c.nd⟩
  · cases e : H b with
    | none => exact absurd e (c.bh b hb)
    | some u =>
      rw [ex b u e]
      exact fun z => nomatch z
  · obtain ⟨h1, h2, h3⟩ := c.own x hx
    exact ⟨ex _ _ h1, h2, h3⟩
/-- .. and gives out a new root -/
theorem Cf.callO (c : Cf Bs H0 G0 G M H) (s : Stp [] G G' H H') (hp : H p = none) (gp : G' p = none) (ho : H' p = some o) : Cf Bs H0 G0 G' ((p, o) :: M) H' := by
  have c' := c.call s
  refine ⟨c'.ex0, c'.bh, c'.g0, c'.fr, c'.gh, fun x hx => ?_, ?_⟩
  · rcases List.mem_cons.mp hx with e | hx
    · subst e
      exact ⟨ho, gp, .inl (c.h0 hp).1⟩
    · exact c'.own x hx
  · rw [List.map_cons, List.nodup_cons]
    exact ⟨c.notM hp, c.nd⟩
/-- behind a call that changes the first root -/
theorem Cf.call1 (c : Cf Bs H0 G0 G ((p, o) :: M) H) (s : Stp [p] G G' H H') (ho : H' p = some o') : Cf Bs H0 G0 G' ((p, o') :: M) H' := by
  obtain ⟨h1, h2, h3⟩ := c.own (p, o) List.mem_cons_self
  have nd := List.nodup_cons.mp c.nd
  have ex : ∀ a u, a ≠ p → H a = some u → H' a = some u := fun a u n e => s.ex a u (by simpa using n) e
  refine ⟨fun a u n e => ?_, fun b hb => ?_, c.g0.trans s.gg, fun a ha => ?_, s.gh, fun x hx => ?_, c.nd⟩
  · have ne : a ≠ p := fun z => by
      subst z
      rcases h3 with h3 | h3
      · have h3 : H0 a = none := h3
        rw [h3] at e
        cases e
      · exact n h3
    exact ex a u ne (c.ex0 a u n e)
  · by_cases ne : b = p
    · rw [ne, ho]
      exact fun z => nomatch z
    · cases e : H b with
      | none => exact absurd e (c.bh b hb)
      | some u =>
        rw [ex b u ne e]
        exact fun z => nomatch z
  · have hh : H a ≠ none := by
      by_cases hb : a ∈ Bs
      · exact c.bh a hb
      · cases e : H0 a with
        | none => exact absurd e ha
        | some u =>
          rw [c.ex0 a u hb e]
          exact fun z => nomatch z
    rw [s.fr a hh]
    exact c.fr a ha
  · rcases List.mem_cons.mp hx with e | hx
    · subst e
      refine ⟨ho, ?_, h3⟩
      have h1 : H p = some o := h1
      show G' p = none
      rw [s.fr p (by rw [h1]; exact fun z => nomatch z)]
      exact h2
    · obtain ⟨g1, g2, g3⟩ := c.own x (List.mem_cons_of_mem _ hx)
      have ne : x.1 ≠ p := fun z => nd.1 (List.mem_map.mpr ⟨x, hx, z⟩)
      refine ⟨ex _ _ ne g1, ?_, g3⟩
      rw [s.fr x.1 (by rw [g1]; exact fun z => nomatch z)]
      exact g2
theorem Cf.callO1 (c : Cf Bs H0 G0 G ((p, o) :: M) H) (s : Stp [p] G G' H H') (ho : H' p = some o') {o2 : HO} (hq : H q = none) (gq : G' q = none) (hq' : H' q = some o2) : Cf Bs H0 G0 G' ((q, o2) :: (p, o') :: M) H' := by
  have c' := c.call1 s ho
  refine ⟨c'.ex0, c'.bh, c'.g0, c'.fr, c'.gh, fun x hx => ?_, ?_⟩
  · rcases List.mem_cons.mp hx with e | hx
    · subst e
      exact ⟨hq', gq, .inl (c.h0 hq).1⟩
    · exact c'.own x hx
  · rw [List.map_cons, List.nodup_cons]
    exact ⟨c.notM hq, c'.nd⟩
/-- the whole body is a step -/
theorem Cf.stp (c : Cf Bs H0 G0 G M H) : Stp Bs G0 G H0 H := ⟨c.ex0, c.g0, c.fr, c.gh⟩
theorem Cf.hdn (c : Cf Bs H0 G0 G ((p, o) :: M) H) (hb : ∀ b ∈ Bs, b ∈ M.map Prod.fst) : H0 p = none := by
  have nd := List.nodup_cons.mp c.nd
  exact (c.own (p, o) List.mem_cons_self).2.2.resolve_right fun z => nd.1 (hb p z)
end
/-- a list that is read: its root may not be among the borrowed -/
def SqB (Bs : List Addr) (H : Hp) (a : Addr) (vs : List V) : Prop := H a = some (.lst vs) ∧ a ∉ Bs
theorem SqB.at {Bs : List Addr} {H0 G0 G H : Hp} {M : MM} {a : Addr} {vs : List V} (h : SqB Bs H0 a vs) (c : Cf Bs H0 G0 G M H) : H a = some (.lst vs) := c.ex0 a _ h.2 h.1
theorem SqB.of {H : Hp} {a : Addr} {vs : List V} (h : H a = some (.lst vs)) : SqB [] H a vs := ⟨h, by simp⟩
theorem SqB.fix {Bs : List Addr} {G H : Hp} {a : Addr} {vs : List V} (h : G a = some (.lst vs)) (e : Ex G H) (n : ∀ b ∈ Bs, G b = none) : SqB Bs H a vs := ⟨e a _ h, fun z => by
  have gz := n a z
  rw [h] at gz
  cases gz⟩
theorem ng1 {G : Hp} {p : Addr} (h : G p = none) : ∀ b ∈ [p], G b = none := fun b z => by
  have e : b = p := by simpa using z
  rw [e]
  exact h
theorem nin1 {a p : Addr} (h : a ≠ p) : a ∉ [p] := by simpa using h
end Tw

/-! Tw2: mirrors (partial functions over plain data) and what joins them with readings. -/
namespace Tw
open PySem L2

/-! ### words of mirrors -/
/-- go on only if c -/
def gd {α : Type} (c : Prop) [Decidable c] (r : Option α) : Option α := if c then r else none
/-- a name for a value -/
def lt {α β : Type} (e : α) (f : α → Option β) : Option β := f e
theorem bs {α β : Type} {x : Option α} {f : α → Option β} {b : β} (h : x.bind f = some b) : ∃ a, x = some a ∧ f a = some b := Option.bind_eq_some_iff.mp h
theorem gdp {α : Type} {c : Prop} [Decidable c] {r : Option α} {b : α} (h : gd c r = some b) : c ∧ r = some b := by
  unfold gd at h
  by_cases hc : c
  · rw [if_pos hc] at h
    exact ⟨hc, h⟩
  · rw [if_neg hc] at h
    cases h
theorem ltp {α β : Type} {e : α} {f : α → Option β} {b : β} (h : lt e f = some b) : ∃ x, e = x ∧ f x = some b := ⟨e, rfl, h⟩
theorem gd_of {α : Type} {c : Prop} [Decidable c] {r : Option α} (h : c) : gd c r = r := if_pos h
theorem some_in {α : Type} {a b : α} (h : some a = some b) : a = b := Option.some.inj h
/-- by None and some -/
def oel {α β : Type} (o : Option α) (a : β) (f : α → β) : β := match o with
  | none => a
  | some x => f x
/-- a loop without break or return -/
def lp {α S : Type} (f : α → S → Option S) : List α → S → Option S
  | [], s => some s
  | x :: l, s => (f x s).bind (lp f l)
theorem lp_cons {α S : Type} {f : α → S → Option S} {x : α} {l : List α} {s o : S} (h : lp f (x :: l) s = some o) : ∃ s', f x s = some s' ∧ lp f l s' = some o := bs h
theorem lp_nil {α S : Type} {f : α → S → Option S} {s o : S} (h : lp f [] s = some o) : s = o := Option.some.inj h
inductive Out (S R : Type) where
  | nx (s : S) | br (s : S) | rt (r : R)
def Out.go {S R : Type} (o : Out S R) (f : S → Option (Out S R)) : Option (Out S R) :=
  match o with
  | .nx s => f s
  | .br s => some (.nx s)
  | .rt r => some (.rt r)
def Out.fin {S R β : Type} (o : Out S R) (f : S → Option β) (g : R → Option β) : Option β :=
  match o with
  | .nx s => f s
  | .br s => f s
  | .rt r => g r
def lpx {α S R : Type} (f : α → S → Option (Out S R)) : List α → S → Option (Out S R)
  | [], s => some (.nx s)
  | x :: l, s => (f x s).bind fun o => o.go (lpx f l)
theorem lpx_cons {α S R : Type} {f : α → S → Option (Out S R)} {x : α} {l : List α} {s : S} {o : Out S R} (h : lpx f (x :: l) s = some o) : ∃ o', f x s = some o' ∧ o'.go (lpx f l) = some o := bs h
theorem lpx_nil {α S R : Type} {f : α → S → Option (Out S R)} {s : S} {o : Out S R} (h : lpx f [] s = some o) : Out.nx s = o := Option.some.inj h
/-- a while, at most n turns -/
def wh {S R : Type} (c : S → Option Bool) (f : S → Option (Out S R)) : Nat → S → Option (Out S R)
  | 0, _ => none
  | n + 1, s => (c s).bind fun b => if b = true then (f s).bind fun o => o.go (wh c f n) else some (.nx s)
theorem wh_pos {S R : Type} {c : S → Option Bool} {f : S → Option (Out S R)} {n : Nat} {s : S} {o : Out S R} (h : wh c f n s = some o) :
    ∃ m b, n = m + 1 ∧ c s = some b ∧ (if b = true then (f s).bind fun o => o.go (wh c f m) else some (.nx s)) = some o := by
  cases n with
  | zero => cases h
  | succ m =>
    obtain ⟨b, hb, h⟩ := bs h
    exact ⟨m, b, rfl, hb, h⟩
/-- comprehensions -/
def lcm {α β : Type} (f : α → Option β) : List α → Option (List β)
  | [] => some []
  | x :: l => (f x).bind fun y => (lcm f l).bind fun r => some (y :: r)
theorem lcm_cons {α β : Type} {f : α → Option β} {x : α} {l : List α} {o : List β} (h : lcm f (x :: l) = some o) : ∃ y r, f x = some y ∧ lcm f l = some r ∧ o = y :: r := by
  obtain ⟨y, hy, h⟩ := bs h
  obtain ⟨r, hr, h⟩ := bs h
  exact ⟨y, r, hy, hr, (Option.some.inj h).symm⟩
def lcf {α β : Type} (f : α → Option (Option β)) : List α → Option (List β)
  | [] => some []
  | x :: l => (f x).bind fun y => (lcf f l).bind fun r => some (match y with | some z => z :: r | none => r)
theorem lcf_cons {α β : Type} {f : α → Option (Option β)} {x : α} {l : List α} {o : List β} (h : lcf f (x :: l) = some o) : ∃ y r, f x = some y ∧ lcf f l = some r ∧ o = (match y with | some z => z :: r | none => r) := by
  obtain ⟨y, hy, h⟩ := bs h
  obtain ⟨r, hr, h⟩ := bs h
  exact ⟨y, r, hy, hr, (Option.some.inj h).symm⟩
/-- .. that change something on their way -/
def lcs {α β S : Type} (f : α → S → Option (Option β × S)) : List α → S → Option (List β × S)
  | [], s => some ([], s)
  | x :: l, s => (f x s).bind fun y => (lcs f l y.2).bind fun r => some (match y.1 with | some z => z :: r.1 | none => r.1, r.2)
theorem lcs_cons {α β S : Type} {f : α → S → Option (Option β × S)} {x : α} {l : List α} {s : S} {o : List β × S} (h : lcs f (x :: l) s = some o) :
    ∃ y s' r, f x s = some (y, s') ∧ lcs f l s' = some (r, o.2) ∧ o.1 = (match y with | some z => z :: r | none => r) := by
  obtain ⟨⟨y, s'⟩, hy, h⟩ := bs h
  obtain ⟨⟨r, s''⟩, hr, h⟩ := bs h
  have e := Option.some.inj h
  subst e
  exact ⟨y, s', r, hy, hr, rfl⟩
/-- a range -/
def rng (lo hi : Int) : List Int := (List.range (hi - lo).toNat).map fun i : Nat => lo + (i : Int)
theorem rng_len (lo hi : Int) : (rng lo hi).length = (hi - lo).toNat := by unfold rng; rw [List.length_map, List.length_range]
theorem rng_get {lo hi : Int} {i : Nat} {x : Int} (h : (rng lo hi)[i]? = some x) : x = lo + (i : Int) := by
  unfold rng at h
  rw [List.getElem?_map] at h
  cases e : (List.range (hi - lo).toNat)[i]? with
  | none => rw [e] at h; cases h
  | some j =>
    rw [e] at h
    have hj : j = i := by
      obtain ⟨h1, h2⟩ := List.getElem?_eq_some_iff.mp e
      rw [List.getElem_range] at h2
      exact h2.symm
    rw [hj] at h
    exact (Option.some.inj h).symm
def enm {α : Type} (xs : List α) : List (Int × α) := (rng 0 xs.length).zip xs
theorem enm_len {α : Type} (xs : List α) : (enm xs).length = xs.length := by
  unfold enm
  rw [List.length_zip, rng_len]
  omega
theorem enm_get {α : Type} {xs : List α} {i : Nat} {x : Int × α} (h : (enm xs)[i]? = some x) : x.1 = (i : Int) ∧ xs[i]? = some x.2 := by
  unfold enm at h
  rw [List.getElem?_zip_eq_some] at h
  exact ⟨by have := rng_get h.1; omega, h.2⟩
/-- may be used as a range's end -/
def rok (n : Int) : Prop := -(2 ^ 62) ≤ n ∧ n < 2 ^ 62
instance (n : Int) : Decidable (rok n) := inferInstanceAs (Decidable (_ ∧ _))
abbrev BIG : Nat := 16777216
theorem big_lt {n : Nat} (h : n < BIG) : n < sizeLine := by rw [sizeLine_eq]; exact h
theorem big_le {n : Nat} (h : n < BIG) : n ≤ sizeLine := Nat.le_of_lt (big_lt h)
theorem le_big {n : Nat} (h : n ≤ BIG) : n ≤ sizeLine := by rw [sizeLine_eq]; exact h

/-! ### tests -/
theorem ite_m {b : Bool} {α : Type} {x y : Option α} {r : α} {P Q : Prop} (hm : (if b = true then x else y) = some r) (h1 : b = true → x = some r → P) (h2 : b = false → y = some r → Q) : if b = true then P else Q := by
  cases b with
  | true =>
    rw [if_pos rfl] at hm ⊢
    exact h1 rfl hm
  | false =>
    rw [if_neg Bool.false_ne_true] at hm ⊢
    exact h2 rfl hm
theorem ite_b {b : Bool} {P Q : Prop} (h1 : b = true → P) (h2 : b = false → Q) : if b = true then P else Q := by
  cases b with
  | true => rw [if_pos rfl]; exact h1 rfl
  | false => rw [if_neg Bool.false_ne_true]; exact h2 rfl
theorem cas {b : Bool} {α : Type} {x y : Option α} {r : α} {P : Prop} (hm : (if b = true then x else y) = some r) (h1 : b = true → x = some r → P) (h2 : b = false → y = some r → P) : P := by
  cases b with
  | true =>
    rw [if_pos rfl] at hm
    exact h1 rfl hm
  | false =>
    rw [if_neg Bool.false_ne_true] at hm
    exact h2 rfl hm
/-- a and b, the second one asked only behind a true first: c is what the second one gives -/
def pAnd (a : Bool) (b : Option Bool) : Option Bool := if a = true then b else some false
def pOr (a : Bool) (b : Option Bool) : Option Bool := if a = true then some true else b
theorem and_r {a b : Bool} {u : Prop} {Q : Bool → Hp → Prop} {H : Hp} {mb : Option Bool} (hb : pAnd a mb = some b) (h : a = true → mb = some b → Q b H → u) (k : Q b H) : if a = true then u else Q false H := by
  cases a with
  | true =>
    rw [if_pos rfl]
    exact h rfl hb k
  | false =>
    rw [if_neg Bool.false_ne_true]
    have e : false = b := Option.some.inj hb
    rw [e]
    exact k
theorem or_r {a b : Bool} {u : Prop} {Q : Bool → Hp → Prop} {H : Hp} {mb : Option Bool} (hb : pOr a mb = some b) (h : a = false → mb = some b → Q b H → u) (k : Q b H) : if a = true then Q true H else u := by
  cases a with
  | false =>
    rw [if_neg Bool.false_ne_true]
    exact h rfl hb k
  | true =>
    rw [if_pos rfl]
    have e : true = b := Option.some.inj hb
    rw [e]
    exact k
theorem and_t {a b : Bool} {u : Prop} {Q : Bool → Hp → Prop} {H : Hp} (h : a = true → Q b H → u) (k : Q (a && b) H) : if a = true then u else Q false H := by
  cases a with
  | true =>
    rw [if_pos rfl]
    exact h rfl (by simpa using k)
  | false =>
    rw [if_neg Bool.false_ne_true]
    exact k
theorem or_t {a b : Bool} {u : Prop} {Q : Bool → Hp → Prop} {H : Hp} (h : a = false → Q b H → u) (k : Q (a || b) H) : if a = true then Q true H else u := by
  cases a with
  | false =>
    rw [if_neg Bool.false_ne_true]
    exact h rfl (by simpa using k)
  | true =>
    rw [if_pos rfl]
    exact k
/-- .. as values -/
theorem andV_t {a b : Bool} {u : Prop} {Q : V → Hp → Prop} {H : Hp} (h : a = true → Q (.bl b) H → u) (k : Q (.bl (a && b)) H) : if a = true then u else Q (.bl false) H := and_t (Q := fun b H => Q (.bl b) H) h k
theorem orV_t {a b : Bool} {u : Prop} {Q : V → Hp → Prop} {H : Hp} (h : a = false → Q (.bl b) H → u) (k : Q (.bl (a || b)) H) : if a = true then Q (.bl true) H else u := or_t (Q := fun b H => Q (.bl b) H) h k
theorem andV_r {a b : Bool} {u : Prop} {Q : V → Hp → Prop} {H : Hp} {mb : Option Bool} (hb : pAnd a mb = some b) (h : a = true → mb = some b → Q (.bl b) H → u) (k : Q (.bl b) H) : if a = true then u else Q (.bl false) H := and_r (Q := fun b H => Q (.bl b) H) hb h k
theorem orV_r {a b : Bool} {u : Prop} {Q : V → Hp → Prop} {H : Hp} {mb : Option Bool} (hb : pOr a mb = some b) (h : a = false → mb = some b → Q (.bl b) H → u) (k : Q (.bl b) H) : if a = true then Q (.bl true) H else u := or_r (Q := fun b H => Q (.bl b) H) hb h k
/-- .. where the second part changes the heap -/
theorem and_h {a b : Bool} {u : Prop} {Q : Bool → Hp → Prop} {H : Hp} {mb : Option Bool} {R : Hp → Prop} (hb : pAnd a mb = some b) (h : a = true → mb = some b → (∀ H', R H' → Q b H') → u) (h0 : R H) (k : ∀ H', R H' → Q b H') : if a = true then u else Q false H := by
  cases a with
  | true =>
    rw [if_pos rfl]
    exact h rfl hb k
  | false =>
    rw [if_neg Bool.false_ne_true]
    have e : false = b := Option.some.inj hb
    rw [e]
    exact k H h0
theorem or_h {a b : Bool} {u : Prop} {Q : Bool → Hp → Prop} {H : Hp} {mb : Option Bool} {R : Hp → Prop} (hb : pOr a mb = some b) (h : a = false → mb = some b → (∀ H', R H' → Q b H') → u) (h0 : R H) (k : ∀ H', R H' → Q b H') : if a = true then Q true H else u := by
  cases a with
  | false =>
    rw [if_neg Bool.false_ne_true]
    exact h rfl hb k
  | true =>
    rw [if_pos rfl]
    have e : true = b := Option.some.inj hb
    rw [e]
    exact k H h0
theorem andV_h {a b : Bool} {u : Prop} {Q : V → Hp → Prop} {H : Hp} {mb : Option Bool} {R : Hp → Prop} (hb : pAnd a mb = some b) (h : a = true → mb = some b → (∀ H', R H' → Q (.bl b) H') → u) (h0 : R H) (k : ∀ H', R H' → Q (.bl b) H') : if a = true then u else Q (.bl false) H := and_h (Q := fun b H => Q (.bl b) H) hb h h0 k
theorem orV_h {a b : Bool} {u : Prop} {Q : V → Hp → Prop} {H : Hp} {mb : Option Bool} {R : Hp → Prop} (hb : pOr a mb = some b) (h : a = false → mb = some b → (∀ H', R H' → Q (.bl b) H') → u) (h0 : R H) (k : ∀ H', R H' → Q (.bl b) H') : if a = true then Q (.bl true) H else u := or_h (Q := fun b H => Q (.bl b) H) hb h h0 k
theorem or_s {a : Bool} {u : Prop} {Q : Bool → Hp → Prop} {H : Hp} (h : a = true) (k : Q true H) : if a = true then Q true H else u := by rw [if_pos h]; exact k
theorem and_s {a : Bool} {u : Prop} {Q : Bool → Hp → Prop} {H : Hp} (h : a = false) (k : Q false H) : if a = true then u else Q false H := by rw [if_neg (by rw [h]; exact Bool.false_ne_true)]; exact k
theorem orV_s {a : Bool} {u : Prop} {Q : V → Hp → Prop} {H : Hp} (h : a = true) (k : Q (.bl true) H) : if a = true then Q (.bl true) H else u := by rw [if_pos h]; exact k
theorem andV_s {a : Bool} {u : Prop} {Q : V → Hp → Prop} {H : Hp} (h : a = false) (k : Q (.bl false) H) : if a = true then u else Q (.bl false) H := by rw [if_neg (by rw [h]; exact Bool.false_ne_true)]; exact k
theorem ite_yes {b : Bool} {P Q : Prop} (h : b = true) (p : P) : if b = true then P else Q := by rw [if_pos h]; exact p
theorem ite_no {b : Bool} {P Q : Prop} (h : b = false) (q : Q) : if b = true then P else Q := by rw [if_neg (by rw [h]; exact Bool.false_ne_true)]; exact q
theorem if_yes {b : Bool} {α : Type} {x y r : α} (h : b = true) (hm : (if b = true then x else y) = r) : x = r := by rw [if_pos h] at hm; exact hm
theorem if_no {b : Bool} {α : Type} {x y r : α} (h : b = false) (hm : (if b = true then x else y) = r) : y = r := by rw [if_neg (by rw [h]; exact Bool.false_ne_true)] at hm; exact hm
theorem pw_never {X : Cx} {e : Expr} : PW X e fun _ _ _ => False := ⟨fun _ _ _ _ _ _ _ h => h.elim⟩
/-! what is wanted behind is hidden by a letter -/
theorem if_opq {c : TT} {t u : TS} {D : Ends} {σ : St} {H : Hp} (h : ∀ Q9 : Bool → Hp → Prop, (∀ b H, (if b = true then t D σ H else u D σ H) → Q9 b H) → c σ H Q9) : tIfS c t u D σ H := h _ fun _ _ z => z
theorem q_if_opq {c : TT} {t u w : TS} {D : Ends} {σ : St} {H : Hp} (h : ∀ Q9 : Bool → Hp → Prop, (∀ b H, (if b = true then t { D with nx := w D } σ H else u { D with nx := w D } σ H) → Q9 b H) → c σ H Q9) : tSeq (tIfS c t u) w D σ H := h _ fun _ _ z => z
theorem opqT {c : TT} {σ : St} {H : Hp} {Q : Bool → Hp → Prop} (h : ∀ Q9 : Bool → Hp → Prop, (∀ b H, Q b H → Q9 b H) → c σ H Q9) : c σ H Q := h Q fun _ _ z => z
theorem opqV {c : TE} {σ : St} {H : Hp} {Q : VK} (h : ∀ Q9 : VK, (∀ v H, Q v H → Q9 v H) → c σ H Q9) : c σ H Q := h Q fun _ _ z => z
theorem ret_opq {te : TE} {D : Ends} {σ : St} {H : Hp} (h : ∀ Q9 : VK, (∀ v H, D.rt v H → Q9 v H) → te σ H Q9) : tRet te D σ H := h _ fun _ _ z => z
theorem q_ret_opq {te : TE} {w : TS} {D : Ends} {σ : St} {H : Hp} (h : ∀ Q9 : VK, (∀ v H, D.rt v H → Q9 v H) → te σ H Q9) : tSeq (tRet te) w D σ H := h _ fun _ _ z => z
theorem asg_opq {te : TE} {i : Nat} {D : Ends} {σ : St} {H : Hp} (h : ∀ Q9 : VK, (∀ v H, D.nx (σ.set i (some v)) H → Q9 v H) → te σ H Q9) : tAsg te (gName i) D σ H := h _ fun _ _ z => z
theorem q_asg_opq {te : TE} {i : Nat} {w : TS} {D : Ends} {σ : St} {H : Hp} (h : ∀ Q9 : VK, (∀ v H, w D (σ.set i (some v)) H → Q9 v H) → te σ H Q9) : tSeq (tAsg te (gName i)) w D σ H := h _ fun _ _ z => z
theorem drop_opq {te : TE} {D : Ends} {σ : St} {H : Hp} (h : ∀ Q9 : VK, (∀ v H, D.nx σ H → Q9 v H) → te σ H Q9) : tDrop te D σ H := h _ fun _ _ z => z
theorem q_drop_opq {te : TE} {w : TS} {D : Ends} {σ : St} {H : Hp} (h : ∀ Q9 : VK, (∀ v H, w D σ H → Q9 v H) → te σ H Q9) : tSeq (tDrop te) w D σ H := h _ fun _ _ z => z
theorem q_aug {i : Nat} {te : TE} {ti : TIp} {w : TS} {D : Ends} {σ : St} {H : Hp} (h : ∀ Q9 : VK, (∀ v H, w D (σ.set i (some v)) H → Q9 v H) → ∃ x, σ[i]? = some (some x) ∧ te σ H fun y H1 => ti x y H1 Q9) : tSeq (tAug i te ti) w D σ H := h _ fun _ _ z => z
theorem s_aug' {i : Nat} {te : TE} {ti : TIp} {D : Ends} {σ : St} {H : Hp} (h : ∀ Q9 : VK, (∀ v H, D.nx (σ.set i (some v)) H → Q9 v H) → ∃ x, σ[i]? = some (some x) ∧ te σ H fun y H1 => ti x y H1 Q9) : tAug i te ti D σ H := h _ fun _ _ z => z
theorem q_asgS {te to ti : TE} {ts : TSet} {w : TS} {D : Ends} {σ : St} {H : Hp} (h : ∀ Q9 : Hp → Prop, (∀ H, w D σ H → Q9 H) → te σ H fun x H1 => to σ H1 fun o H2 => ti σ H2 fun i H3 => ts o i x H3 Q9) : tSeq (tAsg te (gSub to ti ts)) w D σ H := h _ fun _ z => z
theorem s_asgS {te to ti : TE} {ts : TSet} {D : Ends} {σ : St} {H : Hp} (h : ∀ Q9 : Hp → Prop, (∀ H, D.nx σ H → Q9 H) → te σ H fun x H1 => to σ H1 fun o H2 => ti σ H2 fun i H3 => ts o i x H3 Q9) : tAsg te (gSub to ti ts) D σ H := h _ fun _ z => z
theorem yes_q {σ : St} {H : Hp} {P R : Hp → Prop} (h : P H) : tYes σ H (fun b H3 => if b = true then P H3 else R H3) := by
  show if true = true then P H else R H
  rw [if_pos rfl]
  exact h
/-- a name for the value that is stored -/
theorem nmI {x y : Int} {σ : St} {i : Nat} {H : Hp} {P : St → Hp → Prop} (e : x = y) (h : P (σ.set i (some (.int y))) H) : P (σ.set i (some (.int x))) H := by rw [e]; exact h
theorem nmV {α : Type} {f : α → V} {x y : α} {P : V → Prop} (e : x = y) (h : P (f y)) : P (f x) := by rw [e]; exact h

/-! ### loops -/
theorem for_w {α : Type} {J : It} {n : Nat} {Gd : Hp → Prop} {Y : Nat → Hp → V → Hp → Prop} (w : Walk J n Gd Y) (xs : List α) (hn : n = xs.length) {g : TG} {tb : TS} {D : Ends} {σ : St} {H : Hp} (I : List α → St → Hp → Prop)
    (h0 : I xs σ H) (hG : ∀ l σ H, I l σ H → Gd H)
    (hs : ∀ (i : Nat) x l σ H v H', xs[i]? = some x → I (x :: l) σ H → Y i H v H' → g v σ H' fun σ2 H2 => tb { D with nx := I l, ct := I l, bk := D.nx } σ2 H2) (hd : ∀ σ H, I [] σ H → D.nx σ H) :
    ∃ W : Nat → Nat → St → Hp → Prop, (∃ m, W 0 m σ H) ∧ ∀ i m σ H, W i m σ H →
      (J.stop i H ∧ D.nx σ H) ∨ (J.go i H ∧ ∃ N : St → Hp → Prop, (∀ σ' H', N σ' H' → ∃ m', m' < m ∧ W (i + 1) m' σ' H') ∧ ∀ x H', J.yld i H x H' → g x σ H' fun σ2 H2 => tb { D with nx := N, ct := N, bk := D.nx } σ2 H2) := by
  refine for_it w (fun i σ H => I (xs.drop i) σ H) h0 (fun i σ H _ h => hG _ σ H h) (fun i v σ H H' hi h y => ?_) (fun σ H h => ?_)
  · have hi' : i < xs.length := by omega
    have e : xs.drop i = xs[i] :: xs.drop (i + 1) := List.drop_eq_getElem_cons hi'
    have h : I (xs.drop i) σ H := h
    rw [e] at h
    exact hs i xs[i] (xs.drop (i + 1)) σ H v H' (List.getElem?_eq_getElem hi') h y
  · have e : xs.drop n = [] := List.drop_eq_nil_of_le (by omega)
    have h : I (xs.drop n) σ H := h
    rw [e] at h
    exact hd σ H h
/-- .. with break: k says what is wanted behind the loop -/
theorem for_wx {α : Type} {J : It} {n : Nat} {Gd : Hp → Prop} {Y : Nat → Hp → V → Hp → Prop} (w : Walk J n Gd Y) (xs : List α) (hn : n = xs.length) {g : TG} {tb : TS} {D : Ends} {σ : St} {H : Hp} (I : List α → St → Hp → Prop) (Mid : St → Hp → Prop)
    (k : ∀ σ H, Mid σ H → D.nx σ H) (h0 : I xs σ H) (hG : ∀ l σ H, I l σ H → Gd H)
    (hs : (∀ σ H, Mid σ H → D.nx σ H) → ∀ (i : Nat) x l σ H v H', xs[i]? = some x → I (x :: l) σ H → Y i H v H' → g v σ H' fun σ2 H2 => tb { D with nx := I l, ct := I l, bk := D.nx } σ2 H2) (hd : ∀ σ H, I [] σ H → Mid σ H) :
    ∃ W : Nat → Nat → St → Hp → Prop, (∃ m, W 0 m σ H) ∧ ∀ i m σ H, W i m σ H →
      (J.stop i H ∧ D.nx σ H) ∨ (J.go i H ∧ ∃ N : St → Hp → Prop, (∀ σ' H', N σ' H' → ∃ m', m' < m ∧ W (i + 1) m' σ' H') ∧ ∀ x H', J.yld i H x H' → g x σ H' fun σ2 H2 => tb { D with nx := N, ct := N, bk := D.nx } σ2 H2) :=
  for_w w xs hn I h0 hG (hs k) fun σ H h => k σ H (hd σ H h)
/-- a while whose first test is asked at once; n is the fuel -/
theorem wh_wx {c : TT} {tb : TS} {D : Ends} {σ : St} {H : Hp} (I : Nat → St → Hp → Prop) (Mid : St → Hp → Prop) (k : ∀ σ H, Mid σ H → D.nx σ H) (n : Nat) (h0 : I n σ H)
    (hs : (∀ σ H, Mid σ H → D.nx σ H) → ∀ n σ H, I n σ H → ∃ m, n = m + 1 ∧ c σ H fun b H1 => if b = true then (∃ N : St → Hp → Prop, (∀ σ' H', N σ' H' → ∃ m', m' < n ∧ I m' σ' H') ∧ tb { D with nx := N, ct := N, bk := D.nx } σ H1) else D.nx σ H1) : tWhile c tb D σ H :=
  ⟨I, ⟨n, h0⟩, fun n σ H h => by
    obtain ⟨m, _, h⟩ := hs k n σ H h
    exact h⟩
theorem wh_n {I : Nat → St → Hp → Prop} {m : Nat} {P : (St → Hp → Prop) → Prop} (h : P (I m)) : ∃ N : St → Hp → Prop, (∀ σ' H', N σ' H' → ∃ m', m' < m + 1 ∧ I m' σ' H') ∧ P N := ⟨I m, fun _ _ q => ⟨m, Nat.lt_succ_self _, q⟩, h⟩
theorem lc_w {α : Type} {J : It} {n : Nat} {Gd : Hp → Prop} {Y : Nat → Hp → V → Hp → Prop} (w : Walk J n Gd Y) (xs : List α) (hn : n = xs.length) {g : TG} {tt : TT} {te : TE} {vs : List Nat} {σ : St} {H1 : Hp} {D : Addr} {Qd : Hp → Prop} (I : List α → Hp → Prop)
    (h0 : I xs (upd H1 D (.lst []))) (hG : ∀ l H, I l H → Gd H)
    (hs : ∀ (i : Nat) x l H v H', xs[i]? = some x → I (x :: l) H → Y i H v H' → g v (wipe σ vs) H' fun σ2 H2 => wipe σ2 vs = wipe σ vs ∧ tt σ2 H2 fun b H3 =>
      if b = true then te σ2 H3 fun y H4 => ∃ acc, H4 D = some (.lst acc) ∧ acc.length < sizeLine ∧ I l (upd H4 D (.lst (acc ++ [y]))) else I l H3) (hd : ∀ H, I [] H → Qd H) :
    ∃ W : Nat → Nat → Hp → Prop, (∃ m, W 0 m (upd H1 D (.lst []))) ∧ ∀ i m H, W i m H →
      (J.stop i H ∧ Qd H) ∨ (J.go i H ∧ ∃ Nx : Hp → Prop, (∀ H', Nx H' → ∃ m', m' < m ∧ W (i + 1) m' H') ∧ ∀ x H', J.yld i H x H' → g x (wipe σ vs) H' fun σ2 H2 => wipe σ2 vs = wipe σ vs ∧ tt σ2 H2 fun b H3 =>
        if b = true then te σ2 H3 fun y H4 => ∃ acc, H4 D = some (.lst acc) ∧ acc.length < sizeLine ∧ Nx (upd H4 D (.lst (acc ++ [y]))) else Nx H3) := by
  refine lc_it w (fun i H => I (xs.drop i) H) h0 (fun i H _ h => hG _ H h) (fun i v H H' hi h y => ?_) (fun H h => ?_)
  · have hi' : i < xs.length := by omega
    have e : xs.drop i = xs[i] :: xs.drop (i + 1) := List.drop_eq_getElem_cons hi'
    have h : I (xs.drop i) H := h
    rw [e] at h
    exact hs i xs[i] (xs.drop (i + 1)) H v H' (List.getElem?_eq_getElem hi') h y
  · have e : xs.drop n = [] := List.drop_eq_nil_of_le (by omega)
    have h : I (xs.drop n) H := h
    rw [e] at h
    exact hd H h

/-- no item is None -/
def allS {α : Type} : List (Option α) → Option (List α)
  | [] => some []
  | none :: _ => none
  | some x :: l => (allS l).bind fun r => some (x :: r)
theorem al_allS {α : Type} {ρ : Rep α} {G : Hp} : ∀ {vs : List V} {xs : List (Option α)} {ys : List α}, AL (rO ρ) G vs xs → allS xs = some ys → AL ρ G vs ys
  | _, _, _, .nil, h => by
    obtain rfl := some_in h
    exact .nil
  | _, _, _, .cons (y := none) _ _, h => by cases h
  | _, _, _, .cons (y := some x) hx t, h => by
    obtain ⟨r, hr, h⟩ := bs h
    obtain rfl := some_in h
    exact .cons hx (al_allS t hr)

/-! ### kinds -/
section
variable {K : PySem.W.Frag} {H : Hp} {Q : VK}
theorem kit_of_ty {a b : String} {r : Bool} (h : kitB a b = some r) : PySem.W.kitOne K (.type a) (.type b) = some r := kit_ty h
theorem k_ii : PySem.W.kitOne K (.type "int") (.type "int") = some true := kit_ty (by decide +kernel)
theorem k_ib : PySem.W.kitOne K (.type "int") (.type "bool") = some false := kit_ty (by decide +kernel)
theorem k_is : PySem.W.kitOne K (.type "int") (.type "str") = some false := kit_ty (by decide +kernel)
theorem k_il : PySem.W.kitOne K (.type "int") (.type "list") = some false := kit_ty (by decide +kernel)
theorem k_it : PySem.W.kitOne K (.type "int") (.type "tuple") = some false := kit_ty (by decide +kernel)
theorem k_bi : PySem.W.kitOne K (.type "bool") (.type "int") = some true := kit_ty (by decide +kernel)
theorem k_bb : PySem.W.kitOne K (.type "bool") (.type "bool") = some true := kit_ty (by decide +kernel)
theorem k_bs : PySem.W.kitOne K (.type "bool") (.type "str") = some false := kit_ty (by decide +kernel)
theorem k_bl : PySem.W.kitOne K (.type "bool") (.type "list") = some false := kit_ty (by decide +kernel)
theorem k_si : PySem.W.kitOne K (.type "str") (.type "int") = some false := kit_ty (by decide +kernel)
theorem k_sb : PySem.W.kitOne K (.type "str") (.type "bool") = some false := kit_ty (by decide +kernel)
theorem k_ss : PySem.W.kitOne K (.type "str") (.type "str") = some true := kit_ty (by decide +kernel)
theorem k_sl : PySem.W.kitOne K (.type "str") (.type "list") = some false := kit_ty (by decide +kernel)
theorem k_st : PySem.W.kitOne K (.type "str") (.type "tuple") = some false := kit_ty (by decide +kernel)
theorem k_ni : PySem.W.kitOne K (.type "NoneType") (.type "int") = some false := kit_ty (by decide +kernel)
theorem k_nb : PySem.W.kitOne K (.type "NoneType") (.type "bool") = some false := kit_ty (by decide +kernel)
theorem k_ns : PySem.W.kitOne K (.type "NoneType") (.type "str") = some false := kit_ty (by decide +kernel)
theorem k_nl : PySem.W.kitOne K (.type "NoneType") (.type "list") = some false := kit_ty (by decide +kernel)
theorem k_nt : PySem.W.kitOne K (.type "NoneType") (.type "tuple") = some false := kit_ty (by decide +kernel)
theorem k_li : PySem.W.kitOne K (.type "list") (.type "int") = some false := kit_ty (by decide +kernel)
theorem k_lb : PySem.W.kitOne K (.type "list") (.type "bool") = some false := kit_ty (by decide +kernel)
theorem k_ls : PySem.W.kitOne K (.type "list") (.type "str") = some false := kit_ty (by decide +kernel)
theorem k_ll : PySem.W.kitOne K (.type "list") (.type "list") = some true := kit_ty (by decide +kernel)
theorem k_lt : PySem.W.kitOne K (.type "list") (.type "tuple") = some false := kit_ty (by decide +kernel)
theorem k_ti : PySem.W.kitOne K (.type "tuple") (.type "int") = some false := kit_ty (by decide +kernel)
theorem k_tb : PySem.W.kitOne K (.type "tuple") (.type "bool") = some false := kit_ty (by decide +kernel)
theorem k_ts : PySem.W.kitOne K (.type "tuple") (.type "str") = some false := kit_ty (by decide +kernel)
theorem k_tl : PySem.W.kitOne K (.type "tuple") (.type "list") = some false := kit_ty (by decide +kernel)
theorem k_tt : PySem.W.kitOne K (.type "tuple") (.type "tuple") = some true := kit_ty (by decide +kernel)
theorem isi {x : V} {T : String} {t : Value} {b : Bool} (ty : TyX K H x t) (k : PySem.W.kitOne K t (.type T) = some b) (q : Q (.bl b) H) : rIsi K [x, .ty T] H Q := ⟨x, .ty T, t, .type T, b, rfl, .ty T, ty, k, q⟩
theorem ty_i {i : Int} : TyX K H (.int i) (.type "int") := .base (.int i)
theorem ty_b {i : Bool} : TyX K H (.bl i) (.type "bool") := .base (.bl i)
theorem ty_s {i : Str} : TyX K H (.str i) (.type "str") := .base (.str i)
theorem ty_n : TyX K H .non (.type "NoneType") := .base .non
theorem ty_l {a : Addr} {vs : List V} (h : SqL K H a vs) : TyX K H (.ref a) (.type "list") := by
  rcases h with (h | ⟨o, h⟩) | ⟨o, its, n, h, c, _⟩
  · exact .base (.lst h)
  · exact .base (.frz h)
  · exact .kList h c
theorem ty_t {a : Addr} {vs : List V} (h : SqT K H a vs) : TyX K H (.ref a) (.type "tuple") := by
  rcases h with (h | ⟨o, h⟩) | ⟨o, its, n, h, c, _⟩
  · exact .base (.tup h)
  · exact .fTuple h
  · exact .kTuple h c
end

/-! ### lists by place, membership, equality -/
theorem ixN_len {n : Nat} {i : Int} {j : Nat} (h : ixN n i = some j) : j < n := by
  unfold ixN at h
  split at h
  · split at h
    · injection h with h; omega
    · cases h
  · split at h
    · injection h with h; omega
    · cases h
theorem at_l {α : Type} {ρ : Rep α} {G : Hp} {vs : List V} {xs : List α} {i : Int} {y : α} (h : AL ρ G vs xs) (e : atI xs i = some y) : ∃ v, atI vs i = some v ∧ ρ.r G v y := by
  unfold atI at e ⊢
  rw [h.len]
  obtain ⟨j, hj, e⟩ := Option.bind_eq_some_iff.mp e
  obtain ⟨v, hv, r⟩ := A2.get h e
  exact ⟨v, by rw [hj]; exact hv, r⟩
theorem atI_I {xs : List Int} {i y : Int} (e : atI xs i = some y) : atI (xs.map V.int) i = some (.int y) := by
  obtain ⟨v, h, r⟩ := at_l (la_I (fun _ => none) xs) e
  have r : v = .int y := r
  rw [← r]
  exact h
theorem flat_I (xs : List Int) : (xs.map V.int).all flatV = true := by
  rw [List.all_map]
  exact List.all_eq_true.mpr fun _ _ => rfl
theorem flat_S (xs : List Str) : (xs.map V.str).all flatV = true := by
  rw [List.all_map]
  exact List.all_eq_true.mpr fun _ _ => rfl
end Tw

/-! Tw3: rules by plain data. -/
namespace Tw
open PySem L2

/-! ### names of the built-ins -/
theorem bt_len : bootBuiltins "len" = some (.builtin "len") := by decide +kernel
theorem bt_isi : bootBuiltins "isinstance" = some (.builtin "isinstance") := by decide +kernel
theorem bt_int : bootBuiltins "int" = some (.type "int") := by decide +kernel
theorem bt_str : bootBuiltins "str" = some (.type "str") := by decide +kernel
theorem bt_bool : bootBuiltins "bool" = some (.type "bool") := by decide +kernel
theorem bt_list : bootBuiltins "list" = some (.type "list") := by decide +kernel
theorem bt_tuple : bootBuiltins "tuple" = some (.type "tuple") := by decide +kernel
theorem bt_max : bootBuiltins "max" = some (.builtin "max") := by decide +kernel
theorem bt_min : bootBuiltins "min" = some (.builtin "min") := by decide +kernel
theorem bt_all : bootBuiltins "all" = some (.builtin "all") := by decide +kernel
theorem bt_abs : bootBuiltins "abs" = some (.builtin "abs") := by decide +kernel
theorem bt_sorted : bootBuiltins "sorted" = some (.builtin "sorted") := by decide +kernel

/-! ### data that can be compared -/
structure Eqd {α : Type} (ρ : Rep α) where
  d : α → PyData
  h : ∀ (K : PySem.W.Frag) {H v x}, ρ.r H v x → Dp K H v (d x)
  ok : α → Bool
  sh : ∀ x, ok x = true → (d x).canLay0 = true
  dp : Nat
  dl : ∀ x, (d x).depth ≤ dp
  inj : ∀ x y, PyData.eqv (d x) (d y) = true ↔ x = y
theorem Eqd.shaped {α : Type} {ρ : Rep α} (e : Eqd ρ) (hd : e.dp ≤ 60) (x : α) (o : e.ok x = true) : SeqAt.shaped (e.d x) = true := by
  unfold SeqAt.shaped
  rw [e.sh x o, Bool.true_and]
  exact decide_eq_true (Nat.le_trans (e.dl x) (by omega))
theorem Eqd.eq {α : Type} [DecidableEq α] {ρ : Rep α} (e : Eqd ρ) (x y : α) : PyData.eqv (e.d x) (e.d y) = decide (x = y) := by
  by_cases h : x = y
  · rw [decide_eq_true h]
    exact (e.inj x y).mpr h
  · rw [decide_eq_false h]
    cases q : PyData.eqv (e.d x) (e.d y) with
    | false => rfl
    | true => exact absurd ((e.inj x y).mp q) h
theorem eqv_ii (i j : Int) : PyData.eqv (.int i) (.int j) = (i == j) := by simp [PyData.eqv]
theorem eqv_ll (x y : List PyData) : PyData.eqv (.list x) (.list y) = PyData.eqvAll x y := by simp [PyData.eqv]
def eqdI : Eqd rI where
  d := .int
  h := fun K {H v x} e => by
    have e : v = .int x := e
    rw [e]
    exact .int x
  ok := fun _ => true
  sh := fun _ _ => by simp [PyData.canLay0]
  dp := 0
  dl := fun _ => by simp [PyData.depth]
  inj := fun x y => by simp [eqv_ii]
theorem eqv_ss (i j : Str) : PyData.eqv (.str i) (.str j) = (i == j) := by simp [PyData.eqv]
def eqdS : Eqd rS where
  d := .str
  h := fun K {H v x} e => by
    have e : v = .str x := e
    rw [e]
    exact .str x
  ok := fun x => PyData.strOk x
  sh := fun _ o => by rw [PyData.canLay0]; exact o
  dp := 0
  dl := fun _ => by simp [PyData.depth]
  inj := fun x y => by simp [eqv_ss]
theorem eqv_bb (i j : Bool) : PyData.eqv (.bool i) (.bool j) = (i == j) := by simp [PyData.eqv]
def eqdB : Eqd rB where
  d := .bool
  h := fun K {H v x} e => by
    have e : v = .bl x := e
    rw [e]
    exact .bl x
  ok := fun _ => true
  sh := fun _ _ => by simp [PyData.canLay0]
  dp := 0
  dl := fun _ => by simp [PyData.depth]
  inj := fun x y => by simp [eqv_bb]
theorem dpAll_of {α : Type} {ρ : Rep α} (e : Eqd ρ) (K : PySem.W.Frag) {H : Hp} : ∀ {vs : List V} {xs : List α}, AL ρ H vs xs → DpAll K H vs (xs.map e.d)
  | _, _, .nil => .nil
  | _, _, .cons h t => .cons (e.h K h) (dpAll_of e K t)
theorem lay_all {α : Type} {ρ : Rep α} (e : Eqd ρ) : ∀ xs : List α, xs.all e.ok = true → PyData.canLayAll0 (xs.map e.d) = true
  | [], _ => by simp [PyData.canLayAll0]
  | x :: xs, o => by
    rw [List.all_cons, Bool.and_eq_true] at o
    rw [List.map_cons, PyData.canLayAll0, e.sh x o.1, lay_all e xs o.2]
    rfl
theorem dep_all {α : Type} {ρ : Rep α} (e : Eqd ρ) : ∀ xs : List α, PyData.depthAll (xs.map e.d) ≤ e.dp
  | [] => by simp [PyData.depthAll]
  | x :: xs => by
    rw [List.map_cons, PyData.depthAll]
    exact Nat.max_le.mpr ⟨e.dl x, dep_all e xs⟩
theorem eqv_all {α : Type} {ρ : Rep α} (e : Eqd ρ) : ∀ xs ys : List α, PyData.eqvAll (xs.map e.d) (ys.map e.d) = true ↔ xs = ys
  | [], [] => by simp [PyData.eqvAll]
  | [], y :: ys => by simp [PyData.eqvAll]
  | x :: xs, [] => by simp [PyData.eqvAll]
  | x :: xs, y :: ys => by
    rw [List.map_cons, List.map_cons, PyData.eqvAll, Bool.and_eq_true, e.inj, eqv_all e xs ys, List.cons.injEq]
def eqdL {α : Type} {ρ : Rep α} (e : Eqd ρ) : Eqd (rL ρ) where
  d := fun xs => .list (xs.map e.d)
  h := fun K {H v xs} ⟨a, vs, hv, hs, hal⟩ => by
    rw [hv]
    exact .lst (SqL.of hs) (dpAll_of e K hal)
  ok := fun xs => xs.all e.ok
  sh := fun xs o => by
    rw [PyData.canLay0]
    exact lay_all e xs o
  dp := e.dp + 1
  dl := fun xs => by
    rw [PyData.depth]
    have := dep_all e xs
    omega
  inj := fun x y => by rw [eqv_ll, eqv_all e]
section
variable {X : Cx} {α : Type} [DecidableEq α] {ρ : Rep α}
theorem okI (xs : List Int) : (eqdL eqdI).ok xs = true := List.all_eq_true.mpr fun _ _ => rfl
theorem okLI (xs : List (List Int)) : (eqdL (eqdL eqdI)).ok xs = true := List.all_eq_true.mpr fun x _ => okI x
theorem okLLI (xs : List (List (List Int))) : (eqdL (eqdL (eqdL eqdI))).ok xs = true := List.all_eq_true.mpr fun x _ => okLI x
def rEqT {ρ : Rep α} (e : Eqd ρ) : R2 := fun x y H Q => ∃ a b : α, ρ.r H x a ∧ ρ.r H y b ∧ e.ok a = true ∧ e.ok b = true ∧ Q (.bl (decide (a = b))) H
def rNeT {ρ : Rep α} (e : Eqd ρ) : R2 := fun x y H Q => ∃ a b : α, ρ.r H x a ∧ ρ.r H y b ∧ e.ok a = true ∧ e.ok b = true ∧ Q (.bl (!decide (a = b))) H
theorem op_eqT (hu : X.A.units + 64 < cLine) (e : Eqd ρ) (hd : e.dp ≤ 60) : OpR X (compareOp .Eq) (rEqT e) := fun pins s σ H x y v u Q I rx ry h => by
  obtain ⟨a, b, ha, hb, oa, ob, q⟩ := h
  exact op_eqD hu pins s σ H x y v u Q I rx ry ⟨e.d a, e.d b, e.h _ ha, e.h _ hb, e.shaped hd a oa, e.shaped hd b ob, by rw [e.eq]; exact q⟩
theorem op_neT (hu : X.A.units + 64 < cLine) (e : Eqd ρ) (hd : e.dp ≤ 60) : OpR X (compareOp .NotEq) (rNeT e) := fun pins s σ H x y v u Q I rx ry h => by
  obtain ⟨a, b, ha, hb, oa, ob, q⟩ := h
  exact op_neD hu pins s σ H x y v u Q I rx ry ⟨e.d a, e.d b, e.h _ ha, e.h _ hb, e.shaped hd a oa, e.shaped hd b ob, by rw [e.eq]; exact q⟩
/-- x in xs, by data -/
def rInT {ρ : Rep α} (e : Eqd ρ) : R2 := fun x y H Q => ∃ (a : α) (b : List α), ρ.r H x a ∧ (rL ρ).r H y b ∧ e.ok a = true ∧ b.all e.ok = true ∧ Q (.bl (decide (a ∈ b))) H
def rNinT {ρ : Rep α} (e : Eqd ρ) : R2 := fun x y H Q => ∃ (a : α) (b : List α), ρ.r H x a ∧ (rL ρ).r H y b ∧ e.ok a = true ∧ b.all e.ok = true ∧ Q (.bl (!decide (a ∈ b))) H
theorem any_mem (e : Eqd ρ) (a : α) (b : List α) : ((b.map e.d).any fun z => PyData.eqv z (e.d a)) = decide (a ∈ b) := by
  induction b with
  | nil => simp
  | cons c b ih =>
    rw [List.map_cons, List.any_cons, ih, e.eq, ← Bool.decide_or]
    congr 1
    rw [List.mem_cons]
    exact propext ⟨fun h => h.elim (fun h => .inl h.symm) .inr, fun h => h.elim (fun h => .inl h.symm) .inr⟩
theorem op_inT (hu : X.A.units + 65 < cLine) (e : Eqd ρ) (hd : e.dp ≤ 50) : OpR X (compareOp .In) (rInT e) := fun pins s σ H x y v u Q I rx ry h => by
  obtain ⟨a, b, ha, hb, oa, ob, q⟩ := h
  refine op_inD hu pins s σ H x y v u Q I rx ry ⟨e.d a, b.map e.d, e.h _ ha, (eqdL e).h _ hb, e.shaped (by omega) a oa, (eqdL e).shaped (show e.dp + 1 ≤ 60 by omega) b ob, ?_⟩
  rw [any_mem]
  exact q
theorem op_ninT (hu : X.A.units + 65 < cLine) (e : Eqd ρ) (hd : e.dp ≤ 50) : OpR X (compareOp .NotIn) (rNinT e) := fun pins s σ H x y v u Q I rx ry h => by
  obtain ⟨a, b, ha, hb, oa, ob, q⟩ := h
  refine op_notInD hu pins s σ H x y v u Q I rx ry ⟨e.d a, b.map e.d, e.h _ ha, (eqdL e).h _ hb, e.shaped (by omega) a oa, (eqdL e).shaped (show e.dp + 1 ≤ 60 by omega) b ob, ?_⟩
  rw [any_mem]
  exact q
end
theorem hu65 {k : Nat} {A : Around} (hr : Room k A) : A.units + 65 < cLine := by have := hr.un; omega

/-! ### flat things -/
section
variable {X : Cx}
def rEqS : R2 := fun x y H Q => ∃ a b : Str, x = .str a ∧ y = .str b ∧ Q (.bl (decide (a = b))) H
def rNeS : R2 := fun x y H Q => ∃ a b : Str, x = .str a ∧ y = .str b ∧ Q (.bl (!decide (a = b))) H
theorem dec_str (a b : Str) : decide (V.str a = V.str b) = decide (a = b) := by
  by_cases h : a = b
  · rw [h, decide_eq_true rfl, decide_eq_true rfl]
  · rw [decide_eq_false h, decide_eq_false fun z => h (V.str.inj z)]
theorem op_eqS : OpR X (compareOp .Eq) rEqS := fun pins s σ H x y v u Q I rx ry h => by
  obtain ⟨a, b, rfl, rfl, q⟩ := h
  exact op_eq pins s σ H _ _ v u Q I rx ry ⟨rfl, by rw [dec_str]; exact q⟩
theorem op_neS : OpR X (compareOp .NotEq) rNeS := fun pins s σ H x y v u Q I rx ry h => by
  obtain ⟨a, b, rfl, rfl, q⟩ := h
  exact op_ne pins s σ H _ _ v u Q I rx ry ⟨rfl, by rw [dec_str]; exact q⟩
theorem dec_bl (a b : Bool) : decide (V.bl a = V.bl b) = decide (a = b) := by cases a <;> cases b <;> rfl
def rEqBl : R2 := fun x y H Q => ∃ a b : Bool, x = .bl a ∧ y = .bl b ∧ Q (.bl (decide (a = b))) H
def rNeBl : R2 := fun x y H Q => ∃ a b : Bool, x = .bl a ∧ y = .bl b ∧ Q (.bl (!decide (a = b))) H
theorem op_eqBl : OpR X (compareOp .Eq) rEqBl := fun pins s σ H x y v u Q I rx ry h => by
  obtain ⟨a, b, rfl, rfl, q⟩ := h
  exact op_eq pins s σ H _ _ v u Q I rx ry ⟨rfl, by rw [dec_bl]; exact q⟩
theorem op_neBl : OpR X (compareOp .NotEq) rNeBl := fun pins s σ H x y v u Q I rx ry h => by
  obtain ⟨a, b, rfl, rfl, q⟩ := h
  exact op_ne pins s σ H _ _ v u Q I rx ry ⟨rfl, by rw [dec_bl]; exact q⟩
def rEqI : R2 := rI0 fun i j => .bl (decide (i = j))
def rNeI : R2 := rI0 fun i j => .bl (!decide (i = j))
theorem dec_int (a b : Int) : decide (V.int a = V.int b) = decide (a = b) := by
  by_cases h : a = b
  · rw [h, decide_eq_true rfl, decide_eq_true rfl]
  · rw [decide_eq_false h, decide_eq_false fun z => h (V.int.inj z)]
theorem op_eqI : OpR X (compareOp .Eq) rEqI := fun pins s σ H x y v u Q I rx ry h => by
  obtain ⟨a, b, rfl, rfl, q⟩ := h
  exact op_eq pins s σ H _ _ v u Q I rx ry ⟨rfl, by rw [dec_int]; exact q⟩
theorem op_neI : OpR X (compareOp .NotEq) rNeI := fun pins s σ H x y v u Q I rx ry h => by
  obtain ⟨a, b, rfl, rfl, q⟩ := h
  exact op_ne pins s σ H _ _ v u Q I rx ry ⟨rfl, by rw [dec_int]; exact q⟩
/-- an int, a text in a list of such -/
theorem inV_I (x : Int) (xs : List Int) : inV (.int x) (xs.map V.int) = decide (x ∈ xs) := by
  unfold inV
  induction xs with
  | nil => simp
  | cons y ys ih =>
    rw [List.map_cons, List.any_cons, ih]
    show ((y == x) || decide (x ∈ ys)) = _
    by_cases h : x = y
    · subst h; simp
    · have h2 : (y == x) = false := by simpa using fun z : y = x => h z.symm
      rw [h2, Bool.false_or]
      congr 1
      simp [h]
theorem inV_S (x : Str) (xs : List Str) : inV (.str x) (xs.map V.str) = decide (x ∈ xs) := by
  unfold inV
  induction xs with
  | nil => simp
  | cons y ys ih =>
    rw [List.map_cons, List.any_cons, ih]
    show ((y == x) || decide (x ∈ ys)) = _
    by_cases h : x = y
    · subst h; simp
    · have h2 : (y == x) = false := by simpa using fun z : y = x => h z.symm
      rw [h2, Bool.false_or]
      congr 1
      simp [h]
def rInI : R2 := fun x y H Q => ∃ (i : Int) (a : Addr) (vs : List V) (xs : List Int), x = .int i ∧ y = .ref a ∧ H a = some (.lst vs) ∧ AL rI H vs xs ∧ Q (.bl (decide (i ∈ xs))) H
def rNinI : R2 := fun x y H Q => ∃ (i : Int) (a : Addr) (vs : List V) (xs : List Int), x = .int i ∧ y = .ref a ∧ H a = some (.lst vs) ∧ AL rI H vs xs ∧ Q (.bl (!decide (i ∈ xs))) H
theorem op_inI : OpR X (compareOp .In) rInI := fun pins s σ H x y v u Q I rx ry h => by
  obtain ⟨i, a, vs, xs, rfl, rfl, h, hal, q⟩ := h
  rw [al_I hal] at h
  exact op_in_seq pins s σ H _ _ v u Q I rx ry ⟨a, _, rfl, .inl (SqL.of h), rfl, flat_I xs, by rw [inV_I]; exact q⟩
theorem op_ninI : OpR X (compareOp .NotIn) rNinI := fun pins s σ H x y v u Q I rx ry h => by
  obtain ⟨i, a, vs, xs, rfl, rfl, h, hal, q⟩ := h
  rw [al_I hal] at h
  exact op_notIn_seq pins s σ H _ _ v u Q I rx ry ⟨a, _, rfl, .inl (SqL.of h), rfl, flat_I xs, by rw [inV_I]; exact q⟩
def rInSl : R2 := fun x y H Q => ∃ (i : Str) (a : Addr) (vs : List V) (xs : List Str), x = .str i ∧ y = .ref a ∧ H a = some (.lst vs) ∧ AL rS H vs xs ∧ Q (.bl (decide (i ∈ xs))) H
def rNinSl : R2 := fun x y H Q => ∃ (i : Str) (a : Addr) (vs : List V) (xs : List Str), x = .str i ∧ y = .ref a ∧ H a = some (.lst vs) ∧ AL rS H vs xs ∧ Q (.bl (!decide (i ∈ xs))) H
theorem op_inSl : OpR X (compareOp .In) rInSl := fun pins s σ H x y v u Q I rx ry h => by
  obtain ⟨i, a, vs, xs, rfl, rfl, h, hal, q⟩ := h
  rw [al_S hal] at h
  exact op_in_seq pins s σ H _ _ v u Q I rx ry ⟨a, _, rfl, .inl (SqL.of h), rfl, flat_S xs, by rw [inV_S]; exact q⟩
theorem op_ninSl : OpR X (compareOp .NotIn) rNinSl := fun pins s σ H x y v u Q I rx ry h => by
  obtain ⟨i, a, vs, xs, rfl, rfl, h, hal, q⟩ := h
  rw [al_S hal] at h
  exact op_notIn_seq pins s σ H _ _ v u Q I rx ry ⟨a, _, rfl, .inl (SqL.of h), rfl, flat_S xs, by rw [inV_S]; exact q⟩
/-- calls -/
def rLenL : List V → Hp → VK → Prop := fun xs H Q => ∃ (p : Addr) (vs : List V) (n : Nat), xs = [.ref p] ∧ H p = some (.lst vs) ∧ vs.length = n ∧ Q (.int (n : Int)) H
theorem call_lenL : CallR X (.builtin "len") rLenL := fun pins s σ H xs us Q I r h => by
  obtain ⟨p, vs, n, rfl, h, rfl, q⟩ := h
  exact call_len_seq pins s σ H _ us Q I r ⟨p, vs, rfl, .inl (SqL.of h), q⟩
def rLenSc (K : PySem.W.Frag) : List V → Hp → VK → Prop := fun xs H Q => ∃ (p : Addr) (ns : List Int), xs = [.ref p] ∧ SqL K H p (ns.map V.int) ∧ Q (.int ((ns.length : Nat) : Int)) H
theorem call_lenSc' : CallR X (.builtin "len") (rLenSc X.K) := fun pins s σ H xs us Q I r h => by
  obtain ⟨p, ns, rfl, h, q⟩ := h
  exact call_len_seq pins s σ H _ us Q I r ⟨p, _, rfl, .inl h, by rw [List.length_map]; exact q⟩
theorem call_lenSc {K : PySem.W.Frag} (h : X.K = K) : CallR X (.builtin "len") (rLenSc K) := by rw [← h]; exact call_lenSc'
theorem ix_l {K : PySem.W.Frag} (h : X.K = K) : IxR X (rIxL K) := by rw [← h]; exact ix_list
theorem sl_l {K : PySem.W.Frag} (h : X.K = K) : SlR X (rSlL K) := by rw [← h]; exact sl_list
theorem call_is {K : PySem.W.Frag} (h : X.K = K) : CallR X (.builtin "isinstance") (rIsi K) := by rw [← h]; exact call_isi
def rIntI : List V → Hp → VK → Prop := fun xs H Q => ∃ i, xs = [.int i] ∧ Q (.int i) H
theorem call_intI : CallR X (.type "int") rIntI := fun pins s σ H xs us Q I r h => by
  obtain ⟨i, rfl, q⟩ := h
  exact call_int1 pins s σ H _ us Q I r (.inl ⟨i, rfl, q⟩)
def b2I (b : Bool) : Int := if b then 1 else 0
def rIntB : List V → Hp → VK → Prop := fun xs H Q => ∃ i, xs = [.bl i] ∧ Q (.int (b2I i)) H
theorem call_intB : CallR X (.type "int") rIntB := fun pins s σ H xs us Q I r h => by
  obtain ⟨i, rfl, q⟩ := h
  exact call_int1 pins s σ H _ us Q I r (.inr ⟨i, rfl, q⟩)
/-- str(i) -/
def sI (i : Int) : Str := toString i
def sOk (i : Int) : Prop := i.natAbs.log2 < 1920
instance (i : Int) : Decidable (sOk i) := inferInstanceAs (Decidable (_ < _))
def rStrI : List V → Hp → VK → Prop := fun xs H Q => ∃ i, xs = [.int i] ∧ sOk i ∧ Q (.str (sI i)) H
theorem call_strI : CallR X (.type "str") rStrI := call_str_int
instance (a b : Int) : Decidable (CMul a b) := inferInstanceAs (Decidable (_ ∨ _))
instance (a b : Int) : Decidable (CDivW a b) := inferInstanceAs (Decidable (_ ∧ _))
instance (a b : Int) : Decidable (CPow a b) := inferInstanceAs (Decidable (_ ∧ _))
theorem sc_at {K : PySem.W.Frag} {H0 G0 G H : Hp} {M : MM} {a : Addr} {vs : List V} (h : SqL K H0 a vs) (c : Cf [] H0 G0 G M H) : SqL K H a vs := ex_l (fun a o e => c.ex0 a o (by simp) e) h
def jOk (a : Str) (ys : List Str) : Prop := (ys.map (·.length)).sum + ys.length * a.length ≤ 16777216
instance (a : Str) (ys : List Str) : Decidable (jOk a ys) := inferInstanceAs (Decidable (_ ≤ _))
def imax (a b : Int) : Int := if b > a then b else a
def imin (a b : Int) : Int := if b < a then b else a
def rMax2 : List V → Hp → VK → Prop := fun xs H Q => ∃ i j, xs = [.int i, .int j] ∧ Q (.int (imax i j)) H
theorem call_maxI (hc : X.calm = true) : CallR X (.builtin "max") rMax2 := call_max2 hc
def rMin2 : List V → Hp → VK → Prop := fun xs H Q => ∃ i j, xs = [.int i, .int j] ∧ Q (.int (imin i j)) H
theorem call_minI (hc : X.calm = true) : CallR X (.builtin "min") rMin2 := call_min2 hc
def rAllB : List V → Hp → VK → Prop := fun xs H Q => ∃ (p : Addr) (vs : List V) (bs : List Bool), xs = [.ref p] ∧ H p = some (.lst vs) ∧ AL rB H vs bs ∧ Q (.bl (bs.all id)) H
theorem call_allB (hc : X.calm = true) : CallR X (.builtin "all") rAllB := fun pins s σ H xs us Q I r h => by
  obtain ⟨p, vs, bs, rfl, h, hal, q⟩ := h
  rw [al_B hal] at h
  exact cr_all hc pins s σ H _ us Q I r ⟨p, bs, rfl, SqL.of h, q⟩
def rListL : List V → Hp → VK → Prop := fun xs H Q => ∃ p vs, xs = [.ref p] ∧ H p = some (.lst vs) ∧ ∀ l, H l = none → Q (.ref l) (upd H l (.lst vs))
theorem call_listL : CallR X (.type "list") rListL := fun pins s σ H xs us Q I r h => by
  obtain ⟨p, vs, rfl, h, q⟩ := h
  exact call_list_of pins s σ H _ us Q I r ⟨p, vs, rfl, .inl (SqL.of h), q⟩
/-- int(text) -/
def iOk (z : Str) : Option Int := if z.length ≤ 640 then PySem.intText? z else none
def rIntS : List V → Hp → VK → Prop := fun xs H Q => ∃ a n, xs = [.str a] ∧ iOk a = some n ∧ Q (.int n) H
theorem call_intS : CallR X (.type "int") rIntS := fun pins s σ H xs us Q I r h => by
  obtain ⟨a, n, rfl, h, q⟩ := h
  unfold iOk at h
  by_cases hz : a.length ≤ 640
  · rw [if_pos hz] at h
    exact call_int_str pins s σ H _ us Q I r ⟨a, n, rfl, h, hz, q⟩
  · rw [if_neg hz] at h
    cases h
end
/-! ### slices -/
def cutL {α : Type} (xs : List α) (lo hi : Option Int) : List α := (xs.drop (HT.sIx xs.length 0 lo)).take (HT.sIx xs.length xs.length hi - HT.sIx xs.length 0 lo)
theorem cut_al {α : Type} {ρ : Rep α} {G : Hp} {vs : List V} {xs : List α} (h : AL ρ G vs xs) (lo hi : Option Int) : AL ρ G (cutV vs lo hi) (cutL xs lo hi) := by
  unfold cutV cutL
  rw [h.len]
  exact A2.take _ (A2.drop _ h)
end Tw

/-! Tw4: sets of ints made of a list, any number of members up to 4,000; sorted. -/
namespace Tw
open PySem PySem.Spec PyProof.Rows L2

/-! ### the strictly ascending list of the members -/
def ins (x : Int) : List Int → List Int
  | [] => [x]
  | y :: l => if x < y then x :: y :: l else if x = y then y :: l else y :: ins x l
def srt (l : List Int) : List Int := l.foldr ins []
theorem ins_mem (x k : Int) : ∀ l, k ∈ ins x l ↔ k = x ∨ k ∈ l
  | [] => by simp [ins]
  | y :: l => by
    unfold ins
    split
    · simp
    · split
      · rename_i h
        subst h
        simp
      · simp only [List.mem_cons, ins_mem x k l]
        constructor
        · rintro (h | h | h)
          · exact .inr (.inl h)
          · exact .inl h
          · exact .inr (.inr h)
        · rintro (h | h | h)
          · exact .inr (.inl h)
          · exact .inl h
          · exact .inr (.inr h)
theorem ins_up (x : Int) : ∀ {l : List Int}, l.Pairwise (· < ·) → (ins x l).Pairwise (· < ·)
  | [], _ => List.pairwise_singleton _ _
  | y :: l, h => by
    obtain ⟨h1, h2⟩ := List.pairwise_cons.mp h
    unfold ins
    split
    · rename_i c
      refine List.pairwise_cons.mpr ⟨fun z hz => ?_, h⟩
      rcases List.mem_cons.mp hz with e | hz
      · omega
      · have := h1 z hz
        omega
    · split
      · exact h
      · refine List.pairwise_cons.mpr ⟨fun z hz => ?_, ins_up x h2⟩
        rcases (ins_mem x z l).mp hz with e | hz
        · omega
        · exact h1 z hz
theorem srt_mem (k : Int) : ∀ l, k ∈ srt l ↔ k ∈ l
  | [] => by simp [srt]
  | x :: l => by
    show k ∈ ins x (srt l) ↔ _
    rw [ins_mem, srt_mem k l, List.mem_cons]
theorem srt_up : ∀ l, (srt l).Pairwise (· < ·)
  | [] => List.Pairwise.nil
  | x :: l => ins_up x (srt_up l)
theorem ins_len (x : Int) : ∀ l, (ins x l).length ≤ l.length + 1
  | [] => Nat.le_refl _
  | y :: l => by
    unfold ins
    split
    · exact Nat.le_refl _
    · split
      · exact Nat.le_succ _
      · have := ins_len x l
        simp only [List.length_cons]
        omega
theorem srt_len : ∀ l, (srt l).length ≤ l.length
  | [] => Nat.le_refl _
  | x :: l => by
    have h1 := ins_len x (srt l)
    have h2 := srt_len l
    show (ins x (srt l)).length ≤ l.length + 1
    omega
theorem up_nd {l : List Int} (h : l.Pairwise (· < ·)) : l.Nodup := h.imp fun {a b} q e => by omega
/-- two strictly ascending lists with the same members are one -/
theorem up_uniq : ∀ {l m : List Int}, l.Pairwise (· < ·) → m.Pairwise (· < ·) → (∀ k, k ∈ l ↔ k ∈ m) → l = m
  | [], [], _, _, _ => rfl
  | [], y :: m, _, _, e => absurd ((e y).mpr List.mem_cons_self) (by simp)
  | x :: l, [], _, _, e => absurd ((e x).mp List.mem_cons_self) (by simp)
  | x :: l, y :: m, h, g, e => by
    obtain ⟨h1, h2⟩ := List.pairwise_cons.mp h
    obtain ⟨g1, g2⟩ := List.pairwise_cons.mp g
    have exy : x = y := by
      rcases List.mem_cons.mp ((e x).mp List.mem_cons_self) with a | a
      · exact a
      · rcases List.mem_cons.mp ((e y).mpr List.mem_cons_self) with b | b
        · exact b.symm
        · have := h1 y b
          have := g1 x a
          omega
    subst exy
    congr 1
    refine up_uniq h2 g2 fun k => ⟨fun hk => ?_, fun hk => ?_⟩
    · rcases List.mem_cons.mp ((e k).mp (List.mem_cons_of_mem _ hk)) with a | a
      · have := h1 k hk
        omega
      · exact a
    · rcases List.mem_cons.mp ((e k).mpr (List.mem_cons_of_mem _ hk)) with a | a
      · have := g1 k hk
        omega
      · exact a
theorem nd_len {l m : List Int} (h : l.Nodup) (g : m.Nodup) (e : ∀ k, k ∈ l ↔ k ∈ m) : l.length = m.length :=
  ((List.perm_ext_iff_of_nodup h g).mpr e).length_eq
/-- the ascending list, doubles kept -/
def insD (x : Int) : List Int → List Int
  | [] => [x]
  | y :: l => if x ≤ y then x :: y :: l else y :: insD x l
def srtD (l : List Int) : List Int := l.foldr insD []
theorem insD_perm (x : Int) : ∀ l, (insD x l).Perm (x :: l)
  | [] => .refl _
  | y :: l => by
    unfold insD
    split
    · exact .refl _
    · exact ((insD_perm x l).cons y).trans (List.Perm.swap x y l)
theorem srtD_perm : ∀ l, (srtD l).Perm l
  | [] => .refl _
  | x :: l => (insD_perm x (srtD l)).trans ((srtD_perm l).cons x)
theorem insD_up (x : Int) : ∀ {l : List Int}, l.Pairwise (· ≤ ·) → (insD x l).Pairwise (· ≤ ·)
  | [], _ => List.pairwise_singleton _ _
  | y :: l, h => by
    obtain ⟨h1, h2⟩ := List.pairwise_cons.mp h
    unfold insD
    split
    · rename_i c
      refine List.pairwise_cons.mpr ⟨fun z hz => ?_, h⟩
      rcases List.mem_cons.mp hz with e | hz
      · omega
      · have := h1 z hz
        omega
    · refine List.pairwise_cons.mpr ⟨fun z hz => ?_, insD_up x h2⟩
      rcases List.mem_cons.mp ((insD_perm x l).mem_iff.mp hz) with e | hz
      · omega
      · exact h1 z hz
theorem srtD_up : ∀ l, (srtD l).Pairwise (· ≤ ·)
  | [] => List.Pairwise.nil
  | x :: l => insD_up x (srtD_up l)
theorem upD_uniq {l m : List Int} (h : l.Pairwise (· ≤ ·)) (g : m.Pairwise (· ≤ ·)) (p : l.Perm m) : l = m :=
  p.eq_of_pairwise (fun a b _ _ h1 h2 => by omega) h g

/-! ### set(xs), a list of ints -/
abbrev nso (w : World) : Obj := { cls := .type "set", dict := none, data := .set #[] 0 (.fresh 0 0 (!w.params.followText "set-order")) }
section
variable {P : Program} {w : World} {A : Around} {E : Value → Shared → Prop} {s : Shared}
/-- a set made of a list of ints; the number of members comes with it -/
theorem set_of_ints {l : Addr} {us : Array Value} (ns : List Int) {Q : Value → Shared → Prop} (nh : A.handled = none) (hl : s.heap.IsList l us) (hi : IntsAre us.toList ns) (fw : ns.length + 1 < scanBound)
    (k : ∀ (hp : Heap) (tk c : Nat), SetR w hp s.heap.objs.size (fun j => decide (j ∈ ns)) c → (∀ b o, s.heap.get? b = some o → hp.get? b = some o) → Q (.ref s.heap.objs.size) { s with heap := hp, toks := tk }) :
    wpAny (model P w) A (call (.type "set") [.ref l]) Q E s := by
  have hus : us.size = ns.length := by
    have e := IntsAre.length hi
    rwa [Array.length_toList] at e
  obtain ⟨mro1, mro2, mro⟩ := PySem.F.called_set.mro
  have made := PySem.F.called_set.made
  have subT := PySem.F.called_set.sub
  have notT := PySem.F.called_set.notType
  have canC := PySem.F.called_set.canCreate
  have tc1 := PySem.F.typeCall_set_1 (.ref l)
  refine wpAny_call (codeAny_of_tree (?_ : wpAny _ _ (callAny (.type "set") _) _ _ _))
  refine wpAny_pure ⟨Code.quiet_builtin _ (by decide +kernel), ?_⟩
  refine codeAny_builtin PySem.F.entry_type_call ?_
  rw [Around.under_plain (weight_type_call_type "set" [.ref l] ([] : List (Str × Value))) rfl]
  repeat (any_goals (first | assumption | wp_step))
  refine codeAny_mono (L2.code_set_led1 (.ref l) (E := E) (Q₁ := fun v t => v = .ref s.heap.objs.size ∧ t = { s with heap := s.heap.push (nso w) }) ⟨rfl, rfl⟩) fun r1 t1 g1 => ?_
  rcases r1 with _ | fl
  · exact g1
  cases fl
  case ret v =>
    obtain ⟨rfl, rfl⟩ := g1
    have at0 : (s.heap.push (nso w)).get? s.heap.objs.size = some (nso w) := Heap.get?_push_size _ rfl
    have ty0 : Shared.TypeIs { s with heap := s.heap.push (nso w) } (.ref s.heap.objs.size) "set" := ⟨_, at0, rfl⟩
    have look := PySem.F.called_set.init.lookup
    have bnd := PySem.F.called_set.init.bind (.ref s.heap.objs.size)
    repeat (any_goals (first | assumption | wp_step))
    refine codeAny_mono (codeAny_call_builtin (R := wants (fun v t => v = .none ∧ ∃ hp tk c, t = { s with heap := hp, toks := tk } ∧ SetR w hp s.heap.objs.size (fun j => decide (j ∈ ns)) c ∧ (∀ b o, s.heap.get? b = some o → hp.get? b = some o)) E)
      PySem.F.called_set.init.plain PySem.F.entry_set_init (check_set_init_1 ty0 ?_)) fun r2 t2 g2 => ?_
    · obtain ⟨⟨kl, dc, da, sl⟩, got, isl, ep, dat⟩ := hl
      simp only at isl dat
      subst isl
      subst dat
      have got1 : (s.heap.push (nso w)).get? l = some { cls := .type "list", dict := dc, data := .seq us ep, slots := sl } := Heap.get?_push_of_some _ got
      have hl1 : (s.heap.push (nso w)).IsList l us := ⟨_, got1, rfl, ep, rfl⟩
      have f1 := PySem.F.sub_list_set
      have f2 := PySem.F.sub_list_frozenset
      have f3 : (Value.type "list" == Value.type "dict") = false := by decide +kernel
      have lt0 : l < s.heap.objs.size := Heap.lt_size got
      unfold Builtin.«set.__init__» noKeywords Builtin.Frozenset.updateFrom
      generalize hIt : pyIter = It
      wp_walk
      subst hIt
      refine wpAny_pyIter_list hl1 (wpAny_bind (wpAny_runValue ?_))
      have nh3 : A.in1.in1.in1.handled = none := by simp [nh]
      have zz : (s.heap.push (nso w)).objs.size = s.heap.objs.size + 1 := Heap.size_push ..
      have ne1 : l ≠ (s.heap.push (nso w)).objs.size := by
        rw [zz]
        exact Nat.ne_of_lt (Nat.lt_succ_of_lt lt0)
      have nin : s.heap.objs.size ∉ [(s.heap.push (nso w)).objs.size, l] := by
        rw [zz, List.mem_cons, List.mem_singleton]
        rintro (e | e)
        · exact absurd e (Nat.ne_of_lt (Nat.lt_succ_self _))
        · exact absurd e.symm (Nat.ne_of_lt lt0)
      have item : ∀ (i : Nat) (v : Value), us[i]? = some v → ∃ n t, ns[i]? = some n ∧ v = .int n t := fun i v hv => by
        have q : i < ns.length := by
          rw [← hus]
          exact (Array.getElem?_eq_some_iff.mp hv).1
        obtain ⟨t, e⟩ := IntsAre.int_at hi i v (by rw [Array.getElem?_toList]; exact hv)
        refine ⟨ns[i], t, List.getElem?_eq_getElem q, e.trans ?_⟩
        rw [List.getD_eq_getElem?_getD, List.getElem?_eq_getElem q] <;> rfl
      refine L2.set_update_ints ((Walks.list nh3 _ l ne1 us).toS) s.heap.objs.size nin ns hus fw item (us.size - 0) 0 _ (by omega) (Nat.zero_le _) ⟨⟨_, Heap.get?_push_size _ rfl, rfl, rfl⟩, hl1.push _⟩
        ⟨0, Nat.le_refl 0, L2.setR_new_at (Heap.get?_push_of_some _ at0)⟩ fun t c mv hc sr => ?_
      obtain ⟨hp, gs, dr, tk, os⟩ := t
      obtain rfl : gs = s.gens := mv.gens
      obtain rfl : dr = s.drawn := mv.drawn
      obtain rfl : os = s.os := mv.os
      show wpAny _ _ _ _ _ _
      refine wpAny_pure ?_
      show wpAny (model P w) _ (ret Value.none) _ _ _
      refine wpAny_pure ⟨rfl, hp, tk, c, rfl, sr, fun b o e => ?_⟩
      have blt : b < s.heap.objs.size := Heap.lt_size e
      refine mv.heap b o (fun z => ?_) (Heap.get?_push_of_some _ (Heap.get?_push_of_some _ e))
      rw [zz, List.mem_cons, List.mem_singleton] at z
      rcases z with z | z
      · exact absurd z (Nat.ne_of_lt blt)
      · exact absurd z (Nat.ne_of_lt (Nat.lt_succ_of_lt blt))
    · rcases r2 with _ | fl2
      · exact g2
      cases fl2
      case ret v2 =>
        obtain ⟨rfl, hp, tk, c, rfl, sr, kp⟩ := g2
        repeat (any_goals (first | assumption | wp_step))
        exact k _ _ _ sr kp
      all_goals exact g2.elim
  all_goals exact g1.elim

/-- the members of a set, sorted, any number of them -/
theorem sort_of_set {a : Addr} {S : Int → Bool} {n : Nat} {Q : Value → Shared → Prop} (R : SetR w s.heap a S n) (nh : A.handled = none)
    (k : ∀ t p (us : Array Value) (e : Nat) (ns : List Int), (∀ b o, s.heap.get? b = some o → t.heap.get? b = some o) → t.gens = s.gens → t.os = s.os → s.heap.objs.size ≤ p →
      t.heap.get? p = some (seqObj "list" us e) → IntsAre us.toList ns → ns.Pairwise (· < ·) → (∀ k, k ∈ ns ↔ S k = true) → Q (.ref p) t) :
    wpAny (model P w) A (call (.builtin "sorted") [.ref a]) Q E s := by
  obtain ⟨ob, es, ep, tb, got, ⟨isS, _⟩, dat, good, nd, mem, room, fits, _, rs, led⟩ := R
  refine Calls.call_function_entry kind_sorted plain_sorted entry_sorted (args_sorted1 _) ?_
  unfold Builtin.«sorted»
  refine wpAny_bind (m := checkCount "sorted" 1 1 _) (wpAny_pure (wpAny_bind (L2.collect_set (A := A.in1) nh ⟨ob, got, isS, dat⟩ fits room rs led fun t vs kp hz eg eo pm => ?_)))
  have few : vs.length ≤ sizeLine := by
    rw [pm.length_eq, List.length_map, Array.length_toList]
    exact fits_of_scanBound room
  have hI := L2.ints_of vs fun v hv => by
    obtain ⟨e, he, q⟩ := List.mem_map.mp (pm.mem_iff.mp hv)
    obtain ⟨i, tk, h1, _⟩ := good e he
    exact ⟨i, tk, q.symm.trans h1⟩
  have pk : (vs.map Builtin.Re.reRawOf).Perm (es.toList.map L2.keyOf) := by
    have q := pm.map Builtin.Re.reRawOf
    rwa [List.map_map] at q
  refine wpAny_bind (wpAny_newList ?_ few)
  have at1 : (t.heap.push (seqObj "list" vs.toArray 0)).get? t.heap.objs.size = some (seqObj "list" vs.toArray 0) := Heap.get?_push_size _ rfl
  refine wpAny_bind (wpAny_holding (wpAny_call_entry slot_list_sort ⟨_, at1, rfl⟩ entry_list_sort (SrtO.list_sort_ord SrtO.swo_int at1 few (fun h2 => SrtO.ints_sortable hI h2) fun out h1 h2 => ⟨.none, rfl, ?_⟩) (args_list_sort _)))
  obtain ⟨g1, g2, g3⟩ := SrtO.ints_out hI h1 h2
  obtain ⟨e2, at2⟩ := sortedHeap_at (vs := vs) (out := out.toArray) at1
  have pn := g2.trans pk
  have g1' : IntsAre out.toArray.toList (out.map SrtO.iv) := g1
  refine wpAny_pure ⟨_, rfl, k _ t.heap.objs.size out.toArray e2 _ (fun b u e => ?_) eg eo hz at2 g1' (L2.lt_of_le_nodup _ g3 (pn.nodup_iff.mpr nd)) (fun i => by rw [pn.mem_iff, ← mem i])⟩
  have q := kp b u e
  have lt1 := Heap.lt_size q
  show (sortedHeap (t.heap.push (seqObj "list" vs.toArray 0)) t.heap.objs.size vs out.toArray).get? b = _
  rw [sortedHeap_old (Nat.ne_of_lt lt1) (by rw [size_push']; exact Nat.lt_succ_of_lt lt1)]
  exact Heap.get?_push_of_some _ q
theorem set_num {a : Addr} {ns : List Int} {c : Nat} {hp : Heap} (R : SetR w hp a (fun j => decide (j ∈ ns)) c) : c = (srt ns).length := by
  obtain ⟨ob, es, ep, tb, got, _, dat, good, nd, mem, room, fits, num, _⟩ := R
  rw [← num, ← Array.length_toList, ← List.length_map (f := L2.keyOf)]
  refine nd_len nd (up_nd (srt_up ns)) fun k => ?_
  rw [← mem k, srt_mem, decide_eq_true_eq]
end

/-! ### rules -/
section
variable {X : Cx}
def setL (w : World) (a : Addr) (ns : List Int) : HO := SetO w a (fun j => decide (j ∈ ns)) (srt ns).length
def rSetL (w : World) : List V → Hp → VK → Prop := fun xs H Q => ∃ (p : Addr) (vs : List V) (ns : List Int), xs = [.ref p] ∧ H p = some (.lst vs) ∧ AL rI H vs ns ∧ ns.length ≤ 4000 ∧ ∀ a, H a = none → Q (.ref a) (upd H a (setL w a ns))
theorem call_setL' (hc : X.calm = true) : CallR X (.type "set") (rSetL X.w) := fun pins s σ H xs us Q I r h => by
  obtain ⟨p, vs, ns, rfl, h, al, few, q⟩ := h
  rw [al_I al] at h
  obtain ⟨its, rv, pl, hz⟩ := I.list (SqL.of h)
  rw [Vals.ref1 r]
  have hI : IntsAre its.toArray.toList ns := rv.ints
  refine set_of_ints ns (I.ok.hd hc) pl.isList hI (by unfold scanBound; omega) fun hp tk c sr kp => ?_
  rw [set_num sr] at sr
  exact ⟨.ref _, upd H s.heap.objs.size (setL X.w s.heap.objs.size ns), I.laid (t' := tk) kp (Nat.le_refl _) (setO_new sr), rfl, q _ (I.hok.fresh (Nat.le_refl _))⟩
theorem call_setL {w : World} (hw : X.w = w) (hc : X.calm = true) : CallR X (.type "set") (rSetL w) := by
  subst hw
  exact call_setL' hc
def rSortS (w : World) : List V → Hp → VK → Prop := fun xs H Q => ∃ (a : Addr) (ns : List Int), xs = [.ref a] ∧ H a = some (setL w a ns) ∧ ∀ p, H p = none → Q (.ref p) (upd H p (.lst ((srt ns).map V.int)))
theorem call_sortS' (hc : X.calm = true) : CallR X (.builtin "sorted") (rSortS X.w) := fun pins s σ H xs us Q I r h => by
  obtain ⟨a, ns, rfl, ha, q⟩ := h
  have sr := setO_get I ha
  rw [Vals.ref1 r]
  refine sort_of_set sr (I.ok.hd hc) fun t p us e out kp eg eo hp at2 hI up mem => ?_
  obtain rfl : out = srt ns := up_uniq up (srt_up ns) fun k => by rw [mem k, srt_mem, decide_eq_true_eq]
  have few : ((srt ns).map V.int).length ≤ sizeLine := by
    obtain ⟨ob, es, ep, tb, got, _, dat, good, nd, mem', room, fits, num, _⟩ := sr
    rw [List.length_map, ← num]
    exact fits_of_scanBound room
  have hn : H p = none := I.hok.fresh hp
  have J : Inv X pins σ (upd H p (.lst ((srt ns).map V.int))) t :=
    I.call' (ch := []) eo (Un.laid kp hp hn) (I.hok.laid kp hp ⟨few, us.toList, e, vals_of_ints hI, by simpa using at2⟩) (by rw [eg]; exact I.bare) (fun _ z => nomatch z)
  exact ⟨.ref p, _, J, rfl, q p hn⟩
theorem call_sortS {w : World} (hw : X.w = w) (hc : X.calm = true) : CallR X (.builtin "sorted") (rSortS w) := by
  subst hw
  exact call_sortS' hc
def rLenS (w : World) : List V → Hp → VK → Prop := fun xs H Q => ∃ (a : Addr) (ns : List Int), xs = [.ref a] ∧ H a = some (setL w a ns) ∧ Q (.int (((srt ns).length : Nat) : Int)) H
theorem call_lenS' : CallR X (.builtin "len") (rLenS X.w) := fun pins s σ H xs us Q I r h => by
  obtain ⟨a, ns, rfl, ha, q⟩ := h
  obtain ⟨ob, es, ep, tb, got, isS, dat, good, nd, mem, room, fits, num, _⟩ := setO_get I ha
  rw [Vals.ref1 r]
  refine call_len_set got isS dat fits (by unfold scanBound at room; omega) ⟨.int (((srt ns).length : Nat) : Int), H, I.tok _, ⟨_, by rw [num]⟩, q⟩
theorem call_lenS {w : World} (hw : X.w = w) : CallR X (.builtin "len") (rLenS w) := by
  subst hw
  exact call_lenS'
def rSortL : List V → Hp → VK → Prop := fun xs H Q => ∃ (p : Addr) (vs : List V) (ns : List Int), xs = [.ref p] ∧ H p = some (.lst vs) ∧ AL rI H vs ns ∧ ∀ a, H a = none → Q (.ref a) (upd H a (.lst ((srtD ns).map V.int)))
theorem call_sortL : CallR X (.builtin "sorted") rSortL := fun pins s σ H xs us Q I r h => by
  obtain ⟨p, vs, ns, rfl, h, al, q⟩ := h
  rw [al_I al] at h
  refine cr_sortedI pins s σ H _ us Q I r ⟨p, ns, rfl, SqL.of h, fun out a pm up hn => ?_⟩
  rw [upD_uniq up (srtD_up ns) (pm.trans (srtD_perm ns).symm)]
  exact q a hn
theorem bt_set : bootBuiltins "set" = some (.type "set") := by decide +kernel
end
end Tw

/-! Tw5: lists of rows that change; fresh rows. -/
namespace Tw
open PySem L2

/-! ### a list whose rows are looked after one by one -/
def rw9 : List Addr → List (List Int) → MM
  | a :: as, x :: xs => (a, .lst (x.map V.int)) :: rw9 as xs
  | _, _ => []
theorem rw9_get : ∀ {as : List Addr} {xs : List (List Int)} {k : Nat} {a : Addr} {x : List Int}, as[k]? = some a → xs[k]? = some x → (rw9 as xs)[k]? = some (a, .lst (x.map V.int))
  | [], _, _, _, _, h, _ => by simp at h
  | _ :: _, [], _, _, _, _, h => by simp at h
  | a :: as, x :: xs, 0, _, _, h, g => by
    simp only [List.getElem?_cons_zero, Option.some.injEq] at h g
    rw [← h, ← g]
    rfl
  | a :: as, x :: xs, k + 1, _, _, h, g => by
    show (rw9 as xs)[k]? = _
    exact rw9_get (by simpa using h) (by simpa using g)
theorem rw9_set : ∀ {as : List Addr} {xs : List (List Int)} {k : Nat} {a : Addr} (x : List Int), as[k]? = some a → (rw9 as xs).set k (a, .lst (x.map V.int)) = rw9 as (xs.set k x)
  | [], _, _, _, _, h => by simp at h
  | _ :: _, [], _, _, _, _ => by simp [rw9]
  | a :: as, x :: xs, 0, _, _, h => by
    simp only [List.getElem?_cons_zero, Option.some.injEq] at h
    rw [← h]
    rfl
  | a :: as, x :: xs, k + 1, _, y, h => by
    show (a, HO.lst (x.map V.int)) :: (rw9 as xs).set k _ = (a, HO.lst (x.map V.int)) :: rw9 as (xs.set k y)
    rw [rw9_set y (by simpa using h)]
theorem rw9_app : ∀ {as : List Addr} {xs : List (List Int)} (a : Addr) (x : List Int), as.length = xs.length → rw9 (as ++ [a]) (xs ++ [x]) = rw9 as xs ++ [(a, .lst (x.map V.int))]
  | [], [], _, _, _ => rfl
  | [], _ :: _, _, _, h => by simp at h
  | _ :: _, [], _, _, h => by simp at h
  | b :: as, y :: xs, a, x, h => by
    show (b, HO.lst (y.map V.int)) :: rw9 (as ++ [a]) (xs ++ [x]) = (b, HO.lst (y.map V.int)) :: (rw9 as xs ++ _)
    rw [rw9_app a x (by simpa using h)]
theorem rw9_fst : ∀ {as : List Addr} {xs : List (List Int)}, as.length = xs.length → (rw9 as xs).map Prod.fst = as
  | [], [], _ => rfl
  | [], _ :: _, h => by simp at h
  | _ :: _, [], h => by simp at h
  | b :: as, y :: xs, h => by
    show b :: (rw9 as xs).map Prod.fst = b :: as
    rw [rw9_fst (by simpa using h)]
section
variable {Bs : List Addr} {H0 G0 G G' H H' : Hp} {M P : MM} {p q a : Addr} {o o' : HO} {k : Nat} {as : List Addr} {xs : List (List Int)}
theorem Cf.sub (c : Cf Bs H0 G0 G (P ++ M) H) : Cf Bs H0 G0 G P H :=
  ⟨c.ex0, c.bh, c.g0, c.fr, c.gh, fun x hx => c.own x (List.mem_append_left _ hx), by
    have h := c.nd
    rw [List.map_append] at h
    exact (List.nodup_append.mp h).1⟩
theorem Cf.mutAt (c : Cf Bs H0 G0 G M H) (h : M[k]? = some (a, o)) (o' : HO) : Cf Bs H0 G0 G (M.set k (a, o')) (upd H a o') := by
  have c1 := (c.front k h).mut o'
  refine c1.perm ?_
  have hk : k < M.length := (List.getElem?_eq_some_iff.mp h).1
  have h2 : (M.set k (a, o'))[k]? = some (a, o') := by simp [hk]
  have p2 := perm_at (M.set k (a, o')) k (a, o') h2
  have e : (M.set k (a, o')).eraseIdx k = M.eraseIdx k := by
    rw [List.eraseIdx_set_eq]
  rw [e] at p2
  exact p2.symm
theorem Cf.rowget (c : Cf Bs H0 G0 G (P ++ rw9 as xs) H) {x : List Int} (ha : as[k]? = some a) (hx : xs[k]? = some x) : H a = some (.lst (x.map V.int)) :=
  c.get (P.length + k) (by rw [List.getElem?_append_right (by omega), Nat.add_sub_cancel_left]; exact rw9_get ha hx)
theorem Cf.rowset (c : Cf Bs H0 G0 G (P ++ rw9 as xs) H) {x : List Int} (ha : as[k]? = some a) (hx : xs[k]? = some x) (y : List Int) : Cf Bs H0 G0 G (P ++ rw9 as (xs.set k y)) (upd H a (.lst (y.map V.int))) := by
  have c1 := c.mutAt (k := P.length + k) (a := a) (o := .lst (x.map V.int)) (by rw [List.getElem?_append_right (by omega), Nat.add_sub_cancel_left]; exact rw9_get ha hx) (.lst (y.map V.int))
  rw [List.set_append_right _ _ (by omega), Nat.add_sub_cancel_left, rw9_set y ha] at c1
  exact c1
theorem Cf.rowpush {x : List Int} (c : Cf Bs H0 G0 G ((q, .lst (x.map V.int)) :: (P ++ rw9 as xs)) H) (hl : as.length = xs.length) : Cf Bs H0 G0 G (P ++ rw9 (as ++ [q]) (xs ++ [x])) H := by
  refine c.perm ?_
  rw [rw9_app q x hl, ← List.append_assoc]
  exact (List.perm_append_singleton _ _).symm
theorem Cf.rowsnew (c : Cf Bs H0 G0 G P H) : Cf Bs H0 G0 G (P ++ rw9 [] []) H := by
  show Cf Bs H0 G0 G (P ++ []) H
  rw [List.append_nil]
  exact c
/-- all rows are fixed -/
theorem Cf.rowsfix (hb : ∀ b ∈ Bs, b ∈ P.map Prod.fst) : ∀ {as : List Addr} {xs : List (List Int)} {G : Hp}, as.length = xs.length → Cf Bs H0 G0 G (P ++ rw9 as xs) H → ∃ G9, Ex G G9 ∧ AL (rL rI) G9 (as.map V.ref) xs ∧ Cf Bs H0 G0 G9 P H
  | [], [], G, _, c => ⟨G, Ex.refl _, .nil, by
    have c : Cf Bs H0 G0 G (P ++ []) H := c
    rwa [List.append_nil] at c⟩
  | [], _ :: _, _, h, _ => by simp at h
  | _ :: _, [], _, h, _ => by simp at h
  | b :: as, y :: xs, G, hl, c => by
    have c1 : Cf Bs H0 G0 G ((b, .lst (y.map V.int)) :: (P ++ rw9 as xs)) H := c.perm (List.perm_middle)
    have c2 := c1.freeze fun b hb' => by
      rw [List.map_append]
      exact List.mem_append_left _ (hb b hb')
    have e1 := freeze_ex c1
    obtain ⟨G9, e2, al, c3⟩ := Cf.rowsfix hb (by simpa using hl) c2
    exact ⟨G9, e1.trans e2, .cons ⟨b, _, rfl, e2 _ _ upd_same, la_I _ _⟩ al, c3⟩
/-- the rows as they are in the heap -/
theorem rows_al (P : MM) : ∀ {as : List Addr} {xs : List (List Int)} , as.length = xs.length → (∀ x ∈ rw9 as xs, H x.1 = some x.2) → AL (rL rI) H (as.map V.ref) xs
  | [], [], _, _ => .nil
  | [], _ :: _, h, _ => by simp at h
  | _ :: _, [], h, _ => by simp at h
  | b :: as, y :: xs, hl, h => .cons ⟨b, _, rfl, h (b, .lst (y.map V.int)) List.mem_cons_self, la_I _ _⟩ (rows_al P (by simpa using hl) fun x hx => h x (List.mem_cons_of_mem _ hx))
theorem Cf.rowsal (c : Cf Bs H0 G0 G (P ++ rw9 as xs) H) (hl : as.length = xs.length) : AL (rL rI) H (as.map V.ref) xs :=
  rows_al P hl fun x hx => (c.own x (List.mem_append_right _ hx)).1

/-! ### fresh rows -/
def Fr9 (H : Hp) (vs : List V) : Prop := vs.Pairwise (fun x y => ∀ a, x = V.ref a → y ≠ V.ref a) ∧ ∀ a, V.ref a ∈ vs → H a = none
theorem Fr9.nil : Fr9 H [] := ⟨List.Pairwise.nil, fun _ h => nomatch h⟩
theorem Fr9.snoc {vs : List V} {v : V} {ys : List (Option (List Int))} (f : Fr9 H0 vs) (c : Cf Bs H0 G0 G M H) (al : AL (rO (rL rI)) G vs ys) (h : ∀ a, v = V.ref a → H a = none) : Fr9 H0 (vs ++ [v]) := by
  have live : ∀ {vs : List V} {ys : List (Option (List Int))}, AL (rO (rL rI)) G vs ys → ∀ a, V.ref a ∈ vs → H a ≠ none := by
    intro vs ys al
    induction al with
    | nil => exact fun _ h => nomatch h
    | cons hx t ih =>
      rename_i x y _ _
      intro a ha
      rcases List.mem_cons.mp ha with e | ha
      · cases y with
        | none =>
          have hx : x = .non := hx
          rw [hx] at e
          cases e
        | some y =>
          obtain ⟨b, ws, e2, g, _⟩ := hx
          rw [e2] at e
          cases e
          rw [c.gh _ _ g]
          exact fun z => nomatch z
      · exact ih a ha
  refine ⟨List.pairwise_append.mpr ⟨f.1, List.pairwise_singleton _ _, fun x hx y hy a e1 e2 => ?_⟩, fun a ha => ?_⟩
  · rw [List.mem_singleton.mp hy] at e2
    subst e1
    exact live al a hx (h a e2)
  · rcases List.mem_append.mp ha with ha | ha
    · exact f.2 a ha
    · exact (c.h0 (h a (List.mem_singleton.mp ha).symm)).1
theorem al_refs : ∀ {vs : List V} {xs : List (List Int)}, AL (rL rI) G vs xs → ∃ as : List Addr, vs = as.map V.ref ∧ as.length = xs.length ∧ ∀ x ∈ rw9 as xs, G x.1 = some x.2
  | _, _, .nil => ⟨[], rfl, rfl, fun _ h => nomatch h⟩
  | _, _, .cons ⟨a, ws, e, g, h⟩ t => by
    obtain ⟨as, e2, l2, k⟩ := al_refs t
    subst e
    subst e2
    rw [al_I h] at g
    refine ⟨a :: as, rfl, by rw [List.length_cons, List.length_cons, l2], fun x hx => ?_⟩
    rcases List.mem_cons.mp hx with e | hx
    · rw [e]
      exact g
    · exact k x hx
/-- behind a call that gives out a list of fresh rows: they are ours -/
theorem Cf.callM (c : Cf Bs H0 G0 G M H) (s : Stp [] G G' H H') {vs : List V} (hp : H p = none) (gp : G' p = none) (ho : H' p = some (.lst vs)) (al : AL (rL rI) G' vs xs) (f : Fr9 H vs) :
    ∃ G9 as, vs = as.map V.ref ∧ as.length = xs.length ∧ Ex G G9 ∧ Cf Bs H0 G0 G9 ((p, .lst (as.map V.ref)) :: M ++ rw9 as xs) H' := by
  obtain ⟨as, e, l, rows⟩ := al_refs al
  subst e
  have c1 := c.callO s hp gp ho
  have fst := rw9_fst l
  have new : ∀ a ∈ as, H a = none := fun a ha => f.2 a (List.mem_map.mpr ⟨a, ha, rfl⟩)
  have nG : ∀ a ∈ as, G a = none := fun a ha => c.gh.free (new a ha)
  have nd : as.Nodup := (List.pairwise_map.mp f.1).imp fun {x y} h e => h x rfl (by rw [e])
  classical
  refine ⟨fun a => if a ∈ as then none else G' a, as, rfl, l, fun a u e => ?_, ?_⟩
  · have : a ∉ as := fun z => by rw [nG a z] at e; cases e
    show (if a ∈ as then none else G' a) = some u
    rw [if_neg this]
    exact s.gg a u e
  · refine ⟨c1.ex0, c1.bh, fun a u e => ?_, fun a ha => ?_, fun a u e => ?_, fun x hx => ?_, ?_⟩
    · have : a ∉ as := fun z => by
        have := c.g0 a u e
        rw [nG a z] at this
        cases this
      show (if a ∈ as then none else G' a) = some u
      rw [if_neg this]
      exact c1.g0 a u e
    · have : a ∉ as := fun z => ha (c.h0 (new a z)).1
      show (if a ∈ as then none else G' a) = _
      rw [if_neg this]
      exact c1.fr a ha
    · have e : (if a ∈ as then none else G' a) = some u := e
      by_cases z : a ∈ as
      · rw [if_pos z] at e
        cases e
      · rw [if_neg z] at e
        exact c1.gh a u e
    · rcases List.mem_append.mp hx with hx | hx
      · obtain ⟨h1, h2, h3⟩ := c1.own x hx
        refine ⟨h1, ?_, h3⟩
        show (if x.1 ∈ as then none else G' x.1) = none
        by_cases z : x.1 ∈ as
        · rw [if_pos z]
        · rw [if_neg z]
          exact h2
      · have z : x.1 ∈ as := by
          rw [← fst]
          exact List.mem_map.mpr ⟨x, hx, rfl⟩
        refine ⟨s.gh _ _ (rows x hx), ?_, .inl (c.h0 (new _ z)).1⟩
        show (if x.1 ∈ as then none else G' x.1) = none
        rw [if_pos z]
    · rw [List.map_append, fst, List.nodup_append]
      refine ⟨c1.nd, nd, fun x hx y hy e => ?_⟩
      subst e
      rcases List.mem_cons.mp hx with e | hx
      · have h1 : ∃ x9 ∈ rw9 as xs, x9.1 = x := by
          rw [← fst] at hy
          obtain ⟨x9, h, e9⟩ := List.mem_map.mp hy
          exact ⟨x9, h, e9⟩
        obtain ⟨x9, h9, e9⟩ := h1
        have := rows x9 h9
        rw [e9, e, gp] at this
        cases this
      · obtain ⟨x9, h9, e9⟩ := List.mem_map.mp hx
        have := (c.own x9 h9).1
        rw [e9, new x hy] at this
        cases this
end
theorem at_ref {as : List Addr} {xs : List (List Int)} {i : Int} {x : List Int} (hl : as.length = xs.length) (h : atI xs i = some x) : ∃ k a, ixN xs.length i = some k ∧ as[k]? = some a ∧ xs[k]? = some x ∧ atI (as.map V.ref) i = some (.ref a) := by
  unfold atI at h
  obtain ⟨k, hk, h⟩ := Option.bind_eq_some_iff.mp h
  have lt : k < xs.length := ixN_len hk
  have lt2 : k < as.length := by omega
  refine ⟨k, as[k], hk, List.getElem?_eq_getElem lt2, h, ?_⟩
  unfold atI
  rw [List.length_map, hl, hk]
  show (as.map V.ref)[k]? = _
  rw [List.getElem?_map, List.getElem?_eq_getElem lt2]
  rfl
/-- a row is changed, by its place -/
def setI {α : Type} (xs : List α) (i : Int) (y : α) : List α := match ixN xs.length i with
  | some k => xs.set k y
  | none => xs
theorem setI_of {α : Type} {xs : List α} {i : Int} {y : α} {k : Nat} (h : ixN xs.length i = some k) : setI xs i y = xs.set k y := by
  unfold setI
  rw [h]
end Tw

/-! Tw6: plain facts about the words of mirrors. -/
namespace Tw
open PySem L2

theorem bigE : BIG = 16777216 := rfl
theorem lcm_ok {α β : Type} {f : α → Option β} {g : α → β} : ∀ {l : List α}, (∀ x ∈ l, f x = some (g x)) → lcm f l = some (l.map g)
  | [], _ => rfl
  | x :: l, h => by
    show (f x).bind _ = _
    rw [h x List.mem_cons_self, lcm_ok fun y hy => h y (List.mem_cons_of_mem _ hy)]
    rfl
theorem lcf_ok {α β : Type} {f : α → Option (Option β)} {p : α → Bool} {g : α → β} : ∀ {l : List α}, (∀ x ∈ l, f x = some (if p x = true then some (g x) else none)) → lcf f l = some ((l.filter p).map g)
  | [], _ => rfl
  | x :: l, h => by
    show (f x).bind _ = _
    rw [h x List.mem_cons_self, lcf_ok fun y hy => h y (List.mem_cons_of_mem _ hy)]
    cases e : p x with
    | true => simp [e]
    | false => simp [e]
theorem lcs_sub {α S : Type} {f : α → S → Option (Option α × S)} {I : S → Prop} : ∀ {l : List α} {s : S}, I s → (∀ x ∈ l, ∀ s, I s → ∃ (b : Bool) (s' : S), f x s = some (if b = true then some x else none, s') ∧ I s') → ∃ r s', lcs f l s = some (r, s') ∧ I s' ∧ r.Sublist l
  | [], s, i, _ => ⟨[], s, rfl, i, .slnil⟩
  | x :: l, s, i, h => by
    obtain ⟨b, s1, e, i1⟩ := h x List.mem_cons_self s i
    obtain ⟨r, s2, e2, i2, q⟩ := lcs_sub i1 fun y hy => h y (List.mem_cons_of_mem _ hy)
    cases b with
    | true =>
      refine ⟨x :: r, s2, ?_, i2, q.cons₂ x⟩
      show (f x s).bind _ = _
      rw [e]
      show (lcs f l s1).bind _ = _
      rw [e2]
      rfl
    | false =>
      refine ⟨r, s2, ?_, i2, q.cons x⟩
      show (f x s).bind _ = _
      rw [e]
      show (lcs f l s1).bind _ = _
      rw [e2]
      rfl
theorem lcs_all {α β S : Type} {f : α → S → Option (Option β × S)} {I : S → Prop} {P : β → Prop} : ∀ {l : List α} {s : S}, I s → (∀ x ∈ l, ∀ s, I s → ∃ (y : β) (s' : S), f x s = some (some y, s') ∧ I s' ∧ P y) → ∃ r s', lcs f l s = some (r, s') ∧ I s' ∧ r.length = l.length ∧ ∀ y ∈ r, P y
  | [], s, i, _ => ⟨[], s, rfl, i, rfl, fun _ z => nomatch z⟩
  | x :: l, s, i, h => by
    obtain ⟨y, s1, e, i1, p⟩ := h x List.mem_cons_self s i
    obtain ⟨r, s2, e2, i2, q, all⟩ := lcs_all i1 fun y hy => h y (List.mem_cons_of_mem _ hy)
    refine ⟨y :: r, s2, ?_, i2, by simp [q], fun z hz => ?_⟩
    · show (f x s).bind _ = _
      rw [e]
      show (lcs f l s1).bind _ = _
      rw [e2]
      rfl
    · rcases List.mem_cons.mp hz with e | hz
      · rw [e]
        exact p
      · exact all z hz
/-! ranges -/
theorem rng_nil {lo hi : Int} (h : hi ≤ lo) : rng lo hi = [] := by
  unfold rng
  rw [show (hi - lo).toNat = 0 by omega]
  rfl
theorem rng_cons {lo hi : Int} (h : lo < hi) : rng lo hi = lo :: rng (lo + 1) hi := by
  unfold rng
  obtain ⟨n, hn⟩ : ∃ n, (hi - lo).toNat = n + 1 := ⟨(hi - lo).toNat - 1, by omega⟩
  rw [hn, show (hi - (lo + 1)).toNat = n by omega, List.range_succ_eq_map, List.map_cons, List.map_map]
  congr 1
  · simp
  · refine List.map_congr_left fun i _ => ?_
    show lo + ((i + 1 : Nat) : Int) = lo + 1 + (i : Int)
    omega
theorem rng_mem {lo hi x : Int} : x ∈ rng lo hi ↔ lo ≤ x ∧ x < hi := by
  unfold rng
  rw [List.mem_map]
  constructor
  · rintro ⟨i, hi', e⟩
    rw [List.mem_range] at hi'
    omega
  · intro h
    exact ⟨(x - lo).toNat, by rw [List.mem_range]; omega, by omega⟩
theorem rng_up (lo hi : Int) : (rng lo hi).Pairwise (· < ·) := by
  unfold rng
  rw [List.pairwise_map]
  exact List.pairwise_lt_range.imp fun {a b} h => by omega
theorem lp_rng {S : Type} {f : Int → S → Option S} {I : Int → S → Prop} {hi : Int} : ∀ (n : Nat) (lo : Int) (s : S), hi - lo = n → I lo s → (∀ i, lo ≤ i → i < hi → ∀ s, I i s → ∃ s', f i s = some s' ∧ I (i + 1) s') → ∃ s', lp f (rng lo hi) s = some s' ∧ I hi s'
  | 0, lo, s, e, i, _ => ⟨s, by rw [rng_nil (by omega)]; rfl, by rw [show hi = lo by omega]; exact i⟩
  | n + 1, lo, s, e, i, h => by
    obtain ⟨s1, e1, i1⟩ := h lo (Int.le_refl _) (by omega) s i
    obtain ⟨s2, e2, i2⟩ := lp_rng n (lo + 1) s1 (by omega) i1 fun j h1 h2 => h j (by omega) h2
    refine ⟨s2, ?_, i2⟩
    rw [rng_cons (by omega)]
    show (f lo s).bind _ = _
    rw [e1]
    exact e2
/-- .. from 0 to a number that may be below -/
theorem lp_rng0 {S : Type} {f : Int → S → Option S} {I : Int → S → Prop} {n : Int} (h0 : 0 ≤ n) {s : S} (i : I 0 s) (h : ∀ i, 0 ≤ i → i < n → ∀ s, I i s → ∃ s', f i s = some s' ∧ I (i + 1) s') : ∃ s', lp f (rng 0 n) s = some s' ∧ I n s' :=
  lp_rng n.toNat 0 s (by omega) i h
theorem lpx_all {α S R : Type} {f : α → S → Option (Out S R)} {I : S → Prop} : ∀ {l : List α} {s : S}, I s → (∀ x ∈ l, ∀ s, I s → ∃ s', f x s = some (.nx s') ∧ I s') → ∃ s', lpx f l s = some (.nx s') ∧ I s'
  | [], s, i, _ => ⟨s, rfl, i⟩
  | x :: l, s, i, h => by
    obtain ⟨s1, e, i1⟩ := h x List.mem_cons_self s i
    obtain ⟨s2, e2, i2⟩ := lpx_all i1 fun y hy => h y (List.mem_cons_of_mem _ hy)
    refine ⟨s2, ?_, i2⟩
    show (f x s).bind _ = _
    rw [e]
    exact e2
/-! enumerate -/
def enF {α : Type} : Int → List α → List (Int × α)
  | _, [] => []
  | k, x :: l => (k, x) :: enF (k + 1) l
theorem zip_enF {α : Type} : ∀ (xs : List α) (k : Int), (rng k (k + xs.length)).zip xs = enF k xs
  | [], k => by rw [List.zip_nil_right]; rfl
  | x :: l, k => by
    rw [rng_cons (by simp only [List.length_cons]; omega), List.zip_cons_cons]
    show (k, x) :: _ = (k, x) :: enF (k + 1) l
    rw [← zip_enF l (k + 1)]
    congr 3
    simp only [List.length_cons]
    omega
theorem enm_eq {α : Type} (xs : List α) : enm xs = enF 0 xs := by
  rw [← zip_enF xs 0]
  unfold enm
  rw [show (0 : Int) + (xs.length : Int) = (xs.length : Int) by omega]
/-! places -/
theorem atI_nat {α : Type} {xs : List α} {i : Int} (h0 : 0 ≤ i) (h1 : i < xs.length) : atI xs i = xs[i.toNat]? := by
  unfold atI ixN
  rw [if_pos h0, if_pos h1]
  rfl
theorem atI_get {α : Type} {xs : List α} {i : Int} (h0 : 0 ≤ i) (h1 : i < xs.length) : atI xs i = some (xs[i.toNat]'(by omega)) := by
  rw [atI_nat h0 h1]
  exact List.getElem?_eq_getElem (by omega)
theorem ixN_nat {n : Nat} {i : Int} (h0 : 0 ≤ i) (h1 : i < n) : ixN n i = some i.toNat := by
  unfold ixN
  rw [if_pos h0, if_pos h1]
theorem atI_last {α : Type} {xs : List α} {x : α} : atI (xs ++ [x]) (-(1 : Int)) = some x := by
  unfold atI ixN
  rw [if_neg (by omega), if_pos (by simp only [List.length_append, List.length_cons, List.length_nil]; omega)]
  show (xs ++ [x])[(-(1 : Int) + ((xs ++ [x]).length : Int)).toNat]? = _
  rw [show (-(1 : Int) + ((xs ++ [x]).length : Int)).toNat = xs.length by simp only [List.length_append, List.length_cons, List.length_nil]; omega]
  simp
theorem setI_get {α : Type} {xs : List α} {i : Int} {y : α} (h0 : 0 ≤ i) (h1 : i < xs.length) : setI xs i y = xs.set i.toNat y := setI_of (ixN_nat h0 h1)
theorem cutL_to {α : Type} {xs : List α} {i : Int} (h0 : 0 ≤ i) (h1 : i ≤ xs.length) : cutL xs none (some i) = xs.take i.toNat := by
  unfold cutL
  show (xs.drop 0).take ((if i < 0 then _ else min i.toNat xs.length) - 0) = _
  rw [if_neg (by omega), List.drop_zero, Nat.sub_zero, Nat.min_eq_left (by omega)]
theorem cutL_from {α : Type} {xs : List α} {i : Int} (h0 : 0 ≤ i) (h1 : i ≤ xs.length) : cutL xs (some i) none = xs.drop i.toNat := by
  unfold cutL
  show (xs.drop (if i < 0 then _ else min i.toNat xs.length)).take (xs.length - (if i < 0 then _ else min i.toNat xs.length)) = _
  rw [if_neg (by omega), Nat.min_eq_left (by omega)]
  exact List.take_of_length_le (by rw [List.length_drop]; omega)
theorem allS_some {α : Type} : ∀ xs : List α, allS (xs.map some) = some xs
  | [] => rfl
  | x :: l => by
    show (allS (l.map some)).bind _ = _
    rw [allS_some l]
    rfl
theorem rok_small {n : Int} (h0 : 0 ≤ n) (h1 : n < 1000000) : rok n := by
  unfold rok
  omega
end Tw

/-! Tw7: plain facts about texts of numbers. -/
namespace Tw
open PySem L2 TL

theorem tl_sI (n : Nat) : tl (sI (n : Int)) = numL n := tl_num n
theorem str0 : ("0" : Str) = ⟨#[48]⟩ := by decide +kernel
theorem strC : tl ("," : Str) = 44 :: [] := by decide +kernel
theorem strSp : tl (" " : Str) = 32 :: [] := by decide +kernel
theorem strMi : tl ("-" : Str) = [45] := by decide +kernel
theorem strDot : tl ("." : Str) = [46] := by decide +kernel
theorem strDg : (Str.cps ("0123456789" : Str)).toList = [48, 49, 50, 51, 52, 53, 54, 55, 56, 57] := by decide +kernel
theorem strE : tl ("" : Str) = [] := by decide +kernel
theorem numL_zero : ∀ {n : Nat} {r : List Nat}, numL n = 48 :: r → n = 0 := by
  intro n
  induction n using Nat.strongRecOn with
  | _ n ih =>
    intro r h
    by_cases hn : n < 10
    · rw [numL_lt hn] at h
      injection h with h1 h2
      omega
    · rw [numL_step (by omega)] at h
      obtain ⟨c, l, e⟩ : ∃ c l, numL (n / 10) = c :: l := by
        cases e : numL (n / 10) with
        | nil => exact absurd e (numL_ne _)
        | cons c l => exact ⟨c, l, rfl⟩
      rw [e] at h
      injection h with h1 h2
      rw [h1] at e
      have := ih (n / 10) (by omega) e
      omega
theorem dig_mem {c : Nat} (h : 48 ≤ c ∧ c ≤ 57) : c ∈ (Str.cps ("0123456789" : Str)).toList := by
  rw [strDg]
  have : c = 48 ∨ c = 49 ∨ c = 50 ∨ c = 51 ∨ c = 52 ∨ c = 53 ∨ c = 54 ∨ c = 55 ∨ c = 56 ∨ c = 57 := by omega
  simpa using this
theorem sI_len {n : Nat} {k : Nat} (hk : 0 < k) (h : n < 10 ^ k) : (sI (n : Int)).length ≤ k := by
  rw [len_tl, tl_sI]
  exact numL_len hk h
theorem iOk_sI {n : Nat} (h : n < 10 ^ 30) : iOk (sI (n : Int)) = some (n : Int) := by
  have l := sI_len (k := 30) (by omega) h
  unfold iOk
  rw [if_pos (by omega)]
  exact int_num (by have := numL_len (k := 30) (by omega) h; omega)
theorem sI_inj {m n : Nat} (h : sI (m : Int) = sI (n : Int)) : m = n := numL_inj (by rw [← tl_sI, ← tl_sI, h])
theorem sOk_nat {n : Nat} (h : n < 2 ^ 1900) : sOk (n : Int) := by
  show ((n : Int).natAbs).log2 < 1920
  rw [Int.natAbs_natCast]
  by_cases z : n = 0
  · subst z
    decide
  · exact (Nat.log2_lt z).mpr (Nat.lt_of_lt_of_le h (Nat.pow_le_pow_right (by omega) (by omega)))
theorem sOk_small {i : Int} (h0 : 0 ≤ i) (h1 : i < 10 ^ 40) : sOk i := by
  obtain ⟨n, rfl⟩ := Int.eq_ofNat_of_zero_le h0
  refine sOk_nat (Nat.lt_of_lt_of_le (by omega : n < 10 ^ 40) ?_)
  exact Nat.le_trans (by decide : 10 ^ 40 ≤ 2 ^ 150) (Nat.pow_le_pow_right (by omega) (by omega))
theorem sum_le {k : Nat} : ∀ {l : List Nat}, (∀ x ∈ l, x ≤ k) → l.sum ≤ l.length * k
  | [], _ => by simp
  | x :: l, h => by
    have h1 := h x List.mem_cons_self
    have h2 := sum_le fun y hy => h y (List.mem_cons_of_mem _ hy)
    rw [List.sum_cons, List.length_cons, Nat.succ_mul]
    omega
theorem jOk_of {a : Str} {ys : List Str} {k n : Nat} (ha : a.length ≤ 1) (hy : ∀ y ∈ ys, y.length ≤ k) (hn : ys.length ≤ n) (h : n * (k + 1) ≤ 16777216) : jOk a ys := by
  have h1 : (ys.map (·.length)).sum ≤ ys.length * k := by
    have := sum_le (k := k) (l := ys.map (·.length)) fun x hx => by
      obtain ⟨y, hy', e⟩ := List.mem_map.mp hx
      rw [← e]
      exact hy y hy'
    rwa [List.length_map] at this
  have h2 : ys.length * a.length ≤ ys.length * 1 := Nat.mul_le_mul_left _ ha
  have h3 : ys.length * (k + 1) ≤ n * (k + 1) := Nat.mul_le_mul_right _ hn
  have h4 : ys.length * (k + 1) = ys.length * k + ys.length := Nat.mul_succ _ _
  show (ys.map (·.length)).sum + ys.length * a.length ≤ 16777216
  omega
theorem join_len (a : Str) (ha : a.length ≤ 1) {ys : List Str} {k n : Nat} (hy : ∀ y ∈ ys, y.length ≤ k) (hn : ys.length ≤ n) : (Txt.join a ys).length ≤ n * (k + 1) := by
  rw [join_eq]
  have h0 := StrLaws.join_length_le a ys
  have h1 : (ys.map (·.length)).sum ≤ ys.length * k := by
    have := sum_le (k := k) (l := ys.map (·.length)) fun x hx => by
      obtain ⟨y, hy', e⟩ := List.mem_map.mp hx
      rw [← e]
      exact hy y hy'
    rwa [List.length_map] at this
  have h2 : ys.length * a.length ≤ ys.length * 1 := Nat.mul_le_mul_left _ ha
  have h3 : ys.length * (k + 1) ≤ n * (k + 1) := Nat.mul_le_mul_right _ hn
  have h4 : ys.length * (k + 1) = ys.length * k + ys.length := Nat.mul_succ _ _
  omega
/-- the signs of a joined text -/
theorem joinL_mem {S : List Nat} {c : Nat} : ∀ {ps : List (List Nat)}, c ∈ joinL S ps → c ∈ S ∨ ∃ p ∈ ps, c ∈ p
  | [], h => by cases h
  | [p], h => .inr ⟨p, List.mem_cons_self, h⟩
  | p :: q :: r, h => by
    have h : c ∈ p ++ (S ++ joinL S (q :: r)) := h
    rcases List.mem_append.mp h with h | h
    · exact .inr ⟨p, List.mem_cons_self, h⟩
    · rcases List.mem_append.mp h with h | h
      · exact .inl h
      · rcases joinL_mem h with h | ⟨z, hz, h⟩
        · exact .inl h
        · exact .inr ⟨z, List.mem_cons_of_mem _ hz, h⟩
theorem join_mem {a : Str} {ys : List Str} {c : Nat} (h : c ∈ tl (Txt.join a ys)) : c ∈ tl a ∨ ∃ y ∈ ys, c ∈ tl y := by
  rw [join_eq, tl_join] at h
  rcases joinL_mem h with h | ⟨p, hp, h⟩
  · exact .inl h
  · obtain ⟨y, hy, e⟩ := List.mem_map.mp hp
    rw [← e] at h
    exact .inr ⟨y, hy, h⟩
theorem ok256 {a : Str} {s : Nat} (h : tl a = [s]) (hs : s < 256) : a.cps.all (· < 256) = true := by
  rw [← Array.all_toList]
  show (tl a).all _ = true
  rw [h]
  simp [hs]
theorem split_back {a : Str} {s : Nat} (h : tl a = s :: []) (hs : s < 256) {ys : List Str} (ne : ys ≠ []) (hy : ∀ y ∈ ys, s ∉ tl y) : Txt.split (Txt.join a ys) a = ys := split_join h (ok256 h hs) ne hy

/-! ### the texts of webs -/
def tsT (ties : List Int) : Str := if ties = [] then ("-" : Str) else Txt.join ("," : Str) (ties.map sI)
def txW (web : List (List Int)) : Str := if web = [] then ("." : Str) else Txt.join (" " : Str) (web.map tsT)
def UpTo (n : Int) (row : List Int) : Prop := row.Pairwise (· < ·) ∧ ∀ k ∈ row, 0 ≤ k ∧ k < n
theorem UpTo.mono {n m : Int} {row : List Int} (h : UpTo n row) (l : n ≤ m) : UpTo m row := ⟨h.1, fun k hk => ⟨(h.2 k hk).1, by have := (h.2 k hk).2; omega⟩⟩
theorem sI_dig {k : Int} (h0 : 0 ≤ k) : ∀ c ∈ tl (sI k), 48 ≤ c ∧ c ≤ 57 := by
  obtain ⟨n, rfl⟩ := Int.eq_ofNat_of_zero_le h0
  rw [tl_sI]
  exact numL_digits n
theorem sI_ne {k : Int} (h0 : 0 ≤ k) : tl (sI k) ≠ [] := by
  obtain ⟨n, rfl⟩ := Int.eq_ofNat_of_zero_le h0
  rw [tl_sI]
  exact numL_ne n
theorem sI_le {k : Int} {m : Nat} (hm : 0 < m) (h0 : 0 ≤ k) (h1 : k < 10 ^ m) : (sI k).length ≤ m := by
  obtain ⟨n, rfl⟩ := Int.eq_ofNat_of_zero_le h0
  refine sI_len hm ?_
  have e : ((10 : Int) ^ m) = ((10 ^ m : Nat) : Int) := by simp
  rw [e] at h1
  exact Int.ofNat_lt.mp h1
theorem tsT_sign {row : List Int} (h : ∀ k ∈ row, 0 ≤ k) {c : Nat} (hc : c ∈ tl (tsT row)) : c = 44 ∨ c = 45 ∨ (48 ≤ c ∧ c ≤ 57) := by
  unfold tsT at hc
  split at hc
  · rw [strMi] at hc
    simp at hc
    exact .inr (.inl hc)
  · rcases join_mem hc with h1 | ⟨y, hy, h1⟩
    · rw [strC] at h1
      simp at h1
      exact .inl h1
    · obtain ⟨k, hk, e⟩ := List.mem_map.mp hy
      rw [← e] at h1
      exact .inr (.inr (sI_dig (h k hk) c h1))
theorem tsT_len {row : List Int} (h : ∀ k ∈ row, 0 ≤ k ∧ k < 1000) (l : row.length ≤ 1000) : (tsT row).length ≤ 4000 := by
  unfold tsT
  split
  · decide +kernel
  · have := join_len ("," : Str) (by decide +kernel) (ys := row.map sI) (k := 3) (n := 1000) (fun y hy => by
      obtain ⟨k, hk, e⟩ := List.mem_map.mp hy
      rw [← e]
      have := h k hk
      exact sI_le (m := 3) (by omega) this.1 (by omega)) (by rw [List.length_map]; exact l)
    omega
end Tw

namespace Tw
open PySem L2
def topS (i : Nat) : Stmt := PySem.Challenge.pw_tintonce_k71_texts_of_webs.main.body.getD i (.Pass ⟨0, 0, 0, 0⟩)
abbrev s_is_integer : Stmt := topS 4
abbrev s_are_ties : Stmt := topS 5
abbrev s_is_web : Stmt := topS 6
abbrev s_read_number : Stmt := topS 10
abbrev s_read_ties : Stmt := topS 11
abbrev s_show_ties : Stmt := topS 12
abbrev s_show_web : Stmt := topS 13
abbrev s_read_web : Stmt := topS 14
abbrev s__law_deck : Stmt := topS 16
abbrev s__law_draw : Stmt := topS 17
abbrev s__law_is_integer : Stmt := topS 18
abbrev s__law_same_list : Stmt := topS 19
abbrev s__law_same_rows : Stmt := topS 20
abbrev s__law_text : Stmt := topS 22
abbrev s__law_dense_web : Stmt := topS 23
abbrev s__law_web : Stmt := topS 21
abbrev s_law : Stmt := topS 24
structure Env (K : PySem.W.Frag) (mg : Str → Option Value) where
  n_int : mg "int" = none
  n_isinstance : mg "isinstance" = none
  n_bool : mg "bool" = none
  n_list : mg "list" = none
  n_enumerate : mg "enumerate" = none
  n_len : mg "len" = none
  n_str : mg "str" = none
  n_range : mg "range" = none
  n_all : mg "all" = none
  n_max : mg "max" = none
  n_set : mg "set" = none
  n_sorted : mg "sorted" = none
  n_min : mg "min" = none
  t_MOST_DIGITS : Tok
  z_MOST_DIGITS : mg "MOST_DIGITS" = some (Value.int (30 : Int) t_MOST_DIGITS)
  t_DIGITS : Tok
  z_DIGITS : mg "DIGITS" = some (Value.str ("0123456789" : Str) t_DIGITS)
  f_is_integer : Addr
  d_is_integer : FuncData
  F_is_integer : Fun K "is_integer" "is_integer" s_is_integer f_is_integer d_is_integer
  g_is_integer : mg "is_integer" = some (.ref f_is_integer)
  b_is_integer : Binds K d_is_integer ["value"] []
  f_are_ties : Addr
  d_are_ties : FuncData
  F_are_ties : Fun K "are_ties" "are_ties" s_are_ties f_are_ties d_are_ties
  g_are_ties : mg "are_ties" = some (.ref f_are_ties)
  b_are_ties : Binds K d_are_ties ["value", "size"] []
  f_is_web : Addr
  d_is_web : FuncData
  F_is_web : Fun K "is_web" "is_web" s_is_web f_is_web d_is_web
  g_is_web : mg "is_web" = some (.ref f_is_web)
  b_is_web : Binds K d_is_web ["value"] []
  f_read_number : Addr
  d_read_number : FuncData
  F_read_number : Fun K "read_number" "read_number" s_read_number f_read_number d_read_number
  g_read_number : mg "read_number" = some (.ref f_read_number)
  b_read_number : Binds K d_read_number ["word"] []
  f_read_ties : Addr
  d_read_ties : FuncData
  F_read_ties : Fun K "read_ties" "read_ties" s_read_ties f_read_ties d_read_ties
  g_read_ties : mg "read_ties" = some (.ref f_read_ties)
  b_read_ties : Binds K d_read_ties ["word"] []
  f_show_ties : Addr
  d_show_ties : FuncData
  F_show_ties : Fun K "show_ties" "show_ties" s_show_ties f_show_ties d_show_ties
  g_show_ties : mg "show_ties" = some (.ref f_show_ties)
  b_show_ties : Binds K d_show_ties ["ties"] []
  f_show_web : Addr
  d_show_web : FuncData
  F_show_web : Fun K "show_web" "show_web" s_show_web f_show_web d_show_web
  g_show_web : mg "show_web" = some (.ref f_show_web)
  b_show_web : Binds K d_show_web ["web"] []
  f_read_web : Addr
  d_read_web : FuncData
  F_read_web : Fun K "read_web" "read_web" s_read_web f_read_web d_read_web
  g_read_web : mg "read_web" = some (.ref f_read_web)
  b_read_web : Binds K d_read_web ["text"] []
  f__law_deck : Addr
  d__law_deck : FuncData
  F__law_deck : Fun K "_law_deck" "_law_deck" s__law_deck f__law_deck d__law_deck
  g__law_deck : mg "_law_deck" = some (.ref f__law_deck)
  b__law_deck : Binds K d__law_deck ["script", "at"] []
  f__law_draw : Addr
  d__law_draw : FuncData
  F__law_draw : Fun K "_law_draw" "_law_draw" s__law_draw f__law_draw d__law_draw
  g__law_draw : mg "_law_draw" = some (.ref f__law_draw)
  b__law_draw : Binds K d__law_draw ["deck", "many"] []
  f__law_is_integer : Addr
  d__law_is_integer : FuncData
  F__law_is_integer : Fun K "_law_is_integer" "_law_is_integer" s__law_is_integer f__law_is_integer d__law_is_integer
  g__law_is_integer : mg "_law_is_integer" = some (.ref f__law_is_integer)
  b__law_is_integer : Binds K d__law_is_integer ["value"] []
  f__law_same_list : Addr
  d__law_same_list : FuncData
  F__law_same_list : Fun K "_law_same_list" "_law_same_list" s__law_same_list f__law_same_list d__law_same_list
  g__law_same_list : mg "_law_same_list" = some (.ref f__law_same_list)
  b__law_same_list : Binds K d__law_same_list ["value", "due"] []
  f__law_same_rows : Addr
  d__law_same_rows : FuncData
  F__law_same_rows : Fun K "_law_same_rows" "_law_same_rows" s__law_same_rows f__law_same_rows d__law_same_rows
  g__law_same_rows : mg "_law_same_rows" = some (.ref f__law_same_rows)
  b__law_same_rows : Binds K d__law_same_rows ["value", "due"] []
  f__law_text : Addr
  d__law_text : FuncData
  F__law_text : Fun K "_law_text" "_law_text" s__law_text f__law_text d__law_text
  g__law_text : mg "_law_text" = some (.ref f__law_text)
  b__law_text : Binds K d__law_text ["web"] []
  f__law_dense_web : Addr
  d__law_dense_web : FuncData
  F__law_dense_web : Fun K "_law_dense_web" "_law_dense_web" s__law_dense_web f__law_dense_web d__law_dense_web
  g__law_dense_web : mg "_law_dense_web" = some (.ref f__law_dense_web)
  b__law_dense_web : Binds K d__law_dense_web ["deck"] []
  f__law_web : Addr
  d__law_web : FuncData
  F__law_web : Fun K "_law_web" "_law_web" s__law_web f__law_web d__law_web
  g__law_web : mg "_law_web" = some (.ref f__law_web)
  b__law_web : Binds K d__law_web ["deck", "most"] []
  f_law : Addr
  d_law : FuncData
  F_law : Fun K "law" "law" s_law f_law d_law
  g_law : mg "law" = some (.ref f_law)
  b_law : Binds K d_law ["script"] []
section
variable {P : Program} {w : World} {K : PySem.W.Frag} {mg : Str → Option Value} {base : Heap}
theorem sc_is_integer : FnScope ["value"] ["value"] (defScope s_is_integer) := ⟨rfl, rfl, rfl, by decide +kernel, rfl, by decide +kernel, by decide +kernel⟩
def m_is_integer (value' : Int) : Option Bool :=
  some (true && (!false))
def sp_is_integer (K : PySem.W.Frag) : Sp := fun vs H Q _ => ∃ (G : Hp) (value' : Int) (r : Bool), vs = [(.int value')] ∧ Ex G H ∧ m_is_integer value' = some r ∧ ∀ (G' H' : Hp), Stp [] G G' H H' → Q (.bl r) H'
theorem ok_is_integer (T : Env K mg) : FnOk P w K mg base CX0 1 T.f_is_integer T.d_is_integer ["value"] (sp_is_integer K) := by
  refine T.F_is_integer.ok sc_is_integer (fun vs H Q E h => ?_) (fun cdv A outer s H0 vs Q E hr h => ?_)
  · obtain ⟨G0, value', r, rfl, _⟩ := h
    rfl
  · obtain ⟨G0, value', r, rfl, hG0, hm, k⟩ := h
    have hu := hr.units
    have hu65 := hu65 hr
    have c0 := Cf.start hG0
    unfold m_is_integer at hm
    refine ⟨_, (pss_one (ps_ret (pe_and (pe_callB (call_is (K := K) rfl) (by rfl) T.n_isinstance bt_isi (pa_cons (pv 0) (pa_cons (pe_bltn (v := .ty "int") (by rfl) T.n_int bt_int rfl) pa_nil))) (pe_one (pe_not (pe_callB (call_is (K := K) rfl) (by rfl) T.n_isinstance bt_isi (pa_cons (pv 0) (pa_cons (pe_bltn (v := .ty "bool") (by rfl) T.n_bool bt_bool rfl) pa_nil)))))))), ?_⟩
    refine ret_opq (fun Q_1 kk_2 => ?_)
    refine ⟨_, rfl, _, _, _, _, _, rfl, .ty _, ty_i, k_ii, _, rfl, ?_⟩
    refine andV_t (b := (!false)) (fun ha_5 q_4 => ?_) ?_
    · skip
      refine ⟨_, rfl, _, _, _, _, _, rfl, .ty _, ty_i, k_ib, _, rfl, ?_⟩
      exact q_4
    refine kk_2 _ _ ?_
    obtain rfl := some_in hm
    exact k G0 H0 c0.stp
theorem sc_are_ties : FnScope ["value", "size", "before", "thing"] ["value", "size"] (defScope s_are_ties) := ⟨rfl, rfl, rfl, by decide +kernel, rfl, by decide +kernel, by decide +kernel⟩
def m_are_ties (value' : (List Int)) (size' : Int) : Option Bool :=
  if (!true) then none else (lt ((-(1 : Int)) : Int) fun x_10 => ((lpx (fun (y_20 : Int) => fun (s_23 : (Int)) => ((fun (x_15 : Int) => (m_is_integer y_20).bind fun y_39 => (if ((!y_39) || ((decide (y_20 ≤ x_15)) || (decide (size' ≤ y_20)))) then (some (Out.rt false)) else (some (Out.nx (y_20))))) s_23 : Option (Out (Int) Bool))) value' (x_10)).bind fun o_17 => Out.fin o_17 (fun (s_59 : (Int)) => (fun (x_15 : Int) => (some true)) s_59) (fun r_60 => some r_60)))
def sp_are_ties (K : PySem.W.Frag) : Sp := fun vs H Q _ => ∃ (G : Hp) (a_1 : Addr) (vs_2 : List V) (value' : (List Int)) (size' : Int) (r : Bool), vs = [.ref a_1, (.int size')] ∧ Ex G H ∧ SqB [] H a_1 vs_2 ∧ AL rI G vs_2 value' ∧ m_are_ties value' size' = some r ∧ ∀ (G' H' : Hp), Stp [] G G' H H' → Q (.bl r) H'
theorem ok_are_ties (T : Env K mg) : FnOk P w K mg base CX0 2 T.f_are_ties T.d_are_ties ["value", "size"] (sp_are_ties K) := by
  refine T.F_are_ties.ok sc_are_ties (fun vs H Q E h => ?_) (fun cdv A outer s H0 vs Q E hr h => ?_)
  · obtain ⟨G0, a_1, vs_2, value', size', r, rfl, _⟩ := h
    rfl
  · obtain ⟨G0, a_1, vs_2, value', size', r, rfl, hG0, sq_3, al_4, hm, k⟩ := h
    have hu := hr.units
    have hu65 := hu65 hr
    have c0 := Cf.start hG0
    unfold m_are_ties at hm
    refine ⟨_, (pss_cons (ps_if (pt_not (pt_val (pe_callB (call_is (K := K) rfl) (by rfl) T.n_isinstance bt_isi (pa_cons (pv 0) (pa_cons (pe_bltn (v := .ty "list") (by rfl) T.n_list bt_list rfl) pa_nil))))) pss_never pss_nil)
      (pss_cons (ps_set (i := 2) sc_are_ties.nd rfl (by first | exact Or.inl rfl | exact Or.inr rfl) (pe_un un_neg pe_int))
      (pss_cons (ps_for PassesOwn.never rfl (pi_list (pv 0)) (pg_name (i := 3) sc_are_ties.nd rfl (by first | exact Or.inl rfl | exact Or.inr rfl)) (pss_cons (ps_if (PW.pt (pw_or (pt_not (pt_val (pe_call (ok_is_integer T) (hr.mono (by decide)) (by rfl) T.g_is_integer T.F_is_integer.kp T.b_is_integer .nil pass0 (pa_cons (pv 3) pa_nil)))) (pw_or (pt_cmpR op_le (pv 3) (pv 2) (nomark _)) (pw_or1 (pt_cmpR op_ge (pv 3) (pv 1) (nomark _)))))) (pss_one (ps_ret pe_bl)) pss_nil)
      (pss_one (ps_set (i := 2) sc_are_ties.nd rfl (by first | exact Or.inl rfl | exact Or.inr rfl) (pv 3)))))
      (pss_one (ps_ret pe_bl))))), ?_⟩
    refine q_if_opq (fun Q_5 kk_6 => ?_)
    refine ⟨_, rfl, _, _, _, _, _, rfl, .ty _, (ty_l (SqL.of (sq_3.at c0))), k_ll, _, rfl, ?_⟩
    refine kk_6 _ _ ?_
    refine ite_no (by decide) ?_
    have hm := if_no (by decide) hm
    try dsimp only [tNext]
    refine q_asg_opq (fun Q_8 kk_9 => ?_)
    obtain ⟨x_10, hl_11, hm⟩ := ltp hm
    refine ⟨_, rfl, ?_⟩
    refine nmV (f := V.int) (P := fun v9 => Q_8 v9 _) hl_11 ?_
    refine kk_9 _ _ ?_
    refine ⟨_, rfl, _, rfl, ⟨_, SqL.of (sq_3.at c0)⟩, ?_⟩
    obtain ⟨o_17, ho_18, hm⟩ := bs hm
    refine for_w (walk_list (xs := vs_2)) value' (A2.len al_4) (fun l_19 σ_21 H_22 => ∃ (G_12 : Hp) (x_15 : Int) (o_16 : Option V), σ_21 = [(some (.ref a_1)), (some (.int size')), (some (.int x_15)), o_16] ∧ Ex G0 G_12 ∧ Cf [] H0 G0 G_12 [] H_22 ∧ lpx (fun (y_20 : Int) => fun (s_23 : (Int)) => ((fun (x_15 : Int) => (m_is_integer y_20).bind fun y_39 => (if ((!y_39) || ((decide (y_20 ≤ x_15)) || (decide (size' ≤ y_20)))) then (some (Out.rt false)) else (some (Out.nx (y_20))))) s_23 : Option (Out (Int) Bool))) l_19 (x_15) = some o_17)
      ⟨G0, x_10, none, rfl, Ex.refl _, c0, ho_18⟩
      (fun l_19 σ_21 H_22 hI => by
        obtain ⟨G_12, x_15, o_16, rfl, eg_13, c_14, ho_18⟩ := hI
        exact (SqL.of (sq_3.at c_14)))
      (fun i_29 y_20 l_19 σ_21 H_22 v_26 H_30 hx_27 hI hy_28 => ?_) (fun σ_21 H_22 hI => ?_)
    · obtain ⟨G_12, x_15, o_16, rfl, eg_13, c_14, ho_18⟩ := hI
      obtain ⟨so_31, hf_24, hgo_25⟩ := lpx_cons ho_18
      try dsimp only at hf_24
      obtain ⟨rfl, hv_32⟩ := hy_28
      obtain ⟨v_33, hv_34, rv_35⟩ := A2.get al_4 hx_27
      obtain rfl := Option.some.inj (hv_32.symm.trans hv_34)
      obtain rfl := (show v_26 = (.int y_20) from rv_35)
      refine q_if_opq (fun Q_37 kk_38 => ?_)
      obtain ⟨y_39, hb_40, hf_24⟩ := bs hf_24
      refine ⟨_, rfl, G_12, y_20, y_39, rfl, c_14.gh, hb_40, fun G_41 H_42 sp_43 => ?_⟩
      have c_44 := c_14.call sp_43
      refine ⟨_, rfl, ?_⟩
      refine or_t (b := ((decide (y_20 ≤ x_15)) || (decide (size' ≤ y_20)))) (fun ha_50 q_49 => ?_) ?_
      · skip
        refine ⟨_, rfl, _, rfl, _, _, rfl, rfl, _, rfl, ?_⟩
        refine or_t (b := (decide (size' ≤ y_20))) (fun ha_48 q_47 => ?_) ?_
        · skip
          refine ⟨_, rfl, _, rfl, _, _, rfl, rfl, _, rfl, ?_⟩
          exact q_47
        exact q_49
      refine kk_38 _ _ ?_
      refine ite_m hf_24 (fun hc_51 hf_24 => ?_) (fun hc_51 hf_24 => ?_)
      · skip
        refine ret_opq (fun Q_52 kk_53 => ?_)
        refine kk_53 _ _ ?_
        obtain rfl := some_in hf_24
        obtain rfl := some_in hgo_25
        obtain rfl := some_in hm
        exact k G_41 H_42 c_44.stp
      · skip
        try dsimp only [tNext]
        refine asg_opq (fun Q_54 kk_55 => ?_)
        refine ⟨_, rfl, ?_⟩
        refine kk_55 _ _ ?_
        obtain rfl := some_in hf_24
        exact ⟨G_41, y_20, (some (.int y_20)), rfl, (eg_13.trans sp_43.gg), c_44, hgo_25⟩
    · obtain ⟨G_12, x_15, o_16, rfl, eg_13, c_14, ho_18⟩ := hI
      obtain rfl := lpx_nil ho_18
      dsimp only [Out.fin] at hm
      try dsimp only at hm
      try dsimp only
      refine ret_opq (fun Q_57 kk_58 => ?_)
      refine kk_58 _ _ ?_
      obtain rfl := some_in hm
      exact k G_12 H_22 c_14.stp
theorem sc_are_ties_o : FnScope ["value", "size", "before", "thing"] ["value", "size"] (defScope s_are_ties) := ⟨rfl, rfl, rfl, by decide +kernel, rfl, by decide +kernel, by decide +kernel⟩
def m_are_ties_o (value' : (Option (List Int))) (size' : Int) : Option Bool :=
  oel value' (if (!false) then (some false) else none) (fun (y_3 : (List Int)) => if (!true) then none else (lt ((-(1 : Int)) : Int) fun x_19 => ((lpx (fun (y_29 : Int) => fun (s_32 : (Int)) => ((fun (x_24 : Int) => (m_is_integer y_29).bind fun y_48 => (if ((!y_48) || ((decide (y_29 ≤ x_24)) || (decide (size' ≤ y_29)))) then (some (Out.rt false)) else (some (Out.nx (y_29))))) s_32 : Option (Out (Int) Bool))) y_3 (x_19)).bind fun o_26 => Out.fin o_26 (fun (s_68 : (Int)) => (fun (x_24 : Int) => (some true)) s_68) (fun r_69 => some r_69))))
def sp_are_ties_o (K : PySem.W.Frag) : Sp := fun vs H Q _ => ∃ (G : Hp) (v_1 : V) (value' : (Option (List Int))) (size' : Int) (r : Bool), vs = [v_1, (.int size')] ∧ Ex G H ∧ (rO (rL rI)).r G v_1 value' ∧ m_are_ties_o value' size' = some r ∧ ∀ (G' H' : Hp), Stp [] G G' H H' → Q (.bl r) H'
theorem ok_are_ties_o (T : Env K mg) : FnOk P w K mg base CX0 2 T.f_are_ties T.d_are_ties ["value", "size"] (sp_are_ties_o K) := by
  refine T.F_are_ties.ok sc_are_ties_o (fun vs H Q E h => ?_) (fun cdv A outer s H0 vs Q E hr h => ?_)
  · obtain ⟨G0, v_1, value', size', r, rfl, _⟩ := h
    rfl
  · obtain ⟨G0, v_1, value', size', r, rfl, hG0, rv_2, hm, k⟩ := h
    have hu := hr.units
    have hu65 := hu65 hr
    have c0 := Cf.start hG0
    unfold m_are_ties_o at hm
    refine ⟨_, (pss_cons (ps_if (pt_not (pt_val (pe_callB (call_is (K := K) rfl) (by rfl) T.n_isinstance bt_isi (pa_cons (pv 0) (pa_cons (pe_bltn (v := .ty "list") (by rfl) T.n_list bt_list rfl) pa_nil))))) (pss_one (ps_ret pe_bl)) pss_nil) (pss_cons (ps_set (i := 2) sc_are_ties_o.nd rfl (by first | exact Or.inl rfl | exact Or.inr rfl) (pe_un un_neg pe_int)) (pss_cons (ps_for PassesOwn.never rfl (pi_list (pv 0)) (pg_name (i := 3) sc_are_ties_o.nd rfl (by first | exact Or.inl rfl | exact Or.inr rfl)) (pss_cons (ps_if (PW.pt (pw_or (pt_not (pt_val (pe_call (ok_is_integer T) (hr.mono (by decide)) (by rfl) T.g_is_integer T.F_is_integer.kp T.b_is_integer .nil pass0 (pa_cons (pv 3) pa_nil)))) (pw_or (pt_cmpR op_le (pv 3) (pv 2) (nomark _)) (pw_or1 (pt_cmpR op_ge (pv 3) (pv 1) (nomark _)))))) (pss_one (ps_ret pe_bl)) pss_nil) (pss_one (ps_set (i := 2) sc_are_ties_o.nd rfl (by first | exact Or.inl rfl | exact Or.inr rfl) (pv 3))))) (pss_one (ps_ret pe_bl))))), ?_⟩
    rcases value' with _ | y_3
    · skip
      dsimp only [oel] at hm
      obtain rfl := (show v_1 = .non from rv_2)
      refine q_if_opq (fun Q_4 kk_5 => ?_)
      refine ⟨_, rfl, _, _, _, _, _, rfl, .ty _, ty_n, k_nl, _, rfl, ?_⟩
      refine kk_5 _ _ ?_
      refine ite_yes (by decide) ?_
      have hm := if_yes (by decide) hm
      refine ret_opq (fun Q_7 kk_8 => ?_)
      refine kk_8 _ _ ?_
      obtain rfl := some_in hm
      exact k G0 H0 c0.stp
    · skip
      dsimp only [oel] at hm
      have rv_9 : (rL rI).r G0 v_1 y_3 := rv_2
      refine q_if_opq (fun Q_10 kk_11 => ?_)
      obtain ⟨a_12, vs_13, rfl, sq_14, al_15⟩ := rv_9
      refine ⟨_, rfl, _, _, _, _, _, rfl, .ty _, (ty_l (SqL.of (c0.gh _ _ sq_14))), k_ll, _, rfl, ?_⟩
      refine kk_11 _ _ ?_
      refine ite_no (by decide) ?_
      have hm := if_no (by decide) hm
      try dsimp only [tNext]
      refine q_asg_opq (fun Q_17 kk_18 => ?_)
      obtain ⟨x_19, hl_20, hm⟩ := ltp hm
      refine ⟨_, rfl, ?_⟩
      refine nmV (f := V.int) (P := fun v9 => Q_17 v9 _) hl_20 ?_
      refine kk_18 _ _ ?_
      refine ⟨_, rfl, _, rfl, ⟨_, SqL.of (c0.gh _ _ sq_14)⟩, ?_⟩
      obtain ⟨o_26, ho_27, hm⟩ := bs hm
      refine for_w (walk_list (xs := vs_13)) y_3 (A2.len al_15) (fun l_28 σ_30 H_31 => ∃ (G_21 : Hp) (x_24 : Int) (o_25 : Option V), σ_30 = [(some (.ref a_12)), (some (.int size')), (some (.int x_24)), o_25] ∧ Ex G0 G_21 ∧ Cf [] H0 G0 G_21 [] H_31 ∧ lpx (fun (y_29 : Int) => fun (s_32 : (Int)) => ((fun (x_24 : Int) => (m_is_integer y_29).bind fun y_48 => (if ((!y_48) || ((decide (y_29 ≤ x_24)) || (decide (size' ≤ y_29)))) then (some (Out.rt false)) else (some (Out.nx (y_29))))) s_32 : Option (Out (Int) Bool))) l_28 (x_24) = some o_26)
        ⟨G0, x_19, none, rfl, Ex.refl _, c0, ho_27⟩
        (fun l_28 σ_30 H_31 hI => by
          obtain ⟨G_21, x_24, o_25, rfl, eg_22, c_23, ho_27⟩ := hI
          exact (SqL.of (c_23.gh _ _ (eg_22 _ _ sq_14))))
        (fun i_38 y_29 l_28 σ_30 H_31 v_35 H_39 hx_36 hI hy_37 => ?_) (fun σ_30 H_31 hI => ?_)
      · obtain ⟨G_21, x_24, o_25, rfl, eg_22, c_23, ho_27⟩ := hI
        obtain ⟨so_40, hf_33, hgo_34⟩ := lpx_cons ho_27
        try dsimp only at hf_33
        obtain ⟨rfl, hv_41⟩ := hy_37
        obtain ⟨v_42, hv_43, rv_44⟩ := A2.get al_15 hx_36
        obtain rfl := Option.some.inj (hv_41.symm.trans hv_43)
        obtain rfl := (show v_35 = (.int y_29) from rv_44)
        refine q_if_opq (fun Q_46 kk_47 => ?_)
        obtain ⟨y_48, hb_49, hf_33⟩ := bs hf_33
        refine ⟨_, rfl, G_21, y_29, y_48, rfl, c_23.gh, hb_49, fun G_50 H_51 sp_52 => ?_⟩
        have c_53 := c_23.call sp_52
        refine ⟨_, rfl, ?_⟩
        refine or_t (b := ((decide (y_29 ≤ x_24)) || (decide (size' ≤ y_29)))) (fun ha_59 q_58 => ?_) ?_
        · skip
          refine ⟨_, rfl, _, rfl, _, _, rfl, rfl, _, rfl, ?_⟩
          refine or_t (b := (decide (size' ≤ y_29))) (fun ha_57 q_56 => ?_) ?_
          · skip
            refine ⟨_, rfl, _, rfl, _, _, rfl, rfl, _, rfl, ?_⟩
            exact q_56
          exact q_58
        refine kk_47 _ _ ?_
        refine ite_m hf_33 (fun hc_60 hf_33 => ?_) (fun hc_60 hf_33 => ?_)
        · skip
          refine ret_opq (fun Q_61 kk_62 => ?_)
          refine kk_62 _ _ ?_
          obtain rfl := some_in hf_33
          obtain rfl := some_in hgo_34
          obtain rfl := some_in hm
          exact k G_50 H_51 c_53.stp
        · skip
          try dsimp only [tNext]
          refine asg_opq (fun Q_63 kk_64 => ?_)
          refine ⟨_, rfl, ?_⟩
          refine kk_64 _ _ ?_
          obtain rfl := some_in hf_33
          exact ⟨G_50, y_29, (some (.int y_29)), rfl, (eg_22.trans sp_52.gg), c_53, hgo_34⟩
      · obtain ⟨G_21, x_24, o_25, rfl, eg_22, c_23, ho_27⟩ := hI
        obtain rfl := lpx_nil ho_27
        dsimp only [Out.fin] at hm
        try dsimp only at hm
        try dsimp only
        refine ret_opq (fun Q_66 kk_67 => ?_)
        refine kk_67 _ _ ?_
        obtain rfl := some_in hm
        exact k G_21 H_31 c_23.stp
theorem sc_is_web : FnScope ["value", "thing", "ties"] ["value"] (defScope s_is_web) := ⟨rfl, rfl, rfl, by decide +kernel, rfl, by decide +kernel, by decide +kernel⟩
def m_is_web (value' : (List (List Int))) : Option Bool :=
  if (!true) then none else ((lpx (fun (y_16 : (Int × (List Int))) => (fun (y_36 : Int) (y_37 : (List Int)) => fun (s_19 : Unit) => ((m_are_ties y_37 y_36).bind fun y_46 => (if (!y_46) then (some (Out.rt false)) else (some (Out.nx ()))) : Option (Out Unit Bool))) y_16.1 y_16.2) (enm value') ()).bind fun o_13 => Out.fin o_13 (fun (s_62 : Unit) => (some true)) (fun r_63 => some r_63))
def sp_is_web (K : PySem.W.Frag) : Sp := fun vs H Q _ => ∃ (G : Hp) (a_1 : Addr) (vs_2 : List V) (value' : (List (List Int))) (r : Bool), vs = [.ref a_1] ∧ Ex G H ∧ SqB [] H a_1 vs_2 ∧ AL (rL rI) G vs_2 value' ∧ m_is_web value' = some r ∧ ∀ (G' H' : Hp), Stp [] G G' H H' → Q (.bl r) H'
theorem ok_is_web (T : Env K mg) : FnOk P w K mg base CX0 3 T.f_is_web T.d_is_web ["value"] (sp_is_web K) := by
  refine T.F_is_web.ok sc_is_web (fun vs H Q E h => ?_) (fun cdv A outer s H0 vs Q E hr h => ?_)
  · obtain ⟨G0, a_1, vs_2, value', r, rfl, _⟩ := h
    rfl
  · obtain ⟨G0, a_1, vs_2, value', r, rfl, hG0, sq_3, al_4, hm, k⟩ := h
    have hu := hr.units
    have hu65 := hu65 hr
    have c0 := Cf.start hG0
    unfold m_is_web at hm
    refine ⟨_, (pss_cons (ps_if (pt_not (pt_val (pe_callB (call_is (K := K) rfl) (by rfl) T.n_isinstance bt_isi (pa_cons (pv 0) (pa_cons (pe_bltn (v := .ty "list") (by rfl) T.n_list bt_list rfl) pa_nil))))) pss_never pss_nil)
      (pss_cons (ps_for PassesOwn.never rfl (pi_enum (by rfl) T.n_enumerate (pa_cons (pv 0) pa_nil)) (pg_tup rfl (pgs_cons (pg_name (i := 1) sc_is_web.nd rfl (by first | exact Or.inl rfl | exact Or.inr rfl)) (pgs_cons (pg_name (i := 2) sc_is_web.nd rfl (by first | exact Or.inl rfl | exact Or.inr rfl)) pgs_nil))) (pss_one (ps_if (pt_not (pt_val (pe_call (ok_are_ties T) (hr.mono (by decide)) (by rfl) T.g_are_ties T.F_are_ties.kp T.b_are_ties .nil pass0 (pa_cons (pv 2) (pa_cons (pv 1) pa_nil))))) (pss_one (ps_ret pe_bl)) pss_nil)))
      (pss_one (ps_ret pe_bl)))), ?_⟩
    refine q_if_opq (fun Q_5 kk_6 => ?_)
    refine ⟨_, rfl, _, _, _, _, _, rfl, .ty _, (ty_l (SqL.of (sq_3.at c0))), k_ll, _, rfl, ?_⟩
    refine kk_6 _ _ ?_
    refine ite_no (by decide) ?_
    have hm := if_no (by decide) hm
    try dsimp only [tNext]
    refine ⟨_, rfl, _, _, rfl, (SqL.of (sq_3.at c0)), ?_⟩
    obtain ⟨o_13, ho_14, hm⟩ := bs hm
    refine for_w (walk_enum (xs := vs_2)) (enm value') (by rw [enm_len, A2.len al_4]) (fun l_15 σ_17 H_18 => ∃ (G_8 : Hp) (o_11 : Option V) (o_12 : Option V), σ_17 = [(some (.ref a_1)), o_11, o_12] ∧ Ex G0 G_8 ∧ Cf [] H0 G0 G_8 [] H_18 ∧ lpx (fun (y_16 : (Int × (List Int))) => (fun (y_36 : Int) (y_37 : (List Int)) => fun (s_19 : Unit) => ((m_are_ties y_37 y_36).bind fun y_46 => (if (!y_46) then (some (Out.rt false)) else (some (Out.nx ()))) : Option (Out Unit Bool))) y_16.1 y_16.2) l_15 () = some o_13)
      ⟨G0, none, none, rfl, Ex.refl _, c0, ho_14⟩
      (fun l_15 σ_17 H_18 hI => by
        obtain ⟨G_8, o_11, o_12, rfl, eg_9, c_10, ho_14⟩ := hI
        exact (SqL.of (sq_3.at c_10)))
      (fun i_25 y_16 l_15 σ_17 H_18 v_22 H_26 hx_23 hI hy_24 => ?_) (fun σ_17 H_18 hI => ?_)
    · obtain ⟨G_8, o_11, o_12, rfl, eg_9, c_10, ho_14⟩ := hI
      obtain ⟨so_27, hf_20, hgo_21⟩ := lpx_cons ho_14
      try dsimp only at hf_20
      obtain ⟨T_28, u_29, v_30, rfl, nT_31, rfl, h_32, h_33⟩ := hy_24
      obtain ⟨h_34, h_35⟩ := enm_get hx_23
      obtain ⟨y_36, y_37⟩ := y_16
      dsimp only at h_34 h_35 hf_20
      obtain rfl := Option.some.inj h_32
      rw [← h_34]
      obtain ⟨v_38, hv_39, rv_40⟩ := A2.get al_4 h_35
      obtain rfl := Option.some.inj (h_33.symm.trans hv_39)
      have c_41 := c_10.junk nT_31 (.tup [.int y_36, v_30])
      refine ⟨_, _, rfl, SqT.of upd_same, rfl, _, _, rfl, _, _, rfl, rfl, ?_⟩
      generalize hh : upd H_18 T_28 (.tup [.int y_36, v_30]) = H_42 at c_41 ⊢
      clear hh
      refine if_opq (fun Q_44 kk_45 => ?_)
      obtain ⟨y_46, hb_47, hf_20⟩ := bs hf_20
      obtain ⟨a_48, vs_49, rfl, sq_50, al_51⟩ := ((rL rI).mono eg_9 rv_40)
      refine ⟨_, rfl, _, rfl, G_8, a_48, vs_49, y_37, y_36, y_46, rfl, c_41.gh, (SqB.of (c_41.gh _ _ sq_50)), al_51, hb_47, fun G_52 H_53 sp_54 => ?_⟩
      have c_55 := c_41.call sp_54
      refine ⟨_, rfl, ?_⟩
      refine kk_45 _ _ ?_
      refine ite_m hf_20 (fun hc_56 hf_20 => ?_) (fun hc_56 hf_20 => ?_)
      · skip
        refine ret_opq (fun Q_57 kk_58 => ?_)
        refine kk_58 _ _ ?_
        obtain rfl := some_in hf_20
        obtain rfl := some_in hgo_21
        obtain rfl := some_in hm
        exact k G_52 H_53 c_55.stp
      · skip
        obtain rfl := some_in hf_20
        exact ⟨G_52, (some (.int y_36)), (some (.ref a_48)), rfl, (eg_9.trans sp_54.gg), c_55, hgo_21⟩
    · obtain ⟨G_8, o_11, o_12, rfl, eg_9, c_10, ho_14⟩ := hI
      obtain rfl := lpx_nil ho_14
      dsimp only [Out.fin] at hm
      try dsimp only at hm
      try dsimp only
      refine ret_opq (fun Q_60 kk_61 => ?_)
      refine kk_61 _ _ ?_
      obtain rfl := some_in hm
      exact k G_8 H_18 c_10.stp
theorem sc_is_web_o : FnScope ["value", "thing", "ties"] ["value"] (defScope s_is_web) := ⟨rfl, rfl, rfl, by decide +kernel, rfl, by decide +kernel, by decide +kernel⟩
def m_is_web_o (value' : (List (Option (List Int)))) : Option Bool :=
  if (!true) then none else ((lpx (fun (y_16 : (Int × (Option (List Int)))) => (fun (y_36 : Int) (y_37 : (Option (List Int))) => fun (s_19 : Unit) => ((m_are_ties_o y_37 y_36).bind fun y_46 => (if (!y_46) then (some (Out.rt false)) else (some (Out.nx ()))) : Option (Out Unit Bool))) y_16.1 y_16.2) (enm value') ()).bind fun o_13 => Out.fin o_13 (fun (s_58 : Unit) => (some true)) (fun r_59 => some r_59))
def sp_is_web_o (K : PySem.W.Frag) : Sp := fun vs H Q _ => ∃ (G : Hp) (a_1 : Addr) (vs_2 : List V) (value' : (List (Option (List Int)))) (r : Bool), vs = [.ref a_1] ∧ Ex G H ∧ SqB [] H a_1 vs_2 ∧ AL (rO (rL rI)) G vs_2 value' ∧ m_is_web_o value' = some r ∧ ∀ (G' H' : Hp), Stp [] G G' H H' → Q (.bl r) H'
theorem ok_is_web_o (T : Env K mg) : FnOk P w K mg base CX0 3 T.f_is_web T.d_is_web ["value"] (sp_is_web_o K) := by
  refine T.F_is_web.ok sc_is_web_o (fun vs H Q E h => ?_) (fun cdv A outer s H0 vs Q E hr h => ?_)
  · obtain ⟨G0, a_1, vs_2, value', r, rfl, _⟩ := h
    rfl
  · obtain ⟨G0, a_1, vs_2, value', r, rfl, hG0, sq_3, al_4, hm, k⟩ := h
    have hu := hr.units
    have hu65 := hu65 hr
    have c0 := Cf.start hG0
    unfold m_is_web_o at hm
    refine ⟨_, (pss_cons (ps_if (pt_not (pt_val (pe_callB (call_is (K := K) rfl) (by rfl) T.n_isinstance bt_isi (pa_cons (pv 0) (pa_cons (pe_bltn (v := .ty "list") (by rfl) T.n_list bt_list rfl) pa_nil))))) pss_never pss_nil)
      (pss_cons (ps_for PassesOwn.never rfl (pi_enum (by rfl) T.n_enumerate (pa_cons (pv 0) pa_nil)) (pg_tup rfl (pgs_cons (pg_name (i := 1) sc_is_web_o.nd rfl (by first | exact Or.inl rfl | exact Or.inr rfl)) (pgs_cons (pg_name (i := 2) sc_is_web_o.nd rfl (by first | exact Or.inl rfl | exact Or.inr rfl)) pgs_nil))) (pss_one (ps_if (pt_not (pt_val (pe_call (ok_are_ties_o T) (hr.mono (by decide)) (by rfl) T.g_are_ties T.F_are_ties.kp T.b_are_ties .nil pass0 (pa_cons (pv 2) (pa_cons (pv 1) pa_nil))))) (pss_one (ps_ret pe_bl)) pss_nil)))
      (pss_one (ps_ret pe_bl)))), ?_⟩
    refine q_if_opq (fun Q_5 kk_6 => ?_)
    refine ⟨_, rfl, _, _, _, _, _, rfl, .ty _, (ty_l (SqL.of (sq_3.at c0))), k_ll, _, rfl, ?_⟩
    refine kk_6 _ _ ?_
    refine ite_no (by decide) ?_
    have hm := if_no (by decide) hm
    try dsimp only [tNext]
    refine ⟨_, rfl, _, _, rfl, (SqL.of (sq_3.at c0)), ?_⟩
    obtain ⟨o_13, ho_14, hm⟩ := bs hm
    refine for_w (walk_enum (xs := vs_2)) (enm value') (by rw [enm_len, A2.len al_4]) (fun l_15 σ_17 H_18 => ∃ (G_8 : Hp) (o_11 : Option V) (o_12 : Option V), σ_17 = [(some (.ref a_1)), o_11, o_12] ∧ Ex G0 G_8 ∧ Cf [] H0 G0 G_8 [] H_18 ∧ lpx (fun (y_16 : (Int × (Option (List Int)))) => (fun (y_36 : Int) (y_37 : (Option (List Int))) => fun (s_19 : Unit) => ((m_are_ties_o y_37 y_36).bind fun y_46 => (if (!y_46) then (some (Out.rt false)) else (some (Out.nx ()))) : Option (Out Unit Bool))) y_16.1 y_16.2) l_15 () = some o_13)
      ⟨G0, none, none, rfl, Ex.refl _, c0, ho_14⟩
      (fun l_15 σ_17 H_18 hI => by
        obtain ⟨G_8, o_11, o_12, rfl, eg_9, c_10, ho_14⟩ := hI
        exact (SqL.of (sq_3.at c_10)))
      (fun i_25 y_16 l_15 σ_17 H_18 v_22 H_26 hx_23 hI hy_24 => ?_) (fun σ_17 H_18 hI => ?_)
    · obtain ⟨G_8, o_11, o_12, rfl, eg_9, c_10, ho_14⟩ := hI
      obtain ⟨so_27, hf_20, hgo_21⟩ := lpx_cons ho_14
      try dsimp only at hf_20
      obtain ⟨T_28, u_29, v_30, rfl, nT_31, rfl, h_32, h_33⟩ := hy_24
      obtain ⟨h_34, h_35⟩ := enm_get hx_23
      obtain ⟨y_36, y_37⟩ := y_16
      dsimp only at h_34 h_35 hf_20
      obtain rfl := Option.some.inj h_32
      rw [← h_34]
      obtain ⟨v_38, hv_39, rv_40⟩ := A2.get al_4 h_35
      obtain rfl := Option.some.inj (h_33.symm.trans hv_39)
      have c_41 := c_10.junk nT_31 (.tup [.int y_36, v_30])
      refine ⟨_, _, rfl, SqT.of upd_same, rfl, _, _, rfl, _, _, rfl, rfl, ?_⟩
      generalize hh : upd H_18 T_28 (.tup [.int y_36, v_30]) = H_42 at c_41 ⊢
      clear hh
      refine if_opq (fun Q_44 kk_45 => ?_)
      obtain ⟨y_46, hb_47, hf_20⟩ := bs hf_20
      refine ⟨_, rfl, _, rfl, G_8, v_30, y_37, y_36, y_46, rfl, c_41.gh, ((rO (rL rI)).mono eg_9 rv_40), hb_47, fun G_48 H_49 sp_50 => ?_⟩
      have c_51 := c_41.call sp_50
      refine ⟨_, rfl, ?_⟩
      refine kk_45 _ _ ?_
      refine ite_m hf_20 (fun hc_52 hf_20 => ?_) (fun hc_52 hf_20 => ?_)
      · skip
        refine ret_opq (fun Q_53 kk_54 => ?_)
        refine kk_54 _ _ ?_
        obtain rfl := some_in hf_20
        obtain rfl := some_in hgo_21
        obtain rfl := some_in hm
        exact k G_48 H_49 c_51.stp
      · skip
        obtain rfl := some_in hf_20
        exact ⟨G_48, (some (.int y_36)), (some v_30), rfl, (eg_9.trans sp_50.gg), c_51, hgo_21⟩
    · obtain ⟨G_8, o_11, o_12, rfl, eg_9, c_10, ho_14⟩ := hI
      obtain rfl := lpx_nil ho_14
      dsimp only [Out.fin] at hm
      try dsimp only at hm
      try dsimp only
      refine ret_opq (fun Q_56 kk_57 => ?_)
      refine kk_57 _ _ ?_
      obtain rfl := some_in hm
      exact k G_8 H_18 c_10.stp
theorem sc_read_number : FnScope ["word", "char"] ["word"] (defScope s_read_number) := ⟨rfl, rfl, rfl, by decide +kernel, rfl, by decide +kernel, by decide +kernel⟩
def m_read_number (word' : Str) : Option (Option Int) :=
  (pOr (decide (word' = ("" : Str))) (gd (Str.length word' ≤ BIG) ((pOr (decide ((30 : Int) < ((Str.length word' : Nat) : Int))) (gd (Str.length word' ≤ BIG) ((atI (Str.cps word').toList (0 : Int)).bind fun ch_7 => ((pAnd (decide ((⟨#[ch_7]⟩ : Str) = ("0" : Str))) (gd (Str.length word' ≤ BIG) (some (decide ((1 : Int) < ((Str.length word' : Nat) : Int)))))).bind fun b_13 => (some b_13))))).bind fun b_17 => (some b_17)))).bind fun b_21 => (if b_21 then (some none) else ((lpx (fun (y_33 : Nat) => fun (s_36 : Unit) => (if (!(decide (y_33 ∈ (Str.cps ("0123456789" : Str)).toList))) then (some (Out.rt none)) else (some (Out.nx ())) : Option (Out Unit (Option Int)))) (Str.cps word').toList ()).bind fun o_30 => Out.fin o_30 (fun (s_58 : Unit) => ((iOk word').bind fun i_56 => (some (some i_56)))) (fun r_59 => some r_59)))
def sp_read_number (K : PySem.W.Frag) : Sp := fun vs H Q _ => ∃ (G : Hp) (word' : Str) (r : (Option Int)), vs = [(.str word')] ∧ Ex G H ∧ m_read_number word' = some r ∧ ∀ (v9 : V) (G' H' : Hp), Stp [] G G' H H' → (rO rI).r G' v9 r → Q v9 H'
theorem ok_read_number (T : Env K mg) : FnOk P w K mg base CX0 1 T.f_read_number T.d_read_number ["word"] (sp_read_number K) := by
  refine T.F_read_number.ok sc_read_number (fun vs H Q E h => ?_) (fun cdv A outer s H0 vs Q E hr h => ?_)
  · obtain ⟨G0, word', r, rfl, _⟩ := h
    rfl
  · obtain ⟨G0, word', r, rfl, hG0, hm, k⟩ := h
    have hu := hr.units
    have hu65 := hu65 hr
    have c0 := Cf.start hG0
    unfold m_read_number at hm
    refine ⟨_, (pss_cons (ps_if (PW.pt (pw_or (pt_cmpR op_eqS (pv 0) pe_str (nomark _)) (pw_or (pt_cmpR op_gt (pe_callB call_len_str (by rfl) T.n_len bt_len (pa_cons (pv 0) pa_nil)) (pe_glob (v := (.int (30 : Int))) rfl T.z_MOST_DIGITS ⟨_, rfl⟩) (nomark _)) (pw_or1 (PW.pt (pw_and (pt_cmpR op_eqS (pe_ix ix_str (pv 0) pe_int (fun _ _ => rfl)) pe_str (nomark _)) (pw_and1 (pt_cmpR op_gt (pe_callB call_len_str (by rfl) T.n_len bt_len (pa_cons (pv 0) pa_nil)) pe_int (nomark _))))))))) (pss_one (ps_ret pe_non)) pss_nil)
      (pss_cons (ps_for PassesOwn.never rfl (pi_str (pv 0)) (pg_name (i := 1) sc_read_number.nd rfl (by first | exact Or.inl rfl | exact Or.inr rfl)) (pss_one (ps_if (pt_cmpR op_notIn_sign (pv 1) (pe_glob (v := (.str ("0123456789" : Str))) rfl T.z_DIGITS ⟨_, rfl⟩) rfl) (pss_one (ps_ret pe_non)) pss_nil)))
      (pss_one (ps_ret (pe_callTy call_intS (by rfl) T.n_int bt_int (pa_cons (pv 0) pa_nil)))))), ?_⟩
    refine q_if_opq (fun Q_1 kk_2 => ?_)
    refine ⟨_, rfl, _, _, rfl, rfl, _, rfl, ?_⟩
    obtain ⟨b_21, hb_22, hm⟩ := bs hm
    refine or_r hb_22 (fun ha_20 hq_3 q_19 => ?_) ?_
    · skip
      obtain ⟨hg_4, hq_3⟩ := gdp hq_3
      refine ⟨_, rfl, _, rfl, (le_big hg_4), _, _, rfl, rfl, _, rfl, ?_⟩
      obtain ⟨b_17, hb_18, hq_3⟩ := bs hq_3
      refine or_r hb_18 (fun ha_16 hq_5 q_15 => ?_) ?_
      · skip
        obtain ⟨hg_6, hq_5⟩ := gdp hq_5
        obtain ⟨ch_7, hb_8, hq_5⟩ := bs hq_5
        refine ⟨_, rfl, _, _, _, rfl, rfl, (le_big hg_6), hb_8, _, _, rfl, rfl, _, rfl, ?_⟩
        obtain ⟨b_13, hb_14, hq_5⟩ := bs hq_5
        refine and_r hb_14 (fun ha_12 hq_9 q_11 => ?_) ?_
        · skip
          obtain ⟨hg_10, hq_9⟩ := gdp hq_9
          refine ⟨_, rfl, _, rfl, (le_big hg_10), _, _, rfl, rfl, _, rfl, ?_⟩
          obtain rfl := some_in hq_9
          exact q_11
        obtain rfl := some_in hq_5
        exact q_15
      obtain rfl := some_in hq_3
      exact q_19
    refine kk_2 _ _ ?_
    refine ite_m hm (fun hc_23 hm => ?_) (fun hc_23 hm => ?_)
    · skip
      refine ret_opq (fun Q_24 kk_25 => ?_)
      refine kk_25 _ _ ?_
      obtain rfl := some_in hm
      exact k .non G0 H0 c0.stp rfl
    · skip
      try dsimp only [tNext]
      refine ⟨_, rfl, _, rfl, ?_⟩
      obtain ⟨o_30, ho_31, hm⟩ := bs hm
      refine for_w (walk_str (z := word')) (Str.cps word').toList rfl (fun l_32 σ_34 H_35 => ∃ (G_26 : Hp) (o_29 : Option V), σ_34 = [(some (.str word')), o_29] ∧ Ex G0 G_26 ∧ Cf [] H0 G0 G_26 [] H_35 ∧ lpx (fun (y_33 : Nat) => fun (s_36 : Unit) => (if (!(decide (y_33 ∈ (Str.cps ("0123456789" : Str)).toList))) then (some (Out.rt none)) else (some (Out.nx ())) : Option (Out Unit (Option Int)))) l_32 () = some o_30)
        ⟨G0, none, rfl, Ex.refl _, c0, ho_31⟩
        (fun l_32 σ_34 H_35 hI => by
          obtain ⟨G_26, o_29, rfl, eg_27, c_28, ho_31⟩ := hI
          exact True.intro)
        (fun i_42 y_33 l_32 σ_34 H_35 v_39 H_43 hx_40 hI hy_41 => ?_) (fun σ_34 H_35 hI => ?_)
      · obtain ⟨G_26, o_29, rfl, eg_27, c_28, ho_31⟩ := hI
        obtain ⟨so_44, hf_37, hgo_38⟩ := lpx_cons ho_31
        try dsimp only at hf_37
        obtain ⟨rfl, ch_46, hv_45, rfl⟩ := hy_41
        obtain rfl : y_33 = ch_46 := by rw [Array.getElem?_toList, hv_45] at hx_40; exact (Option.some.inj hx_40).symm
        refine if_opq (fun Q_48 kk_49 => ?_)
        refine ⟨_, rfl, _, _, rfl, rfl, _, rfl, ?_⟩
        refine kk_49 _ _ ?_
        refine ite_m hf_37 (fun hc_50 hf_37 => ?_) (fun hc_50 hf_37 => ?_)
        · skip
          refine ret_opq (fun Q_51 kk_52 => ?_)
          refine kk_52 _ _ ?_
          obtain rfl := some_in hf_37
          obtain rfl := some_in hgo_38
          obtain rfl := some_in hm
          exact k .non G_26 H_43 c_28.stp rfl
        · skip
          obtain rfl := some_in hf_37
          exact ⟨G_26, (some (.str (⟨#[y_33]⟩ : Str))), rfl, eg_27, c_28, hgo_38⟩
      · obtain ⟨G_26, o_29, rfl, eg_27, c_28, ho_31⟩ := hI
        obtain rfl := lpx_nil ho_31
        dsimp only [Out.fin] at hm
        try dsimp only at hm
        try dsimp only
        refine ret_opq (fun Q_54 kk_55 => ?_)
        obtain ⟨i_56, hb_57, hm⟩ := bs hm
        refine ⟨_, rfl, _, _, rfl, hb_57, ?_⟩
        refine kk_55 _ _ ?_
        obtain rfl := some_in hm
        exact k (.int i_56) G_26 H_35 c_28.stp (show ((rO rI)).r G_26 (.int i_56) (some i_56) from rfl)
theorem sc_read_ties : FnScope ["word", "ties", "part", "number"] ["word"] (defScope s_read_ties) := ⟨rfl, rfl, rfl, by decide +kernel, rfl, by decide +kernel, by decide +kernel⟩
def m_read_ties (word' : Str) : Option (Option (List Int)) :=
  if (decide (word' = ("-" : Str))) then (some (some ([] : List Int))) else (gd (Str.length word' + 2 ≤ BIG) ((lpx (fun (y_37 : Str) => fun (s_40 : ((List Int))) => ((fun (xs_30 : (List Int)) => (m_read_number y_37).bind fun y_56 => (oel y_56 (if true then (some (Out.rt none)) else none) (fun (y_65 : Int) => (pOr false ((pAnd (!(decide (xs_30 = ([] : List Int)))) ((atI xs_30 (-(1 : Int))).bind fun y_79 => (some (decide (y_65 ≤ y_79))))).bind fun b_86 => (some b_86))).bind fun b_91 => (if b_91 then (some (Out.rt none)) else (gd (List.length xs_30 < BIG) (some (Out.nx ((xs_30 ++ [y_65]))))))))) s_40 : Option (Out ((List Int)) (Option (List Int))))) (Txt.split word' ("," : Str)) (([] : List Int))).bind fun o_34 => Out.fin o_34 (fun (s_118 : ((List Int))) => (fun (xs_30 : (List Int)) => (some (some xs_30))) s_118) (fun r_119 => some r_119)))
def sp_read_ties (K : PySem.W.Frag) : Sp := fun vs H Q _ => ∃ (G : Hp) (word' : Str) (r : (Option (List Int))), vs = [(.str word')] ∧ Ex G H ∧ m_read_ties word' = some r ∧ ∀ (v9 : V) (G' H' : Hp), Stp [] G G' H H' → (rO (rL rI)).r G' v9 r → (∀ a9, v9 = V.ref a9 → H a9 = none) → Q v9 H'
theorem ok_read_ties (T : Env K mg) : FnOk P w K mg base CX0 2 T.f_read_ties T.d_read_ties ["word"] (sp_read_ties K) := by
  refine T.F_read_ties.ok sc_read_ties (fun vs H Q E h => ?_) (fun cdv A outer s H0 vs Q E hr h => ?_)
  · obtain ⟨G0, word', r, rfl, _⟩ := h
    rfl
  · obtain ⟨G0, word', r, rfl, hG0, hm, k⟩ := h
    have hu := hr.units
    have hu65 := hu65 hr
    have c0 := Cf.start hG0
    unfold m_read_ties at hm
    refine ⟨_, (pss_cons (ps_if (pt_cmpR op_eqS (pv 0) pe_str (nomark _)) (pss_one (ps_ret (pe_lst pa_nil))) pss_nil)
      (pss_cons (ps_set (i := 1) sc_read_ties.nd rfl (by first | exact Or.inl rfl | exact Or.inr rfl) (pe_lst pa_nil))
      (pss_cons (ps_for PassesOwn.never rfl (pi_list (pe_split (pv 0) pe_str)) (pg_name (i := 2) sc_read_ties.nd rfl (by first | exact Or.inl rfl | exact Or.inr rfl)) (pss_cons (ps_set (i := 3) sc_read_ties.nd rfl (by first | exact Or.inl rfl | exact Or.inr rfl) (pe_call (ok_read_number T) (hr.mono (by decide)) (by rfl) T.g_read_number T.F_read_number.kp T.b_read_number .nil pass0 (pa_cons (pv 2) pa_nil)))
      (pss_cons (ps_if (PW.pt (pw_or (pt_cmpR op_isN (pv 3) pe_non (nomark _)) (pw_or1 (PW.pt (pw_and (pt_cmpR (op_neT hu (eqdL eqdI) (by decide)) (pv 1) (pe_lst pa_nil) (nomark _)) (pw_and1 (pt_cmpR op_le (pv 3) (pe_ix (ix_l (K := K) rfl) (pv 1) (pe_un un_neg pe_int) (fun _ _ => rfl)) (nomark _)))))))) (pss_one (ps_ret pe_non)) pss_nil) (pss_one (ps_expr (pe_bm PySem.F.plainAttrs_list PySem.F.slot_list_append PySem.F.type_list_append mt_append (pv 1) (pa_cons (pv 3) pa_nil)))))))
      (pss_one (ps_ret (pv 1)))))), ?_⟩
    refine q_if_opq (fun Q_1 kk_2 => ?_)
    refine ⟨_, rfl, _, _, rfl, rfl, _, rfl, ?_⟩
    refine kk_2 _ _ ?_
    refine ite_m hm (fun hc_3 hm => ?_) (fun hc_3 hm => ?_)
    · skip
      refine ret_opq (fun Q_4 kk_5 => ?_)
      refine ⟨(Nat.zero_le _), fun p_6 np_7 => ?_⟩
      have c_8 := c0.newO np_7 (.lst [])
      generalize hh : upd H0 p_6 (.lst []) = H_9 at c_8 ⊢
      clear hh
      refine kk_5 _ _ ?_
      have hd_10 := c_8.hdn (fun _ z => (nomatch z))
      obtain ⟨G_14, eg_12, sq_13, c_11⟩ : ∃ G9, Ex G0 G9 ∧ G9 p_6 = some (.lst []) ∧ Cf [] H0 G0 G9 [] H_9 := ⟨_, freeze_ex c_8, upd_same, c_8.freeze (fun _ z => (nomatch z))⟩
      obtain rfl := some_in hm
      exact k (.ref p_6) G_14 H_9 c_11.stp (show ((rO (rL rI))).r G_14 (.ref p_6) (some ([] : List Int)) from ⟨p_6, [], rfl, sq_13, (AL.mono eg_12 A2.nil)⟩) (fun _ z => by cases z; exact hd_10)
    · skip
      try dsimp only [tNext]
      refine q_asg_opq (fun Q_15 kk_16 => ?_)
      refine ⟨(Nat.zero_le _), fun p_17 np_18 => ?_⟩
      have c_19 := c0.newO np_18 (.lst [])
      generalize hh : upd H0 p_17 (.lst []) = H_20 at c_19 ⊢
      clear hh
      refine kk_16 _ _ ?_
      obtain ⟨hg_21, hm⟩ := gdp hm
      refine ⟨_, rfl, ⟨_, rfl⟩, _, _, rfl, rfl, (by decide +kernel), (le_big hg_21), fun p_22 np_23 => ?_⟩
      have c_24 := c_19.newO np_23 (.lst (List.map V.str (Txt.split word' ("," : Str))))
      generalize hh : upd H_20 p_22 (.lst (List.map V.str (Txt.split word' ("," : Str)))) = H_25 at c_24 ⊢
      clear hh
      refine ⟨_, rfl, ⟨_, SqL.of (c_24.get 0 rfl)⟩, ?_⟩
      obtain ⟨o_34, ho_35, hm⟩ := bs hm
      refine for_w (walk_list (xs := (List.map V.str (Txt.split word' ("," : Str))))) (Txt.split word' ("," : Str)) (A2.len (la_S G0 (Txt.split word' ("," : Str)))) (fun l_36 σ_38 H_39 => ∃ (G_26 : Hp) (vs_29 : List V) (xs_30 : (List Int)) (o_32 : Option V) (o_33 : Option V), σ_38 = [(some (.str word')), (some (.ref p_17)), o_32, o_33] ∧ Ex G0 G_26 ∧ Cf [] H0 G0 G_26 [(p_22, (.lst (List.map V.str (Txt.split word' ("," : Str))))), (p_17, (.lst vs_29))] H_39 ∧ AL rI G_26 vs_29 xs_30 ∧ lpx (fun (y_37 : Str) => fun (s_40 : ((List Int))) => ((fun (xs_30 : (List Int)) => (m_read_number y_37).bind fun y_56 => (oel y_56 (if true then (some (Out.rt none)) else none) (fun (y_65 : Int) => (pOr false ((pAnd (!(decide (xs_30 = ([] : List Int)))) ((atI xs_30 (-(1 : Int))).bind fun y_79 => (some (decide (y_65 ≤ y_79))))).bind fun b_86 => (some b_86))).bind fun b_91 => (if b_91 then (some (Out.rt none)) else (gd (List.length xs_30 < BIG) (some (Out.nx ((xs_30 ++ [y_65]))))))))) s_40 : Option (Out ((List Int)) (Option (List Int))))) l_36 (xs_30) = some o_34)
        ⟨G0, [], ([] : List Int), none, none, rfl, Ex.refl _, c_24, A2.nil, ho_35⟩
        (fun l_36 σ_38 H_39 hI => by
          obtain ⟨G_26, vs_29, xs_30, o_32, o_33, rfl, eg_27, c_28, al_31, ho_35⟩ := hI
          exact (SqL.of (c_28.get 0 rfl)))
        (fun i_46 y_37 l_36 σ_38 H_39 v_43 H_47 hx_44 hI hy_45 => ?_) (fun σ_38 H_39 hI => ?_)
      · obtain ⟨G_26, vs_29, xs_30, o_32, o_33, rfl, eg_27, c_28, al_31, ho_35⟩ := hI
        obtain ⟨so_48, hf_41, hgo_42⟩ := lpx_cons ho_35
        try dsimp only at hf_41
        obtain ⟨rfl, hv_49⟩ := hy_45
        obtain ⟨v_50, hv_51, rv_52⟩ := A2.get (la_S G0 (Txt.split word' ("," : Str))) hx_44
        obtain rfl := Option.some.inj (hv_49.symm.trans hv_51)
        obtain rfl := (show v_43 = (.str y_37) from rv_52)
        refine q_asg_opq (fun Q_54 kk_55 => ?_)
        obtain ⟨y_56, hb_57, hf_41⟩ := bs hf_41
        refine ⟨_, rfl, G_26, y_37, y_56, rfl, c_28.gh, hb_57, fun v_62 G_58 H_59 sp_60 rv_63 => ?_⟩
        have c_61 := c_28.call sp_60
        refine kk_55 _ _ ?_
        rcases y_56 with _ | y_65
        · skip
          dsimp only [oel] at hf_41
          obtain rfl := (show v_62 = .non from rv_63)
          refine q_if_opq (fun Q_66 kk_67 => ?_)
          refine ⟨_, rfl, rfl, _, rfl, ?_⟩
          refine or_s (by decide) ?_
          refine kk_67 _ _ ?_
          refine ite_yes (by decide) ?_
          have hf_41 := if_yes (by decide) hf_41
          refine ret_opq (fun Q_69 kk_70 => ?_)
          refine kk_70 _ _ ?_
          obtain rfl := some_in hf_41
          obtain rfl := some_in hgo_42
          obtain rfl := some_in hm
          exact k .non G_58 H_59 c_61.stp rfl (fun _ z => nomatch z)
        · skip
          dsimp only [oel] at hf_41
          obtain rfl := (show v_62 = (.int y_65) from rv_63)
          refine q_if_opq (fun Q_71 kk_72 => ?_)
          refine ⟨_, rfl, rfl, _, rfl, ?_⟩
          obtain ⟨b_91, hb_92, hf_41⟩ := bs hf_41
          refine or_h hb_92 (R := (fun H9 => ∃ G9, Ex G_58 G9 ∧ Cf [] H0 G0 G9 [(p_22, (.lst (List.map V.str (Txt.split word' ("," : Str))))), (p_17, (.lst vs_29))] H9)) (fun ha_90 hq_73 q_89 => ?_) ⟨_, Ex.refl _, c_61⟩ ?_
          · skip
            refine ⟨_, rfl, (Nat.zero_le _), fun p_74 np_75 => ?_⟩
            have c_76 := c_61.newO np_75 (.lst [])
            generalize hh : upd H_59 p_74 (.lst []) = H_77 at c_76 ⊢
            clear hh
            refine ⟨_, _, ⟨p_17, vs_29, rfl, (c_76.get 2 rfl), AL.mono c_76.gh (AL.mono sp_60.gg al_31)⟩, ⟨p_74, [], rfl, (c_76.get 0 rfl), AL.mono c_76.gh A2.nil⟩, (okI _), (okI _), _, rfl, ?_⟩
            obtain ⟨b_86, hb_87, hq_73⟩ := bs hq_73
            refine and_r hb_87 (fun ha_85 hq_78 q_84 => ?_) ?_
            · skip
              obtain ⟨y_79, hb_80, hq_78⟩ := bs hq_78
              obtain ⟨v_81, hv_82, rv_83⟩ := at_l (AL.mono sp_60.gg al_31) hb_80
              obtain rfl := (show v_81 = (.int y_79) from rv_83)
              refine ⟨_, rfl, _, rfl, _, rfl, _, _, _, _, rfl, rfl, (SqL.of (c_76.get 2 rfl)), hv_82, _, _, rfl, rfl, _, rfl, ?_⟩
              obtain rfl := some_in hq_78
              exact q_84
            have c_88 : Cf [] H0 G0 G_58 [(p_22, (.lst (List.map V.str (Txt.split word' ("," : Str))))), (p_17, (.lst vs_29))] H_77 := c_76.drop
            obtain rfl := some_in hq_73
            exact q_89 _ ⟨_, Ex.refl _, c_88⟩
          rintro H_94 ⟨G_93, eg_95, c_96⟩
          refine kk_72 _ _ ?_
          refine ite_m hf_41 (fun hc_97 hf_41 => ?_) (fun hc_97 hf_41 => ?_)
          · skip
            refine ret_opq (fun Q_98 kk_99 => ?_)
            refine kk_99 _ _ ?_
            obtain rfl := some_in hf_41
            obtain rfl := some_in hgo_42
            obtain rfl := some_in hm
            exact k .non G_93 H_94 c_96.stp rfl (fun _ z => nomatch z)
          · skip
            try dsimp only [tNext]
            refine drop_opq (fun Q_100 kk_101 => ?_)
            obtain ⟨hg_102, hf_41⟩ := gdp hf_41
            have c_103 : Cf [] H0 G0 G_93 [(p_17, (.lst vs_29)), (p_22, (.lst (List.map V.str (Txt.split word' ("," : Str)))))] H_94 := c_96.front 1 rfl
            refine ⟨_, rfl, .inl ⟨rfl, _, SqL.of (c_96.get 1 rfl)⟩, _, rfl, _, _, _, rfl, rfl, c_103.hd, (by rw [A2.len (AL.mono (sp_60.gg.trans eg_95) al_31)]; exact big_lt hg_102), ?_⟩
            obtain ⟨vs_104, hvs, al_105⟩ : ∃ vs9, vs9 = (vs_29 ++ [(.int y_65)]) ∧ AL rI G_93 vs9 (xs_30 ++ [y_65]) := ⟨_, rfl, (A2.app (AL.mono (sp_60.gg.trans eg_95) al_31) (A2.one rfl))⟩
            rw [← hvs]
            clear hvs
            have c_106 := c_103.mut (.lst vs_104)
            generalize hh : upd H_94 p_17 (.lst vs_104) = H_107 at c_106 ⊢
            clear hh
            refine kk_101 _ _ ?_
            have c_108 : Cf [] H0 G0 G_93 [(p_22, (.lst (List.map V.str (Txt.split word' ("," : Str))))), (p_17, (.lst vs_104))] H_107 := c_106.front 1 rfl
            obtain rfl := some_in hf_41
            exact ⟨G_93, vs_104, (xs_30 ++ [y_65]), (some (.str y_37)), (some (.int y_65)), rfl, ((eg_27.trans sp_60.gg).trans eg_95), c_108, al_105, hgo_42⟩
      · obtain ⟨G_26, vs_29, xs_30, o_32, o_33, rfl, eg_27, c_28, al_31, ho_35⟩ := hI
        obtain rfl := lpx_nil ho_35
        dsimp only [Out.fin] at hm
        try dsimp only at hm
        try dsimp only
        refine ret_opq (fun Q_110 kk_111 => ?_)
        refine ⟨_, rfl, ?_⟩
        refine kk_111 _ _ ?_
        have c_112 : Cf [] H0 G0 G_26 [(p_17, (.lst vs_29)), (p_22, (.lst (List.map V.str (Txt.split word' ("," : Str)))))] H_39 := c_28.front 1 rfl
        have hd_113 := c_112.hdn (fun _ z => (nomatch z))
        obtain ⟨G_117, eg_115, sq_116, c_114⟩ : ∃ G9, Ex G_26 G9 ∧ G9 p_17 = some (.lst vs_29) ∧ Cf [] H0 G0 G9 [(p_22, (.lst (List.map V.str (Txt.split word' ("," : Str)))))] H_39 := ⟨_, freeze_ex c_112, upd_same, c_112.freeze (fun _ z => (nomatch z))⟩
        obtain rfl := some_in hm
        exact k (.ref p_17) G_117 H_39 c_114.stp (show ((rO (rL rI))).r G_117 (.ref p_17) (some xs_30) from ⟨p_17, vs_29, rfl, sq_116, (AL.mono eg_115 al_31)⟩) (fun _ z => by cases z; exact hd_113)
theorem sc_show_ties : FnScope ["ties", "other"] ["ties"] (defScope s_show_ties) := ⟨rfl, rfl, rfl, by decide +kernel, rfl, by decide +kernel, by decide +kernel⟩
def m_show_ties (ties' : (List Int)) : Option Str :=
  if (decide (ties' = ([] : List Int))) then (some ("-" : Str)) else (gd (List.length ties' < BIG) ((lcm (fun (y_34 : Int) => gd (sOk y_34) (some (sI y_34))) ties').bind fun xs_24 => (gd (jOk ("," : Str) xs_24) (some (Txt.join ("," : Str) xs_24)))))
def sp_show_ties (K : PySem.W.Frag) : Sp := fun vs H Q _ => ∃ (G : Hp) (a_1 : Addr) (vs_2 : List V) (ties' : (List Int)) (r : Str), vs = [.ref a_1] ∧ Ex G H ∧ SqB [] H a_1 vs_2 ∧ AL rI G vs_2 ties' ∧ m_show_ties ties' = some r ∧ ∀ (G' H' : Hp), Stp [] G G' H H' → Q (.str r) H'
theorem ok_show_ties (T : Env K mg) : FnOk P w K mg base CX0 1 T.f_show_ties T.d_show_ties ["ties"] (sp_show_ties K) := by
  refine T.F_show_ties.ok sc_show_ties (fun vs H Q E h => ?_) (fun cdv A outer s H0 vs Q E hr h => ?_)
  · obtain ⟨G0, a_1, vs_2, ties', r, rfl, _⟩ := h
    rfl
  · obtain ⟨G0, a_1, vs_2, ties', r, rfl, hG0, sq_3, al_4, hm, k⟩ := h
    have hu := hr.units
    have hu65 := hu65 hr
    have c0 := Cf.start hG0
    unfold m_show_ties at hm
    refine ⟨_, (pss_cons (ps_if (pt_cmpR (op_eqT hu (eqdL eqdI) (by decide)) (pv 0) (pe_lst pa_nil) (nomark _)) (pss_one (ps_ret pe_str)) pss_nil)
      (pss_one (ps_ret (pe_join pe_str (pe_lc (own := [("other", 1)]) (g := gName 1) (tt := tYes)  rfl sc_show_ties.nd (pi_list (pv 0)) (blkOk_by (own := [("other", 1)]) (N := ["ties", "other"]) (sc := defScope s_show_ties) (by decide +kernel)) (fun _ _ _ _ _ => (pg_name (i := 1) sc_show_ties.nd rfl (by first | exact Or.inl rfl | exact Or.inr rfl))) (fun _ _ _ _ _ => pts_nil) (fun _ _ _ _ _ => (pe_callTy call_strI (by rfl) T.n_str bt_str (pa_cons (pv 1) pa_nil)))))))), ?_⟩
    refine q_if_opq (fun Q_5 kk_6 => ?_)
    refine ⟨_, rfl, (Nat.zero_le _), fun p_7 np_8 => ?_⟩
    have c_9 := c0.newO np_8 (.lst [])
    generalize hh : upd H0 p_7 (.lst []) = H_10 at c_9 ⊢
    clear hh
    refine ⟨_, _, ⟨a_1, vs_2, rfl, (sq_3.at c_9), AL.mono c_9.gh al_4⟩, ⟨p_7, [], rfl, (c_9.get 0 rfl), AL.mono c_9.gh A2.nil⟩, (okI _), (okI _), _, rfl, ?_⟩
    refine kk_6 _ _ ?_
    refine ite_m hm (fun hc_11 hm => ?_) (fun hc_11 hm => ?_)
    · skip
      refine ret_opq (fun Q_12 kk_13 => ?_)
      refine kk_13 _ _ ?_
      obtain rfl := some_in hm
      exact k G0 H_10 c_9.stp
    · skip
      try dsimp only [tNext]
      refine ret_opq (fun Q_14 kk_15 => ?_)
      obtain ⟨hg_16, hm⟩ := gdp hm
      refine ⟨⟨_, rfl⟩, _, rfl, _, rfl, ⟨_, SqL.of (sq_3.at c_9)⟩, fun D_17 nD_18 => ?_⟩
      have c_19 := c_9.newO nD_18 (.lst [])
      obtain ⟨out_26, hb_27, hm⟩ := bs hm
      refine lc_w (walk_list (xs := vs_2)) ties' (A2.len al_4) (fun l_33 H_35 => ∃ (G_20 : Hp) (vs_23 : List V) (xs_24 : (List Str)), Ex G0 G_20 ∧ Cf [] H0 G0 G_20 [(D_17, (.lst vs_23)), (p_7, (.lst []))] H_35 ∧ AL rS G_20 vs_23 xs_24 ∧ List.length xs_24 + List.length l_33 < BIG ∧ ∃ rest_29, lcm (fun (y_34 : Int) => gd (sOk y_34) (some (sI y_34))) l_33 = some rest_29 ∧ xs_24 ++ rest_29 = out_26)
        ⟨G0, [], ([] : List Str), Ex.refl _, c_19, A2.nil, ⟨by simpa using hg_16, out_26, hb_27, rfl⟩⟩
        (fun l_33 H_35 hI => by
          obtain ⟨G_20, vs_23, xs_24, eg_21, c_22, al_25, ⟨hlen_32, rest_29, hf_30, hout_31⟩⟩ := hI
          exact (SqL.of (sq_3.at c_22)))
        (fun i_37 y_34 l_33 H_35 v_38 H_41 hx_39 hI hy_40 => ?_) (fun H_35 hI => ?_)
      · obtain ⟨G_20, vs_23, xs_24, eg_21, c_22, al_25, ⟨hlen_32, rest_29, hf_30, hout_31⟩⟩ := hI
        obtain ⟨z_42, rest_43, hq_36, hf_44, ho_45⟩ := lcm_cons hf_30
        try dsimp only at hq_36
        obtain ⟨rfl, hv_47⟩ := hy_40
        obtain ⟨v_48, hv_49, rv_50⟩ := A2.get al_4 hx_39
        obtain rfl := Option.some.inj (hv_47.symm.trans hv_49)
        obtain rfl := (show v_38 = (.int y_34) from rv_50)
        refine ⟨rfl, ?_⟩
        refine yes_q ?_
        refine opqV (fun Q_51 kk_52 => ?_)
        obtain ⟨hg_53, hq_36⟩ := gdp hq_36
        refine ⟨_, rfl, _, rfl, hg_53, ?_⟩
        refine kk_52 _ _ ?_
        refine ⟨_, c_22.hd, big_lt (by have h9 := hlen_32; have h8 := A2.len al_25; simp only [List.length_cons] at h9; omega), ?_⟩
        obtain ⟨vs_54, hvs, al_55⟩ : ∃ vs9, vs9 = (vs_23 ++ [(.str (sI y_34))]) ∧ AL rS G_20 vs9 (xs_24 ++ [(sI y_34)]) := ⟨_, rfl, (A2.app al_25 (A2.one rfl))⟩
        rw [← hvs]
        clear hvs
        have c_56 := c_22.mut (.lst vs_54)
        generalize hh : upd H_41 D_17 (.lst vs_54) = H_57 at c_56 ⊢
        clear hh
        obtain rfl := some_in hq_36
        exact ⟨G_20, vs_54, (xs_24 ++ [(sI y_34)]), eg_21, c_56, al_55, ⟨by have h9 := hlen_32; simp only [List.length_append, List.length_cons, List.length_nil] at h9 ⊢; first | done | omega, rest_43, hf_44, by rw [← hout_31, ho_45]; first | done | simp⟩⟩
      obtain ⟨G_20, vs_23, xs_24, eg_21, c_22, al_25, ⟨hlen_32, rest_29, hf_30, hout_31⟩⟩ := hI
      obtain rfl := some_in hf_30
      rw [List.append_nil] at hout_31
      subst hout_31
      obtain ⟨hg_58, hm⟩ := gdp hm
      refine ⟨_, _, xs_24, rfl, rfl, (.inl (SqL.of (by rw [← al_S al_25]; exact (c_22.get 0 rfl)))), hg_58, ?_⟩
      refine kk_15 _ _ ?_
      obtain rfl := some_in hm
      exact k G_20 H_35 c_22.stp
theorem sc_show_web : FnScope ["web", "ties"] ["web"] (defScope s_show_web) := ⟨rfl, rfl, rfl, by decide +kernel, rfl, by decide +kernel, by decide +kernel⟩
def m_show_web (web' : (List (List Int))) : Option Str :=
  if (decide (web' = ([] : List (List Int)))) then (some ("." : Str)) else (gd (List.length web' < BIG) ((lcm (fun (y_34 : (List Int)) => (m_show_ties y_34).bind fun y_53 => (some y_53)) web').bind fun xs_24 => (gd (jOk (" " : Str) xs_24) (some (Txt.join (" " : Str) xs_24)))))
def sp_show_web (K : PySem.W.Frag) : Sp := fun vs H Q _ => ∃ (G : Hp) (a_1 : Addr) (vs_2 : List V) (web' : (List (List Int))) (r : Str), vs = [.ref a_1] ∧ Ex G H ∧ SqB [] H a_1 vs_2 ∧ AL (rL rI) G vs_2 web' ∧ m_show_web web' = some r ∧ ∀ (G' H' : Hp), Stp [] G G' H H' → Q (.str r) H'
theorem ok_show_web (T : Env K mg) : FnOk P w K mg base CX0 2 T.f_show_web T.d_show_web ["web"] (sp_show_web K) := by
  refine T.F_show_web.ok sc_show_web (fun vs H Q E h => ?_) (fun cdv A outer s H0 vs Q E hr h => ?_)
  · obtain ⟨G0, a_1, vs_2, web', r, rfl, _⟩ := h
    rfl
  · obtain ⟨G0, a_1, vs_2, web', r, rfl, hG0, sq_3, al_4, hm, k⟩ := h
    have hu := hr.units
    have hu65 := hu65 hr
    have c0 := Cf.start hG0
    unfold m_show_web at hm
    refine ⟨_, (pss_cons (ps_if (pt_cmpR (op_eqT hu (eqdL (eqdL eqdI)) (by decide)) (pv 0) (pe_lst pa_nil) (nomark _)) (pss_one (ps_ret pe_str)) pss_nil)
      (pss_one (ps_ret (pe_join pe_str (pe_lc (own := [("ties", 1)]) (g := gName 1) (tt := tYes)  rfl sc_show_web.nd (pi_list (pv 0)) (blkOk_by (own := [("ties", 1)]) (N := ["web", "ties"]) (sc := defScope s_show_web) (by decide +kernel)) (fun _ _ _ _ _ => (pg_name (i := 1) sc_show_web.nd rfl (by first | exact Or.inl rfl | exact Or.inr rfl))) (fun _ _ _ _ _ => pts_nil) (fun _ _ _ _ _ => (pe_call (ok_show_ties T) (hr.mono (by decide)) (by rfl) T.g_show_ties T.F_show_ties.kp T.b_show_ties .nil pass0 (pa_cons (pv 1) pa_nil)))))))), ?_⟩
    refine q_if_opq (fun Q_5 kk_6 => ?_)
    refine ⟨_, rfl, (Nat.zero_le _), fun p_7 np_8 => ?_⟩
    have c_9 := c0.newO np_8 (.lst [])
    generalize hh : upd H0 p_7 (.lst []) = H_10 at c_9 ⊢
    clear hh
    refine ⟨_, _, ⟨a_1, vs_2, rfl, (sq_3.at c_9), AL.mono c_9.gh al_4⟩, ⟨p_7, [], rfl, (c_9.get 0 rfl), AL.mono c_9.gh A2.nil⟩, (okLI _), (okLI _), _, rfl, ?_⟩
    refine kk_6 _ _ ?_
    refine ite_m hm (fun hc_11 hm => ?_) (fun hc_11 hm => ?_)
    · skip
      refine ret_opq (fun Q_12 kk_13 => ?_)
      refine kk_13 _ _ ?_
      obtain rfl := some_in hm
      exact k G0 H_10 c_9.stp
    · skip
      try dsimp only [tNext]
      refine ret_opq (fun Q_14 kk_15 => ?_)
      obtain ⟨hg_16, hm⟩ := gdp hm
      refine ⟨⟨_, rfl⟩, _, rfl, _, rfl, ⟨_, SqL.of (sq_3.at c_9)⟩, fun D_17 nD_18 => ?_⟩
      have c_19 := c_9.newO nD_18 (.lst [])
      obtain ⟨out_26, hb_27, hm⟩ := bs hm
      refine lc_w (walk_list (xs := vs_2)) web' (A2.len al_4) (fun l_33 H_35 => ∃ (G_20 : Hp) (vs_23 : List V) (xs_24 : (List Str)), Ex G0 G_20 ∧ Cf [] H0 G0 G_20 [(D_17, (.lst vs_23)), (p_7, (.lst []))] H_35 ∧ AL rS G_20 vs_23 xs_24 ∧ List.length xs_24 + List.length l_33 < BIG ∧ ∃ rest_29, lcm (fun (y_34 : (List Int)) => (m_show_ties y_34).bind fun y_53 => (some y_53)) l_33 = some rest_29 ∧ xs_24 ++ rest_29 = out_26)
        ⟨G0, [], ([] : List Str), Ex.refl _, c_19, A2.nil, ⟨by simpa using hg_16, out_26, hb_27, rfl⟩⟩
        (fun l_33 H_35 hI => by
          obtain ⟨G_20, vs_23, xs_24, eg_21, c_22, al_25, ⟨hlen_32, rest_29, hf_30, hout_31⟩⟩ := hI
          exact (SqL.of (sq_3.at c_22)))
        (fun i_37 y_34 l_33 H_35 v_38 H_41 hx_39 hI hy_40 => ?_) (fun H_35 hI => ?_)
      · obtain ⟨G_20, vs_23, xs_24, eg_21, c_22, al_25, ⟨hlen_32, rest_29, hf_30, hout_31⟩⟩ := hI
        obtain ⟨z_42, rest_43, hq_36, hf_44, ho_45⟩ := lcm_cons hf_30
        try dsimp only at hq_36
        obtain ⟨rfl, hv_47⟩ := hy_40
        obtain ⟨v_48, hv_49, rv_50⟩ := A2.get al_4 hx_39
        obtain rfl := Option.some.inj (hv_47.symm.trans hv_49)
        refine ⟨rfl, ?_⟩
        refine yes_q ?_
        refine opqV (fun Q_51 kk_52 => ?_)
        obtain ⟨y_53, hb_54, hq_36⟩ := bs hq_36
        obtain ⟨a_55, vs_56, rfl, sq_57, al_58⟩ := ((rL rI).mono eg_21 rv_50)
        refine ⟨_, rfl, G_20, a_55, vs_56, y_34, y_53, rfl, c_22.gh, (SqB.of (c_22.gh _ _ sq_57)), al_58, hb_54, fun G_59 H_60 sp_61 => ?_⟩
        have c_62 := c_22.call sp_61
        refine kk_52 _ _ ?_
        refine ⟨_, c_62.hd, big_lt (by have h9 := hlen_32; have h8 := A2.len (AL.mono sp_61.gg al_25); simp only [List.length_cons] at h9; omega), ?_⟩
        obtain ⟨vs_63, hvs, al_64⟩ : ∃ vs9, vs9 = (vs_23 ++ [(.str y_53)]) ∧ AL rS G_59 vs9 (xs_24 ++ [y_53]) := ⟨_, rfl, (A2.app (AL.mono sp_61.gg al_25) (A2.one rfl))⟩
        rw [← hvs]
        clear hvs
        have c_65 := c_62.mut (.lst vs_63)
        generalize hh : upd H_60 D_17 (.lst vs_63) = H_66 at c_65 ⊢
        clear hh
        obtain rfl := some_in hq_36
        exact ⟨G_59, vs_63, (xs_24 ++ [y_53]), (eg_21.trans sp_61.gg), c_65, al_64, ⟨by have h9 := hlen_32; simp only [List.length_append, List.length_cons, List.length_nil] at h9 ⊢; first | done | omega, rest_43, hf_44, by rw [← hout_31, ho_45]; first | done | simp⟩⟩
      obtain ⟨G_20, vs_23, xs_24, eg_21, c_22, al_25, ⟨hlen_32, rest_29, hf_30, hout_31⟩⟩ := hI
      obtain rfl := some_in hf_30
      rw [List.append_nil] at hout_31
      subst hout_31
      obtain ⟨hg_67, hm⟩ := gdp hm
      refine ⟨_, _, xs_24, rfl, rfl, (.inl (SqL.of (by rw [← al_S al_25]; exact (c_22.get 0 rfl)))), hg_67, ?_⟩
      refine kk_15 _ _ ?_
      obtain rfl := some_in hm
      exact k G_20 H_35 c_22.stp
theorem sc_read_web : FnScope ["text", "word", "web"] ["text"] (defScope s_read_web) := ⟨rfl, rfl, rfl, by decide +kernel, rfl, by decide +kernel, by decide +kernel⟩
def m_read_web (text' : Str) : Option (List (List Int)) :=
  if (!true) then none else (if (decide (text' = ("." : Str))) then (some ([] : List (List Int))) else (gd (Str.length text' + 2 ≤ BIG) (gd (List.length (Txt.split text' (" " : Str)) < BIG) ((lcm (fun (y_38 : Str) => (m_read_ties y_38).bind fun y_57 => (some y_57)) (Txt.split text' (" " : Str))).bind fun xs_28 => ((m_is_web_o xs_28).bind fun y_73 => (if (!y_73) then (none) else ((allS xs_28).bind fun ys_82 => (some ys_82))))))))
def sp_read_web (K : PySem.W.Frag) : Sp := fun vs H Q _ => ∃ (G : Hp) (text' : Str) (r : (List (List Int))), vs = [(.str text')] ∧ Ex G H ∧ m_read_web text' = some r ∧ ∀ (p9 : Addr) (vs9 : List V) (G' H' : Hp), Stp [] G G' H H' → H p9 = none → G' p9 = none → H' p9 = some (.lst vs9) → AL (rL rI) G' vs9 r → Fr9 H vs9 → Q (.ref p9) H'
theorem ok_read_web (T : Env K mg) : FnOk P w K mg base CX0 4 T.f_read_web T.d_read_web ["text"] (sp_read_web K) := by
  refine T.F_read_web.ok sc_read_web (fun vs H Q E h => ?_) (fun cdv A outer s H0 vs Q E hr h => ?_)
  · obtain ⟨G0, text', r, rfl, _⟩ := h
    rfl
  · obtain ⟨G0, text', r, rfl, hG0, hm, k⟩ := h
    have hu := hr.units
    have hu65 := hu65 hr
    have c0 := Cf.start hG0
    unfold m_read_web at hm
    refine ⟨_, (pss_cons (ps_if (pt_not (pt_val (pe_callB (call_is (K := K) rfl) (by rfl) T.n_isinstance bt_isi (pa_cons (pv 0) (pa_cons (pe_bltn (v := .ty "str") (by rfl) T.n_str bt_str rfl) pa_nil))))) pss_never pss_nil)
      (pss_cons (ps_if (pt_cmpR op_eqS (pv 0) pe_str (nomark _)) (pss_one (ps_ret (pe_lst pa_nil))) pss_nil)
      (pss_cons (ps_setLc (i := 2) (own := [("word", 1)]) (g := gName 1) (tt := tYes)  rfl sc_read_web.nd rfl rfl (sw_true rfl rfl rfl (by decide +kernel)) (pi_list (pe_split (pv 0) pe_str)) (blkOk_by (own := [("word", 1)]) (N := ["text", "word", "web"]) (sc := defScope s_read_web) (by decide +kernel)) (fun _ _ _ _ _ => (pg_name (i := 1) sc_read_web.nd rfl (by first | exact Or.inl rfl | exact Or.inr rfl))) (fun _ _ _ _ _ => pts_nil) (fun _ _ _ _ _ => (pe_call (ok_read_ties T) (hr.mono (by decide)) (by rfl) T.g_read_ties T.F_read_ties.kp T.b_read_ties .nil pass0 (pa_cons (pv 1) pa_nil))))
      (pss_cons (ps_if (pt_not (pt_val (pe_call (ok_is_web_o T) (hr.mono (by decide)) (by rfl) T.g_is_web T.F_is_web.kp T.b_is_web .nil pass0 (pa_cons (pv 2) pa_nil)))) (pss_one ps_never) pss_nil)
      (pss_one (ps_ret (pv 2))))))), ?_⟩
    refine q_if_opq (fun Q_1 kk_2 => ?_)
    refine ⟨_, rfl, _, _, _, _, _, rfl, .ty _, ty_s, k_ss, _, rfl, ?_⟩
    refine kk_2 _ _ ?_
    refine ite_no (by decide) ?_
    have hm := if_no (by decide) hm
    try dsimp only [tNext]
    refine q_if_opq (fun Q_4 kk_5 => ?_)
    refine ⟨_, rfl, _, _, rfl, rfl, _, rfl, ?_⟩
    refine kk_5 _ _ ?_
    refine ite_m hm (fun hc_6 hm => ?_) (fun hc_6 hm => ?_)
    · skip
      refine ret_opq (fun Q_7 kk_8 => ?_)
      refine ⟨(Nat.zero_le _), fun p_9 np_10 => ?_⟩
      have c_11 := c0.newO np_10 (.lst [])
      generalize hh : upd H0 p_9 (.lst []) = H_12 at c_11 ⊢
      clear hh
      refine kk_8 _ _ ?_
      obtain rfl := some_in hm
      exact k p_9 [] G0 H_12 c_11.stp (c_11.hdn (fun _ z => (nomatch z))) c_11.hdg c_11.hd A2.nil Fr9.nil
    · skip
      try dsimp only [tNext]
      refine q_asg_opq (fun Q_13 kk_14 => ?_)
      obtain ⟨hg_15, hm⟩ := gdp hm
      refine ⟨_, rfl, ⟨_, rfl⟩, _, _, rfl, rfl, (by decide +kernel), (le_big hg_15), fun p_16 np_17 => ?_⟩
      have c_18 := c0.newO np_17 (.lst (List.map V.str (Txt.split text' (" " : Str))))
      generalize hh : upd H0 p_16 (.lst (List.map V.str (Txt.split text' (" " : Str)))) = H_19 at c_18 ⊢
      clear hh
      obtain ⟨hg_20, hm⟩ := gdp hm
      refine ⟨_, rfl, ⟨_, SqL.of (c_18.get 0 rfl)⟩, fun D_21 nD_22 => ?_⟩
      have c_23 := c_18.newO nD_22 (.lst [])
      obtain ⟨out_30, hb_31, hm⟩ := bs hm
      refine lc_w (walk_list (xs := (List.map V.str (Txt.split text' (" " : Str))))) (Txt.split text' (" " : Str)) (A2.len (la_S G0 (Txt.split text' (" " : Str)))) (fun l_37 H_39 => ∃ (G_24 : Hp) (vs_27 : List V) (xs_28 : (List (Option (List Int)))), Ex G0 G_24 ∧ Cf [] H0 G0 G_24 [(D_21, (.lst vs_27)), (p_16, (.lst (List.map V.str (Txt.split text' (" " : Str)))))] H_39 ∧ AL (rO (rL rI)) G_24 vs_27 xs_28 ∧ Fr9 H0 vs_27 ∧ List.length xs_28 + List.length l_37 < BIG ∧ ∃ rest_33, lcm (fun (y_38 : Str) => (m_read_ties y_38).bind fun y_57 => (some y_57)) l_37 = some rest_33 ∧ xs_28 ++ rest_33 = out_30)
        ⟨G0, [], ([] : List (Option (List Int))), Ex.refl _, c_23, A2.nil, ⟨Fr9.nil, by simpa using hg_20, out_30, hb_31, rfl⟩⟩
        (fun l_37 H_39 hI => by
          obtain ⟨G_24, vs_27, xs_28, eg_25, c_26, al_29, ⟨hfr_32, hlen_36, rest_33, hf_34, hout_35⟩⟩ := hI
          exact (SqL.of (c_26.get 1 rfl)))
        (fun i_41 y_38 l_37 H_39 v_42 H_45 hx_43 hI hy_44 => ?_) (fun H_39 hI => ?_)
      · obtain ⟨G_24, vs_27, xs_28, eg_25, c_26, al_29, ⟨hfr_32, hlen_36, rest_33, hf_34, hout_35⟩⟩ := hI
        obtain ⟨z_46, rest_47, hq_40, hf_48, ho_49⟩ := lcm_cons hf_34
        try dsimp only at hq_40
        obtain ⟨rfl, hv_51⟩ := hy_44
        obtain ⟨v_52, hv_53, rv_54⟩ := A2.get (la_S G0 (Txt.split text' (" " : Str))) hx_43
        obtain rfl := Option.some.inj (hv_51.symm.trans hv_53)
        obtain rfl := (show v_42 = (.str y_38) from rv_54)
        refine ⟨rfl, ?_⟩
        refine yes_q ?_
        refine opqV (fun Q_55 kk_56 => ?_)
        obtain ⟨y_57, hb_58, hq_40⟩ := bs hq_40
        refine ⟨_, rfl, G_24, y_38, y_57, rfl, c_26.gh, hb_58, fun v_63 G_59 H_60 sp_61 rv_64 fr_65 => ?_⟩
        have c_62 := c_26.call sp_61
        have hfr_66 := hfr_32.snoc c_26 al_29 fr_65
        refine kk_56 _ _ ?_
        refine ⟨_, c_62.hd, big_lt (by have h9 := hlen_36; have h8 := A2.len (AL.mono sp_61.gg al_29); simp only [List.length_cons] at h9; omega), ?_⟩
        obtain ⟨vs_67, hvs, al_68⟩ : ∃ vs9, vs9 = (vs_27 ++ [v_63]) ∧ AL (rO (rL rI)) G_59 vs9 (xs_28 ++ [y_57]) := ⟨_, rfl, (A2.app (AL.mono sp_61.gg al_29) (A2.one rv_64))⟩
        rw [← hvs] at hfr_66 ⊢
        clear hvs
        have c_69 := c_62.mut (.lst vs_67)
        generalize hh : upd H_60 D_21 (.lst vs_67) = H_70 at c_69 ⊢
        clear hh
        obtain rfl := some_in hq_40
        exact ⟨G_59, vs_67, (xs_28 ++ [y_57]), (eg_25.trans sp_61.gg), c_69, al_68, ⟨hfr_66, by have h9 := hlen_36; simp only [List.length_append, List.length_cons, List.length_nil] at h9 ⊢; first | done | omega, rest_47, hf_48, by rw [← hout_35, ho_49]; first | done | simp⟩⟩
      obtain ⟨G_24, vs_27, xs_28, eg_25, c_26, al_29, ⟨hfr_32, hlen_36, rest_33, hf_34, hout_35⟩⟩ := hI
      obtain rfl := some_in hf_34
      rw [List.append_nil] at hout_35
      subst hout_35
      refine kk_14 _ _ ?_
      refine q_if_opq (fun Q_71 kk_72 => ?_)
      obtain ⟨y_73, hb_74, hm⟩ := bs hm
      refine ⟨_, rfl, G_24, D_21, vs_27, xs_28, y_73, rfl, c_26.gh, (SqB.of (c_26.get 0 rfl)), al_29, hb_74, fun G_75 H_76 sp_77 => ?_⟩
      have c_78 := c_26.call sp_77
      refine ⟨_, rfl, ?_⟩
      refine kk_72 _ _ ?_
      refine ite_m hm (fun hc_79 hm => ?_) (fun hc_79 hm => ?_)
      · skip
        cases hm
      · skip
        try dsimp only [tNext]
        refine ret_opq (fun Q_80 kk_81 => ?_)
        refine ⟨_, rfl, ?_⟩
        refine kk_81 _ _ ?_
        obtain ⟨ys_82, hb_83, hm⟩ := bs hm
        have al_84 := al_allS (AL.mono sp_77.gg al_29) hb_83
        obtain rfl := some_in hm
        exact k D_21 vs_27 G_75 H_76 c_78.stp (c_78.hdn (fun _ z => (nomatch z))) c_78.hdg c_78.hd al_84 hfr_32
theorem sc__law_deck : FnScope ["script", "at", "cell", "seed"] ["script", "at"] (defScope s__law_deck) := ⟨rfl, rfl, rfl, by decide +kernel, rfl, by decide +kernel, by decide +kernel⟩
def m__law_deck (script' : List Int) (at' : Int) : Option (List Int) :=
  (((if (decide (at' < ((List.length script' : Nat) : Int))) then ((atI script' at').bind fun y_18 => (some (y_18))) else (some ((0 : Int)))) : Option (Int))).bind fun (s_41 : (Int)) => (fun (x_8 : Int) => (lt (((((x_8 * (7919 : Int)) + (at' * (104729 : Int))) + (1 : Int)) % (2147483647 : Int)) : Int) fun x_22 => (if (decide (((10 : Int) ^ ((18 : Int)).toNat) ≤ x_8)) then (some ([(x_8 - ((10 : Int) ^ ((18 : Int)).toNat)), x_22, at'] : List Int)) else (some ([(0 : Int), x_22, (x_8 % (1000000000000000003 : Int))] : List Int))))) s_41
def sp__law_deck (K : PySem.W.Frag) : Sp := fun vs H Q _ => ∃ (G : Hp) (a_1 : Addr) (script' : List Int) (at' : Int) (r : (List Int)), vs = [.ref a_1, (.int at')] ∧ Ex G H ∧ SqL K H a_1 (script'.map V.int) ∧ m__law_deck script' at' = some r ∧ ∀ (p9 : Addr) (vs9 : List V) (G' H' : Hp), Stp [] G G' H H' → H p9 = none → G' p9 = none → H' p9 = some (.lst vs9) → AL rI G' vs9 r → Q (.ref p9) H'
theorem ok__law_deck (T : Env K mg) : FnOk P w K mg base CX0 1 T.f__law_deck T.d__law_deck ["script", "at"] (sp__law_deck K) := by
  refine T.F__law_deck.ok sc__law_deck (fun vs H Q E h => ?_) (fun cdv A outer s H0 vs Q E hr h => ?_)
  · obtain ⟨G0, a_1, script', at', r, rfl, _⟩ := h
    rfl
  · obtain ⟨G0, a_1, script', at', r, rfl, hG0, sq_2, hm, k⟩ := h
    have hu := hr.units
    have hu65 := hu65 hr
    have c0 := Cf.start hG0
    unfold m__law_deck at hm
    refine ⟨_, (pss_cons (ps_set (i := 2) sc__law_deck.nd rfl (by first | exact Or.inl rfl | exact Or.inr rfl) pe_int)
      (Evl.pss_cut (ps_if (pt_cmpR op_lt (pv 1) (pe_callB (call_lenSc (K := K) rfl) (by rfl) T.n_len bt_len (pa_cons (pv 0) pa_nil)) (nomark _)) (pss_one (ps_set (i := 2) sc__law_deck.nd rfl (by first | exact Or.inl rfl | exact Or.inr rfl) (pe_ix (ix_l (K := K) rfl) (pv 0) (pv 1) (fun _ _ => rfl)))) pss_nil)
      (pss_cons (ps_set (i := 3) sc__law_deck.nd rfl (by first | exact Or.inl rfl | exact Or.inr rfl) (pe_op op_mod (pe_callTy call_intI (by rfl) T.n_int bt_int (pa_cons (pe_op op_add (pe_op op_add (pe_op op_mul (pv 2) pe_int) (pe_op op_mul (pv 1) pe_int)) pe_int) pa_nil)) pe_int))
      (pss_cons (ps_if (pt_cmpR op_ge (pv 2) (pe_op op_pow pe_int pe_int) (nomark _)) (pss_one (ps_ret (pe_lst (pa_cons (pe_op op_sub (pv 2) (pe_op op_pow pe_int pe_int)) (pa_cons (pv 3) (pa_cons (pv 1) pa_nil)))))) pss_nil)
      (pss_one (ps_ret (pe_lst (pa_cons pe_int (pa_cons (pv 3) (pa_cons (pe_op op_mod (pe_callTy call_intI (by rfl) T.n_int bt_int (pa_cons (pv 2) pa_nil)) pe_int) pa_nil)))))))))), ?_⟩
    refine q_asg_opq (fun Q_3 kk_4 => ?_)
    refine kk_4 _ _ ?_
    obtain ⟨s_9, hs_10, hm⟩ := bs hm
    refine ⟨(fun σ_11 H_12 => ∃ (G_5 : Hp) (x_8 : Int), σ_11 = [(some (.ref a_1)), (some (.int at')), (some (.int x_8)), none] ∧ Ex G0 G_5 ∧ Cf [] H0 G0 G_5 [] H_12 ∧ (x_8) = s_9), ?_, ?_⟩
    · skip
      refine if_opq (fun Q_13 kk_14 => ?_)
      refine ⟨_, rfl, _, rfl, _, _, rfl, (sc_at sq_2 c0), _, _, rfl, rfl, _, rfl, ?_⟩
      refine kk_14 _ _ ?_
      refine ite_m hs_10 (fun hc_15 hs_10 => ?_) (fun hc_15 hs_10 => ?_)
      · skip
        refine asg_opq (fun Q_16 kk_17 => ?_)
        obtain ⟨y_18, hb_19, hs_10⟩ := bs hs_10
        refine ⟨_, rfl, _, rfl, _, _, _, _, rfl, rfl, (sc_at sq_2 c0), (atI_I hb_19), ?_⟩
        refine kk_17 _ _ ?_
        obtain rfl := some_in hs_10
        exact ⟨G0, y_18, rfl, Ex.refl _, c0, rfl⟩
      · skip
        try dsimp only [tNext]
        obtain rfl := some_in hs_10
        exact ⟨G0, (0 : Int), rfl, Ex.refl _, c0, rfl⟩
    rintro σ_11 H_12 ⟨G_5, x_8, rfl, eg_6, c_7, rfl⟩
    try dsimp only at hm
    refine q_asg_opq (fun Q_20 kk_21 => ?_)
    obtain ⟨x_22, hl_23, hm⟩ := ltp hm
    refine ⟨_, rfl, _, _, rfl, rfl, .inr ⟨by decide, by decide⟩, _, rfl, _, _, rfl, rfl, .inr ⟨by decide, by decide⟩, _, _, rfl, rfl, _, _, rfl, rfl, _, rfl, _, _, rfl, rfl, (by show (0 : Int) < 2147483647; decide), ?_⟩
    refine nmV (f := V.int) (P := fun v9 => Q_20 v9 _) hl_23 ?_
    refine kk_21 _ _ ?_
    refine q_if_opq (fun Q_24 kk_25 => ?_)
    refine ⟨_, rfl, _, _, rfl, rfl, ⟨by decide, by decide, by decide⟩, _, _, rfl, rfl, _, rfl, ?_⟩
    refine kk_25 _ _ ?_
    refine ite_m hm (fun hc_26 hm => ?_) (fun hc_26 hm => ?_)
    · skip
      refine ret_opq (fun Q_27 kk_28 => ?_)
      have al_31 : AL rI G_5 [(.int (x_8 - ((10 : Int) ^ ((18 : Int)).toNat))), (.int x_22), (.int at')] ([(x_8 - ((10 : Int) ^ ((18 : Int)).toNat)), x_22, at'] : List Int) := (A2.cons rfl (A2.cons rfl (A2.cons rfl A2.nil)))
      refine ⟨_, rfl, _, _, rfl, rfl, ⟨by decide, by decide, by decide⟩, _, _, rfl, rfl, _, rfl, _, rfl, (by show 3 ≤ sizeLine; decide), fun p_29 np_30 => ?_⟩
      have c_32 := c_7.newO np_30 (.lst [(.int (x_8 - ((10 : Int) ^ ((18 : Int)).toNat))), (.int x_22), (.int at')])
      generalize hh : upd H_12 p_29 (.lst [(.int (x_8 - ((10 : Int) ^ ((18 : Int)).toNat))), (.int x_22), (.int at')]) = H_33 at c_32 ⊢
      clear hh
      refine kk_28 _ _ ?_
      obtain rfl := some_in hm
      exact k p_29 [(.int (x_8 - ((10 : Int) ^ ((18 : Int)).toNat))), (.int x_22), (.int at')] G_5 H_33 c_32.stp (c_32.hdn (fun _ z => (nomatch z))) c_32.hdg c_32.hd al_31
    · skip
      try dsimp only [tNext]
      refine ret_opq (fun Q_34 kk_35 => ?_)
      have al_38 : AL rI G_5 [(.int (0 : Int)), (.int x_22), (.int (x_8 % (1000000000000000003 : Int)))] ([(0 : Int), x_22, (x_8 % (1000000000000000003 : Int))] : List Int) := (A2.cons rfl (A2.cons rfl (A2.cons rfl A2.nil)))
      refine ⟨_, rfl, _, rfl, _, rfl, _, _, rfl, rfl, (by show (0 : Int) < 1000000000000000003; decide), (by show 3 ≤ sizeLine; decide), fun p_36 np_37 => ?_⟩
      have c_39 := c_7.newO np_37 (.lst [(.int (0 : Int)), (.int x_22), (.int (x_8 % (1000000000000000003 : Int)))])
      generalize hh : upd H_12 p_36 (.lst [(.int (0 : Int)), (.int x_22), (.int (x_8 % (1000000000000000003 : Int)))]) = H_40 at c_39 ⊢
      clear hh
      refine kk_35 _ _ ?_
      obtain rfl := some_in hm
      exact k p_36 [(.int (0 : Int)), (.int x_22), (.int (x_8 % (1000000000000000003 : Int)))] G_5 H_40 c_39.stp (c_39.hdn (fun _ z => (nomatch z))) c_39.hdg c_39.hd al_38
theorem sc__law_draw : FnScope ["deck", "many", "drawn", "low", "mixed"] ["deck", "many"] (defScope s__law_draw) := ⟨rfl, rfl, rfl, by decide +kernel, rfl, by decide +kernel, by decide +kernel⟩
def m__law_draw : Nat → (List Int) → Int → Option (Int × List Int)
  | 0, _, _ => none
  | fuel + 1, deck', many' =>
  (atI deck' (0 : Int)).bind fun y_8 => (if (decide ((0 : Int) < y_8)) then ((atI deck' (0 : Int)).bind fun y_16 => (gd (0 < many') (lt ((y_16 % many') : Int) fun x_22 => ((atI deck' (0 : Int)).bind fun y_26 => (gd (CDivW y_26 many') ((ixN (List.length deck') (0 : Int)).bind fun j_32 => (some (x_22, (List.set deck' j_32 (y_26 / many')))))))))) else (if (decide (((10 : Int) ^ ((6 : Int)).toNat) < many')) then ((m__law_draw fuel deck' ((10 : Int) ^ ((6 : Int)).toNat)).bind fun z_50 => (fun (y_47 : Int) (y_48 : List Int) => (gd (CDivW many' ((10 : Int) ^ ((6 : Int)).toNat)) ((m__law_draw fuel y_48 ((many' / ((10 : Int) ^ ((6 : Int)).toNat)) + (1 : Int))).bind fun z_64 => (fun (y_61 : Int) (y_62 : List Int) => (gd (CMul ((10 : Int) ^ ((6 : Int)).toNat) y_61) (gd (0 < many') (some (((y_47 + (((10 : Int) ^ ((6 : Int)).toNat) * y_61)) % many'), y_62))))) z_64.1 z_64.2))) z_50.1 z_50.2) else ((atI deck' (1 : Int)).bind fun y_76 => ((ixN (List.length deck') (1 : Int)).bind fun j_81 => ((atI (List.set deck' j_81 (((y_76 * (48271 : Int)) + (12345 : Int)) % (2147483647 : Int))) (1 : Int)).bind fun y_91 => ((atI (List.set deck' j_81 (((y_76 * (48271 : Int)) + (12345 : Int)) % (2147483647 : Int))) (1 : Int)).bind fun y_96 => (gd (CMul y_91 y_96) ((atI (List.set deck' j_81 (((y_76 * (48271 : Int)) + (12345 : Int)) % (2147483647 : Int))) (2 : Int)).bind fun y_102 => (lt ((((y_91 * y_96) + y_102) % (2147483629 : Int)) : Int) fun x_107 => (gd (CMul x_107 x_107) (gd (0 < many') (some (((((x_107 * x_107) % (2147483587 : Int)) / (8 : Int)) % many'), (List.set deck' j_81 (((y_76 * (48271 : Int)) + (12345 : Int)) % (2147483647 : Int))))))))))))))))
theorem m__law_draw_s (fuel : Nat) (deck' : (List Int)) (many' : Int) : m__law_draw (fuel + 1) deck' many' =
  ((atI deck' (0 : Int)).bind fun y_8 => (if (decide ((0 : Int) < y_8)) then ((atI deck' (0 : Int)).bind fun y_16 => (gd (0 < many') (lt ((y_16 % many') : Int) fun x_22 => ((atI deck' (0 : Int)).bind fun y_26 => (gd (CDivW y_26 many') ((ixN (List.length deck') (0 : Int)).bind fun j_32 => (some (x_22, (List.set deck' j_32 (y_26 / many')))))))))) else (if (decide (((10 : Int) ^ ((6 : Int)).toNat) < many')) then ((m__law_draw fuel deck' ((10 : Int) ^ ((6 : Int)).toNat)).bind fun z_50 => (fun (y_47 : Int) (y_48 : List Int) => (gd (CDivW many' ((10 : Int) ^ ((6 : Int)).toNat)) ((m__law_draw fuel y_48 ((many' / ((10 : Int) ^ ((6 : Int)).toNat)) + (1 : Int))).bind fun z_64 => (fun (y_61 : Int) (y_62 : List Int) => (gd (CMul ((10 : Int) ^ ((6 : Int)).toNat) y_61) (gd (0 < many') (some (((y_47 + (((10 : Int) ^ ((6 : Int)).toNat) * y_61)) % many'), y_62))))) z_64.1 z_64.2))) z_50.1 z_50.2) else ((atI deck' (1 : Int)).bind fun y_76 => ((ixN (List.length deck') (1 : Int)).bind fun j_81 => ((atI (List.set deck' j_81 (((y_76 * (48271 : Int)) + (12345 : Int)) % (2147483647 : Int))) (1 : Int)).bind fun y_91 => ((atI (List.set deck' j_81 (((y_76 * (48271 : Int)) + (12345 : Int)) % (2147483647 : Int))) (1 : Int)).bind fun y_96 => (gd (CMul y_91 y_96) ((atI (List.set deck' j_81 (((y_76 * (48271 : Int)) + (12345 : Int)) % (2147483647 : Int))) (2 : Int)).bind fun y_102 => (lt ((((y_91 * y_96) + y_102) % (2147483629 : Int)) : Int) fun x_107 => (gd (CMul x_107 x_107) (gd (0 < many') (some (((((x_107 * x_107) % (2147483587 : Int)) / (8 : Int)) % many'), (List.set deck' j_81 (((y_76 * (48271 : Int)) + (12345 : Int)) % (2147483647 : Int))))))))))))))))) := rfl
def sp__law_draw (K : PySem.W.Frag) (fuel : Nat) : Sp := fun vs H Q _ => ∃ (G : Hp) (p_1 : Addr) (vs_2 : List V) (deck' : (List Int)) (many' : Int) (r : (Int × List Int)), vs = [.ref p_1, (.int many')] ∧ Ex G H ∧ H p_1 = some (.lst vs_2) ∧ G p_1 = none ∧ AL rI G vs_2 deck' ∧ m__law_draw fuel deck' many' = some r ∧ ∀ (G' H' : Hp), Stp [p_1] G G' H H' → ∀ vs8, H' p_1 = some (.lst vs8) → AL rI G' vs8 r.2 → Q (.int r.1) H'
theorem ok__law_draw (T : Env K mg) (fuel : Nat) : FnOk P w K mg base CX0 (fuel + 1) T.f__law_draw T.d__law_draw ["deck", "many"] (sp__law_draw K fuel) := by
  induction fuel with
  | zero =>
    refine T.F__law_draw.ok sc__law_draw (fun vs H Q E h => ?_) (fun cdv A outer s H0 vs Q E hr h => ?_)
    · obtain ⟨G0, p_1, vs_2, deck', many', r, rfl, _⟩ := h
      rfl
    · obtain ⟨G0, p_1, vs_2, deck', many', r, rfl, hG0, hp_3, gp_4, al_5, hm, k⟩ := h
      cases hm
  | succ fuel ih =>
    refine T.F__law_draw.ok sc__law_draw (fun vs H Q E h => ?_) (fun cdv A outer s H0 vs Q E hr h => ?_)
    · obtain ⟨G0, p_1, vs_2, deck', many', r, rfl, _⟩ := h
      rfl
    · obtain ⟨G0, p_1, vs_2, deck', many', r, rfl, hG0, hp_3, gp_4, al_5, hm, k⟩ := h
      have hu := hr.units
      have hu65 := hu65 hr
      have c0 := Cf.start1 hG0 hp_3 gp_4
      rw [m__law_draw_s] at hm
      refine ⟨_, (pss_cons (ps_if (pt_cmpR op_gt (pe_ix (ix_l (K := K) rfl) (pv 0) pe_int (fun _ _ => rfl)) pe_int (nomark _)) (pss_cons (ps_set (i := 2) sc__law_draw.nd rfl (by first | exact Or.inl rfl | exact Or.inr rfl) (pe_op op_mod (pe_callTy call_intI (by rfl) T.n_int bt_int (pa_cons (pe_ix (ix_l (K := K) rfl) (pv 0) pe_int (fun _ _ => rfl)) pa_nil)) (pv 1)))
        (pss_cons (ps_asg (pe_op op_fdivW (pe_ix (ix_l (K := K) rfl) (pv 0) pe_int (fun _ _ => rfl)) (pv 1)) (pg_sub (pv 0) pe_int set_list))
        (pss_one (ps_ret (pv 2))))) pss_nil)
        (pss_cons (ps_if (pt_cmpR op_gt (pv 1) (pe_op op_pow pe_int pe_int) (nomark _)) (pss_cons (ps_set (i := 3) sc__law_draw.nd rfl (by first | exact Or.inl rfl | exact Or.inr rfl) (pe_call ih (hr.mono (by omega)) (by rfl) T.g__law_draw T.F__law_draw.kp T.b__law_draw .nil pass0 (pa_cons (pv 0) (pa_cons (pe_op op_pow pe_int pe_int) pa_nil))))
        (pss_one (ps_ret (pe_op op_mod (pe_callTy call_intI (by rfl) T.n_int bt_int (pa_cons (pe_op op_add (pv 3) (pe_op op_mul (pe_op op_pow pe_int pe_int) (pe_call ih (hr.mono (by omega)) (by rfl) T.g__law_draw T.F__law_draw.kp T.b__law_draw .nil pass0 (pa_cons (pv 0) (pa_cons (pe_op op_add (pe_op op_fdivW (pv 1) (pe_op op_pow pe_int pe_int)) pe_int) pa_nil))))) pa_nil)) (pv 1))))) pss_nil)
        (pss_cons (ps_asg (pe_op op_mod (pe_callTy call_intI (by rfl) T.n_int bt_int (pa_cons (pe_op op_add (pe_op op_mul (pe_ix (ix_l (K := K) rfl) (pv 0) pe_int (fun _ _ => rfl)) pe_int) pe_int) pa_nil)) pe_int) (pg_sub (pv 0) pe_int set_list))
        (pss_cons (ps_set (i := 4) sc__law_draw.nd rfl (by first | exact Or.inl rfl | exact Or.inr rfl) (pe_op op_mod (pe_callTy call_intI (by rfl) T.n_int bt_int (pa_cons (pe_op op_add (pe_op op_mul (pe_ix (ix_l (K := K) rfl) (pv 0) pe_int (fun _ _ => rfl)) (pe_ix (ix_l (K := K) rfl) (pv 0) pe_int (fun _ _ => rfl))) (pe_ix (ix_l (K := K) rfl) (pv 0) pe_int (fun _ _ => rfl))) pa_nil)) pe_int))
        (pss_one (ps_ret (pe_op op_mod (pe_op op_fdiv (pe_op op_mod (pe_callTy call_intI (by rfl) T.n_int bt_int (pa_cons (pe_op op_mul (pv 4) (pv 4)) pa_nil)) pe_int) pe_int) (pv 1)))))))), ?_⟩
      refine q_if_opq (fun Q_6 kk_7 => ?_)
      obtain ⟨y_8, hb_9, hm⟩ := bs hm
      obtain ⟨v_10, hv_11, rv_12⟩ := at_l al_5 hb_9
      obtain rfl := (show v_10 = (.int y_8) from rv_12)
      refine ⟨_, rfl, _, _, _, _, rfl, rfl, (SqL.of (c0.get 0 rfl)), hv_11, _, _, rfl, rfl, _, rfl, ?_⟩
      refine kk_7 _ _ ?_
      refine ite_m hm (fun hc_13 hm => ?_) (fun hc_13 hm => ?_)
      · skip
        refine q_asg_opq (fun Q_14 kk_15 => ?_)
        obtain ⟨y_16, hb_17, hm⟩ := bs hm
        obtain ⟨v_18, hv_19, rv_20⟩ := at_l al_5 hb_17
        obtain rfl := (show v_18 = (.int y_16) from rv_20)
        obtain ⟨hg_21, hm⟩ := gdp hm
        obtain ⟨x_22, hl_23, hm⟩ := ltp hm
        refine ⟨_, rfl, _, _, _, _, rfl, rfl, (SqL.of (c0.get 0 rfl)), hv_19, _, rfl, _, rfl, _, _, rfl, rfl, hg_21, ?_⟩
        refine nmV (f := V.int) (P := fun v9 => Q_14 v9 _) hl_23 ?_
        refine kk_15 _ _ ?_
        refine q_asgS (fun Q_24 kk_25 => ?_)
        obtain ⟨y_26, hb_27, hm⟩ := bs hm
        obtain ⟨v_28, hv_29, rv_30⟩ := at_l al_5 hb_27
        obtain rfl := (show v_28 = (.int y_26) from rv_30)
        obtain ⟨hg_31, hm⟩ := gdp hm
        obtain ⟨j_32, hb_33, hm⟩ := bs hm
        refine ⟨_, rfl, _, _, _, _, rfl, rfl, (SqL.of (c0.get 0 rfl)), hv_29, _, rfl, _, _, rfl, rfl, hg_31, _, rfl, _, _, _, _, rfl, rfl, c0.hd, (by rw [A2.len al_5]; exact hb_33), ?_⟩
        obtain ⟨vs_36, hvs, al_37⟩ : ∃ vs9, vs9 = (List.set vs_2 j_32 (.int (y_26 / many'))) ∧ AL rI G0 vs9 (List.set deck' j_32 (y_26 / many')) := ⟨_, rfl, (A2.set j_32 al_5 rfl)⟩
        rw [← hvs]
        clear hvs
        have c_38 := c0.mut (.lst vs_36)
        generalize hh : upd H0 p_1 (.lst vs_36) = H_39 at c_38 ⊢
        clear hh
        refine kk_25 _ ?_
        refine ret_opq (fun Q_40 kk_41 => ?_)
        refine ⟨_, rfl, ?_⟩
        refine kk_41 _ _ ?_
        obtain rfl := some_in hm
        exact k G0 H_39 c_38.stp vs_36 (c_38.get 0 rfl) al_37
      · skip
        try dsimp only [tNext]
        refine q_if_opq (fun Q_42 kk_43 => ?_)
        refine ⟨_, rfl, _, _, rfl, rfl, ⟨by decide, by decide, by decide⟩, _, _, rfl, rfl, _, rfl, ?_⟩
        refine kk_43 _ _ ?_
        refine ite_m hm (fun hc_44 hm => ?_) (fun hc_44 hm => ?_)
        · skip
          refine q_asg_opq (fun Q_45 kk_46 => ?_)
          obtain ⟨⟨y_47, y_48⟩, hb_49, hm⟩ := bs hm
          dsimp only at hm
          refine ⟨_, rfl, _, _, rfl, rfl, ⟨by decide, by decide, by decide⟩, G0, p_1, vs_2, deck', ((10 : Int) ^ ((6 : Int)).toNat), (y_47, y_48), rfl, c0.gh, c0.hd, c0.hdg, al_5, hb_49, fun G_51 H_52 sp_53 vs_55 hs_56 al_57 => ?_⟩
          have c_54 := c0.call1 sp_53 hs_56
          refine kk_46 _ _ ?_
          refine ret_opq (fun Q_58 kk_59 => ?_)
          obtain ⟨hg_60, hm⟩ := gdp hm
          obtain ⟨⟨y_61, y_62⟩, hb_63, hm⟩ := bs hm
          dsimp only at hm
          refine ⟨_, rfl, _, _, rfl, rfl, ⟨by decide, by decide, by decide⟩, _, rfl, _, rfl, _, _, rfl, rfl, ⟨by decide, by decide, by decide⟩, _, _, rfl, rfl, hg_60, _, _, rfl, rfl, G_51, p_1, vs_55, y_48, ((many' / ((10 : Int) ^ ((6 : Int)).toNat)) + (1 : Int)), (y_61, y_62), rfl, c_54.gh, c_54.hd, c_54.hdg, al_57, hb_63, fun G_65 H_66 sp_67 vs_69 hs_70 al_71 => ?_⟩
          have c_68 := c_54.call1 sp_67 hs_70
          obtain ⟨hg_72, hm⟩ := gdp hm
          obtain ⟨hg_73, hm⟩ := gdp hm
          refine ⟨_, _, rfl, rfl, hg_72, _, _, rfl, rfl, _, rfl, _, rfl, _, _, rfl, rfl, hg_73, ?_⟩
          refine kk_59 _ _ ?_
          obtain rfl := some_in hm
          exact k G_65 H_66 c_68.stp vs_69 (c_68.get 0 rfl) al_71
        · skip
          try dsimp only [tNext]
          refine q_asgS (fun Q_74 kk_75 => ?_)
          obtain ⟨y_76, hb_77, hm⟩ := bs hm
          obtain ⟨v_78, hv_79, rv_80⟩ := at_l al_5 hb_77
          obtain rfl := (show v_78 = (.int y_76) from rv_80)
          obtain ⟨j_81, hb_82, hm⟩ := bs hm
          refine ⟨_, rfl, _, _, _, _, rfl, rfl, (SqL.of (c0.get 0 rfl)), hv_79, _, _, rfl, rfl, .inr ⟨by decide, by decide⟩, _, _, rfl, rfl, _, rfl, _, _, rfl, rfl, (by show (0 : Int) < 2147483647; decide), _, rfl, _, _, _, _, rfl, rfl, c0.hd, (by rw [A2.len al_5]; exact hb_82), ?_⟩
          obtain ⟨vs_85, hvs, al_86⟩ : ∃ vs9, vs9 = (List.set vs_2 j_81 (.int (((y_76 * (48271 : Int)) + (12345 : Int)) % (2147483647 : Int)))) ∧ AL rI G0 vs9 (List.set deck' j_81 (((y_76 * (48271 : Int)) + (12345 : Int)) % (2147483647 : Int))) := ⟨_, rfl, (A2.set j_81 al_5 rfl)⟩
          rw [← hvs]
          clear hvs
          have c_87 := c0.mut (.lst vs_85)
          generalize hh : upd H0 p_1 (.lst vs_85) = H_88 at c_87 ⊢
          clear hh
          refine kk_75 _ ?_
          refine q_asg_opq (fun Q_89 kk_90 => ?_)
          obtain ⟨y_91, hb_92, hm⟩ := bs hm
          obtain ⟨v_93, hv_94, rv_95⟩ := at_l al_86 hb_92
          obtain rfl := (show v_93 = (.int y_91) from rv_95)
          obtain ⟨y_96, hb_97, hm⟩ := bs hm
          obtain ⟨v_98, hv_99, rv_100⟩ := at_l al_86 hb_97
          obtain rfl := (show v_98 = (.int y_96) from rv_100)
          obtain ⟨hg_101, hm⟩ := gdp hm
          obtain ⟨y_102, hb_103, hm⟩ := bs hm
          obtain ⟨v_104, hv_105, rv_106⟩ := at_l al_86 hb_103
          obtain rfl := (show v_104 = (.int y_102) from rv_106)
          obtain ⟨x_107, hl_108, hm⟩ := ltp hm
          refine ⟨_, rfl, _, _, _, _, rfl, rfl, (SqL.of (c_87.get 0 rfl)), hv_94, _, rfl, _, _, _, _, rfl, rfl, (SqL.of (c_87.get 0 rfl)), hv_99, _, _, rfl, rfl, hg_101, _, rfl, _, _, _, _, rfl, rfl, (SqL.of (c_87.get 0 rfl)), hv_105, _, _, rfl, rfl, _, rfl, _, _, rfl, rfl, (by show (0 : Int) < 2147483629; decide), ?_⟩
          refine nmV (f := V.int) (P := fun v9 => Q_89 v9 _) hl_108 ?_
          refine kk_90 _ _ ?_
          refine ret_opq (fun Q_109 kk_110 => ?_)
          obtain ⟨hg_111, hm⟩ := gdp hm
          obtain ⟨hg_112, hm⟩ := gdp hm
          refine ⟨_, rfl, _, rfl, _, _, rfl, rfl, hg_111, _, rfl, _, _, rfl, rfl, (by show (0 : Int) < 2147483587; decide), _, _, rfl, rfl, ⟨by decide, by decide⟩, _, rfl, _, _, rfl, rfl, hg_112, ?_⟩
          refine kk_110 _ _ ?_
          obtain rfl := some_in hm
          exact k G0 H_88 c_87.stp vs_85 (c_87.get 0 rfl) al_86
theorem sc__law_is_integer : FnScope ["value"] ["value"] (defScope s__law_is_integer) := ⟨rfl, rfl, rfl, by decide +kernel, rfl, by decide +kernel, by decide +kernel⟩
def m__law_is_integer (value' : Int) : Option Bool :=
  some (true && (!false))
def sp__law_is_integer (K : PySem.W.Frag) : Sp := fun vs H Q _ => ∃ (G : Hp) (value' : Int) (r : Bool), vs = [(.int value')] ∧ Ex G H ∧ m__law_is_integer value' = some r ∧ ∀ (G' H' : Hp), Stp [] G G' H H' → Q (.bl r) H'
theorem ok__law_is_integer (T : Env K mg) : FnOk P w K mg base CX0 1 T.f__law_is_integer T.d__law_is_integer ["value"] (sp__law_is_integer K) := by
  refine T.F__law_is_integer.ok sc__law_is_integer (fun vs H Q E h => ?_) (fun cdv A outer s H0 vs Q E hr h => ?_)
  · obtain ⟨G0, value', r, rfl, _⟩ := h
    rfl
  · obtain ⟨G0, value', r, rfl, hG0, hm, k⟩ := h
    have hu := hr.units
    have hu65 := hu65 hr
    have c0 := Cf.start hG0
    unfold m__law_is_integer at hm
    refine ⟨_, (pss_one (ps_ret (pe_and (pe_callB (call_is (K := K) rfl) (by rfl) T.n_isinstance bt_isi (pa_cons (pv 0) (pa_cons (pe_bltn (v := .ty "int") (by rfl) T.n_int bt_int rfl) pa_nil))) (pe_one (pe_not (pe_callB (call_is (K := K) rfl) (by rfl) T.n_isinstance bt_isi (pa_cons (pv 0) (pa_cons (pe_bltn (v := .ty "bool") (by rfl) T.n_bool bt_bool rfl) pa_nil)))))))), ?_⟩
    refine ret_opq (fun Q_1 kk_2 => ?_)
    refine ⟨_, rfl, _, _, _, _, _, rfl, .ty _, ty_i, k_ii, _, rfl, ?_⟩
    refine andV_t (b := (!false)) (fun ha_5 q_4 => ?_) ?_
    · skip
      refine ⟨_, rfl, _, _, _, _, _, rfl, .ty _, ty_i, k_ib, _, rfl, ?_⟩
      exact q_4
    refine kk_2 _ _ ?_
    obtain rfl := some_in hm
    exact k G0 H0 c0.stp
theorem sc__law_same_list : FnScope ["value", "due", "k"] ["value", "due"] (defScope s__law_same_list) := ⟨rfl, rfl, rfl, by decide +kernel, rfl, by decide +kernel, by decide +kernel⟩
def m__law_same_list (value' : (List Int)) (due' : (List Int)) : Option Bool :=
  if ((!true) || (!(decide (((List.length value' : Nat) : Int) = ((List.length due' : Nat) : Int))))) then (some false) else (gd (rok ((List.length due' : Nat) : Int)) (gd (List.length (rng (0 : Int) ((List.length due' : Nat) : Int)) < BIG) ((lcm (fun (y_38 : Int) => (atI value' y_38).bind fun y_54 => ((m__law_is_integer y_54).bind fun y_59 => ((pAnd y_59 ((atI value' y_38).bind fun y_66 => ((atI due' y_38).bind fun y_71 => (some (decide (y_66 = y_71)))))).bind fun b_78 => (some b_78)))) (rng (0 : Int) ((List.length due' : Nat) : Int))).bind fun xs_28 => (some (List.all xs_28 id)))))
def sp__law_same_list (K : PySem.W.Frag) : Sp := fun vs H Q _ => ∃ (G : Hp) (a_1 : Addr) (vs_2 : List V) (value' : (List Int)) (a_5 : Addr) (vs_6 : List V) (due' : (List Int)) (r : Bool), vs = [.ref a_1, .ref a_5] ∧ Ex G H ∧ SqB [] H a_1 vs_2 ∧ AL rI G vs_2 value' ∧ SqB [] H a_5 vs_6 ∧ AL rI G vs_6 due' ∧ m__law_same_list value' due' = some r ∧ ∀ (G' H' : Hp), Stp [] G G' H H' → Q (.bl r) H'
theorem ok__law_same_list (T : Env K mg) : FnOk P w K mg base CX0 2 T.f__law_same_list T.d__law_same_list ["value", "due"] (sp__law_same_list K) := by
  refine T.F__law_same_list.ok sc__law_same_list (fun vs H Q E h => ?_) (fun cdv A outer s H0 vs Q E hr h => ?_)
  · obtain ⟨G0, a_1, vs_2, value', a_5, vs_6, due', r, rfl, _⟩ := h
    rfl
  · obtain ⟨G0, a_1, vs_2, value', a_5, vs_6, due', r, rfl, hG0, sq_3, al_4, sq_7, al_8, hm, k⟩ := h
    have hu := hr.units
    have hu65 := hu65 hr
    have c0 := Cf.start hG0
    unfold m__law_same_list at hm
    refine ⟨_, (pss_cons (ps_if (PW.pt (pw_or (pt_not (pt_val (pe_callB (call_is (K := K) rfl) (by rfl) T.n_isinstance bt_isi (pa_cons (pv 0) (pa_cons (pe_bltn (v := .ty "list") (by rfl) T.n_list bt_list rfl) pa_nil))))) (pw_or1 (pt_cmpR op_neI (pe_callB call_lenL (by rfl) T.n_len bt_len (pa_cons (pv 0) pa_nil)) (pe_callB call_lenL (by rfl) T.n_len bt_len (pa_cons (pv 1) pa_nil)) (nomark _))))) (pss_one (ps_ret pe_bl)) pss_nil)
      (pss_one (ps_ret (pe_callB (call_allB rfl) (by rfl) T.n_all bt_all (pa_cons (pe_lc (own := [("k", 2)]) (g := gName 2) (tt := tYes)  rfl sc__law_same_list.nd (pi_range1 (by rfl) T.n_range (pa_cons (pe_callB call_lenL (by rfl) T.n_len bt_len (pa_cons (pv 1) pa_nil)) pa_nil)) (blkOk_by (own := [("k", 2)]) (N := ["value", "due", "k"]) (sc := defScope s__law_same_list) (by decide +kernel)) (fun _ _ _ _ _ => (pg_name (i := 2) sc__law_same_list.nd rfl (by first | exact Or.inl rfl | exact Or.inr rfl))) (fun _ _ _ _ _ => pts_nil) (fun _ _ _ _ _ => (pe_and (pe_call (ok__law_is_integer T) (hr.mono (by decide)) (by rfl) T.g__law_is_integer T.F__law_is_integer.kp T.b__law_is_integer .nil pass0 (pa_cons (pe_ix (ix_l (K := K) rfl) (pv 0) (pv 2) (fun _ _ => rfl)) pa_nil)) (pe_one (pe_cmpR op_eqI (pe_ix (ix_l (K := K) rfl) (pv 0) (pv 2) (fun _ _ => rfl)) (pe_ix (ix_l (K := K) rfl) (pv 1) (pv 2) (fun _ _ => rfl)) (nomark _)))))) pa_nil))))), ?_⟩
    refine q_if_opq (fun Q_9 kk_10 => ?_)
    refine ⟨_, rfl, _, _, _, _, _, rfl, .ty _, (ty_l (SqL.of (sq_3.at c0))), k_ll, _, rfl, ?_⟩
    refine or_t (b := (!(decide (((List.length value' : Nat) : Int) = ((List.length due' : Nat) : Int))))) (fun ha_13 q_12 => ?_) ?_
    · skip
      refine ⟨_, rfl, _, _, (List.length value'), rfl, (sq_3.at c0), (A2.len al_4), _, rfl, _, _, (List.length due'), rfl, (sq_7.at c0), (A2.len al_8), _, _, rfl, rfl, _, rfl, ?_⟩
      exact q_12
    refine kk_10 _ _ ?_
    refine ite_m hm (fun hc_14 hm => ?_) (fun hc_14 hm => ?_)
    · skip
      refine ret_opq (fun Q_15 kk_16 => ?_)
      refine kk_16 _ _ ?_
      obtain rfl := some_in hm
      exact k G0 H0 c0.stp
    · skip
      try dsimp only [tNext]
      refine ret_opq (fun Q_17 kk_18 => ?_)
      obtain ⟨hg_19, hm⟩ := gdp hm
      obtain ⟨hg_20, hm⟩ := gdp hm
      refine ⟨_, rfl, _, _, (List.length due'), rfl, (sq_7.at c0), (A2.len al_8), _, rfl, hg_19.1, hg_19.2, fun D_21 nD_22 => ?_⟩
      have c_23 := c0.newO nD_22 (.lst [])
      obtain ⟨out_30, hb_31, hm⟩ := bs hm
      refine lc_w walk_range (rng (0 : Int) ((List.length due' : Nat) : Int)) (by rw [rng_len]; omega) (fun l_37 H_39 => ∃ (G_24 : Hp) (vs_27 : List V) (xs_28 : (List Bool)), Ex G0 G_24 ∧ Cf [] H0 G0 G_24 [(D_21, (.lst vs_27))] H_39 ∧ AL rB G_24 vs_27 xs_28 ∧ List.length xs_28 + List.length l_37 < BIG ∧ ∃ rest_33, lcm (fun (y_38 : Int) => (atI value' y_38).bind fun y_54 => ((m__law_is_integer y_54).bind fun y_59 => ((pAnd y_59 ((atI value' y_38).bind fun y_66 => ((atI due' y_38).bind fun y_71 => (some (decide (y_66 = y_71)))))).bind fun b_78 => (some b_78)))) l_37 = some rest_33 ∧ xs_28 ++ rest_33 = out_30)
        ⟨G0, [], ([] : List Bool), Ex.refl _, c_23, A2.nil, ⟨by simpa using hg_20, out_30, hb_31, rfl⟩⟩
        (fun l_37 H_39 hI => by
          obtain ⟨G_24, vs_27, xs_28, eg_25, c_26, al_29, ⟨hlen_36, rest_33, hf_34, hout_35⟩⟩ := hI
          exact True.intro)
        (fun i_41 y_38 l_37 H_39 v_42 H_45 hx_43 hI hy_44 => ?_) (fun H_39 hI => ?_)
      · obtain ⟨G_24, vs_27, xs_28, eg_25, c_26, al_29, ⟨hlen_36, rest_33, hf_34, hout_35⟩⟩ := hI
        obtain ⟨z_46, rest_47, hq_40, hf_48, ho_49⟩ := lcm_cons hf_34
        try dsimp only at hq_40
        obtain ⟨rfl, hv_51⟩ := hy_44
        obtain rfl : v_42 = .int y_38 := hv_51.trans (congrArg V.int (rng_get hx_43).symm)
        refine ⟨rfl, ?_⟩
        refine yes_q ?_
        refine opqV (fun Q_52 kk_53 => ?_)
        obtain ⟨y_54, hb_55, hq_40⟩ := bs hq_40
        obtain ⟨v_56, hv_57, rv_58⟩ := at_l (AL.mono eg_25 al_4) hb_55
        obtain rfl := (show v_56 = (.int y_54) from rv_58)
        obtain ⟨y_59, hb_60, hq_40⟩ := bs hq_40
        refine ⟨_, rfl, _, rfl, _, _, _, _, rfl, rfl, (SqL.of (sq_3.at c_26)), hv_57, G_24, y_54, y_59, rfl, c_26.gh, hb_60, fun G_61 H_62 sp_63 => ?_⟩
        have c_64 := c_26.call sp_63
        refine ⟨_, rfl, ?_⟩
        obtain ⟨b_78, hb_79, hq_40⟩ := bs hq_40
        refine andV_r hb_79 (fun ha_77 hq_65 q_76 => ?_) ?_
        · skip
          obtain ⟨y_66, hb_67, hq_65⟩ := bs hq_65
          obtain ⟨v_68, hv_69, rv_70⟩ := at_l (AL.mono (eg_25.trans sp_63.gg) al_4) hb_67
          obtain rfl := (show v_68 = (.int y_66) from rv_70)
          obtain ⟨y_71, hb_72, hq_65⟩ := bs hq_65
          obtain ⟨v_73, hv_74, rv_75⟩ := at_l (AL.mono (eg_25.trans sp_63.gg) al_8) hb_72
          obtain rfl := (show v_73 = (.int y_71) from rv_75)
          refine ⟨_, rfl, _, rfl, _, _, _, _, rfl, rfl, (SqL.of (sq_3.at c_64)), hv_69, _, rfl, _, rfl, _, _, _, _, rfl, rfl, (SqL.of (sq_7.at c_64)), hv_74, _, _, rfl, rfl, ?_⟩
          obtain rfl := some_in hq_65
          exact q_76
        refine kk_53 _ _ ?_
        refine ⟨_, c_64.hd, big_lt (by have h9 := hlen_36; have h8 := A2.len (AL.mono sp_63.gg al_29); simp only [List.length_cons] at h9; omega), ?_⟩
        obtain ⟨vs_80, hvs, al_81⟩ : ∃ vs9, vs9 = (vs_27 ++ [(.bl b_78)]) ∧ AL rB G_61 vs9 (xs_28 ++ [b_78]) := ⟨_, rfl, (A2.app (AL.mono sp_63.gg al_29) (A2.one rfl))⟩
        rw [← hvs]
        clear hvs
        have c_82 := c_64.mut (.lst vs_80)
        generalize hh : upd H_62 D_21 (.lst vs_80) = H_83 at c_82 ⊢
        clear hh
        obtain rfl := some_in hq_40
        exact ⟨G_61, vs_80, (xs_28 ++ [b_78]), (eg_25.trans sp_63.gg), c_82, al_81, ⟨by have h9 := hlen_36; simp only [List.length_append, List.length_cons, List.length_nil] at h9 ⊢; first | done | omega, rest_47, hf_48, by rw [← hout_35, ho_49]; first | done | simp⟩⟩
      obtain ⟨G_24, vs_27, xs_28, eg_25, c_26, al_29, ⟨hlen_36, rest_33, hf_34, hout_35⟩⟩ := hI
      obtain rfl := some_in hf_34
      rw [List.append_nil] at hout_35
      subst hout_35
      refine ⟨_, _, xs_28, rfl, (c_26.get 0 rfl), AL.mono c_26.gh al_29, ?_⟩
      refine kk_18 _ _ ?_
      obtain rfl := some_in hm
      exact k G_24 H_39 c_26.stp
theorem sc__law_same_rows : FnScope ["value", "due", "k"] ["value", "due"] (defScope s__law_same_rows) := ⟨rfl, rfl, rfl, by decide +kernel, rfl, by decide +kernel, by decide +kernel⟩
def m__law_same_rows (value' : (List (List Int))) (due' : (List (List Int))) : Option Bool :=
  if ((!true) || (!(decide (((List.length value' : Nat) : Int) = ((List.length due' : Nat) : Int))))) then (some false) else (gd (rok ((List.length due' : Nat) : Int)) (gd (List.length (rng (0 : Int) ((List.length due' : Nat) : Int)) < BIG) ((lcm (fun (y_38 : Int) => (atI value' y_38).bind fun y_54 => ((atI due' y_38).bind fun y_59 => ((m__law_same_list y_54 y_59).bind fun y_64 => (some y_64)))) (rng (0 : Int) ((List.length due' : Nat) : Int))).bind fun xs_28 => (some (List.all xs_28 id)))))
def sp__law_same_rows (K : PySem.W.Frag) : Sp := fun vs H Q _ => ∃ (G : Hp) (a_1 : Addr) (vs_2 : List V) (value' : (List (List Int))) (a_5 : Addr) (vs_6 : List V) (due' : (List (List Int))) (r : Bool), vs = [.ref a_1, .ref a_5] ∧ Ex G H ∧ SqB [] H a_1 vs_2 ∧ AL (rL rI) G vs_2 value' ∧ SqB [] H a_5 vs_6 ∧ AL (rL rI) G vs_6 due' ∧ m__law_same_rows value' due' = some r ∧ ∀ (G' H' : Hp), Stp [] G G' H H' → Q (.bl r) H'
theorem ok__law_same_rows (T : Env K mg) : FnOk P w K mg base CX0 3 T.f__law_same_rows T.d__law_same_rows ["value", "due"] (sp__law_same_rows K) := by
  refine T.F__law_same_rows.ok sc__law_same_rows (fun vs H Q E h => ?_) (fun cdv A outer s H0 vs Q E hr h => ?_)
  · obtain ⟨G0, a_1, vs_2, value', a_5, vs_6, due', r, rfl, _⟩ := h
    rfl
  · obtain ⟨G0, a_1, vs_2, value', a_5, vs_6, due', r, rfl, hG0, sq_3, al_4, sq_7, al_8, hm, k⟩ := h
    have hu := hr.units
    have hu65 := hu65 hr
    have c0 := Cf.start hG0
    unfold m__law_same_rows at hm
    refine ⟨_, (pss_cons (ps_if (PW.pt (pw_or (pt_not (pt_val (pe_callB (call_is (K := K) rfl) (by rfl) T.n_isinstance bt_isi (pa_cons (pv 0) (pa_cons (pe_bltn (v := .ty "list") (by rfl) T.n_list bt_list rfl) pa_nil))))) (pw_or1 (pt_cmpR op_neI (pe_callB call_lenL (by rfl) T.n_len bt_len (pa_cons (pv 0) pa_nil)) (pe_callB call_lenL (by rfl) T.n_len bt_len (pa_cons (pv 1) pa_nil)) (nomark _))))) (pss_one (ps_ret pe_bl)) pss_nil)
      (pss_one (ps_ret (pe_callB (call_allB rfl) (by rfl) T.n_all bt_all (pa_cons (pe_lc (own := [("k", 2)]) (g := gName 2) (tt := tYes)  rfl sc__law_same_rows.nd (pi_range1 (by rfl) T.n_range (pa_cons (pe_callB call_lenL (by rfl) T.n_len bt_len (pa_cons (pv 1) pa_nil)) pa_nil)) (blkOk_by (own := [("k", 2)]) (N := ["value", "due", "k"]) (sc := defScope s__law_same_rows) (by decide +kernel)) (fun _ _ _ _ _ => (pg_name (i := 2) sc__law_same_rows.nd rfl (by first | exact Or.inl rfl | exact Or.inr rfl))) (fun _ _ _ _ _ => pts_nil) (fun _ _ _ _ _ => (pe_call (ok__law_same_list T) (hr.mono (by decide)) (by rfl) T.g__law_same_list T.F__law_same_list.kp T.b__law_same_list .nil pass0 (pa_cons (pe_ix (ix_l (K := K) rfl) (pv 0) (pv 2) (fun _ _ => rfl)) (pa_cons (pe_ix (ix_l (K := K) rfl) (pv 1) (pv 2) (fun _ _ => rfl)) pa_nil))))) pa_nil))))), ?_⟩
    refine q_if_opq (fun Q_9 kk_10 => ?_)
    refine ⟨_, rfl, _, _, _, _, _, rfl, .ty _, (ty_l (SqL.of (sq_3.at c0))), k_ll, _, rfl, ?_⟩
    refine or_t (b := (!(decide (((List.length value' : Nat) : Int) = ((List.length due' : Nat) : Int))))) (fun ha_13 q_12 => ?_) ?_
    · skip
      refine ⟨_, rfl, _, _, (List.length value'), rfl, (sq_3.at c0), (A2.len al_4), _, rfl, _, _, (List.length due'), rfl, (sq_7.at c0), (A2.len al_8), _, _, rfl, rfl, _, rfl, ?_⟩
      exact q_12
    refine kk_10 _ _ ?_
    refine ite_m hm (fun hc_14 hm => ?_) (fun hc_14 hm => ?_)
    · skip
      refine ret_opq (fun Q_15 kk_16 => ?_)
      refine kk_16 _ _ ?_
      obtain rfl := some_in hm
      exact k G0 H0 c0.stp
    · skip
      try dsimp only [tNext]
      refine ret_opq (fun Q_17 kk_18 => ?_)
      obtain ⟨hg_19, hm⟩ := gdp hm
      obtain ⟨hg_20, hm⟩ := gdp hm
      refine ⟨_, rfl, _, _, (List.length due'), rfl, (sq_7.at c0), (A2.len al_8), _, rfl, hg_19.1, hg_19.2, fun D_21 nD_22 => ?_⟩
      have c_23 := c0.newO nD_22 (.lst [])
      obtain ⟨out_30, hb_31, hm⟩ := bs hm
      refine lc_w walk_range (rng (0 : Int) ((List.length due' : Nat) : Int)) (by rw [rng_len]; omega) (fun l_37 H_39 => ∃ (G_24 : Hp) (vs_27 : List V) (xs_28 : (List Bool)), Ex G0 G_24 ∧ Cf [] H0 G0 G_24 [(D_21, (.lst vs_27))] H_39 ∧ AL rB G_24 vs_27 xs_28 ∧ List.length xs_28 + List.length l_37 < BIG ∧ ∃ rest_33, lcm (fun (y_38 : Int) => (atI value' y_38).bind fun y_54 => ((atI due' y_38).bind fun y_59 => ((m__law_same_list y_54 y_59).bind fun y_64 => (some y_64)))) l_37 = some rest_33 ∧ xs_28 ++ rest_33 = out_30)
        ⟨G0, [], ([] : List Bool), Ex.refl _, c_23, A2.nil, ⟨by simpa using hg_20, out_30, hb_31, rfl⟩⟩
        (fun l_37 H_39 hI => by
          obtain ⟨G_24, vs_27, xs_28, eg_25, c_26, al_29, ⟨hlen_36, rest_33, hf_34, hout_35⟩⟩ := hI
          exact True.intro)
        (fun i_41 y_38 l_37 H_39 v_42 H_45 hx_43 hI hy_44 => ?_) (fun H_39 hI => ?_)
      · obtain ⟨G_24, vs_27, xs_28, eg_25, c_26, al_29, ⟨hlen_36, rest_33, hf_34, hout_35⟩⟩ := hI
        obtain ⟨z_46, rest_47, hq_40, hf_48, ho_49⟩ := lcm_cons hf_34
        try dsimp only at hq_40
        obtain ⟨rfl, hv_51⟩ := hy_44
        obtain rfl : v_42 = .int y_38 := hv_51.trans (congrArg V.int (rng_get hx_43).symm)
        refine ⟨rfl, ?_⟩
        refine yes_q ?_
        refine opqV (fun Q_52 kk_53 => ?_)
        obtain ⟨y_54, hb_55, hq_40⟩ := bs hq_40
        obtain ⟨v_56, hv_57, rv_58⟩ := at_l (AL.mono eg_25 al_4) hb_55
        obtain ⟨y_59, hb_60, hq_40⟩ := bs hq_40
        obtain ⟨v_61, hv_62, rv_63⟩ := at_l (AL.mono eg_25 al_8) hb_60
        obtain ⟨y_64, hb_65, hq_40⟩ := bs hq_40
        obtain ⟨a_66, vs_67, rfl, sq_68, al_69⟩ := rv_58
        obtain ⟨a_70, vs_71, rfl, sq_72, al_73⟩ := rv_63
        refine ⟨_, rfl, _, rfl, _, _, _, _, rfl, rfl, (SqL.of (sq_3.at c_26)), hv_57, _, rfl, _, rfl, _, _, _, _, rfl, rfl, (SqL.of (sq_7.at c_26)), hv_62, G_24, a_66, vs_67, y_54, a_70, vs_71, y_59, y_64, rfl, c_26.gh, (SqB.of (c_26.gh _ _ sq_68)), al_69, (SqB.of (c_26.gh _ _ sq_72)), al_73, hb_65, fun G_74 H_75 sp_76 => ?_⟩
        have c_77 := c_26.call sp_76
        refine kk_53 _ _ ?_
        refine ⟨_, c_77.hd, big_lt (by have h9 := hlen_36; have h8 := A2.len (AL.mono sp_76.gg al_29); simp only [List.length_cons] at h9; omega), ?_⟩
        obtain ⟨vs_78, hvs, al_79⟩ : ∃ vs9, vs9 = (vs_27 ++ [(.bl y_64)]) ∧ AL rB G_74 vs9 (xs_28 ++ [y_64]) := ⟨_, rfl, (A2.app (AL.mono sp_76.gg al_29) (A2.one rfl))⟩
        rw [← hvs]
        clear hvs
        have c_80 := c_77.mut (.lst vs_78)
        generalize hh : upd H_75 D_21 (.lst vs_78) = H_81 at c_80 ⊢
        clear hh
        obtain rfl := some_in hq_40
        exact ⟨G_74, vs_78, (xs_28 ++ [y_64]), (eg_25.trans sp_76.gg), c_80, al_79, ⟨by have h9 := hlen_36; simp only [List.length_append, List.length_cons, List.length_nil] at h9 ⊢; first | done | omega, rest_47, hf_48, by rw [← hout_35, ho_49]; first | done | simp⟩⟩
      obtain ⟨G_24, vs_27, xs_28, eg_25, c_26, al_29, ⟨hlen_36, rest_33, hf_34, hout_35⟩⟩ := hI
      obtain rfl := some_in hf_34
      rw [List.append_nil] at hout_35
      subst hout_35
      refine ⟨_, _, xs_28, rfl, (c_26.get 0 rfl), AL.mono c_26.gh al_29, ?_⟩
      refine kk_18 _ _ ?_
      obtain rfl := some_in hm
      exact k G_24 H_39 c_26.stp
theorem sc__law_text : FnScope ["web", "words", "ties", "word", "other"] ["web"] (defScope s__law_text) := ⟨rfl, rfl, rfl, by decide +kernel, rfl, by decide +kernel, by decide +kernel⟩
def m__law_text (web' : (List (List Int))) : Option Str :=
  (lp (fun (y_22 : (List Int)) => fun (s_25 : ((List Str))) => (fun (xs_15 : (List Str)) => (((if (!(decide (y_22 = ([] : List Int)))) then (gd (List.length y_22 < BIG) ((lcm (fun (y_80 : Int) => gd (sOk y_80) (some (sI y_80))) y_22).bind fun xs_70 => (gd (jOk ("," : Str) xs_70) (lt ((Txt.join ("," : Str) xs_70) : Str) fun x_105 => (some (x_105)))))) else (some (("-" : Str)))) : Option (Str))).bind fun (s_117 : (Str)) => (fun (x_44 : Str) => (gd (List.length xs_15 < BIG) (some ((xs_15 ++ [x_44]))))) s_117) s_25) web' (([] : List Str))).bind fun (s_133 : ((List Str))) => (fun (xs_15 : (List Str)) => (gd (Eqd.ok (eqdL eqdS) xs_15 = true) (gd (Eqd.ok (eqdL eqdS) ([] : List Str) = true) (if (decide (xs_15 = ([] : List Str))) then (some ("." : Str)) else (gd (jOk (" " : Str) xs_15) (some (Txt.join (" " : Str) xs_15))))))) s_133
def sp__law_text (K : PySem.W.Frag) : Sp := fun vs H Q _ => ∃ (G : Hp) (a_1 : Addr) (vs_2 : List V) (web' : (List (List Int))) (r : Str), vs = [.ref a_1] ∧ Ex G H ∧ SqB [] H a_1 vs_2 ∧ AL (rL rI) G vs_2 web' ∧ m__law_text web' = some r ∧ ∀ (G' H' : Hp), Stp [] G G' H H' → Q (.str r) H'
theorem ok__law_text (T : Env K mg) : FnOk P w K mg base CX0 1 T.f__law_text T.d__law_text ["web"] (sp__law_text K) := by
  refine T.F__law_text.ok sc__law_text (fun vs H Q E h => ?_) (fun cdv A outer s H0 vs Q E hr h => ?_)
  · obtain ⟨G0, a_1, vs_2, web', r, rfl, _⟩ := h
    rfl
  · obtain ⟨G0, a_1, vs_2, web', r, rfl, hG0, sq_3, al_4, hm, k⟩ := h
    have hu := hr.units
    have hu65 := hu65 hr
    have c0 := Cf.start hG0
    unfold m__law_text at hm
    refine ⟨_, (pss_cons (ps_set (i := 1) sc__law_text.nd rfl (by first | exact Or.inl rfl | exact Or.inr rfl) (pe_lst pa_nil))
      (pss_cons (ps_for PassesOwn.never rfl (pi_list (pv 0)) (pg_name (i := 2) sc__law_text.nd rfl (by first | exact Or.inl rfl | exact Or.inr rfl)) (pss_cons (ps_set (i := 3) sc__law_text.nd rfl (by first | exact Or.inl rfl | exact Or.inr rfl) pe_str)
      (Evl.pss_cut (ps_if (pt_cmpR (op_neT hu (eqdL eqdI) (by decide)) (pv 2) (pe_lst pa_nil) (nomark _)) (pss_one (ps_set (i := 3) sc__law_text.nd rfl (by first | exact Or.inl rfl | exact Or.inr rfl) (pe_join pe_str (pe_lc (own := [("other", 4)]) (g := gName 4) (tt := tYes)  rfl sc__law_text.nd (pi_list (pv 2)) (blkOk_by (own := [("other", 4)]) (N := ["web", "words", "ties", "word", "other"]) (sc := defScope s__law_text) (by decide +kernel)) (fun _ _ _ _ _ => (pg_name (i := 4) sc__law_text.nd rfl (by first | exact Or.inl rfl | exact Or.inr rfl))) (fun _ _ _ _ _ => pts_nil) (fun _ _ _ _ _ => (pe_callTy call_strI (by rfl) T.n_str bt_str (pa_cons (pv 4) pa_nil))))))) pss_nil)
      (pss_one (ps_expr (pe_bm PySem.F.plainAttrs_list PySem.F.slot_list_append PySem.F.type_list_append mt_append (pv 1) (pa_cons (pv 3) pa_nil)))))))
      (pss_cons (ps_if (pt_cmpR (op_eqT hu (eqdL eqdS) (by decide)) (pv 1) (pe_lst pa_nil) (nomark _)) (pss_one (ps_ret pe_str)) pss_nil)
      (pss_one (ps_ret (pe_join pe_str (pv 1))))))), ?_⟩
    refine q_asg_opq (fun Q_5 kk_6 => ?_)
    refine ⟨(Nat.zero_le _), fun p_7 np_8 => ?_⟩
    have c_9 := c0.newO np_8 (.lst [])
    generalize hh : upd H0 p_7 (.lst []) = H_10 at c_9 ⊢
    clear hh
    refine kk_6 _ _ ?_
    refine ⟨_, rfl, _, rfl, ⟨_, SqL.of (sq_3.at c_9)⟩, ?_⟩
    obtain ⟨o_19, ho_20, hm⟩ := bs hm
    refine for_w (walk_list (xs := vs_2)) web' (A2.len al_4) (fun l_21 σ_23 H_24 => ∃ (G_11 : Hp) (vs_14 : List V) (xs_15 : (List Str)) (o_17 : Option V) (o_18 : Option V), σ_23 = [(some (.ref a_1)), (some (.ref p_7)), o_17, o_18, none] ∧ Ex G0 G_11 ∧ Cf [] H0 G0 G_11 [(p_7, (.lst vs_14))] H_24 ∧ AL rS G_11 vs_14 xs_15 ∧ lp (fun (y_22 : (List Int)) => fun (s_25 : ((List Str))) => (fun (xs_15 : (List Str)) => (((if (!(decide (y_22 = ([] : List Int)))) then (gd (List.length y_22 < BIG) ((lcm (fun (y_80 : Int) => gd (sOk y_80) (some (sI y_80))) y_22).bind fun xs_70 => (gd (jOk ("," : Str) xs_70) (lt ((Txt.join ("," : Str) xs_70) : Str) fun x_105 => (some (x_105)))))) else (some (("-" : Str)))) : Option (Str))).bind fun (s_117 : (Str)) => (fun (x_44 : Str) => (gd (List.length xs_15 < BIG) (some ((xs_15 ++ [x_44]))))) s_117) s_25) l_21 (xs_15) = some o_19)
      ⟨G0, [], ([] : List Str), none, none, rfl, Ex.refl _, c_9, A2.nil, ho_20⟩
      (fun l_21 σ_23 H_24 hI => by
        obtain ⟨G_11, vs_14, xs_15, o_17, o_18, rfl, eg_12, c_13, al_16, ho_20⟩ := hI
        exact (SqL.of (sq_3.at c_13)))
      (fun i_31 y_22 l_21 σ_23 H_24 v_28 H_32 hx_29 hI hy_30 => ?_) (fun σ_23 H_24 hI => ?_)
    · obtain ⟨G_11, vs_14, xs_15, o_17, o_18, rfl, eg_12, c_13, al_16, ho_20⟩ := hI
      obtain ⟨so_33, hf_26, hgo_27⟩ := lp_cons ho_20
      try dsimp only at hf_26
      obtain ⟨rfl, hv_34⟩ := hy_30
      obtain ⟨v_35, hv_36, rv_37⟩ := A2.get al_4 hx_29
      obtain rfl := Option.some.inj (hv_34.symm.trans hv_36)
      refine q_asg_opq (fun Q_39 kk_40 => ?_)
      refine kk_40 _ _ ?_
      obtain ⟨s_45, hs_46, hf_26⟩ := bs hf_26
      refine ⟨(fun σ_47 H_48 => ∃ (G_41 : Hp) (x_44 : Str), σ_47 = [(some (.ref a_1)), (some (.ref p_7)), (some v_28), (some (.str x_44)), none] ∧ Ex G_11 G_41 ∧ Cf [] H0 G0 G_41 [(p_7, (.lst vs_14))] H_48 ∧ (x_44) = s_45), ?_, ?_⟩
      · skip
        refine if_opq (fun Q_49 kk_50 => ?_)
        refine ⟨_, rfl, (Nat.zero_le _), fun p_51 np_52 => ?_⟩
        have c_53 := c_13.newO np_52 (.lst [])
        generalize hh : upd H_32 p_51 (.lst []) = H_54 at c_53 ⊢
        clear hh
        obtain ⟨a_55, vs_56, rfl, sq_57, al_58⟩ := ((rL rI).mono eg_12 rv_37)
        refine ⟨_, _, ⟨a_55, vs_56, rfl, (c_53.gh _ _ sq_57), AL.mono c_53.gh al_58⟩, ⟨p_51, [], rfl, (c_53.get 0 rfl), AL.mono c_53.gh A2.nil⟩, (okI _), (okI _), _, rfl, ?_⟩
        refine kk_50 _ _ ?_
        refine ite_m hs_46 (fun hc_59 hs_46 => ?_) (fun hc_59 hs_46 => ?_)
        · skip
          refine asg_opq (fun Q_60 kk_61 => ?_)
          obtain ⟨hg_62, hs_46⟩ := gdp hs_46
          refine ⟨⟨_, rfl⟩, _, rfl, _, rfl, ⟨_, SqL.of (c_53.gh _ _ sq_57)⟩, fun D_63 nD_64 => ?_⟩
          have c_65 := c_53.newO nD_64 (.lst [])
          obtain ⟨out_72, hb_73, hs_46⟩ := bs hs_46
          refine lc_w (walk_list (xs := vs_56)) y_22 (A2.len al_58) (fun l_79 H_81 => ∃ (G_66 : Hp) (vs_69 : List V) (xs_70 : (List Str)), Ex G_11 G_66 ∧ Cf [] H0 G0 G_66 [(D_63, (.lst vs_69)), (p_51, (.lst [])), (p_7, (.lst vs_14))] H_81 ∧ AL rS G_66 vs_69 xs_70 ∧ List.length xs_70 + List.length l_79 < BIG ∧ ∃ rest_75, lcm (fun (y_80 : Int) => gd (sOk y_80) (some (sI y_80))) l_79 = some rest_75 ∧ xs_70 ++ rest_75 = out_72)
            ⟨G_11, [], ([] : List Str), Ex.refl _, c_65, A2.nil, ⟨by simpa using hg_62, out_72, hb_73, rfl⟩⟩
            (fun l_79 H_81 hI => by
              obtain ⟨G_66, vs_69, xs_70, eg_67, c_68, al_71, ⟨hlen_78, rest_75, hf_76, hout_77⟩⟩ := hI
              exact (SqL.of (c_68.gh _ _ (eg_67 _ _ sq_57))))
            (fun i_83 y_80 l_79 H_81 v_84 H_87 hx_85 hI hy_86 => ?_) (fun H_81 hI => ?_)
          · obtain ⟨G_66, vs_69, xs_70, eg_67, c_68, al_71, ⟨hlen_78, rest_75, hf_76, hout_77⟩⟩ := hI
            obtain ⟨z_88, rest_89, hq_82, hf_90, ho_91⟩ := lcm_cons hf_76
            try dsimp only at hq_82
            obtain ⟨rfl, hv_93⟩ := hy_86
            obtain ⟨v_94, hv_95, rv_96⟩ := A2.get al_58 hx_85
            obtain rfl := Option.some.inj (hv_93.symm.trans hv_95)
            obtain rfl := (show v_84 = (.int y_80) from rv_96)
            refine ⟨rfl, ?_⟩
            refine yes_q ?_
            refine opqV (fun Q_97 kk_98 => ?_)
            obtain ⟨hg_99, hq_82⟩ := gdp hq_82
            refine ⟨_, rfl, _, rfl, hg_99, ?_⟩
            refine kk_98 _ _ ?_
            refine ⟨_, c_68.hd, big_lt (by have h9 := hlen_78; have h8 := A2.len al_71; simp only [List.length_cons] at h9; omega), ?_⟩
            obtain ⟨vs_100, hvs, al_101⟩ : ∃ vs9, vs9 = (vs_69 ++ [(.str (sI y_80))]) ∧ AL rS G_66 vs9 (xs_70 ++ [(sI y_80)]) := ⟨_, rfl, (A2.app al_71 (A2.one rfl))⟩
            rw [← hvs]
            clear hvs
            have c_102 := c_68.mut (.lst vs_100)
            generalize hh : upd H_87 D_63 (.lst vs_100) = H_103 at c_102 ⊢
            clear hh
            obtain rfl := some_in hq_82
            exact ⟨G_66, vs_100, (xs_70 ++ [(sI y_80)]), eg_67, c_102, al_101, ⟨by have h9 := hlen_78; simp only [List.length_append, List.length_cons, List.length_nil] at h9 ⊢; first | done | omega, rest_89, hf_90, by rw [← hout_77, ho_91]; first | done | simp⟩⟩
          obtain ⟨G_66, vs_69, xs_70, eg_67, c_68, al_71, ⟨hlen_78, rest_75, hf_76, hout_77⟩⟩ := hI
          obtain rfl := some_in hf_76
          rw [List.append_nil] at hout_77
          subst hout_77
          obtain ⟨hg_104, hs_46⟩ := gdp hs_46
          obtain ⟨x_105, hl_106, hs_46⟩ := ltp hs_46
          refine ⟨_, _, xs_70, rfl, rfl, (.inl (SqL.of (by rw [← al_S al_71]; exact (c_68.get 0 rfl)))), hg_104, ?_⟩
          refine nmV (f := V.str) (P := fun v9 => Q_60 v9 _) hl_106 ?_
          refine kk_61 _ _ ?_
          have c_107 : Cf [] H0 G0 G_66 [(p_51, (.lst [])), (p_7, (.lst vs_14))] H_81 := c_68.drop
          have c_108 : Cf [] H0 G0 G_66 [(p_7, (.lst vs_14))] H_81 := c_107.drop
          obtain rfl := some_in hs_46
          exact ⟨G_66, x_105, rfl, eg_67, c_108, rfl⟩
        · skip
          try dsimp only [tNext]
          have c_109 : Cf [] H0 G0 G_11 [(p_7, (.lst vs_14))] H_54 := c_53.drop
          obtain rfl := some_in hs_46
          exact ⟨G_11, ("-" : Str), rfl, Ex.refl _, c_109, rfl⟩
      rintro σ_47 H_48 ⟨G_41, x_44, rfl, eg_42, c_43, rfl⟩
      try dsimp only at hf_26
      refine drop_opq (fun Q_110 kk_111 => ?_)
      obtain ⟨hg_112, hf_26⟩ := gdp hf_26
      refine ⟨_, rfl, .inl ⟨rfl, _, SqL.of (c_43.get 0 rfl)⟩, _, rfl, _, _, _, rfl, rfl, c_43.hd, (by rw [A2.len (AL.mono eg_42 al_16)]; exact big_lt hg_112), ?_⟩
      obtain ⟨vs_113, hvs, al_114⟩ : ∃ vs9, vs9 = (vs_14 ++ [(.str x_44)]) ∧ AL rS G_41 vs9 (xs_15 ++ [x_44]) := ⟨_, rfl, (A2.app (AL.mono eg_42 al_16) (A2.one rfl))⟩
      rw [← hvs]
      clear hvs
      have c_115 := c_43.mut (.lst vs_113)
      generalize hh : upd H_48 p_7 (.lst vs_113) = H_116 at c_115 ⊢
      clear hh
      refine kk_111 _ _ ?_
      obtain rfl := some_in hf_26
      exact ⟨G_41, vs_113, (xs_15 ++ [x_44]), (some v_28), (some (.str x_44)), rfl, (eg_12.trans eg_42), c_115, al_114, hgo_27⟩
    · obtain ⟨G_11, vs_14, xs_15, o_17, o_18, rfl, eg_12, c_13, al_16, ho_20⟩ := hI
      obtain rfl := lp_nil ho_20
      try dsimp only at hm
      try dsimp only
      refine q_if_opq (fun Q_119 kk_120 => ?_)
      refine ⟨_, rfl, (Nat.zero_le _), fun p_121 np_122 => ?_⟩
      have c_123 := c_13.newO np_122 (.lst [])
      generalize hh : upd H_24 p_121 (.lst []) = H_124 at c_123 ⊢
      clear hh
      obtain ⟨hg_125, hm⟩ := gdp hm
      obtain ⟨hg_126, hm⟩ := gdp hm
      refine ⟨_, _, ⟨p_7, vs_14, rfl, (c_123.get 1 rfl), AL.mono c_123.gh al_16⟩, ⟨p_121, [], rfl, (c_123.get 0 rfl), AL.mono c_123.gh A2.nil⟩, hg_125, hg_126, _, rfl, ?_⟩
      refine kk_120 _ _ ?_
      refine ite_m hm (fun hc_127 hm => ?_) (fun hc_127 hm => ?_)
      · skip
        refine ret_opq (fun Q_128 kk_129 => ?_)
        refine kk_129 _ _ ?_
        obtain rfl := some_in hm
        exact k G_11 H_124 c_123.stp
      · skip
        try dsimp only [tNext]
        refine ret_opq (fun Q_130 kk_131 => ?_)
        obtain ⟨hg_132, hm⟩ := gdp hm
        refine ⟨⟨_, rfl⟩, _, rfl, _, _, xs_15, rfl, rfl, (.inl (SqL.of (by rw [← al_S al_16]; exact (c_123.get 1 rfl)))), hg_132, ?_⟩
        refine kk_131 _ _ ?_
        obtain rfl := some_in hm
        exact k G_11 H_124 c_123.stp
theorem sc__law_dense_web : FnScope ["deck", "web", "thing", "lost", "other"] ["deck"] (defScope s__law_dense_web) := ⟨rfl, rfl, rfl, by decide +kernel, rfl, by decide +kernel, by decide +kernel⟩
def m__law_dense_web (deck' : (List Int)) : Option ((List (List Int)) × List Int) :=
  (m__law_draw 8 deck' (10 : Int)).bind fun z_16 => (fun (y_13 : Int) (y_14 : List Int) => (gd (rok ((33 : Int) + y_13)) ((lp (fun (y_39 : Int) => fun (s_42 : ((List Int) × (List (List Int)))) => (fun (xs_29 : (List Int)) (xs_32 : (List (List Int))) => (m__law_draw 8 xs_29 (y_39 + (1 : Int))).bind fun z_58 => (fun (y_55 : Int) (y_56 : List Int) => (gd (rok y_39) (gd (List.length (rng (0 : Int) y_39) < BIG) ((lcf (fun (y_87 : Int) => if (!(decide (y_87 = y_55))) then (some (some y_87)) else (some none)) (rng (0 : Int) y_39)).bind fun xs_77 => (gd (List.length xs_32 < BIG) (some (y_56, (xs_32 ++ [xs_77])))))))) z_58.1 z_58.2) s_42.1 s_42.2) (rng (0 : Int) ((33 : Int) + y_13)) (y_14, ([] : List (List Int)))).bind fun (s_125 : ((List Int) × (List (List Int)))) => (fun (xs_29 : (List Int)) (xs_32 : (List (List Int))) => (some (xs_32, xs_29))) s_125.1 s_125.2))) z_16.1 z_16.2
def sp__law_dense_web (K : PySem.W.Frag) : Sp := fun vs H Q _ => ∃ (G : Hp) (p_1 : Addr) (vs_2 : List V) (deck' : (List Int)) (r : ((List (List Int)) × List Int)), vs = [.ref p_1] ∧ Ex G H ∧ H p_1 = some (.lst vs_2) ∧ G p_1 = none ∧ AL rI G vs_2 deck' ∧ m__law_dense_web deck' = some r ∧ ∀ (p9 : Addr) (vs9 : List V) (G' H' : Hp), Stp [p_1] G G' H H' → H p9 = none → G' p9 = none → H' p9 = some (.lst vs9) → AL (rL rI) G' vs9 r.1 → ∀ vs8, H' p_1 = some (.lst vs8) → AL rI G' vs8 r.2 → Q (.ref p9) H'
theorem ok__law_dense_web (T : Env K mg) : FnOk P w K mg base CX0 10 T.f__law_dense_web T.d__law_dense_web ["deck"] (sp__law_dense_web K) := by
  refine T.F__law_dense_web.ok sc__law_dense_web (fun vs H Q E h => ?_) (fun cdv A outer s H0 vs Q E hr h => ?_)
  · obtain ⟨G0, p_1, vs_2, deck', r, rfl, _⟩ := h
    rfl
  · obtain ⟨G0, p_1, vs_2, deck', r, rfl, hG0, hp_3, gp_4, al_5, hm, k⟩ := h
    have hu := hr.units
    have hu65 := hu65 hr
    have c0 := Cf.start1 hG0 hp_3 gp_4
    unfold m__law_dense_web at hm
    refine ⟨_, (pss_cons (ps_set (i := 1) sc__law_dense_web.nd rfl (by first | exact Or.inl rfl | exact Or.inr rfl) (pe_lst pa_nil))
      (pss_cons (ps_for PassesOwn.never rfl (pi_range1 (by rfl) T.n_range (pa_cons (pe_op op_add pe_int (pe_call (ok__law_draw T 8) (hr.mono (by decide)) (by rfl) T.g__law_draw T.F__law_draw.kp T.b__law_draw .nil pass0 (pa_cons (pv 0) (pa_cons pe_int pa_nil)))) pa_nil)) (pg_name (i := 2) sc__law_dense_web.nd rfl (by first | exact Or.inl rfl | exact Or.inr rfl)) (pss_cons (ps_set (i := 3) sc__law_dense_web.nd rfl (by first | exact Or.inl rfl | exact Or.inr rfl) (pe_call (ok__law_draw T 8) (hr.mono (by decide)) (by rfl) T.g__law_draw T.F__law_draw.kp T.b__law_draw .nil pass0 (pa_cons (pv 0) (pa_cons (pe_op op_add (pv 2) pe_int) pa_nil))))
      (pss_one (ps_expr (pe_bm PySem.F.plainAttrs_list PySem.F.slot_list_append PySem.F.type_list_append mt_append (pv 1) (pa_cons (pe_lc (own := [("other", 4)]) (g := gName 4)  rfl sc__law_dense_web.nd (pi_range1 (by rfl) T.n_range (pa_cons (pv 2) pa_nil)) (blkOk_by (own := [("other", 4)]) (N := ["deck", "web", "thing", "lost", "other"]) (sc := defScope s__law_dense_web) (by decide +kernel)) (fun _ _ _ _ _ => (pg_name (i := 4) sc__law_dense_web.nd rfl (by first | exact Or.inl rfl | exact Or.inr rfl))) (fun _ _ _ _ _ => (pts_one (pt_cmpR op_neI (pv 4) (pv 3) (nomark _)))) (fun _ _ _ _ _ => (pv 4))) pa_nil))))))
      (pss_one (ps_ret (pv 1))))), ?_⟩
    refine q_asg_opq (fun Q_6 kk_7 => ?_)
    refine ⟨(Nat.zero_le _), fun p_8 np_9 => ?_⟩
    have c_10 := c0.newO np_9 (.lst [])
    generalize hh : upd H0 p_8 (.lst []) = H_11 at c_10 ⊢
    clear hh
    refine kk_7 _ _ ?_
    have c_12 : Cf [p_1] H0 G0 G0 [(p_1, (.lst vs_2)), (p_8, (.lst []))] H_11 := c_10.front 1 rfl
    obtain ⟨⟨y_13, y_14⟩, hb_15, hm⟩ := bs hm
    dsimp only at hm
    refine ⟨_, rfl, G0, p_1, vs_2, deck', (10 : Int), (y_13, y_14), rfl, c_12.gh, c_12.hd, c_12.hdg, al_5, hb_15, fun G_17 H_18 sp_19 vs_21 hs_22 al_23 => ?_⟩
    have c_20 := c_12.call1 sp_19 hs_22
    obtain ⟨hg_24, hm⟩ := gdp hm
    refine ⟨_, _, rfl, rfl, _, rfl, hg_24.1, hg_24.2, ?_⟩
    obtain ⟨o_36, ho_37, hm⟩ := bs hm
    refine for_w walk_range (rng (0 : Int) ((33 : Int) + y_13)) (by rw [rng_len]; omega) (fun l_38 σ_40 H_41 => ∃ (G_25 : Hp) (vs_28 : List V) (xs_29 : (List Int)) (vs_31 : List V) (xs_32 : (List (List Int))) (o_34 : Option V) (o_35 : Option V), σ_40 = [(some (.ref p_1)), (some (.ref p_8)), o_34, o_35, none] ∧ Ex G_17 G_25 ∧ Cf [p_1] H0 G0 G_25 [(p_1, (.lst vs_28)), (p_8, (.lst vs_31))] H_41 ∧ AL rI G_25 vs_28 xs_29 ∧ AL (rL rI) G_25 vs_31 xs_32 ∧ lp (fun (y_39 : Int) => fun (s_42 : ((List Int) × (List (List Int)))) => (fun (xs_29 : (List Int)) (xs_32 : (List (List Int))) => (m__law_draw 8 xs_29 (y_39 + (1 : Int))).bind fun z_58 => (fun (y_55 : Int) (y_56 : List Int) => (gd (rok y_39) (gd (List.length (rng (0 : Int) y_39) < BIG) ((lcf (fun (y_87 : Int) => if (!(decide (y_87 = y_55))) then (some (some y_87)) else (some none)) (rng (0 : Int) y_39)).bind fun xs_77 => (gd (List.length xs_32 < BIG) (some (y_56, (xs_32 ++ [xs_77])))))))) z_58.1 z_58.2) s_42.1 s_42.2) l_38 (xs_29, xs_32) = some o_36)
      ⟨G_17, vs_21, y_14, [], ([] : List (List Int)), none, none, rfl, Ex.refl _, c_20, al_23, (AL.mono sp_19.gg A2.nil), ho_37⟩
      (fun l_38 σ_40 H_41 hI => by
        obtain ⟨G_25, vs_28, xs_29, vs_31, xs_32, o_34, o_35, rfl, eg_26, c_27, al_30, al_33, ho_37⟩ := hI
        exact True.intro)
      (fun i_48 y_39 l_38 σ_40 H_41 v_45 H_49 hx_46 hI hy_47 => ?_) (fun σ_40 H_41 hI => ?_)
    · obtain ⟨G_25, vs_28, xs_29, vs_31, xs_32, o_34, o_35, rfl, eg_26, c_27, al_30, al_33, ho_37⟩ := hI
      obtain ⟨so_50, hf_43, hgo_44⟩ := lp_cons ho_37
      try dsimp only at hf_43
      obtain ⟨rfl, hv_51⟩ := hy_47
      obtain rfl : v_45 = .int y_39 := hv_51.trans (congrArg V.int (rng_get hx_46).symm)
      refine q_asg_opq (fun Q_53 kk_54 => ?_)
      obtain ⟨⟨y_55, y_56⟩, hb_57, hf_43⟩ := bs hf_43
      dsimp only at hf_43
      refine ⟨_, rfl, _, rfl, _, _, rfl, rfl, G_25, p_1, vs_28, xs_29, (y_39 + (1 : Int)), (y_55, y_56), rfl, c_27.gh, c_27.hd, c_27.hdg, al_30, hb_57, fun G_59 H_60 sp_61 vs_63 hs_64 al_65 => ?_⟩
      have c_62 := c_27.call1 sp_61 hs_64
      refine kk_54 _ _ ?_
      refine drop_opq (fun Q_66 kk_67 => ?_)
      obtain ⟨hg_68, hf_43⟩ := gdp hf_43
      obtain ⟨hg_69, hf_43⟩ := gdp hf_43
      refine ⟨_, rfl, .inl ⟨rfl, _, SqL.of (c_62.get 1 rfl)⟩, _, rfl, _, rfl, hg_68.1, hg_68.2, fun D_70 nD_71 => ?_⟩
      have c_72 := c_62.newO nD_71 (.lst [])
      obtain ⟨out_79, hb_80, hf_43⟩ := bs hf_43
      refine lc_w walk_range (rng (0 : Int) y_39) (by rw [rng_len]; omega) (fun l_86 H_88 => ∃ (G_73 : Hp) (vs_76 : List V) (xs_77 : (List Int)), Ex G_59 G_73 ∧ Cf [p_1] H0 G0 G_73 [(D_70, (.lst vs_76)), (p_1, (.lst vs_63)), (p_8, (.lst vs_31))] H_88 ∧ AL rI G_73 vs_76 xs_77 ∧ List.length xs_77 + List.length l_86 < BIG ∧ ∃ rest_82, lcf (fun (y_87 : Int) => if (!(decide (y_87 = y_55))) then (some (some y_87)) else (some none)) l_86 = some rest_82 ∧ xs_77 ++ rest_82 = out_79)
        ⟨G_59, [], ([] : List Int), Ex.refl _, c_72, A2.nil, ⟨by simpa using hg_69, out_79, hb_80, rfl⟩⟩
        (fun l_86 H_88 hI => by
          obtain ⟨G_73, vs_76, xs_77, eg_74, c_75, al_78, ⟨hlen_85, rest_82, hf_83, hout_84⟩⟩ := hI
          exact True.intro)
        (fun i_90 y_87 l_86 H_88 v_91 H_94 hx_92 hI hy_93 => ?_) (fun H_88 hI => ?_)
      · obtain ⟨G_73, vs_76, xs_77, eg_74, c_75, al_78, ⟨hlen_85, rest_82, hf_83, hout_84⟩⟩ := hI
        obtain ⟨z_95, rest_96, hq_89, hf_97, ho_98⟩ := lcf_cons hf_83
        try dsimp only at hq_89
        obtain ⟨rfl, hv_100⟩ := hy_93
        obtain rfl : v_91 = .int y_87 := hv_100.trans (congrArg V.int (rng_get hx_92).symm)
        refine ⟨rfl, ?_⟩
        refine opqT (fun Q_101 kk_102 => ?_)
        refine ⟨_, rfl, _, rfl, _, _, rfl, rfl, _, rfl, ?_⟩
        refine kk_102 _ _ ?_
        refine ite_m hq_89 (fun hc_103 hq_89 => ?_) (fun hc_103 hq_89 => ?_)
        · skip
          refine opqV (fun Q_104 kk_105 => ?_)
          refine ⟨_, rfl, ?_⟩
          refine kk_105 _ _ ?_
          refine ⟨_, c_75.hd, big_lt (by have h9 := hlen_85; have h8 := A2.len al_78; simp only [List.length_cons] at h9; omega), ?_⟩
          obtain ⟨vs_106, hvs, al_107⟩ : ∃ vs9, vs9 = (vs_76 ++ [(.int y_87)]) ∧ AL rI G_73 vs9 (xs_77 ++ [y_87]) := ⟨_, rfl, (A2.app al_78 (A2.one rfl))⟩
          rw [← hvs]
          clear hvs
          have c_108 := c_75.mut (.lst vs_106)
          generalize hh : upd H_94 D_70 (.lst vs_106) = H_109 at c_108 ⊢
          clear hh
          obtain rfl := some_in hq_89
          exact ⟨G_73, vs_106, (xs_77 ++ [y_87]), eg_74, c_108, al_107, ⟨by have h9 := hlen_85; simp only [List.length_append, List.length_cons, List.length_nil] at h9 ⊢; first | done | omega, rest_96, hf_97, by rw [← hout_84, ho_98]; first | done | simp⟩⟩
        · skip
          obtain rfl := some_in hq_89
          exact ⟨G_73, vs_76, xs_77, eg_74, c_75, al_78, ⟨by have h9 := hlen_85; simp only [List.length_append, List.length_cons, List.length_nil] at h9 ⊢; first | done | omega, rest_96, hf_97, by rw [← hout_84, ho_98]; first | done | simp⟩⟩
      obtain ⟨G_73, vs_76, xs_77, eg_74, c_75, al_78, ⟨hlen_85, rest_82, hf_83, hout_84⟩⟩ := hI
      obtain rfl := some_in hf_83
      rw [List.append_nil] at hout_84
      subst hout_84
      obtain ⟨G_113, eg_111, sq_112, c_110⟩ : ∃ G9, Ex G_73 G9 ∧ G9 D_70 = some (.lst vs_76) ∧ Cf [p_1] H0 G0 G9 [(p_1, (.lst vs_63)), (p_8, (.lst vs_31))] H_88 := ⟨_, freeze_ex c_75, upd_same, c_75.freeze (by simp)⟩
      obtain ⟨hg_114, hf_43⟩ := gdp hf_43
      have c_115 : Cf [p_1] H0 G0 G_113 [(p_8, (.lst vs_31)), (p_1, (.lst vs_63))] H_88 := c_110.front 1 rfl
      refine ⟨_, _, _, rfl, rfl, c_115.hd, (by rw [A2.len (AL.mono ((sp_61.gg.trans eg_74).trans eg_111) al_33)]; exact big_lt hg_114), ?_⟩
      obtain ⟨vs_116, hvs, al_117⟩ : ∃ vs9, vs9 = (vs_31 ++ [(.ref D_70)]) ∧ AL (rL rI) G_113 vs9 (xs_32 ++ [xs_77]) := ⟨_, rfl, (A2.app (AL.mono ((sp_61.gg.trans eg_74).trans eg_111) al_33) (A2.one ⟨D_70, vs_76, rfl, sq_112, (AL.mono eg_111 al_78)⟩))⟩
      rw [← hvs]
      clear hvs
      have c_118 := c_115.mut (.lst vs_116)
      generalize hh : upd H_88 p_8 (.lst vs_116) = H_119 at c_118 ⊢
      clear hh
      refine kk_67 _ _ ?_
      obtain rfl := some_in hf_43
      have c_120 : Cf [p_1] H0 G0 G_113 [(p_1, (.lst vs_63)), (p_8, (.lst vs_116))] H_119 := c_118.front 1 rfl
      exact ⟨G_113, vs_63, y_56, vs_116, (xs_32 ++ [xs_77]), (some (.int y_39)), (some (.int y_55)), rfl, (((eg_26.trans sp_61.gg).trans eg_74).trans eg_111), c_120, (AL.mono (eg_74.trans eg_111) al_65), al_117, hgo_44⟩
    · obtain ⟨G_25, vs_28, xs_29, vs_31, xs_32, o_34, o_35, rfl, eg_26, c_27, al_30, al_33, ho_37⟩ := hI
      obtain rfl := lp_nil ho_37
      try dsimp only at hm
      try dsimp only
      refine ret_opq (fun Q_122 kk_123 => ?_)
      refine ⟨_, rfl, ?_⟩
      refine kk_123 _ _ ?_
      obtain rfl := some_in hm
      have c_124 : Cf [p_1] H0 G0 G_25 [(p_8, (.lst vs_31)), (p_1, (.lst vs_28))] H_41 := c_27.front 1 rfl
      exact k p_8 vs_31 G_25 H_41 c_124.stp (c_124.hdn (by simp)) c_124.hdg c_124.hd al_33 vs_28 (c_27.get 0 rfl) al_30
theorem sc__law_web : FnScope ["deck", "most", "many", "often", "kind", "web", "thing", "turn", "drawn", "other"] ["deck", "most"] (defScope s__law_web) := ⟨rfl, rfl, rfl, by decide +kernel, rfl, by decide +kernel, by decide +kernel⟩
def m__law_web (deck' : (List Int)) (most' : Int) : Option ((List (List Int)) × List Int) :=
  (m__law_draw 8 deck' (most' + (1 : Int))).bind fun z_11 => (fun (y_8 : Int) (y_9 : List Int) => ((m__law_draw 8 y_9 (7 : Int)).bind fun z_24 => (fun (y_21 : Int) (y_22 : List Int) => (lt (((1 : Int) + y_21) : Int) fun x_32 => ((m__law_draw 8 y_22 (8 : Int)).bind fun z_39 => (fun (y_36 : Int) (y_37 : List Int) => ((((if (decide ((5 : Int) < y_36)) then ((atI ([(31 : Int), (81 : Int)] : List Int) (y_36 - (6 : Int))).bind fun y_68 => ((m__law_draw 8 y_37 y_68).bind fun z_77 => (fun (y_74 : Int) (y_75 : List Int) => (some (y_74, y_75))) z_77.1 z_77.2)) else (some (y_8, y_37))) : Option (Int × (List Int)))).bind fun (s_348 : (Int × (List Int))) => (fun (x_50 : Int) (xs_52 : (List Int)) => (gd (rok x_50) ((lp (fun (y_108 : Int) => fun (s_111 : ((List Int) × (List (List Int)))) => (fun (xs_98 : (List Int)) (xs_101 : (List (List Int))) => if (decide (y_36 = (7 : Int))) then ((m__law_draw 8 xs_98 (6 : Int)).bind fun z_131 => (fun (y_128 : Int) (y_129 : List Int) => (gd (rok y_128) (gd (List.length (rng (0 : Int) y_128) < BIG) ((lcs (fun (y_161 : Int) => fun (s_194 : (List Int)) => (fun (xs_151 : (List Int)) => (m__law_draw 8 xs_151 (imax (1 : Int) y_108)).bind fun z_181 => (fun (y_178 : Int) (y_179 : List Int) => (some (some y_178, (y_179)))) z_181.1 z_181.2) s_194) (rng (0 : Int) y_128) (y_129)).bind fun z_195 => (fun (xs_148 : List Int) (xs_151 : (List Int)) => (gd (List.length xs_148 < BIG) ((lcf (fun (y_217 : Int) => if (decide (y_217 < y_108)) then (some (some y_217)) else (some none)) xs_148).bind fun xs_207 => (gd (List.length xs_207 ≤ 4000) (gd (List.length xs_101 < BIG) (some (xs_151, (xs_101 ++ [(srt xs_207)])))))))) z_195.1 z_195.2)))) z_131.1 z_131.2) else (gd (rok y_108) (gd (List.length (rng (0 : Int) y_108) < BIG) ((lcs (fun (y_291 : Int) => fun (s_332 : (List Int)) => (fun (xs_281 : (List Int)) => (m__law_draw 8 xs_281 (8 : Int)).bind fun z_311 => (fun (y_308 : Int) (y_309 : List Int) => (if (decide (y_308 < x_32)) then (some (some y_291, (y_309))) else (some (none, (y_309))))) z_311.1 z_311.2) s_332) (rng (0 : Int) y_108) (xs_98)).bind fun z_333 => (fun (xs_278 : List Int) (xs_281 : (List Int)) => (gd (List.length xs_101 < BIG) (some (xs_281, (xs_101 ++ [xs_278]))))) z_333.1 z_333.2)))) s_111.1 s_111.2) (rng (0 : Int) x_50) (xs_52, ([] : List (List Int)))).bind fun (s_347 : ((List Int) × (List (List Int)))) => (fun (xs_98 : (List Int)) (xs_101 : (List (List Int))) => (some (xs_101, xs_98))) s_347.1 s_347.2))) s_348.1 s_348.2)) z_39.1 z_39.2))) z_24.1 z_24.2)) z_11.1 z_11.2
def sp__law_web (K : PySem.W.Frag) : Sp := fun vs H Q _ => ∃ (G : Hp) (p_1 : Addr) (vs_2 : List V) (deck' : (List Int)) (most' : Int) (r : ((List (List Int)) × List Int)), vs = [.ref p_1, (.int most')] ∧ Ex G H ∧ H p_1 = some (.lst vs_2) ∧ G p_1 = none ∧ AL rI G vs_2 deck' ∧ m__law_web deck' most' = some r ∧ ∀ (p9 : Addr) (vs9 : List V) (G' H' : Hp), Stp [p_1] G G' H H' → H p9 = none → G' p9 = none → H' p9 = some (.lst vs9) → AL (rL rI) G' vs9 r.1 → ∀ vs8, H' p_1 = some (.lst vs8) → AL rI G' vs8 r.2 → Q (.ref p9) H'
theorem ok__law_web (T : Env K mg) : FnOk P w K mg base CX0 10 T.f__law_web T.d__law_web ["deck", "most"] (sp__law_web K) := by
  refine T.F__law_web.ok sc__law_web (fun vs H Q E h => ?_) (fun cdv A outer s H0 vs Q E hr h => ?_)
  · obtain ⟨G0, p_1, vs_2, deck', most', r, rfl, _⟩ := h
    rfl
  · obtain ⟨G0, p_1, vs_2, deck', most', r, rfl, hG0, hp_3, gp_4, al_5, hm, k⟩ := h
    have hu := hr.units
    have hu65 := hu65 hr
    have c0 := Cf.start1 hG0 hp_3 gp_4
    unfold m__law_web at hm
    refine ⟨_, (pss_cons (ps_set (i := 2) sc__law_web.nd rfl (by first | exact Or.inl rfl | exact Or.inr rfl) (pe_call (ok__law_draw T 8) (hr.mono (by decide)) (by rfl) T.g__law_draw T.F__law_draw.kp T.b__law_draw .nil pass0 (pa_cons (pv 0) (pa_cons (pe_op op_add (pv 1) pe_int) pa_nil))))
      (pss_cons (ps_set (i := 3) sc__law_web.nd rfl (by first | exact Or.inl rfl | exact Or.inr rfl) (pe_op op_add pe_int (pe_call (ok__law_draw T 8) (hr.mono (by decide)) (by rfl) T.g__law_draw T.F__law_draw.kp T.b__law_draw .nil pass0 (pa_cons (pv 0) (pa_cons pe_int pa_nil)))))
      (pss_cons (ps_set (i := 4) sc__law_web.nd rfl (by first | exact Or.inl rfl | exact Or.inr rfl) (pe_call (ok__law_draw T 8) (hr.mono (by decide)) (by rfl) T.g__law_draw T.F__law_draw.kp T.b__law_draw .nil pass0 (pa_cons (pv 0) (pa_cons pe_int pa_nil))))
      (Evl.pss_cut (ps_if (pt_cmpR op_gt (pv 4) pe_int (nomark _)) (pss_one (ps_set (i := 2) sc__law_web.nd rfl (by first | exact Or.inl rfl | exact Or.inr rfl) (pe_call (ok__law_draw T 8) (hr.mono (by decide)) (by rfl) T.g__law_draw T.F__law_draw.kp T.b__law_draw .nil pass0 (pa_cons (pv 0) (pa_cons (pe_ix (ix_l (K := K) rfl) (pe_lst (pa_cons pe_int (pa_cons pe_int pa_nil))) (pe_op op_sub (pv 4) pe_int) (fun _ _ => rfl)) pa_nil))))) pss_nil)
      (pss_cons (ps_set (i := 5) sc__law_web.nd rfl (by first | exact Or.inl rfl | exact Or.inr rfl) (pe_lst pa_nil))
      (pss_cons (ps_for PassesOwn.never rfl (pi_range1 (by rfl) T.n_range (pa_cons (pv 2) pa_nil)) (pg_name (i := 6) sc__law_web.nd rfl (by first | exact Or.inl rfl | exact Or.inr rfl)) (pss_one (ps_if (pt_cmpR op_eqI (pv 4) pe_int (nomark _)) (pss_cons (ps_setLc (i := 8) (own := [("turn", 7)]) (g := gName 7) (tt := tYes)  rfl sc__law_web.nd rfl rfl (sw_true rfl rfl rfl (by decide +kernel)) (pi_range1 (by rfl) T.n_range (pa_cons (pe_call (ok__law_draw T 8) (hr.mono (by decide)) (by rfl) T.g__law_draw T.F__law_draw.kp T.b__law_draw .nil pass0 (pa_cons (pv 0) (pa_cons pe_int pa_nil))) pa_nil)) (blkOk_by (own := [("turn", 7)]) (N := ["deck", "most", "many", "often", "kind", "web", "thing", "turn", "drawn", "other"]) (sc := defScope s__law_web) (by decide +kernel)) (fun _ _ _ _ _ => (pg_name (i := 7) sc__law_web.nd rfl (by first | exact Or.inl rfl | exact Or.inr rfl))) (fun _ _ _ _ _ => pts_nil) (fun _ _ _ _ _ => (pe_call (ok__law_draw T 8) (hr.mono (by decide)) (by rfl) T.g__law_draw T.F__law_draw.kp T.b__law_draw .nil pass0 (pa_cons (pv 0) (pa_cons (pe_callB (call_maxI rfl) (by rfl) T.n_max bt_max (pa_cons pe_int (pa_cons (pv 6) pa_nil))) pa_nil)))))
      (pss_one (ps_expr (pe_bm PySem.F.plainAttrs_list PySem.F.slot_list_append PySem.F.type_list_append mt_append (pv 5) (pa_cons (pe_callB (call_sortS (w := w) rfl rfl) (by rfl) T.n_sorted bt_sorted (pa_cons (pe_callTy (call_setL (w := w) rfl rfl) (by rfl) T.n_set bt_set (pa_cons (pe_lc (own := [("other", 9)]) (g := gName 9)  rfl sc__law_web.nd (pi_list (pv 8)) (blkOk_by (own := [("other", 9)]) (N := ["deck", "most", "many", "often", "kind", "web", "thing", "turn", "drawn", "other"]) (sc := defScope s__law_web) (by decide +kernel)) (fun _ _ _ _ _ => (pg_name (i := 9) sc__law_web.nd rfl (by first | exact Or.inl rfl | exact Or.inr rfl))) (fun _ _ _ _ _ => (pts_one (pt_cmpR op_lt (pv 9) (pv 6) (nomark _)))) (fun _ _ _ _ _ => (pv 9))) pa_nil)) pa_nil)) pa_nil))))) (pss_one (ps_expr (pe_bm PySem.F.plainAttrs_list PySem.F.slot_list_append PySem.F.type_list_append mt_append (pv 5) (pa_cons (pe_lc (own := [("other", 9)]) (g := gName 9)  rfl sc__law_web.nd (pi_range1 (by rfl) T.n_range (pa_cons (pv 6) pa_nil)) (blkOk_by (own := [("other", 9)]) (N := ["deck", "most", "many", "often", "kind", "web", "thing", "turn", "drawn", "other"]) (sc := defScope s__law_web) (by decide +kernel)) (fun _ _ _ _ _ => (pg_name (i := 9) sc__law_web.nd rfl (by first | exact Or.inl rfl | exact Or.inr rfl))) (fun _ _ _ _ _ => (pts_one (pt_cmpR op_lt (pe_call (ok__law_draw T 8) (hr.mono (by decide)) (by rfl) T.g__law_draw T.F__law_draw.kp T.b__law_draw .nil pass0 (pa_cons (pv 0) (pa_cons pe_int pa_nil))) (pv 3) (nomark _)))) (fun _ _ _ _ _ => (pv 9))) pa_nil)))))))
      (pss_one (ps_ret (pv 5))))))))), ?_⟩
    refine q_asg_opq (fun Q_6 kk_7 => ?_)
    obtain ⟨⟨y_8, y_9⟩, hb_10, hm⟩ := bs hm
    dsimp only at hm
    refine ⟨_, rfl, _, rfl, _, _, rfl, rfl, G0, p_1, vs_2, deck', (most' + (1 : Int)), (y_8, y_9), rfl, c0.gh, c0.hd, c0.hdg, al_5, hb_10, fun G_12 H_13 sp_14 vs_16 hs_17 al_18 => ?_⟩
    have c_15 := c0.call1 sp_14 hs_17
    refine kk_7 _ _ ?_
    refine q_asg_opq (fun Q_19 kk_20 => ?_)
    obtain ⟨⟨y_21, y_22⟩, hb_23, hm⟩ := bs hm
    dsimp only at hm
    refine ⟨_, rfl, G_12, p_1, vs_16, y_9, (7 : Int), (y_21, y_22), rfl, c_15.gh, c_15.hd, c_15.hdg, al_18, hb_23, fun G_25 H_26 sp_27 vs_29 hs_30 al_31 => ?_⟩
    have c_28 := c_15.call1 sp_27 hs_30
    obtain ⟨x_32, hl_33, hm⟩ := ltp hm
    refine ⟨_, _, rfl, rfl, ?_⟩
    refine nmV (f := V.int) (P := fun v9 => Q_19 v9 _) hl_33 ?_
    refine kk_20 _ _ ?_
    refine q_asg_opq (fun Q_34 kk_35 => ?_)
    obtain ⟨⟨y_36, y_37⟩, hb_38, hm⟩ := bs hm
    dsimp only at hm
    refine ⟨_, rfl, G_25, p_1, vs_29, y_22, (8 : Int), (y_36, y_37), rfl, c_28.gh, c_28.hd, c_28.hdg, al_31, hb_38, fun G_40 H_41 sp_42 vs_44 hs_45 al_46 => ?_⟩
    have c_43 := c_28.call1 sp_42 hs_45
    refine kk_35 _ _ ?_
    obtain ⟨s_54, hs_55, hm⟩ := bs hm
    refine ⟨(fun σ_56 H_57 => ∃ (G_47 : Hp) (x_50 : Int) (vs_51 : List V) (xs_52 : (List Int)), σ_56 = [(some (.ref p_1)), (some (.int most')), (some (.int x_50)), (some (.int x_32)), (some (.int y_36)), none, none, none, none, none] ∧ Ex G_40 G_47 ∧ Cf [p_1] H0 G0 G_47 [(p_1, (.lst vs_51))] H_57 ∧ AL rI G_47 vs_51 xs_52 ∧ (x_50, xs_52) = s_54), ?_, ?_⟩
    · skip
      refine if_opq (fun Q_58 kk_59 => ?_)
      refine ⟨_, rfl, _, _, rfl, rfl, _, rfl, ?_⟩
      refine kk_59 _ _ ?_
      refine ite_m hs_55 (fun hc_60 hs_55 => ?_) (fun hc_60 hs_55 => ?_)
      · skip
        refine asg_opq (fun Q_61 kk_62 => ?_)
        have al_65 : AL rI G_40 [(.int (31 : Int)), (.int (81 : Int))] ([(31 : Int), (81 : Int)] : List Int) := (A2.cons rfl (A2.cons rfl A2.nil))
        refine ⟨_, rfl, (by show 2 ≤ sizeLine; decide), fun p_63 np_64 => ?_⟩
        have c_66 := c_43.newO np_64 (.lst [(.int (31 : Int)), (.int (81 : Int))])
        generalize hh : upd H_41 p_63 (.lst [(.int (31 : Int)), (.int (81 : Int))]) = H_67 at c_66 ⊢
        clear hh
        obtain ⟨y_68, hb_69, hs_55⟩ := bs hs_55
        obtain ⟨v_70, hv_71, rv_72⟩ := at_l al_65 hb_69
        obtain rfl := (show v_70 = (.int y_68) from rv_72)
        have c_73 : Cf [p_1] H0 G0 G_40 [(p_1, (.lst vs_44)), (p_63, (.lst [(.int (31 : Int)), (.int (81 : Int))]))] H_67 := c_66.front 1 rfl
        obtain ⟨⟨y_74, y_75⟩, hb_76, hs_55⟩ := bs hs_55
        dsimp only at hs_55
        refine ⟨_, rfl, _, _, rfl, rfl, _, _, _, _, rfl, rfl, (SqL.of (c_66.get 0 rfl)), hv_71, G_40, p_1, vs_44, y_37, y_68, (y_74, y_75), rfl, c_73.gh, c_73.hd, c_73.hdg, al_46, hb_76, fun G_78 H_79 sp_80 vs_82 hs_83 al_84 => ?_⟩
        have c_81 := c_73.call1 sp_80 hs_83
        refine kk_62 _ _ ?_
        have c_85 : Cf [p_1] H0 G0 G_78 [(p_63, (.lst [(.int (31 : Int)), (.int (81 : Int))])), (p_1, (.lst vs_82))] H_79 := c_81.front 1 rfl
        have c_86 : Cf [p_1] H0 G0 G_78 [(p_1, (.lst vs_82))] H_79 := c_85.drop
        obtain rfl := some_in hs_55
        exact ⟨G_78, y_74, vs_82, y_75, rfl, sp_80.gg, c_86, al_84, rfl⟩
      · skip
        try dsimp only [tNext]
        obtain rfl := some_in hs_55
        exact ⟨G_40, y_8, vs_44, y_37, rfl, Ex.refl _, c_43, al_46, rfl⟩
    rintro σ_56 H_57 ⟨G_47, x_50, vs_51, xs_52, rfl, eg_48, c_49, al_53, rfl⟩
    try dsimp only at hm
    refine q_asg_opq (fun Q_87 kk_88 => ?_)
    refine ⟨(Nat.zero_le _), fun p_89 np_90 => ?_⟩
    have c_91 := c_49.newO np_90 (.lst [])
    generalize hh : upd H_57 p_89 (.lst []) = H_92 at c_91 ⊢
    clear hh
    refine kk_88 _ _ ?_
    obtain ⟨hg_93, hm⟩ := gdp hm
    refine ⟨_, rfl, _, rfl, hg_93.1, hg_93.2, ?_⟩
    obtain ⟨o_105, ho_106, hm⟩ := bs hm
    refine for_w walk_range (rng (0 : Int) x_50) (by rw [rng_len]; omega) (fun l_107 σ_109 H_110 => ∃ (G_94 : Hp) (vs_97 : List V) (xs_98 : (List Int)) (vs_100 : List V) (xs_101 : (List (List Int))) (o_103 : Option V) (o_104 : Option V), σ_109 = [(some (.ref p_1)), (some (.int most')), (some (.int x_50)), (some (.int x_32)), (some (.int y_36)), (some (.ref p_89)), o_103, none, o_104, none] ∧ Ex G_47 G_94 ∧ Cf [p_1] H0 G0 G_94 [(p_89, (.lst vs_100)), (p_1, (.lst vs_97))] H_110 ∧ AL rI G_94 vs_97 xs_98 ∧ AL (rL rI) G_94 vs_100 xs_101 ∧ lp (fun (y_108 : Int) => fun (s_111 : ((List Int) × (List (List Int)))) => (fun (xs_98 : (List Int)) (xs_101 : (List (List Int))) => if (decide (y_36 = (7 : Int))) then ((m__law_draw 8 xs_98 (6 : Int)).bind fun z_131 => (fun (y_128 : Int) (y_129 : List Int) => (gd (rok y_128) (gd (List.length (rng (0 : Int) y_128) < BIG) ((lcs (fun (y_161 : Int) => fun (s_194 : (List Int)) => (fun (xs_151 : (List Int)) => (m__law_draw 8 xs_151 (imax (1 : Int) y_108)).bind fun z_181 => (fun (y_178 : Int) (y_179 : List Int) => (some (some y_178, (y_179)))) z_181.1 z_181.2) s_194) (rng (0 : Int) y_128) (y_129)).bind fun z_195 => (fun (xs_148 : List Int) (xs_151 : (List Int)) => (gd (List.length xs_148 < BIG) ((lcf (fun (y_217 : Int) => if (decide (y_217 < y_108)) then (some (some y_217)) else (some none)) xs_148).bind fun xs_207 => (gd (List.length xs_207 ≤ 4000) (gd (List.length xs_101 < BIG) (some (xs_151, (xs_101 ++ [(srt xs_207)])))))))) z_195.1 z_195.2)))) z_131.1 z_131.2) else (gd (rok y_108) (gd (List.length (rng (0 : Int) y_108) < BIG) ((lcs (fun (y_291 : Int) => fun (s_332 : (List Int)) => (fun (xs_281 : (List Int)) => (m__law_draw 8 xs_281 (8 : Int)).bind fun z_311 => (fun (y_308 : Int) (y_309 : List Int) => (if (decide (y_308 < x_32)) then (some (some y_291, (y_309))) else (some (none, (y_309))))) z_311.1 z_311.2) s_332) (rng (0 : Int) y_108) (xs_98)).bind fun z_333 => (fun (xs_278 : List Int) (xs_281 : (List Int)) => (gd (List.length xs_101 < BIG) (some (xs_281, (xs_101 ++ [xs_278]))))) z_333.1 z_333.2)))) s_111.1 s_111.2) l_107 (xs_98, xs_101) = some o_105)
      ⟨G_47, vs_51, xs_52, [], ([] : List (List Int)), none, none, rfl, Ex.refl _, c_91, al_53, A2.nil, ho_106⟩
      (fun l_107 σ_109 H_110 hI => by
        obtain ⟨G_94, vs_97, xs_98, vs_100, xs_101, o_103, o_104, rfl, eg_95, c_96, al_99, al_102, ho_106⟩ := hI
        exact True.intro)
      (fun i_117 y_108 l_107 σ_109 H_110 v_114 H_118 hx_115 hI hy_116 => ?_) (fun σ_109 H_110 hI => ?_)
    · obtain ⟨G_94, vs_97, xs_98, vs_100, xs_101, o_103, o_104, rfl, eg_95, c_96, al_99, al_102, ho_106⟩ := hI
      obtain ⟨so_119, hf_112, hgo_113⟩ := lp_cons ho_106
      try dsimp only at hf_112
      obtain ⟨rfl, hv_120⟩ := hy_116
      obtain rfl : v_114 = .int y_108 := hv_120.trans (congrArg V.int (rng_get hx_115).symm)
      refine if_opq (fun Q_122 kk_123 => ?_)
      refine ⟨_, rfl, _, _, rfl, rfl, _, rfl, ?_⟩
      refine kk_123 _ _ ?_
      refine ite_m hf_112 (fun hc_124 hf_112 => ?_) (fun hc_124 hf_112 => ?_)
      · skip
        refine q_asg_opq (fun Q_125 kk_126 => ?_)
        have c_127 : Cf [p_1] H0 G0 G_94 [(p_1, (.lst vs_97)), (p_89, (.lst vs_100))] H_118 := c_96.front 1 rfl
        obtain ⟨⟨y_128, y_129⟩, hb_130, hf_112⟩ := bs hf_112
        dsimp only at hf_112
        refine ⟨_, rfl, G_94, p_1, vs_97, xs_98, (6 : Int), (y_128, y_129), rfl, c_127.gh, c_127.hd, c_127.hdg, al_99, hb_130, fun G_132 H_133 sp_134 vs_136 hs_137 al_138 => ?_⟩
        have c_135 := c_127.call1 sp_134 hs_137
        obtain ⟨hg_139, hf_112⟩ := gdp hf_112
        obtain ⟨hg_140, hf_112⟩ := gdp hf_112
        refine ⟨_, rfl, hg_139.1, hg_139.2, fun D_141 nD_142 => ?_⟩
        have c_143 := c_135.newO nD_142 (.lst [])
        obtain ⟨⟨out_153, xs_196⟩, hb_154, hf_112⟩ := bs hf_112
        dsimp only at hf_112
        refine lc_w walk_range (rng (0 : Int) y_128) (by rw [rng_len]; omega) (fun l_160 H_162 => ∃ (G_144 : Hp) (vs_147 : List V) (xs_148 : (List Int)) (vs_150 : List V) (xs_151 : (List Int)), Ex G_132 G_144 ∧ Cf [p_1] H0 G0 G_144 [(D_141, (.lst vs_147)), (p_1, (.lst vs_150)), (p_89, (.lst vs_100))] H_162 ∧ AL rI G_144 vs_147 xs_148 ∧ AL rI G_144 vs_150 xs_151 ∧ List.length xs_148 + List.length l_160 < BIG ∧ ∃ rest_156, lcs (fun (y_161 : Int) => fun (s_194 : (List Int)) => (fun (xs_151 : (List Int)) => (m__law_draw 8 xs_151 (imax (1 : Int) y_108)).bind fun z_181 => (fun (y_178 : Int) (y_179 : List Int) => (some (some y_178, (y_179)))) z_181.1 z_181.2) s_194) l_160 (xs_151) = some (rest_156, (xs_196)) ∧ xs_148 ++ rest_156 = out_153)
          ⟨G_132, [], ([] : List Int), vs_136, y_129, Ex.refl _, c_143, A2.nil, al_138, ⟨by simpa using hg_140, out_153, hb_154, rfl⟩⟩
          (fun l_160 H_162 hI => by
            obtain ⟨G_144, vs_147, xs_148, vs_150, xs_151, eg_145, c_146, al_149, al_152, ⟨hlen_159, rest_156, hf_157, hout_158⟩⟩ := hI
            exact True.intro)
          (fun i_164 y_161 l_160 H_162 v_165 H_168 hx_166 hI hy_167 => ?_) (fun H_162 hI => ?_)
        · obtain ⟨G_144, vs_147, xs_148, vs_150, xs_151, eg_145, c_146, al_149, al_152, ⟨hlen_159, rest_156, hf_157, hout_158⟩⟩ := hI
          obtain ⟨z_169, so_173, rest_170, hq_163, hf_171, ho_172⟩ := lcs_cons hf_157
          dsimp only at ho_172
          try dsimp only at hq_163
          obtain ⟨rfl, hv_174⟩ := hy_167
          obtain rfl : v_165 = .int y_161 := hv_174.trans (congrArg V.int (rng_get hx_166).symm)
          refine ⟨rfl, ?_⟩
          refine yes_q ?_
          refine opqV (fun Q_175 kk_176 => ?_)
          have c_177 : Cf [p_1] H0 G0 G_144 [(p_1, (.lst vs_150)), (D_141, (.lst vs_147)), (p_89, (.lst vs_100))] H_168 := c_146.front 1 rfl
          obtain ⟨⟨y_178, y_179⟩, hb_180, hq_163⟩ := bs hq_163
          dsimp only at hq_163
          refine ⟨_, rfl, _, rfl, _, _, rfl, G_144, p_1, vs_150, xs_151, (imax (1 : Int) y_108), (y_178, y_179), rfl, c_177.gh, c_177.hd, c_177.hdg, al_152, hb_180, fun G_182 H_183 sp_184 vs_186 hs_187 al_188 => ?_⟩
          have c_185 := c_177.call1 sp_184 hs_187
          refine kk_176 _ _ ?_
          have c_189 : Cf [p_1] H0 G0 G_182 [(D_141, (.lst vs_147)), (p_1, (.lst vs_186)), (p_89, (.lst vs_100))] H_183 := c_185.front 1 rfl
          refine ⟨_, c_189.hd, big_lt (by have h9 := hlen_159; have h8 := A2.len (AL.mono sp_184.gg al_149); simp only [List.length_cons] at h9; omega), ?_⟩
          obtain ⟨vs_190, hvs, al_191⟩ : ∃ vs9, vs9 = (vs_147 ++ [(.int y_178)]) ∧ AL rI G_182 vs9 (xs_148 ++ [y_178]) := ⟨_, rfl, (A2.app (AL.mono sp_184.gg al_149) (A2.one rfl))⟩
          rw [← hvs]
          clear hvs
          have c_192 := c_189.mut (.lst vs_190)
          generalize hh : upd H_183 D_141 (.lst vs_190) = H_193 at c_192 ⊢
          clear hh
          obtain ⟨rfl, rfl⟩ := Prod.mk.inj (some_in hq_163)
          exact ⟨G_182, vs_190, (xs_148 ++ [y_178]), vs_186, y_179, (eg_145.trans sp_184.gg), c_192, al_191, al_188, ⟨by have h9 := hlen_159; simp only [List.length_append, List.length_cons, List.length_nil] at h9 ⊢; first | done | omega, rest_170, hf_171, by rw [← hout_158, ho_172]; first | done | simp⟩⟩
        obtain ⟨G_144, vs_147, xs_148, vs_150, xs_151, eg_145, c_146, al_149, al_152, ⟨hlen_159, rest_156, hf_157, hout_158⟩⟩ := hI
        obtain ⟨rfl, rfl⟩ := Prod.mk.inj (some_in hf_157)
        rw [List.append_nil] at hout_158
        subst hout_158
        refine kk_126 _ _ ?_
        refine drop_opq (fun Q_197 kk_198 => ?_)
        obtain ⟨hg_199, hf_112⟩ := gdp hf_112
        refine ⟨_, rfl, .inl ⟨rfl, _, SqL.of (c_146.get 2 rfl)⟩, _, rfl, _, rfl, ⟨_, SqL.of (c_146.get 0 rfl)⟩, fun D_200 nD_201 => ?_⟩
        have c_202 := c_146.newO nD_201 (.lst [])
        obtain ⟨out_209, hb_210, hf_112⟩ := bs hf_112
        refine lc_w (walk_list (xs := vs_147)) xs_148 (A2.len al_149) (fun l_216 H_218 => ∃ (G_203 : Hp) (vs_206 : List V) (xs_207 : (List Int)), Ex G_144 G_203 ∧ Cf [p_1] H0 G0 G_203 [(D_200, (.lst vs_206)), (D_141, (.lst vs_147)), (p_1, (.lst vs_150)), (p_89, (.lst vs_100))] H_218 ∧ AL rI G_203 vs_206 xs_207 ∧ List.length xs_207 + List.length l_216 < BIG ∧ ∃ rest_212, lcf (fun (y_217 : Int) => if (decide (y_217 < y_108)) then (some (some y_217)) else (some none)) l_216 = some rest_212 ∧ xs_207 ++ rest_212 = out_209)
          ⟨G_144, [], ([] : List Int), Ex.refl _, c_202, A2.nil, ⟨by simpa using hg_199, out_209, hb_210, rfl⟩⟩
          (fun l_216 H_218 hI => by
            obtain ⟨G_203, vs_206, xs_207, eg_204, c_205, al_208, ⟨hlen_215, rest_212, hf_213, hout_214⟩⟩ := hI
            exact (SqL.of (c_205.get 1 rfl)))
          (fun i_220 y_217 l_216 H_218 v_221 H_224 hx_222 hI hy_223 => ?_) (fun H_218 hI => ?_)
        · obtain ⟨G_203, vs_206, xs_207, eg_204, c_205, al_208, ⟨hlen_215, rest_212, hf_213, hout_214⟩⟩ := hI
          obtain ⟨z_225, rest_226, hq_219, hf_227, ho_228⟩ := lcf_cons hf_213
          try dsimp only at hq_219
          obtain ⟨rfl, hv_230⟩ := hy_223
          obtain ⟨v_231, hv_232, rv_233⟩ := A2.get al_149 hx_222
          obtain rfl := Option.some.inj (hv_230.symm.trans hv_232)
          obtain rfl := (show v_221 = (.int y_217) from rv_233)
          refine ⟨rfl, ?_⟩
          refine opqT (fun Q_234 kk_235 => ?_)
          refine ⟨_, rfl, _, rfl, _, _, rfl, rfl, _, rfl, ?_⟩
          refine kk_235 _ _ ?_
          refine ite_m hq_219 (fun hc_236 hq_219 => ?_) (fun hc_236 hq_219 => ?_)
          · skip
            refine opqV (fun Q_237 kk_238 => ?_)
            refine ⟨_, rfl, ?_⟩
            refine kk_238 _ _ ?_
            refine ⟨_, c_205.hd, big_lt (by have h9 := hlen_215; have h8 := A2.len al_208; simp only [List.length_cons] at h9; omega), ?_⟩
            obtain ⟨vs_239, hvs, al_240⟩ : ∃ vs9, vs9 = (vs_206 ++ [(.int y_217)]) ∧ AL rI G_203 vs9 (xs_207 ++ [y_217]) := ⟨_, rfl, (A2.app al_208 (A2.one rfl))⟩
            rw [← hvs]
            clear hvs
            have c_241 := c_205.mut (.lst vs_239)
            generalize hh : upd H_224 D_200 (.lst vs_239) = H_242 at c_241 ⊢
            clear hh
            obtain rfl := some_in hq_219
            exact ⟨G_203, vs_239, (xs_207 ++ [y_217]), eg_204, c_241, al_240, ⟨by have h9 := hlen_215; simp only [List.length_append, List.length_cons, List.length_nil] at h9 ⊢; first | done | omega, rest_226, hf_227, by rw [← hout_214, ho_228]; first | done | simp⟩⟩
          · skip
            obtain rfl := some_in hq_219
            exact ⟨G_203, vs_206, xs_207, eg_204, c_205, al_208, ⟨by have h9 := hlen_215; simp only [List.length_append, List.length_cons, List.length_nil] at h9 ⊢; first | done | omega, rest_226, hf_227, by rw [← hout_214, ho_228]; first | done | simp⟩⟩
        obtain ⟨G_203, vs_206, xs_207, eg_204, c_205, al_208, ⟨hlen_215, rest_212, hf_213, hout_214⟩⟩ := hI
        obtain rfl := some_in hf_213
        rw [List.append_nil] at hout_214
        subst hout_214
        obtain ⟨hg_243, hf_112⟩ := gdp hf_112
        refine ⟨_, _, xs_207, rfl, (c_205.get 0 rfl), AL.mono c_205.gh al_208, hg_243, fun p_244 np_245 => ?_⟩
        have c_247 := c_205.junk np_245 (setL w p_244 xs_207)
        have hs_246 : upd H_218 p_244 (setL w p_244 xs_207) p_244 = some (setL w p_244 xs_207) := upd_same
        generalize hh : upd H_218 p_244 (setL w p_244 xs_207) = H_248 at c_247 hs_246 ⊢
        clear hh
        refine ⟨_, _, rfl, hs_246, fun p_249 np_250 => ?_⟩
        have c_251 := c_247.newO np_250 (.lst (List.map V.int (srt xs_207)))
        generalize hh : upd H_248 p_249 (.lst (List.map V.int (srt xs_207))) = H_252 at c_251 ⊢
        clear hh
        obtain ⟨G_256, eg_254, sq_255, c_253⟩ : ∃ G9, Ex G_203 G9 ∧ G9 p_249 = some (.lst (List.map V.int (srt xs_207))) ∧ Cf [p_1] H0 G0 G9 [(D_200, (.lst vs_206)), (D_141, (.lst vs_147)), (p_1, (.lst vs_150)), (p_89, (.lst vs_100))] H_252 := ⟨_, freeze_ex c_251, upd_same, c_251.freeze (by simp)⟩
        obtain ⟨hg_257, hf_112⟩ := gdp hf_112
        have c_258 : Cf [p_1] H0 G0 G_256 [(p_89, (.lst vs_100)), (D_200, (.lst vs_206)), (D_141, (.lst vs_147)), (p_1, (.lst vs_150))] H_252 := c_253.front 3 rfl
        refine ⟨_, _, _, rfl, rfl, c_258.hd, (by rw [A2.len (AL.mono (((sp_134.gg.trans eg_145).trans eg_204).trans eg_254) al_102)]; exact big_lt hg_257), ?_⟩
        obtain ⟨vs_259, hvs, al_260⟩ : ∃ vs9, vs9 = (vs_100 ++ [(.ref p_249)]) ∧ AL (rL rI) G_256 vs9 (xs_101 ++ [(srt xs_207)]) := ⟨_, rfl, (A2.app (AL.mono (((sp_134.gg.trans eg_145).trans eg_204).trans eg_254) al_102) (A2.one ⟨p_249, (List.map V.int (srt xs_207)), rfl, sq_255, (AL.mono eg_254 (la_I G_203 (srt xs_207)))⟩))⟩
        rw [← hvs]
        clear hvs
        have c_261 := c_258.mut (.lst vs_259)
        generalize hh : upd H_252 p_89 (.lst vs_259) = H_262 at c_261 ⊢
        clear hh
        refine kk_198 _ _ ?_
        obtain rfl := some_in hf_112
        have c_263 : Cf [p_1] H0 G0 G_256 [(D_200, (.lst vs_206)), (p_89, (.lst vs_259)), (D_141, (.lst vs_147)), (p_1, (.lst vs_150))] H_262 := c_261.front 1 rfl
        have c_264 : Cf [p_1] H0 G0 G_256 [(p_89, (.lst vs_259)), (D_141, (.lst vs_147)), (p_1, (.lst vs_150))] H_262 := c_263.drop
        have c_265 : Cf [p_1] H0 G0 G_256 [(D_141, (.lst vs_147)), (p_89, (.lst vs_259)), (p_1, (.lst vs_150))] H_262 := c_264.front 1 rfl
        have c_266 : Cf [p_1] H0 G0 G_256 [(p_89, (.lst vs_259)), (p_1, (.lst vs_150))] H_262 := c_265.drop
        exact ⟨G_256, vs_150, xs_151, vs_259, (xs_101 ++ [(srt xs_207)]), (some (.int y_108)), (some (.ref D_141)), rfl, ((((eg_95.trans sp_134.gg).trans eg_145).trans eg_204).trans eg_254), c_266, (AL.mono (eg_204.trans eg_254) al_152), al_260, hgo_113⟩
      · skip
        refine drop_opq (fun Q_267 kk_268 => ?_)
        obtain ⟨hg_269, hf_112⟩ := gdp hf_112
        obtain ⟨hg_270, hf_112⟩ := gdp hf_112
        refine ⟨_, rfl, .inl ⟨rfl, _, SqL.of (c_96.get 0 rfl)⟩, _, rfl, _, rfl, hg_269.1, hg_269.2, fun D_271 nD_272 => ?_⟩
        have c_273 := c_96.newO nD_272 (.lst [])
        obtain ⟨⟨out_283, xs_334⟩, hb_284, hf_112⟩ := bs hf_112
        dsimp only at hf_112
        refine lc_w walk_range (rng (0 : Int) y_108) (by rw [rng_len]; omega) (fun l_290 H_292 => ∃ (G_274 : Hp) (vs_277 : List V) (xs_278 : (List Int)) (vs_280 : List V) (xs_281 : (List Int)), Ex G_94 G_274 ∧ Cf [p_1] H0 G0 G_274 [(D_271, (.lst vs_277)), (p_89, (.lst vs_100)), (p_1, (.lst vs_280))] H_292 ∧ AL rI G_274 vs_277 xs_278 ∧ AL rI G_274 vs_280 xs_281 ∧ List.length xs_278 + List.length l_290 < BIG ∧ ∃ rest_286, lcs (fun (y_291 : Int) => fun (s_332 : (List Int)) => (fun (xs_281 : (List Int)) => (m__law_draw 8 xs_281 (8 : Int)).bind fun z_311 => (fun (y_308 : Int) (y_309 : List Int) => (if (decide (y_308 < x_32)) then (some (some y_291, (y_309))) else (some (none, (y_309))))) z_311.1 z_311.2) s_332) l_290 (xs_281) = some (rest_286, (xs_334)) ∧ xs_278 ++ rest_286 = out_283)
          ⟨G_94, [], ([] : List Int), vs_97, xs_98, Ex.refl _, c_273, A2.nil, al_99, ⟨by simpa using hg_270, out_283, hb_284, rfl⟩⟩
          (fun l_290 H_292 hI => by
            obtain ⟨G_274, vs_277, xs_278, vs_280, xs_281, eg_275, c_276, al_279, al_282, ⟨hlen_289, rest_286, hf_287, hout_288⟩⟩ := hI
            exact True.intro)
          (fun i_294 y_291 l_290 H_292 v_295 H_298 hx_296 hI hy_297 => ?_) (fun H_292 hI => ?_)
        · obtain ⟨G_274, vs_277, xs_278, vs_280, xs_281, eg_275, c_276, al_279, al_282, ⟨hlen_289, rest_286, hf_287, hout_288⟩⟩ := hI
          obtain ⟨z_299, so_303, rest_300, hq_293, hf_301, ho_302⟩ := lcs_cons hf_287
          dsimp only at ho_302
          try dsimp only at hq_293
          obtain ⟨rfl, hv_304⟩ := hy_297
          obtain rfl : v_295 = .int y_291 := hv_304.trans (congrArg V.int (rng_get hx_296).symm)
          refine ⟨rfl, ?_⟩
          refine opqT (fun Q_305 kk_306 => ?_)
          have c_307 : Cf [p_1] H0 G0 G_274 [(p_1, (.lst vs_280)), (D_271, (.lst vs_277)), (p_89, (.lst vs_100))] H_298 := c_276.front 2 rfl
          obtain ⟨⟨y_308, y_309⟩, hb_310, hq_293⟩ := bs hq_293
          dsimp only at hq_293
          refine ⟨_, rfl, G_274, p_1, vs_280, xs_281, (8 : Int), (y_308, y_309), rfl, c_307.gh, c_307.hd, c_307.hdg, al_282, hb_310, fun G_312 H_313 sp_314 vs_316 hs_317 al_318 => ?_⟩
          have c_315 := c_307.call1 sp_314 hs_317
          refine ⟨_, rfl, _, _, rfl, rfl, _, rfl, ?_⟩
          refine kk_306 _ _ ?_
          refine ite_m hq_293 (fun hc_319 hq_293 => ?_) (fun hc_319 hq_293 => ?_)
          · skip
            refine opqV (fun Q_320 kk_321 => ?_)
            refine ⟨_, rfl, ?_⟩
            refine kk_321 _ _ ?_
            have c_322 : Cf [p_1] H0 G0 G_312 [(D_271, (.lst vs_277)), (p_1, (.lst vs_316)), (p_89, (.lst vs_100))] H_313 := c_315.front 1 rfl
            refine ⟨_, c_322.hd, big_lt (by have h9 := hlen_289; have h8 := A2.len (AL.mono sp_314.gg al_279); simp only [List.length_cons] at h9; omega), ?_⟩
            obtain ⟨vs_323, hvs, al_324⟩ : ∃ vs9, vs9 = (vs_277 ++ [(.int y_291)]) ∧ AL rI G_312 vs9 (xs_278 ++ [y_291]) := ⟨_, rfl, (A2.app (AL.mono sp_314.gg al_279) (A2.one rfl))⟩
            rw [← hvs]
            clear hvs
            have c_325 := c_322.mut (.lst vs_323)
            generalize hh : upd H_313 D_271 (.lst vs_323) = H_326 at c_325 ⊢
            clear hh
            obtain ⟨rfl, rfl⟩ := Prod.mk.inj (some_in hq_293)
            have c_327 : Cf [p_1] H0 G0 G_312 [(p_1, (.lst vs_316)), (D_271, (.lst vs_323)), (p_89, (.lst vs_100))] H_326 := c_325.front 1 rfl
            have c_328 : Cf [p_1] H0 G0 G_312 [(p_89, (.lst vs_100)), (p_1, (.lst vs_316)), (D_271, (.lst vs_323))] H_326 := c_327.front 2 rfl
            have c_329 : Cf [p_1] H0 G0 G_312 [(D_271, (.lst vs_323)), (p_89, (.lst vs_100)), (p_1, (.lst vs_316))] H_326 := c_328.front 2 rfl
            exact ⟨G_312, vs_323, (xs_278 ++ [y_291]), vs_316, y_309, (eg_275.trans sp_314.gg), c_329, al_324, al_318, ⟨by have h9 := hlen_289; simp only [List.length_append, List.length_cons, List.length_nil] at h9 ⊢; first | done | omega, rest_300, hf_301, by rw [← hout_288, ho_302]; first | done | simp⟩⟩
          · skip
            have c_330 : Cf [p_1] H0 G0 G_312 [(p_89, (.lst vs_100)), (p_1, (.lst vs_316)), (D_271, (.lst vs_277))] H_313 := c_315.front 2 rfl
            have c_331 : Cf [p_1] H0 G0 G_312 [(D_271, (.lst vs_277)), (p_89, (.lst vs_100)), (p_1, (.lst vs_316))] H_313 := c_330.front 2 rfl
            obtain ⟨rfl, rfl⟩ := Prod.mk.inj (some_in hq_293)
            exact ⟨G_312, vs_277, xs_278, vs_316, y_309, (eg_275.trans sp_314.gg), c_331, (AL.mono sp_314.gg al_279), al_318, ⟨by have h9 := hlen_289; simp only [List.length_append, List.length_cons, List.length_nil] at h9 ⊢; first | done | omega, rest_300, hf_301, by rw [← hout_288, ho_302]; first | done | simp⟩⟩
        obtain ⟨G_274, vs_277, xs_278, vs_280, xs_281, eg_275, c_276, al_279, al_282, ⟨hlen_289, rest_286, hf_287, hout_288⟩⟩ := hI
        obtain ⟨rfl, rfl⟩ := Prod.mk.inj (some_in hf_287)
        rw [List.append_nil] at hout_288
        subst hout_288
        obtain ⟨G_338, eg_336, sq_337, c_335⟩ : ∃ G9, Ex G_274 G9 ∧ G9 D_271 = some (.lst vs_277) ∧ Cf [p_1] H0 G0 G9 [(p_89, (.lst vs_100)), (p_1, (.lst vs_280))] H_292 := ⟨_, freeze_ex c_276, upd_same, c_276.freeze (by simp)⟩
        obtain ⟨hg_339, hf_112⟩ := gdp hf_112
        refine ⟨_, _, _, rfl, rfl, c_335.hd, (by rw [A2.len (AL.mono (eg_275.trans eg_336) al_102)]; exact big_lt hg_339), ?_⟩
        obtain ⟨vs_340, hvs, al_341⟩ : ∃ vs9, vs9 = (vs_100 ++ [(.ref D_271)]) ∧ AL (rL rI) G_338 vs9 (xs_101 ++ [xs_278]) := ⟨_, rfl, (A2.app (AL.mono (eg_275.trans eg_336) al_102) (A2.one ⟨D_271, vs_277, rfl, sq_337, (AL.mono eg_336 al_279)⟩))⟩
        rw [← hvs]
        clear hvs
        have c_342 := c_335.mut (.lst vs_340)
        generalize hh : upd H_292 p_89 (.lst vs_340) = H_343 at c_342 ⊢
        clear hh
        refine kk_268 _ _ ?_
        obtain rfl := some_in hf_112
        exact ⟨G_338, vs_280, xs_281, vs_340, (xs_101 ++ [xs_278]), (some (.int y_108)), o_104, rfl, ((eg_95.trans eg_275).trans eg_336), c_342, (AL.mono eg_336 al_282), al_341, hgo_113⟩
    · obtain ⟨G_94, vs_97, xs_98, vs_100, xs_101, o_103, o_104, rfl, eg_95, c_96, al_99, al_102, ho_106⟩ := hI
      obtain rfl := lp_nil ho_106
      try dsimp only at hm
      try dsimp only
      refine ret_opq (fun Q_345 kk_346 => ?_)
      refine ⟨_, rfl, ?_⟩
      refine kk_346 _ _ ?_
      obtain rfl := some_in hm
      exact k p_89 vs_100 G_94 H_110 c_96.stp (c_96.hdn (by simp)) c_96.hdg c_96.hd al_102 vs_97 (c_96.get 1 rfl) al_99
theorem sc_law71 : FnScope ["script", "at", "deck", "web", "ties", "kept", "due", "told", "back", "place", "row"] ["script"] (defScope s_law) := ⟨rfl, rfl, rfl, by decide +kernel, rfl, by decide +kernel, by decide +kernel⟩
def m_law71 (script' : List Int) : Option Bool :=
  gd (rok (imax (1 : Int) (imin ((List.length script' : Nat) : Int) (4 : Int)))) ((lpx (fun (y_19 : Int) => fun (s_22 : Unit) => ((m__law_deck script' y_19).bind fun y_35 => (((((m__law_draw 8 y_35 (8 : Int)).bind fun z_67 => (fun (y_64 : Int) (y_65 : List Int) => (if (decide (y_64 = (7 : Int))) then ((m__law_dense_web y_65).bind fun z_81 => (fun (y_78 : (List (List Int))) (y_79 : List Int) => (some (y_78, y_79))) z_81.1 z_81.2) else ((m__law_web y_65 (14 : Int)).bind fun z_101 => (fun (y_98 : (List (List Int))) (y_99 : List Int) => (some (y_98, y_99))) z_101.1 z_101.2))) z_67.1 z_67.2) : Option ((List (List Int)) × (List Int)))).bind fun (s_436 : ((List (List Int)) × (List Int))) => (fun (xs_53 : (List (List Int))) (xs_56 : (List Int)) => (gd (List.length xs_53 < BIG) ((lcm (fun (y_136 : (List Int)) => some y_136) xs_53).bind fun xs_126 => ((m__law_text xs_126).bind fun y_173 => ((m_show_web xs_53).bind fun y_181 => ((pOr (!true) ((pOr (!(decide (y_181 = y_173))) ((m__law_same_rows xs_53 xs_126).bind fun y_191 => (some (!y_191)))).bind fun b_199 => (some b_199))).bind fun b_207 => (if b_207 then (some (Out.rt false)) else ((m_read_web y_173).bind fun y_218 => ((m__law_same_rows y_218 xs_126).bind fun y_238 => (if (!y_238) then (some (Out.rt false)) else ((((if (!(decide (xs_126 = ([] : List (List Int))))) then ((m__law_draw 8 xs_56 ((List.length xs_126 : Nat) : Int)).bind fun z_277 => (fun (y_274 : Int) (y_275 : List Int) => ((atI y_218 y_274).bind fun y_287 => (gd (List.length y_287 < BIG) ((atI xs_126 y_274).bind fun y_311 => (gd (List.length y_311 + List.length ([(-(1 : Int))] : List Int) < BIG) (gd (List.length (cutL xs_126 none (some y_274)) + List.length ([(y_311 ++ ([(-(1 : Int))] : List Int))] : List (List Int)) < BIG) (gd (List.length ((cutL xs_126 none (some y_274)) ++ ([(y_311 ++ ([(-(1 : Int))] : List Int))] : List (List Int))) + List.length (cutL xs_126 (some (y_274 + (1 : Int))) none) < BIG) ((m__law_same_rows (setI y_218 y_274 (y_287 ++ [(-(1 : Int))])) (((cutL xs_126 none (some y_274)) ++ ([(y_311 ++ ([(-(1 : Int))] : List Int))] : List (List Int))) ++ (cutL xs_126 (some (y_274 + (1 : Int))) none))).bind fun y_366 => (if (!y_366) then (some (Out.rt false)) else (some (Out.nx (y_275, (setI y_218 y_274 (y_287 ++ [(-(1 : Int))])))))))))))))) z_277.1 z_277.2) else (some (Out.nx (xs_56, y_218)))) : Option (Out ((List Int) × (List (List Int))) Bool))).bind fun s_260 => Out.fin s_260 (fun (s_434 : ((List Int) × (List (List Int)))) => (fun (xs_253 : (List Int)) (xs_256 : (List (List Int))) => (gd (List.length xs_256 < BIG) ((m_read_web y_181).bind fun y_407 => ((m__law_same_rows y_407 xs_126).bind fun y_420 => (if (!y_420) then (some (Out.rt false)) else (some (Out.nx ()))))))) s_434.1 s_434.2) (fun r_435 => some (Out.rt r_435))))))))))))) s_436.1 s_436.2) : Option (Out Unit Bool))) (rng (0 : Int) (imax (1 : Int) (imin ((List.length script' : Nat) : Int) (4 : Int)))) ()).bind fun o_16 => Out.fin o_16 (fun (s_440 : Unit) => (some true)) (fun r_441 => some r_441))
def sp_law71 (K : PySem.W.Frag) : Sp := fun vs H Q _ => ∃ (G : Hp) (a_1 : Addr) (script' : List Int) (r : Bool), vs = [.ref a_1] ∧ Ex G H ∧ SqL K H a_1 (script'.map V.int) ∧ m_law71 script' = some r ∧ ∀ (G' H' : Hp), Stp [] G G' H H' → Q (.bl r) H'
theorem ok_law71 (T : Env K mg) : FnOk P w K mg base CX0 11 T.f_law T.d_law ["script"] (sp_law71 K) := by
  refine T.F_law.ok sc_law71 (fun vs H Q E h => ?_) (fun cdv A outer s H0 vs Q E hr h => ?_)
  · obtain ⟨G0, a_1, script', r, rfl, _⟩ := h
    rfl
  · obtain ⟨G0, a_1, script', r, rfl, hG0, sq_2, hm, k⟩ := h
    have hu := hr.units
    have hu65 := hu65 hr
    have c0 := Cf.start hG0
    unfold m_law71 at hm
    refine ⟨_, (pss_cons (ps_for PassesOwn.never rfl (pi_range1 (by rfl) T.n_range (pa_cons (pe_callB (call_maxI rfl) (by rfl) T.n_max bt_max (pa_cons pe_int (pa_cons (pe_callB (call_minI rfl) (by rfl) T.n_min bt_min (pa_cons (pe_callB (call_lenSc (K := K) rfl) (by rfl) T.n_len bt_len (pa_cons (pv 0) pa_nil)) (pa_cons pe_int pa_nil))) pa_nil))) pa_nil)) (pg_name (i := 1) sc_law71.nd rfl (by first | exact Or.inl rfl | exact Or.inr rfl)) (pss_cons (ps_set (i := 2) sc_law71.nd rfl (by first | exact Or.inl rfl | exact Or.inr rfl) (pe_call (ok__law_deck T) (hr.mono (by decide)) (by rfl) T.g__law_deck T.F__law_deck.kp T.b__law_deck .nil pass0 (pa_cons (pv 0) (pa_cons (pv 1) pa_nil))))
      (Evl.pss_cut (ps_if (pt_cmpR op_eqI (pe_call (ok__law_draw T 8) (hr.mono (by decide)) (by rfl) T.g__law_draw T.F__law_draw.kp T.b__law_draw .nil pass0 (pa_cons (pv 2) (pa_cons pe_int pa_nil))) pe_int (nomark _)) (pss_one (ps_set (i := 3) sc_law71.nd rfl (by first | exact Or.inl rfl | exact Or.inr rfl) (pe_call (ok__law_dense_web T) (hr.mono (by decide)) (by rfl) T.g__law_dense_web T.F__law_dense_web.kp T.b__law_dense_web .nil pass0 (pa_cons (pv 2) pa_nil)))) (pss_one (ps_set (i := 3) sc_law71.nd rfl (by first | exact Or.inl rfl | exact Or.inr rfl) (pe_call (ok__law_web T) (hr.mono (by decide)) (by rfl) T.g__law_web T.F__law_web.kp T.b__law_web .nil pass0 (pa_cons (pv 2) (pa_cons pe_int pa_nil))))))
      (pss_cons (ps_setLc (i := 5) (own := [("ties", 4)]) (g := gName 4) (tt := tYes)  rfl sc_law71.nd rfl rfl (sw_true rfl rfl rfl (by decide +kernel)) (pi_list (pv 3)) (blkOk_by (own := [("ties", 4)]) (N := ["script", "at", "deck", "web", "ties", "kept", "due", "told", "back", "place", "row"]) (sc := defScope s_law) (by decide +kernel)) (fun _ _ _ _ _ => (pg_name (i := 4) sc_law71.nd rfl (by first | exact Or.inl rfl | exact Or.inr rfl))) (fun _ _ _ _ _ => pts_nil) (fun _ _ _ _ _ => (pe_callTy call_listL (by rfl) T.n_list bt_list (pa_cons (pv 4) pa_nil))))
      (pss_cons (ps_set (i := 6) sc_law71.nd rfl (by first | exact Or.inl rfl | exact Or.inr rfl) (pe_call (ok__law_text T) (hr.mono (by decide)) (by rfl) T.g__law_text T.F__law_text.kp T.b__law_text .nil pass0 (pa_cons (pv 5) pa_nil)))
      (pss_cons (ps_set (i := 7) sc_law71.nd rfl (by first | exact Or.inl rfl | exact Or.inr rfl) (pe_call (ok_show_web T) (hr.mono (by decide)) (by rfl) T.g_show_web T.F_show_web.kp T.b_show_web .nil pass0 (pa_cons (pv 3) pa_nil)))
      (pss_cons (ps_if (PW.pt (pw_or (pt_not (pt_val (pe_callB (call_is (K := K) rfl) (by rfl) T.n_isinstance bt_isi (pa_cons (pv 7) (pa_cons (pe_bltn (v := .ty "str") (by rfl) T.n_str bt_str rfl) pa_nil))))) (pw_or (pt_cmpR op_neS (pv 7) (pv 6) (nomark _)) (pw_or1 (pt_not (pt_val (pe_call (ok__law_same_rows T) (hr.mono (by decide)) (by rfl) T.g__law_same_rows T.F__law_same_rows.kp T.b__law_same_rows .nil pass0 (pa_cons (pv 3) (pa_cons (pv 5) pa_nil))))))))) (pss_one (ps_ret pe_bl)) pss_nil)
      (pss_cons (ps_set (i := 8) sc_law71.nd rfl (by first | exact Or.inl rfl | exact Or.inr rfl) (pe_call (ok_read_web T) (hr.mono (by decide)) (by rfl) T.g_read_web T.F_read_web.kp T.b_read_web .nil pass0 (pa_cons (pv 6) pa_nil)))
      (pss_cons (ps_if (pt_not (pt_val (pe_call (ok__law_same_rows T) (hr.mono (by decide)) (by rfl) T.g__law_same_rows T.F__law_same_rows.kp T.b__law_same_rows .nil pass0 (pa_cons (pv 8) (pa_cons (pv 5) pa_nil))))) (pss_one (ps_ret pe_bl)) pss_nil)
      (Evl.pss_cut (ps_if (pt_cmpR (op_neT hu (eqdL (eqdL eqdI)) (by decide)) (pv 5) (pe_lst pa_nil) (nomark _)) (pss_cons (ps_set (i := 9) sc_law71.nd rfl (by first | exact Or.inl rfl | exact Or.inr rfl) (pe_call (ok__law_draw T 8) (hr.mono (by decide)) (by rfl) T.g__law_draw T.F__law_draw.kp T.b__law_draw .nil pass0 (pa_cons (pv 2) (pa_cons (pe_callB call_lenL (by rfl) T.n_len bt_len (pa_cons (pv 5) pa_nil)) pa_nil))))
      (pss_cons (ps_set (i := 10) sc_law71.nd rfl (by first | exact Or.inl rfl | exact Or.inr rfl) (pe_ix (ix_l (K := K) rfl) (pv 8) (pv 9) (fun _ _ => rfl)))
      (pss_cons (ps_expr (pe_bm PySem.F.plainAttrs_list PySem.F.slot_list_append PySem.F.type_list_append mt_append (pv 10) (pa_cons (pe_un un_neg pe_int) pa_nil)))
      (pss_one (ps_if (pt_not (pt_val (pe_call (ok__law_same_rows T) (hr.mono (by decide)) (by rfl) T.g__law_same_rows T.F__law_same_rows.kp T.b__law_same_rows .nil pass0 (pa_cons (pv 8) (pa_cons (pe_op op_cat (pe_op op_cat (pe_slice (sl_l (K := K) rfl) (pv 5) po_none (po_some (pv 9))) (pe_lst (pa_cons (pe_op op_cat (pe_ix (ix_l (K := K) rfl) (pv 5) (pv 9) (fun _ _ => rfl)) (pe_lst (pa_cons (pe_un un_neg pe_int) pa_nil))) pa_nil))) (pe_slice (sl_l (K := K) rfl) (pv 5) (po_some (pe_op op_add (pv 9) pe_int)) po_none)) pa_nil))))) (pss_one (ps_ret pe_bl)) pss_nil))))) pss_nil)
      (pss_cons (ps_expr (pe_bm PySem.F.plainAttrs_list PySem.F.slot_list_append PySem.F.type_list_append mt_append (pv 8) (pa_cons (pe_lst pa_nil) pa_nil)))
      (pss_one (ps_if (pt_not (pt_val (pe_call (ok__law_same_rows T) (hr.mono (by decide)) (by rfl) T.g__law_same_rows T.F__law_same_rows.kp T.b__law_same_rows .nil pass0 (pa_cons (pe_call (ok_read_web T) (hr.mono (by decide)) (by rfl) T.g_read_web T.F_read_web.kp T.b_read_web .nil pass0 (pa_cons (pv 7) pa_nil)) (pa_cons (pv 5) pa_nil))))) (pss_one (ps_ret pe_bl)) pss_nil)))))))))))))
      (pss_one (ps_ret pe_bl))), ?_⟩
    obtain ⟨hg_3, hm⟩ := gdp hm
    refine ⟨_, rfl, _, _, rfl, (sc_at sq_2 c0), _, _, rfl, _, _, rfl, _, rfl, hg_3.1, hg_3.2, ?_⟩
    obtain ⟨o_16, ho_17, hm⟩ := bs hm
    refine for_w walk_range (rng (0 : Int) (imax (1 : Int) (imin ((List.length script' : Nat) : Int) (4 : Int)))) (by rw [rng_len]; omega) (fun l_18 σ_20 H_21 => ∃ (G_4 : Hp) (o_7 : Option V) (o_8 : Option V) (o_9 : Option V) (o_10 : Option V) (o_11 : Option V) (o_12 : Option V) (o_13 : Option V) (o_14 : Option V) (o_15 : Option V), σ_20 = [(some (.ref a_1)), o_7, o_8, o_9, none, o_10, o_11, o_12, o_13, o_14, o_15] ∧ Ex G0 G_4 ∧ Cf [] H0 G0 G_4 [] H_21 ∧ lpx (fun (y_19 : Int) => fun (s_22 : Unit) => ((m__law_deck script' y_19).bind fun y_35 => (((((m__law_draw 8 y_35 (8 : Int)).bind fun z_67 => (fun (y_64 : Int) (y_65 : List Int) => (if (decide (y_64 = (7 : Int))) then ((m__law_dense_web y_65).bind fun z_81 => (fun (y_78 : (List (List Int))) (y_79 : List Int) => (some (y_78, y_79))) z_81.1 z_81.2) else ((m__law_web y_65 (14 : Int)).bind fun z_101 => (fun (y_98 : (List (List Int))) (y_99 : List Int) => (some (y_98, y_99))) z_101.1 z_101.2))) z_67.1 z_67.2) : Option ((List (List Int)) × (List Int)))).bind fun (s_436 : ((List (List Int)) × (List Int))) => (fun (xs_53 : (List (List Int))) (xs_56 : (List Int)) => (gd (List.length xs_53 < BIG) ((lcm (fun (y_136 : (List Int)) => some y_136) xs_53).bind fun xs_126 => ((m__law_text xs_126).bind fun y_173 => ((m_show_web xs_53).bind fun y_181 => ((pOr (!true) ((pOr (!(decide (y_181 = y_173))) ((m__law_same_rows xs_53 xs_126).bind fun y_191 => (some (!y_191)))).bind fun b_199 => (some b_199))).bind fun b_207 => (if b_207 then (some (Out.rt false)) else ((m_read_web y_173).bind fun y_218 => ((m__law_same_rows y_218 xs_126).bind fun y_238 => (if (!y_238) then (some (Out.rt false)) else ((((if (!(decide (xs_126 = ([] : List (List Int))))) then ((m__law_draw 8 xs_56 ((List.length xs_126 : Nat) : Int)).bind fun z_277 => (fun (y_274 : Int) (y_275 : List Int) => ((atI y_218 y_274).bind fun y_287 => (gd (List.length y_287 < BIG) ((atI xs_126 y_274).bind fun y_311 => (gd (List.length y_311 + List.length ([(-(1 : Int))] : List Int) < BIG) (gd (List.length (cutL xs_126 none (some y_274)) + List.length ([(y_311 ++ ([(-(1 : Int))] : List Int))] : List (List Int)) < BIG) (gd (List.length ((cutL xs_126 none (some y_274)) ++ ([(y_311 ++ ([(-(1 : Int))] : List Int))] : List (List Int))) + List.length (cutL xs_126 (some (y_274 + (1 : Int))) none) < BIG) ((m__law_same_rows (setI y_218 y_274 (y_287 ++ [(-(1 : Int))])) (((cutL xs_126 none (some y_274)) ++ ([(y_311 ++ ([(-(1 : Int))] : List Int))] : List (List Int))) ++ (cutL xs_126 (some (y_274 + (1 : Int))) none))).bind fun y_366 => (if (!y_366) then (some (Out.rt false)) else (some (Out.nx (y_275, (setI y_218 y_274 (y_287 ++ [(-(1 : Int))])))))))))))))) z_277.1 z_277.2) else (some (Out.nx (xs_56, y_218)))) : Option (Out ((List Int) × (List (List Int))) Bool))).bind fun s_260 => Out.fin s_260 (fun (s_434 : ((List Int) × (List (List Int)))) => (fun (xs_253 : (List Int)) (xs_256 : (List (List Int))) => (gd (List.length xs_256 < BIG) ((m_read_web y_181).bind fun y_407 => ((m__law_same_rows y_407 xs_126).bind fun y_420 => (if (!y_420) then (some (Out.rt false)) else (some (Out.nx ()))))))) s_434.1 s_434.2) (fun r_435 => some (Out.rt r_435))))))))))))) s_436.1 s_436.2) : Option (Out Unit Bool))) l_18 () = some o_16)
      ⟨G0, none, none, none, none, none, none, none, none, none, rfl, Ex.refl _, c0, ho_17⟩
      (fun l_18 σ_20 H_21 hI => by
        obtain ⟨G_4, o_7, o_8, o_9, o_10, o_11, o_12, o_13, o_14, o_15, rfl, eg_5, c_6, ho_17⟩ := hI
        exact True.intro)
      (fun i_28 y_19 l_18 σ_20 H_21 v_25 H_29 hx_26 hI hy_27 => ?_) (fun σ_20 H_21 hI => ?_)
    · obtain ⟨G_4, o_7, o_8, o_9, o_10, o_11, o_12, o_13, o_14, o_15, rfl, eg_5, c_6, ho_17⟩ := hI
      obtain ⟨so_30, hf_23, hgo_24⟩ := lpx_cons ho_17
      try dsimp only at hf_23
      obtain ⟨rfl, hv_31⟩ := hy_27
      obtain rfl : v_25 = .int y_19 := hv_31.trans (congrArg V.int (rng_get hx_26).symm)
      refine q_asg_opq (fun Q_33 kk_34 => ?_)
      obtain ⟨y_35, hb_36, hf_23⟩ := bs hf_23
      refine ⟨_, rfl, _, rfl, G_4, a_1, script', y_19, y_35, rfl, c_6.gh, (sc_at sq_2 c_6), hb_36, fun p_41 vs_42 G_37 H_38 sp_39 np_43 gp_44 hp_45 al_46 => ?_⟩
      have c_40 := c_6.callO sp_39 np_43 gp_44 hp_45
      refine kk_34 _ _ ?_
      obtain ⟨s_58, hs_59, hf_23⟩ := bs hf_23
      refine ⟨(fun σ_60 H_61 => ∃ (G_48 : Hp) (p_51 : Addr) (vs_52 : List V) (xs_53 : (List (List Int))) (vs_55 : List V) (xs_56 : (List Int)), σ_60 = [(some (.ref a_1)), (some (.int y_19)), (some (.ref p_41)), (some (.ref p_51)), none, o_10, o_11, o_12, o_13, o_14, o_15] ∧ Ex G_37 G_48 ∧ Cf [] H0 G0 G_48 [(p_51, (.lst vs_52)), (p_41, (.lst vs_55))] H_61 ∧ AL (rL rI) G_48 vs_52 xs_53 ∧ AL rI G_48 vs_55 xs_56 ∧ (xs_53, xs_56) = s_58), ?_, ?_⟩
      · skip
        refine if_opq (fun Q_62 kk_63 => ?_)
        obtain ⟨⟨y_64, y_65⟩, hb_66, hs_59⟩ := bs hs_59
        dsimp only at hs_59
        refine ⟨_, rfl, G_37, p_41, vs_42, y_35, (8 : Int), (y_64, y_65), rfl, c_40.gh, c_40.hd, c_40.hdg, al_46, hb_66, fun G_68 H_69 sp_70 vs_72 hs_73 al_74 => ?_⟩
        have c_71 := c_40.call1 sp_70 hs_73
        refine ⟨_, _, rfl, rfl, _, rfl, ?_⟩
        refine kk_63 _ _ ?_
        refine ite_m hs_59 (fun hc_75 hs_59 => ?_) (fun hc_75 hs_59 => ?_)
        · skip
          refine asg_opq (fun Q_76 kk_77 => ?_)
          obtain ⟨⟨y_78, y_79⟩, hb_80, hs_59⟩ := bs hs_59
          dsimp only at hs_59
          refine ⟨_, rfl, G_68, p_41, vs_72, y_65, (y_78, y_79), rfl, c_71.gh, c_71.hd, c_71.hdg, al_74, hb_80, fun p_89 vs_90 G_82 H_83 sp_84 np_91 gp_92 hp_93 al_94 vs_86 hs_87 al_88 => ?_⟩
          have c_85 := c_71.callO1 sp_84 hs_87 np_91 gp_92 hp_93
          refine kk_77 _ _ ?_
          obtain rfl := some_in hs_59
          exact ⟨G_82, p_89, vs_90, y_78, vs_86, y_79, rfl, (sp_70.gg.trans sp_84.gg), c_85, al_94, al_88, rfl⟩
        · skip
          refine asg_opq (fun Q_96 kk_97 => ?_)
          obtain ⟨⟨y_98, y_99⟩, hb_100, hs_59⟩ := bs hs_59
          dsimp only at hs_59
          refine ⟨_, rfl, G_68, p_41, vs_72, y_65, (14 : Int), (y_98, y_99), rfl, c_71.gh, c_71.hd, c_71.hdg, al_74, hb_100, fun p_109 vs_110 G_102 H_103 sp_104 np_111 gp_112 hp_113 al_114 vs_106 hs_107 al_108 => ?_⟩
          have c_105 := c_71.callO1 sp_104 hs_107 np_111 gp_112 hp_113
          refine kk_97 _ _ ?_
          obtain rfl := some_in hs_59
          exact ⟨G_102, p_109, vs_110, y_98, vs_106, y_99, rfl, (sp_70.gg.trans sp_104.gg), c_105, al_114, al_108, rfl⟩
      rintro σ_60 H_61 ⟨G_48, p_51, vs_52, xs_53, vs_55, xs_56, rfl, eg_49, c_50, al_54, al_57, rfl⟩
      try dsimp only at hf_23
      refine q_asg_opq (fun Q_116 kk_117 => ?_)
      obtain ⟨hg_118, hf_23⟩ := gdp hf_23
      refine ⟨_, rfl, _, rfl, ⟨_, SqL.of (c_50.get 0 rfl)⟩, fun D_119 nD_120 => ?_⟩
      have c_121 := c_50.newO nD_120 (.lst [])
      obtain ⟨out_128, hb_129, hf_23⟩ := bs hf_23
      refine lc_w (walk_list (xs := vs_52)) xs_53 (A2.len al_54) (fun l_135 H_137 => ∃ (G_122 : Hp) (vs_125 : List V) (xs_126 : (List (List Int))), Ex G_48 G_122 ∧ Cf [] H0 G0 G_122 [(D_119, (.lst vs_125)), (p_51, (.lst vs_52)), (p_41, (.lst vs_55))] H_137 ∧ AL (rL rI) G_122 vs_125 xs_126 ∧ List.length xs_126 + List.length l_135 < BIG ∧ ∃ rest_131, lcm (fun (y_136 : (List Int)) => some y_136) l_135 = some rest_131 ∧ xs_126 ++ rest_131 = out_128)
        ⟨G_48, [], ([] : List (List Int)), Ex.refl _, c_121, A2.nil, ⟨by simpa using hg_118, out_128, hb_129, rfl⟩⟩
        (fun l_135 H_137 hI => by
          obtain ⟨G_122, vs_125, xs_126, eg_123, c_124, al_127, ⟨hlen_134, rest_131, hf_132, hout_133⟩⟩ := hI
          exact (SqL.of (c_124.get 1 rfl)))
        (fun i_139 y_136 l_135 H_137 v_140 H_143 hx_141 hI hy_142 => ?_) (fun H_137 hI => ?_)
      · obtain ⟨G_122, vs_125, xs_126, eg_123, c_124, al_127, ⟨hlen_134, rest_131, hf_132, hout_133⟩⟩ := hI
        obtain ⟨z_144, rest_145, hq_138, hf_146, ho_147⟩ := lcm_cons hf_132
        try dsimp only at hq_138
        obtain ⟨rfl, hv_149⟩ := hy_142
        obtain ⟨v_150, hv_151, rv_152⟩ := A2.get al_54 hx_141
        obtain rfl := Option.some.inj (hv_149.symm.trans hv_151)
        refine ⟨rfl, ?_⟩
        refine yes_q ?_
        refine opqV (fun Q_153 kk_154 => ?_)
        obtain ⟨a_155, vs_156, rfl, sq_157, al_158⟩ := ((rL rI).mono eg_123 rv_152)
        refine ⟨_, rfl, _, _, rfl, (c_124.gh _ _ sq_157), fun p_159 np_160 => ?_⟩
        have c_161 := c_124.newO np_160 (.lst vs_156)
        generalize hh : upd H_143 p_159 (.lst vs_156) = H_162 at c_161 ⊢
        clear hh
        obtain ⟨G_166, eg_164, sq_165, c_163⟩ : ∃ G9, Ex G_122 G9 ∧ G9 p_159 = some (.lst vs_156) ∧ Cf [] H0 G0 G9 [(D_119, (.lst vs_125)), (p_51, (.lst vs_52)), (p_41, (.lst vs_55))] H_162 := ⟨_, freeze_ex c_161, upd_same, c_161.freeze (fun _ z => (nomatch z))⟩
        refine kk_154 _ _ ?_
        refine ⟨_, c_163.hd, big_lt (by have h9 := hlen_134; have h8 := A2.len (AL.mono eg_164 al_127); simp only [List.length_cons] at h9; omega), ?_⟩
        obtain ⟨vs_167, hvs, al_168⟩ : ∃ vs9, vs9 = (vs_125 ++ [(.ref p_159)]) ∧ AL (rL rI) G_166 vs9 (xs_126 ++ [y_136]) := ⟨_, rfl, (A2.app (AL.mono eg_164 al_127) (A2.one ⟨p_159, vs_156, rfl, sq_165, (AL.mono eg_164 al_158)⟩))⟩
        rw [← hvs]
        clear hvs
        have c_169 := c_163.mut (.lst vs_167)
        generalize hh : upd H_162 D_119 (.lst vs_167) = H_170 at c_169 ⊢
        clear hh
        obtain rfl := some_in hq_138
        exact ⟨G_166, vs_167, (xs_126 ++ [y_136]), (eg_123.trans eg_164), c_169, al_168, ⟨by have h9 := hlen_134; simp only [List.length_append, List.length_cons, List.length_nil] at h9 ⊢; first | done | omega, rest_145, hf_146, by rw [← hout_133, ho_147]; first | done | simp⟩⟩
      obtain ⟨G_122, vs_125, xs_126, eg_123, c_124, al_127, ⟨hlen_134, rest_131, hf_132, hout_133⟩⟩ := hI
      obtain rfl := some_in hf_132
      rw [List.append_nil] at hout_133
      subst hout_133
      refine kk_117 _ _ ?_
      refine q_asg_opq (fun Q_171 kk_172 => ?_)
      obtain ⟨y_173, hb_174, hf_23⟩ := bs hf_23
      refine ⟨_, rfl, G_122, D_119, vs_125, xs_126, y_173, rfl, c_124.gh, (SqB.of (c_124.get 0 rfl)), al_127, hb_174, fun G_175 H_176 sp_177 => ?_⟩
      have c_178 := c_124.call sp_177
      refine kk_172 _ _ ?_
      refine q_asg_opq (fun Q_179 kk_180 => ?_)
      obtain ⟨y_181, hb_182, hf_23⟩ := bs hf_23
      refine ⟨_, rfl, G_175, p_51, vs_52, xs_53, y_181, rfl, c_178.gh, (SqB.of (c_178.get 1 rfl)), (AL.mono (eg_123.trans sp_177.gg) al_54), hb_182, fun G_183 H_184 sp_185 => ?_⟩
      have c_186 := c_178.call sp_185
      refine kk_180 _ _ ?_
      refine q_if_opq (fun Q_187 kk_188 => ?_)
      refine ⟨_, rfl, _, _, _, _, _, rfl, .ty _, ty_s, k_ss, _, rfl, ?_⟩
      obtain ⟨b_207, hb_208, hf_23⟩ := bs hf_23
      refine or_h hb_208 (R := (fun H9 => ∃ G9, Ex G_183 G9 ∧ Cf [] H0 G0 G9 [(D_119, (.lst vs_125)), (p_51, (.lst vs_52)), (p_41, (.lst vs_55))] H9)) (fun ha_206 hq_189 q_205 => ?_) ⟨_, Ex.refl _, c_186⟩ ?_
      · skip
        refine ⟨_, rfl, _, rfl, _, _, rfl, rfl, _, rfl, ?_⟩
        obtain ⟨b_199, hb_200, hq_189⟩ := bs hq_189
        refine or_h hb_200 (R := (fun H9 => ∃ G9, Ex G_183 G9 ∧ Cf [] H0 G0 G9 [(D_119, (.lst vs_125)), (p_51, (.lst vs_52)), (p_41, (.lst vs_55))] H9)) (fun ha_198 hq_190 q_197 => ?_) ⟨_, Ex.refl _, c_186⟩ ?_
        · skip
          obtain ⟨y_191, hb_192, hq_190⟩ := bs hq_190
          refine ⟨_, rfl, _, rfl, G_183, p_51, vs_52, xs_53, D_119, vs_125, xs_126, y_191, rfl, c_186.gh, (SqB.of (c_186.get 1 rfl)), (AL.mono ((eg_123.trans sp_177.gg).trans sp_185.gg) al_54), (SqB.of (c_186.get 0 rfl)), (AL.mono (sp_177.gg.trans sp_185.gg) al_127), hb_192, fun G_193 H_194 sp_195 => ?_⟩
          have c_196 := c_186.call sp_195
          refine ⟨_, rfl, ?_⟩
          obtain rfl := some_in hq_190
          exact q_197 _ ⟨_, sp_195.gg, c_196⟩
        rintro H_202 ⟨G_201, eg_203, c_204⟩
        obtain rfl := some_in hq_189
        exact q_205 _ ⟨_, eg_203, c_204⟩
      rintro H_210 ⟨G_209, eg_211, c_212⟩
      refine kk_188 _ _ ?_
      refine ite_m hf_23 (fun hc_213 hf_23 => ?_) (fun hc_213 hf_23 => ?_)
      · skip
        refine ret_opq (fun Q_214 kk_215 => ?_)
        refine kk_215 _ _ ?_
        obtain rfl := some_in hf_23
        obtain rfl := some_in hgo_24
        obtain rfl := some_in hm
        exact k G_209 H_210 c_212.stp
      · skip
        try dsimp only [tNext]
        refine q_asg_opq (fun Q_216 kk_217 => ?_)
        obtain ⟨y_218, hb_219, hf_23⟩ := bs hf_23
        refine ⟨_, rfl, G_209, y_173, y_218, rfl, c_212.gh, hb_219, fun p_224 vs_225 G_220 H_221 sp_222 np_226 gp_227 hp_228 al_229 fr_230 => ?_⟩
        obtain ⟨G_231, as_232, rfl, hl_233, eg_234, c_223⟩ := c_212.callM sp_222 np_226 gp_227 hp_228 al_229 fr_230
        have c_235 : Cf [] H0 G0 G_231 ((p_224, (.lst (List.map V.ref as_232))) :: (D_119, (.lst vs_125)) :: (p_51, (.lst vs_52)) :: (p_41, (.lst vs_55)) :: rw9 as_232 y_218) H_221 := c_223
        refine kk_217 _ _ ?_
        refine q_if_opq (fun Q_236 kk_237 => ?_)
        obtain ⟨y_238, hb_239, hf_23⟩ := bs hf_23
        refine ⟨_, rfl, _, rfl, H_221, p_224, (List.map V.ref as_232), y_218, D_119, vs_125, xs_126, y_238, rfl, (Ex.refl _), (SqB.of (c_235.get 0 rfl)), (Cf.rowsal (P := [(p_224, (.lst (List.map V.ref as_232))), (D_119, (.lst vs_125)), (p_51, (.lst vs_52)), (p_41, (.lst vs_55))]) c_235 hl_233), (SqB.of (c_235.get 1 rfl)), (AL.mono c_235.gh (AL.mono (((sp_177.gg.trans sp_185.gg).trans eg_211).trans eg_234) al_127)), hb_239, fun G_240 H_241 sp_242 => ?_⟩
        have c_243 := c_235.callH sp_242
        refine ⟨_, rfl, ?_⟩
        refine kk_237 _ _ ?_
        refine ite_m hf_23 (fun hc_244 hf_23 => ?_) (fun hc_244 hf_23 => ?_)
        · skip
          refine ret_opq (fun Q_245 kk_246 => ?_)
          refine kk_246 _ _ ?_
          obtain rfl := some_in hf_23
          obtain rfl := some_in hgo_24
          obtain rfl := some_in hm
          exact k G_231 H_241 c_243.stp
        · skip
          try dsimp only [tNext]
          have c_247 : Cf [] H0 G0 G_231 ((p_51, (.lst vs_52)) :: (p_224, (.lst (List.map V.ref as_232))) :: (D_119, (.lst vs_125)) :: (p_41, (.lst vs_55)) :: rw9 as_232 y_218) H_241 := c_243.front 2 rfl
          have c_248 : Cf [] H0 G0 G_231 ((p_224, (.lst (List.map V.ref as_232))) :: (D_119, (.lst vs_125)) :: (p_41, (.lst vs_55)) :: rw9 as_232 y_218) H_241 := c_247.drop
          obtain ⟨s_260, hs_261, hf_23⟩ := bs hf_23
          refine ⟨(fun σ_262 H_263 => ∃ (G_249 : Hp) (vs_252 : List V) (xs_253 : (List Int)) (as_255 : List Addr) (xs_256 : (List (List Int))) (o_258 : Option V) (o_259 : Option V), σ_262 = [(some (.ref a_1)), (some (.int y_19)), (some (.ref p_41)), (some (.ref p_51)), none, (some (.ref D_119)), (some (.str y_173)), (some (.str y_181)), (some (.ref p_224)), o_258, o_259] ∧ Ex G_231 G_249 ∧ Cf [] H0 G0 G_249 ((p_224, (.lst (List.map V.ref as_255))) :: (D_119, (.lst vs_125)) :: (p_41, (.lst vs_252)) :: rw9 as_255 xs_256) H_263 ∧ AL rI G_249 vs_252 xs_253 ∧ List.length as_255 = List.length xs_256 ∧ Out.nx (xs_253, xs_256) = s_260), ?_, ?_⟩
          · skip
            refine if_opq (fun Q_264 kk_265 => ?_)
            refine ⟨_, rfl, (Nat.zero_le _), fun p_266 np_267 => ?_⟩
            have c_268 := c_248.newO np_267 (.lst [])
            generalize hh : upd H_241 p_266 (.lst []) = H_269 at c_268 ⊢
            clear hh
            refine ⟨_, _, ⟨D_119, vs_125, rfl, (c_268.get 2 rfl), AL.mono c_268.gh (AL.mono (((sp_177.gg.trans sp_185.gg).trans eg_211).trans eg_234) al_127)⟩, ⟨p_266, [], rfl, (c_268.get 0 rfl), AL.mono c_268.gh A2.nil⟩, (okLI _), (okLI _), _, rfl, ?_⟩
            refine kk_265 _ _ ?_
            refine ite_m hs_261 (fun hc_270 hs_261 => ?_) (fun hc_270 hs_261 => ?_)
            · skip
              refine q_asg_opq (fun Q_271 kk_272 => ?_)
              have c_273 : Cf [] H0 G0 G_231 ((p_41, (.lst vs_55)) :: (p_266, (.lst [])) :: (p_224, (.lst (List.map V.ref as_232))) :: (D_119, (.lst vs_125)) :: rw9 as_232 y_218) H_269 := c_268.front 3 rfl
              obtain ⟨⟨y_274, y_275⟩, hb_276, hs_261⟩ := bs hs_261
              dsimp only at hs_261
              refine ⟨_, rfl, _, rfl, _, _, (List.length xs_126), rfl, (c_268.get 2 rfl), (A2.len (AL.mono (((sp_177.gg.trans sp_185.gg).trans eg_211).trans eg_234) al_127)), G_231, p_41, vs_55, xs_56, ((List.length xs_126 : Nat) : Int), (y_274, y_275), rfl, c_273.gh, c_273.hd, c_273.hdg, (AL.mono ((((eg_123.trans sp_177.gg).trans sp_185.gg).trans eg_211).trans eg_234) al_57), hb_276, fun G_278 H_279 sp_280 vs_282 hs_283 al_284 => ?_⟩
              have c_281 := c_273.call1 sp_280 hs_283
              refine kk_272 _ _ ?_
              refine q_asg_opq (fun Q_285 kk_286 => ?_)
              obtain ⟨y_287, hb_288, hs_261⟩ := bs hs_261
              obtain ⟨k_289, a_290, hk_291, ha_292, hx_293, hv_294⟩ := at_ref hl_233 hb_288
              refine ⟨_, rfl, _, rfl, _, _, _, _, rfl, rfl, (SqL.of (c_281.get 2 rfl)), hv_294, ?_⟩
              refine kk_286 _ _ ?_
              refine q_drop_opq (fun Q_295 kk_296 => ?_)
              obtain ⟨hg_297, hs_261⟩ := gdp hs_261
              refine ⟨_, rfl, .inl ⟨rfl, _, SqL.of (Cf.rowget (P := [(p_41, (.lst vs_282)), (p_266, (.lst [])), (p_224, (.lst (List.map V.ref as_232))), (D_119, (.lst vs_125))]) c_281 ha_292 hx_293)⟩, _, rfl, _, _, _, rfl, rfl, (Cf.rowget (P := [(p_41, (.lst vs_282)), (p_266, (.lst [])), (p_224, (.lst (List.map V.ref as_232))), (D_119, (.lst vs_125))]) c_281 ha_292 hx_293), (by rw [List.length_map]; exact big_lt hg_297), ?_⟩
              rw [show List.map V.int y_287 ++ [V.int (-(1 : Int))] = List.map V.int (y_287 ++ [(-(1 : Int))]) from (by rw [List.map_append]; rfl)]
              have c_298 := Cf.rowset (P := [(p_41, (.lst vs_282)), (p_266, (.lst [])), (p_224, (.lst (List.map V.ref as_232))), (D_119, (.lst vs_125))]) c_281 ha_292 hx_293 (y_287 ++ [(-(1 : Int))])
              rw [← setI_of hk_291] at c_298
              generalize hh : upd H_279 a_290 (.lst (List.map V.int (y_287 ++ [(-(1 : Int))]))) = H_299 at c_298 ⊢
              clear hh
              have hl_300 : List.length as_232 = List.length (setI y_218 y_274 (y_287 ++ [(-(1 : Int))])) := by rw [setI_of hk_291, List.length_set]; exact hl_233
              have hx_301 : (setI y_218 y_274 (y_287 ++ [(-(1 : Int))]))[k_289]? = some (y_287 ++ [(-(1 : Int))]) := by rw [setI_of hk_291, List.getElem?_set_self (List.getElem?_eq_some_iff.mp hx_293).1]
              have hk_302 : ixN (List.length (setI y_218 y_274 (y_287 ++ [(-(1 : Int))]))) y_274 = some k_289 := by rw [setI_of hk_291, List.length_set]; exact hk_291
              have c_303 : Cf [] H0 G0 G_278 ((p_41, (.lst vs_282)) :: (p_266, (.lst [])) :: (p_224, (.lst (List.map V.ref as_232))) :: (D_119, (.lst vs_125)) :: rw9 as_232 (setI y_218 y_274 (y_287 ++ [(-(1 : Int))]))) H_299 := c_298
              refine kk_296 _ _ ?_
              refine if_opq (fun Q_304 kk_305 => ?_)
              have al_306 := cut_al (AL.mono ((((sp_177.gg.trans sp_185.gg).trans eg_211).trans eg_234).trans sp_280.gg) al_127) none (some y_274)
              refine ⟨_, rfl, _, rfl, _, rfl, _, rfl, _, _, rfl, (SqL.of (c_303.get 3 rfl)), fun p_307 np_308 => ?_⟩
              have c_309 := c_303.newO np_308 (.lst (cutV vs_125 none (some y_274)))
              generalize hh : upd H_299 p_307 (.lst (cutV vs_125 none (some y_274))) = H_310 at c_309 ⊢
              clear hh
              obtain ⟨y_311, hb_312, hs_261⟩ := bs hs_261
              obtain ⟨v_313, hv_314, rv_315⟩ := at_l (AL.mono ((((sp_177.gg.trans sp_185.gg).trans eg_211).trans eg_234).trans sp_280.gg) al_127) hb_312
              have al_318 : AL rI G_278 [(.int (-(1 : Int)))] ([(-(1 : Int))] : List Int) := (A2.cons rfl A2.nil)
              refine ⟨_, rfl, _, rfl, _, _, _, _, rfl, rfl, (SqL.of (c_309.get 4 rfl)), hv_314, _, rfl, (by show 1 ≤ sizeLine; decide), fun p_316 np_317 => ?_⟩
              have c_319 := c_309.newO np_317 (.lst [(.int (-(1 : Int)))])
              generalize hh : upd H_310 p_316 (.lst [(.int (-(1 : Int)))]) = H_320 at c_319 ⊢
              clear hh
              obtain ⟨hg_321, hs_261⟩ := gdp hs_261
              obtain ⟨a_322, vs_323, rfl, sq_324, al_325⟩ := rv_315
              have al_326 : AL rI G_278 vs_323 y_311 := al_325
              have al_327 : AL rI G_278 [(.int (-(1 : Int)))] ([(-(1 : Int))] : List Int) := al_318
              refine ⟨_, _, _, _, rfl, rfl, (c_319.gh _ _ sq_324), (c_319.get 0 rfl), (by rw [al_326.len, al_327.len]; exact big_le hg_321), fun p_328 np_329 => ?_⟩
              obtain ⟨vs_330, hvs, al_331⟩ : ∃ vs9, vs9 = vs_323 ++ [(.int (-(1 : Int)))] ∧ AL rI G_278 vs9 (y_311 ++ ([(-(1 : Int))] : List Int)) := ⟨_, rfl, al_326.app al_327⟩
              rw [← hvs]
              clear hvs
              have c_332 := c_319.newO np_329 (.lst vs_330)
              generalize hh : upd H_320 p_328 (.lst vs_330) = H_333 at c_332 ⊢
              clear hh
              obtain ⟨G_337, eg_335, sq_336, c_334⟩ : ∃ G9, Ex G_278 G9 ∧ G9 p_328 = some (.lst vs_330) ∧ Cf [] H0 G0 G9 ((p_316, (.lst [(.int (-(1 : Int)))])) :: (p_307, (.lst (cutV vs_125 none (some y_274)))) :: (p_41, (.lst vs_282)) :: (p_266, (.lst [])) :: (p_224, (.lst (List.map V.ref as_232))) :: (D_119, (.lst vs_125)) :: rw9 as_232 (setI y_218 y_274 (y_287 ++ [(-(1 : Int))]))) H_333 := ⟨_, freeze_ex c_332, upd_same, c_332.freeze (fun _ z => (nomatch z))⟩
              have al_340 : AL (rL rI) G_337 [(.ref p_328)] ([(y_311 ++ ([(-(1 : Int))] : List Int))] : List (List Int)) := (A2.cons ⟨p_328, vs_330, rfl, sq_336, (AL.mono eg_335 al_331)⟩ A2.nil)
              refine ⟨(by show 1 ≤ sizeLine; decide), fun p_338 np_339 => ?_⟩
              have c_341 := c_334.newO np_339 (.lst [(.ref p_328)])
              generalize hh : upd H_333 p_338 (.lst [(.ref p_328)]) = H_342 at c_341 ⊢
              clear hh
              obtain ⟨hg_343, hs_261⟩ := gdp hs_261
              have al_344 : AL (rL rI) G_337 (cutV vs_125 none (some y_274)) (cutL xs_126 none (some y_274)) := (AL.mono eg_335 al_306)
              have al_345 : AL (rL rI) G_337 [(.ref p_328)] ([(y_311 ++ ([(-(1 : Int))] : List Int))] : List (List Int)) := al_340
              refine ⟨_, _, _, _, rfl, rfl, (c_341.get 2 rfl), (c_341.get 0 rfl), (by rw [al_344.len, al_345.len]; exact big_le hg_343), fun p_346 np_347 => ?_⟩
              obtain ⟨vs_348, hvs, al_349⟩ : ∃ vs9, vs9 = (cutV vs_125 none (some y_274)) ++ [(.ref p_328)] ∧ AL (rL rI) G_337 vs9 ((cutL xs_126 none (some y_274)) ++ ([(y_311 ++ ([(-(1 : Int))] : List Int))] : List (List Int))) := ⟨_, rfl, al_344.app al_345⟩
              rw [← hvs]
              clear hvs
              have c_350 := c_341.newO np_347 (.lst vs_348)
              generalize hh : upd H_342 p_346 (.lst vs_348) = H_351 at c_350 ⊢
              clear hh
              have al_352 := cut_al (AL.mono (((((sp_177.gg.trans sp_185.gg).trans eg_211).trans eg_234).trans sp_280.gg).trans eg_335) al_127) (some (y_274 + (1 : Int))) none
              refine ⟨_, rfl, _, rfl, _, _, rfl, rfl, _, rfl, _, _, rfl, (SqL.of (c_350.get 7 rfl)), fun p_353 np_354 => ?_⟩
              have c_355 := c_350.newO np_354 (.lst (cutV vs_125 (some (y_274 + (1 : Int))) none))
              generalize hh : upd H_351 p_353 (.lst (cutV vs_125 (some (y_274 + (1 : Int))) none)) = H_356 at c_355 ⊢
              clear hh
              obtain ⟨hg_357, hs_261⟩ := gdp hs_261
              have al_358 : AL (rL rI) G_337 vs_348 ((cutL xs_126 none (some y_274)) ++ ([(y_311 ++ ([(-(1 : Int))] : List Int))] : List (List Int))) := al_349
              have al_359 : AL (rL rI) G_337 (cutV vs_125 (some (y_274 + (1 : Int))) none) (cutL xs_126 (some (y_274 + (1 : Int))) none) := al_352
              refine ⟨_, _, _, _, rfl, rfl, (c_355.get 1 rfl), (c_355.get 0 rfl), (by rw [al_358.len, al_359.len]; exact big_le hg_357), fun p_360 np_361 => ?_⟩
              obtain ⟨vs_362, hvs, al_363⟩ : ∃ vs9, vs9 = vs_348 ++ (cutV vs_125 (some (y_274 + (1 : Int))) none) ∧ AL (rL rI) G_337 vs9 (((cutL xs_126 none (some y_274)) ++ ([(y_311 ++ ([(-(1 : Int))] : List Int))] : List (List Int))) ++ (cutL xs_126 (some (y_274 + (1 : Int))) none)) := ⟨_, rfl, al_358.app al_359⟩
              rw [← hvs]
              clear hvs
              have c_364 := c_355.newO np_361 (.lst vs_362)
              generalize hh : upd H_356 p_360 (.lst vs_362) = H_365 at c_364 ⊢
              clear hh
              obtain ⟨y_366, hb_367, hs_261⟩ := bs hs_261
              refine ⟨H_365, p_224, (List.map V.ref as_232), (setI y_218 y_274 (y_287 ++ [(-(1 : Int))])), p_360, vs_362, (((cutL xs_126 none (some y_274)) ++ ([(y_311 ++ ([(-(1 : Int))] : List Int))] : List (List Int))) ++ (cutL xs_126 (some (y_274 + (1 : Int))) none)), y_366, rfl, (Ex.refl _), (SqB.of (c_364.get 8 rfl)), (Cf.rowsal (P := [(p_360, (.lst vs_362)), (p_353, (.lst (cutV vs_125 (some (y_274 + (1 : Int))) none))), (p_346, (.lst vs_348)), (p_338, (.lst [(.ref p_328)])), (p_316, (.lst [(.int (-(1 : Int)))])), (p_307, (.lst (cutV vs_125 none (some y_274)))), (p_41, (.lst vs_282)), (p_266, (.lst [])), (p_224, (.lst (List.map V.ref as_232))), (D_119, (.lst vs_125))]) c_364 hl_300), (SqB.of (c_364.get 0 rfl)), (AL.mono c_364.gh al_363), hb_367, fun G_368 H_369 sp_370 => ?_⟩
              have c_371 := c_364.callH sp_370
              refine ⟨_, rfl, ?_⟩
              refine kk_305 _ _ ?_
              refine ite_m hs_261 (fun hc_372 hs_261 => ?_) (fun hc_372 hs_261 => ?_)
              · skip
                refine ret_opq (fun Q_373 kk_374 => ?_)
                refine kk_374 _ _ ?_
                obtain rfl := some_in hs_261
                obtain rfl := some_in hf_23
                obtain rfl := some_in hgo_24
                obtain rfl := some_in hm
                exact k G_337 H_369 c_371.stp
              · skip
                have c_375 : Cf [] H0 G0 G_337 ((p_353, (.lst (cutV vs_125 (some (y_274 + (1 : Int))) none))) :: (p_346, (.lst vs_348)) :: (p_338, (.lst [(.ref p_328)])) :: (p_316, (.lst [(.int (-(1 : Int)))])) :: (p_307, (.lst (cutV vs_125 none (some y_274)))) :: (p_41, (.lst vs_282)) :: (p_266, (.lst [])) :: (p_224, (.lst (List.map V.ref as_232))) :: (D_119, (.lst vs_125)) :: rw9 as_232 (setI y_218 y_274 (y_287 ++ [(-(1 : Int))]))) H_369 := c_371.drop
                have c_376 : Cf [] H0 G0 G_337 ((p_346, (.lst vs_348)) :: (p_338, (.lst [(.ref p_328)])) :: (p_316, (.lst [(.int (-(1 : Int)))])) :: (p_307, (.lst (cutV vs_125 none (some y_274)))) :: (p_41, (.lst vs_282)) :: (p_266, (.lst [])) :: (p_224, (.lst (List.map V.ref as_232))) :: (D_119, (.lst vs_125)) :: rw9 as_232 (setI y_218 y_274 (y_287 ++ [(-(1 : Int))]))) H_369 := c_375.drop
                have c_377 : Cf [] H0 G0 G_337 ((p_338, (.lst [(.ref p_328)])) :: (p_316, (.lst [(.int (-(1 : Int)))])) :: (p_307, (.lst (cutV vs_125 none (some y_274)))) :: (p_41, (.lst vs_282)) :: (p_266, (.lst [])) :: (p_224, (.lst (List.map V.ref as_232))) :: (D_119, (.lst vs_125)) :: rw9 as_232 (setI y_218 y_274 (y_287 ++ [(-(1 : Int))]))) H_369 := c_376.drop
                have c_378 : Cf [] H0 G0 G_337 ((p_316, (.lst [(.int (-(1 : Int)))])) :: (p_307, (.lst (cutV vs_125 none (some y_274)))) :: (p_41, (.lst vs_282)) :: (p_266, (.lst [])) :: (p_224, (.lst (List.map V.ref as_232))) :: (D_119, (.lst vs_125)) :: rw9 as_232 (setI y_218 y_274 (y_287 ++ [(-(1 : Int))]))) H_369 := c_377.drop
                have c_379 : Cf [] H0 G0 G_337 ((p_307, (.lst (cutV vs_125 none (some y_274)))) :: (p_41, (.lst vs_282)) :: (p_266, (.lst [])) :: (p_224, (.lst (List.map V.ref as_232))) :: (D_119, (.lst vs_125)) :: rw9 as_232 (setI y_218 y_274 (y_287 ++ [(-(1 : Int))]))) H_369 := c_378.drop
                have c_380 : Cf [] H0 G0 G_337 ((p_41, (.lst vs_282)) :: (p_266, (.lst [])) :: (p_224, (.lst (List.map V.ref as_232))) :: (D_119, (.lst vs_125)) :: rw9 as_232 (setI y_218 y_274 (y_287 ++ [(-(1 : Int))]))) H_369 := c_379.drop
                have c_381 : Cf [] H0 G0 G_337 ((p_266, (.lst [])) :: (p_41, (.lst vs_282)) :: (p_224, (.lst (List.map V.ref as_232))) :: (D_119, (.lst vs_125)) :: rw9 as_232 (setI y_218 y_274 (y_287 ++ [(-(1 : Int))]))) H_369 := c_380.front 1 rfl
                have c_382 : Cf [] H0 G0 G_337 ((p_41, (.lst vs_282)) :: (p_224, (.lst (List.map V.ref as_232))) :: (D_119, (.lst vs_125)) :: rw9 as_232 (setI y_218 y_274 (y_287 ++ [(-(1 : Int))]))) H_369 := c_381.drop
                have c_383 : Cf [] H0 G0 G_337 ((D_119, (.lst vs_125)) :: (p_41, (.lst vs_282)) :: (p_224, (.lst (List.map V.ref as_232))) :: rw9 as_232 (setI y_218 y_274 (y_287 ++ [(-(1 : Int))]))) H_369 := c_382.front 2 rfl
                have c_384 : Cf [] H0 G0 G_337 ((p_224, (.lst (List.map V.ref as_232))) :: (D_119, (.lst vs_125)) :: (p_41, (.lst vs_282)) :: rw9 as_232 (setI y_218 y_274 (y_287 ++ [(-(1 : Int))]))) H_369 := c_383.front 2 rfl
                obtain rfl := some_in hs_261
                exact ⟨G_337, vs_282, y_275, as_232, (setI y_218 y_274 (y_287 ++ [(-(1 : Int))])), (some (.int y_274)), (some (.ref a_290)), rfl, (sp_280.gg.trans eg_335), c_384, (AL.mono eg_335 al_284), hl_300, rfl⟩
            · skip
              try dsimp only [tNext]
              have c_385 : Cf [] H0 G0 G_231 ((p_224, (.lst (List.map V.ref as_232))) :: (D_119, (.lst vs_125)) :: (p_41, (.lst vs_55)) :: rw9 as_232 y_218) H_269 := c_268.drop
              obtain rfl := some_in hs_261
              exact ⟨G_231, vs_55, xs_56, as_232, y_218, o_14, o_15, rfl, Ex.refl _, c_385, (AL.mono ((((eg_123.trans sp_177.gg).trans sp_185.gg).trans eg_211).trans eg_234) al_57), hl_233, rfl⟩
          rintro σ_262 H_263 ⟨G_249, vs_252, xs_253, as_255, xs_256, o_258, o_259, rfl, eg_250, c_251, al_254, hl_257, rfl⟩
          dsimp only [Out.fin] at hf_23
          try dsimp only at hf_23
          refine q_drop_opq (fun Q_386 kk_387 => ?_)
          refine ⟨_, rfl, .inl ⟨rfl, _, SqL.of (c_251.get 0 rfl)⟩, (Nat.zero_le _), fun p_388 np_389 => ?_⟩
          have c_390 := c_251.newO np_389 (.lst [])
          generalize hh : upd H_263 p_388 (.lst []) = H_391 at c_390 ⊢
          clear hh
          obtain ⟨hg_392, hf_23⟩ := gdp hf_23
          have c_393 : Cf [] H0 G0 G_249 ((p_224, (.lst (List.map V.ref as_255))) :: (p_388, (.lst [])) :: (D_119, (.lst vs_125)) :: (p_41, (.lst vs_252)) :: rw9 as_255 xs_256) H_391 := c_390.front 1 rfl
          refine ⟨_, _, _, rfl, rfl, c_393.hd, (by rw [List.length_map, hl_257]; exact big_lt hg_392), ?_⟩
          have c_396 : Cf [] H0 G0 G_249 ((p_388, (.lst [])) :: (p_224, (.lst (List.map V.ref as_255))) :: (D_119, (.lst vs_125)) :: (p_41, (.lst vs_252)) :: rw9 as_255 xs_256) H_391 := c_393.front 1 rfl
          have e_397 := al_I (show AL rI G_249 [] ([] : List Int) from A2.nil)
          have c_398 : Cf [] H0 G0 G_249 ((p_388, (.lst (List.map V.int ([] : List Int)))) :: (p_224, (.lst (List.map V.ref as_255))) :: (D_119, (.lst vs_125)) :: (p_41, (.lst vs_252)) :: rw9 as_255 xs_256) H_391 := by rw [← e_397]; exact c_396
          rw [show List.map V.ref as_255 ++ [V.ref p_388] = List.map V.ref (as_255 ++ [p_388]) from (by rw [List.map_append]; rfl)]
          have c_399 : Cf [] H0 G0 G_249 ((p_224, (.lst (List.map V.ref as_255))) :: (p_388, (.lst (List.map V.int ([] : List Int)))) :: (D_119, (.lst vs_125)) :: (p_41, (.lst vs_252)) :: rw9 as_255 xs_256) H_391 := c_398.front 1 rfl
          have c_400 := c_399.mut (.lst (List.map V.ref (as_255 ++ [p_388])))
          generalize hh : upd H_391 p_224 (.lst (List.map V.ref (as_255 ++ [p_388]))) = H_401 at c_400 ⊢
          clear hh
          have c_402 : Cf [] H0 G0 G_249 ((p_388, (.lst (List.map V.int ([] : List Int)))) :: (p_224, (.lst (List.map V.ref (as_255 ++ [p_388])))) :: (D_119, (.lst vs_125)) :: (p_41, (.lst vs_252)) :: rw9 as_255 xs_256) H_401 := c_400.front 1 rfl
          have hl_403 : List.length (as_255 ++ [p_388]) = List.length (xs_256 ++ [([] : List Int)]) := by rw [List.length_append, List.length_append, hl_257]; rfl
          have c_404 : Cf [] H0 G0 G_249 ((p_224, (.lst (List.map V.ref (as_255 ++ [p_388])))) :: (D_119, (.lst vs_125)) :: (p_41, (.lst vs_252)) :: rw9 (as_255 ++ [p_388]) (xs_256 ++ [([] : List Int)])) H_401 := Cf.rowpush (P := [(p_224, (.lst (List.map V.ref (as_255 ++ [p_388])))), (D_119, (.lst vs_125)), (p_41, (.lst vs_252))]) (x := ([] : List Int)) c_402 hl_257
          refine kk_387 _ _ ?_
          refine if_opq (fun Q_405 kk_406 => ?_)
          obtain ⟨y_407, hb_408, hf_23⟩ := bs hf_23
          refine ⟨_, rfl, G_249, y_181, y_407, rfl, c_404.gh, hb_408, fun p_413 vs_414 G_409 H_410 sp_411 np_415 gp_416 hp_417 al_418 fr_419 => ?_⟩
          have c_412 := c_404.callO sp_411 np_415 gp_416 hp_417
          obtain ⟨y_420, hb_421, hf_23⟩ := bs hf_23
          refine ⟨_, rfl, G_409, p_413, vs_414, y_407, D_119, vs_125, xs_126, y_420, rfl, c_412.gh, (SqB.of (c_412.get 0 rfl)), al_418, (SqB.of (c_412.get 2 rfl)), (AL.mono (((((sp_177.gg.trans sp_185.gg).trans eg_211).trans eg_234).trans eg_250).trans sp_411.gg) al_127), hb_421, fun G_422 H_423 sp_424 => ?_⟩
          have c_425 := c_412.call sp_424
          refine ⟨_, rfl, ?_⟩
          refine kk_406 _ _ ?_
          refine ite_m hf_23 (fun hc_426 hf_23 => ?_) (fun hc_426 hf_23 => ?_)
          · skip
            refine ret_opq (fun Q_427 kk_428 => ?_)
            refine kk_428 _ _ ?_
            obtain rfl := some_in hf_23
            obtain rfl := some_in hgo_24
            obtain rfl := some_in hm
            exact k G_422 H_423 c_425.stp
          · skip
            have c_429 : Cf [] H0 G0 G_422 ((p_224, (.lst (List.map V.ref (as_255 ++ [p_388])))) :: (D_119, (.lst vs_125)) :: (p_41, (.lst vs_252)) :: rw9 (as_255 ++ [p_388]) (xs_256 ++ [([] : List Int)])) H_423 := c_425.drop
            have c_430 : Cf [] H0 G0 G_422 [(p_224, (.lst (List.map V.ref (as_255 ++ [p_388])))), (D_119, (.lst vs_125)), (p_41, (.lst vs_252))] H_423 := Cf.sub (P := [(p_224, (.lst (List.map V.ref (as_255 ++ [p_388])))), (D_119, (.lst vs_125)), (p_41, (.lst vs_252))]) c_429
            have c_431 : Cf [] H0 G0 G_422 [(D_119, (.lst vs_125)), (p_41, (.lst vs_252))] H_423 := c_430.drop
            have c_432 : Cf [] H0 G0 G_422 [(p_41, (.lst vs_252))] H_423 := c_431.drop
            have c_433 : Cf [] H0 G0 G_422 [] H_423 := c_432.drop
            obtain rfl := some_in hf_23
            exact ⟨G_422, (some (.int y_19)), (some (.ref p_41)), (some (.ref p_51)), (some (.ref D_119)), (some (.str y_173)), (some (.str y_181)), (some (.ref p_224)), o_258, o_259, rfl, ((((((((((eg_5.trans sp_39.gg).trans eg_49).trans eg_123).trans sp_177.gg).trans sp_185.gg).trans eg_211).trans eg_234).trans eg_250).trans sp_411.gg).trans sp_424.gg), c_433, hgo_24⟩
    · obtain ⟨G_4, o_7, o_8, o_9, o_10, o_11, o_12, o_13, o_14, o_15, rfl, eg_5, c_6, ho_17⟩ := hI
      obtain rfl := lpx_nil ho_17
      dsimp only [Out.fin] at hm
      try dsimp only at hm
      try dsimp only
      refine ret_opq (fun Q_438 kk_439 => ?_)
      refine kk_439 _ _ ?_
      obtain rfl := some_in hm
      exact k G_4 H_21 c_6.stp
end
end Tw
namespace Tw
open PySem L2 TL
/-! ### draws -/
def Dk (d : List Int) : Prop := ∃ a b c : Int, d = [a, b, c] ∧ 0 ≤ b ∧ b < 2147483647
theorem dk_deck (script : List Int) (at9 : Int) (h0 : 0 ≤ at9) (h1 : at9 = 0 ∨ at9 < script.length) : ∃ d, m__law_deck script at9 = some d ∧ Dk d := by
  have tail : ∀ x : Int, ∃ d, (lt (((((x * (7919 : Int)) + (at9 * (104729 : Int))) + (1 : Int)) % (2147483647 : Int)) : Int) fun x_22 => (if (decide (((10 : Int) ^ ((18 : Int)).toNat) ≤ x)) then (some ([(x - ((10 : Int) ^ ((18 : Int)).toNat)), x_22, at9] : List Int)) else (some ([(0 : Int), x_22, (x % (1000000000000000003 : Int))] : List Int)))) = some d ∧ Dk d := by
    intro x
    have hb : 0 ≤ (x * 7919 + at9 * 104729 + 1) % 2147483647 ∧ (x * 7919 + at9 * 104729 + 1) % 2147483647 < 2147483647 := ⟨Int.emod_nonneg _ (by decide), Int.emod_lt_of_pos _ (by decide)⟩
    unfold lt
    split
    · exact ⟨_, rfl, _, _, _, rfl, hb⟩
    · exact ⟨_, rfl, _, _, _, rfl, hb⟩
  unfold m__law_deck
  by_cases h : at9 < (script.length : Int)
  · rw [if_pos (by simpa using h), atI_get h0 h]
    exact tail _
  · rw [if_neg (by simpa using h)]
    exact tail 0
def DB : Nat → Int
  | 0 => 10 ^ 6
  | n + 1 => 10 ^ 6 * (DB n - 1)
theorem dk_fst {d : List Int} (h : Dk d) : ∃ a b c : Int, d = [a, b, c] := by
  obtain ⟨a, b, c, e, _⟩ := h
  exact ⟨a, b, c, e⟩
theorem divw {y many : Int} (h0 : 0 < many) (h : many ≤ 10 ^ 60) : CDivW y many := by
  refine ⟨h0, ?_⟩
  refine (Nat.log2_lt (by omega)).mpr (Nat.lt_of_lt_of_le (by omega : many.natAbs < 2 ^ 200) ?_)
  exact Nat.pow_le_pow_right (by omega) (by omega)
theorem dk_draw : ∀ (n f : Nat) (d : List Int) (many : Int), n + 1 ≤ f → 0 < many → many ≤ DB n → many ≤ 10 ^ 60 → Dk d → ∃ x d', m__law_draw f d many = some (x, d') ∧ 0 ≤ x ∧ x < many ∧ Dk d' := by
  intro n
  induction n with
  | zero =>
    intro f d many hf h0 h1 h2 hd
    obtain ⟨g, rfl⟩ : ∃ g, f = g + 1 := ⟨f - 1, by omega⟩
    obtain ⟨a, b, c, rfl, hb0, hb1⟩ := hd
    have h1 : many ≤ 10 ^ 6 := h1
    rw [m__law_draw_s]
    have e0 : atI [a, b, c] (0 : Int) = some a := rfl
    have e1 : atI [a, b, c] (1 : Int) = some b := rfl
    have j0 : ixN [a, b, c].length (0 : Int) = some 0 := rfl
    have j1 : ixN [a, b, c].length (1 : Int) = some 1 := rfl
    simp only [e0, e1, j0, j1, Option.bind_some]
    by_cases ha : 0 < a
    · rw [if_pos (by simpa using ha), gd_of h0]
      simp only [lt]
      rw [gd_of (divw h0 h2)]
      exact ⟨_, _, rfl, Int.emod_nonneg _ (by omega), Int.emod_lt_of_pos _ h0, _, _, _, rfl, hb0, hb1⟩
    · rw [if_neg (by simpa using ha), if_neg (by simp; omega)]
      have q0 : 0 ≤ (b * 48271 + 12345) % 2147483647 := Int.emod_nonneg _ (by decide)
      have q1 : (b * 48271 + 12345) % 2147483647 < 2147483647 := Int.emod_lt_of_pos _ (by decide)
      generalize (b * 48271 + 12345) % 2147483647 = b' at q0 q1 ⊢
      have e2 : atI ([a, b, c].set 1 b') (1 : Int) = some b' := rfl
      have e3 : atI ([a, b, c].set 1 b') (2 : Int) = some c := rfl
      simp only [e2, e3, Option.bind_some]
      have r0 : 0 ≤ (b' * b' + c) % 2147483629 := Int.emod_nonneg _ (by decide)
      have r1 : (b' * b' + c) % 2147483629 < 2147483629 := Int.emod_lt_of_pos _ (by decide)
      rw [gd_of (.inl ⟨by omega, by omega⟩)]
      simp only [lt]
      generalize (b' * b' + c) % 2147483629 = y at r0 r1 ⊢
      rw [gd_of (.inl ⟨by omega, by omega⟩), gd_of h0]
      exact ⟨_, _, rfl, Int.emod_nonneg _ (by omega), Int.emod_lt_of_pos _ h0, _, _, _, rfl, q0, q1⟩
  | succ n ih =>
    intro f d many hf h0 h1 h2 hd
    by_cases small : many ≤ 10 ^ 6
    · have one : (1 : Int) ≤ DB n ∨ ¬ (1 : Int) ≤ DB n := Classical.em _
      by_cases hD : many ≤ DB n
      · exact ih f d many (by omega) h0 hD h2 hd
      · exfalso
        have : ∀ m, (10 ^ 6 : Int) ≤ DB m := by
          intro m
          induction m with
          | zero => exact Int.le_refl _
          | succ m im =>
            show (10 ^ 6 : Int) ≤ 10 ^ 6 * (DB m - 1)
            omega
        have := this n
        omega
    · obtain ⟨g, rfl⟩ : ∃ g, f = g + 1 := ⟨f - 1, by omega⟩
      obtain ⟨a, b, c, rfl, hb0, hb1⟩ := hd
      rw [m__law_draw_s]
      have e0 : atI [a, b, c] (0 : Int) = some a := rfl
      have j0 : ixN [a, b, c].length (0 : Int) = some 0 := rfl
      simp only [e0, j0, Option.bind_some]
      by_cases ha : 0 < a
      · rw [if_pos (by simpa using ha), gd_of h0]
        simp only [lt]
        rw [gd_of (divw h0 h2)]
        exact ⟨_, _, rfl, Int.emod_nonneg _ (by omega), Int.emod_lt_of_pos _ h0, _, _, _, rfl, hb0, hb1⟩
      · rw [if_neg (by simpa using ha), if_pos (by simp; omega)]
        have big : ∀ m, (10 ^ 6 : Int) ≤ DB m := by
          intro m
          induction m with
          | zero => exact Int.le_refl _
          | succ m im =>
            show (10 ^ 6 : Int) ≤ 10 ^ 6 * (DB m - 1)
            omega
        have hbn := big n
        have t6 : ((10 : Int) ^ ((6 : Int)).toNat) = 1000000 := by decide
        rw [t6]
        have h1 : many ≤ 10 ^ 6 * (DB n - 1) := h1
        obtain ⟨x1, d1, E1, p1, p2, k1⟩ := ih g [a, b, c] 1000000 (by omega) (by omega) (by omega) (by omega) ⟨a, b, c, rfl, hb0, hb1⟩
        have hm : many / 1000000 ≤ DB n - 1 := by omega
        obtain ⟨x2, d2, E2, p3, p4, k2⟩ := ih g d1 (many / 1000000 + 1) (by omega) (by omega) (by omega) (by omega) k1
        rw [E1]
        simp only [Option.bind_some]
        rw [gd_of (divw (by omega) (by omega)), E2]
        simp only [Option.bind_some]
        rw [gd_of (.inl ⟨by omega, by omega⟩), gd_of h0]
        exact ⟨_, _, rfl, Int.emod_nonneg _ (by omega), Int.emod_lt_of_pos _ h0, k2⟩
/-- a draw, as the laws ask it -/
theorem draw8 {d : List Int} {many : Int} (h0 : 0 < many) (h1 : many ≤ 10 ^ 40) (hd : Dk d) : ∃ x d', m__law_draw 8 d many = some (x, d') ∧ 0 ≤ x ∧ x < many ∧ Dk d' :=
  dk_draw 7 8 d many (by omega) h0 (Int.le_trans h1 (by decide +kernel)) (by omega) hd
end Tw

namespace Tw
open PySem L2 TL
/-! ### numbers, ties, webs read and shown -/
theorem rn_ok {k : Int} (h0 : 0 ≤ k) (h1 : k < 10 ^ 30) : m_read_number (sI k) = some (some k) := by
  obtain ⟨n, rfl⟩ := Int.eq_ofNat_of_zero_le h0
  have hn : n < 10 ^ 30 := by omega
  have hl := sI_len (k := 30) (by omega) hn
  obtain ⟨c, l, e⟩ : ∃ c l, tl (sI (n : Int)) = c :: l := by
    cases e : tl (sI (n : Int)) with
    | nil => exact absurd e (sI_ne h0)
    | cons c l => exact ⟨c, l, rfl⟩
  have len : (sI (n : Int)).length = l.length + 1 := by rw [len_tl, e, List.length_cons]
  have ne : decide (sI (n : Int) = ("" : Str)) = false := decide_eq_false fun z => by
    rw [z, strE] at e
    cases e
  have at0 : atI (Str.cps (sI (n : Int))).toList (0 : Int) = some c := by
    show atI (tl (sI (n : Int))) 0 = _
    rw [e]
    exact (atI_get (Int.le_refl 0) (by simp only [List.length_cons]; omega)).trans rfl
  have lead : decide ((⟨#[c]⟩ : Str) = ("0" : Str)) = true → l = [] := fun z => by
    rw [str0] at z
    have z := congrArg tl (of_decide_eq_true z)
    have z : [c] = [48] := z
    injection z with z
    rw [z, tl_sI] at e
    have := numL_zero e
    subst this
    have e : numL 0 = 48 :: l := e
    rw [numL_lt (by omega)] at e
    injection e with _ e
    exact e.symm
  have loop : lpx (fun (y_33 : Nat) => fun (s_36 : Unit) => (if (!(decide (y_33 ∈ (Str.cps ("0123456789" : Str)).toList))) then (some (Out.rt none)) else (some (Out.nx ())) : Option (Out Unit (Option Int)))) (Str.cps (sI (n : Int))).toList () = some (.nx ()) := by
    obtain ⟨u, hu, _⟩ := lpx_all (I := fun _ : Unit => True) (l := (Str.cps (sI (n : Int))).toList) (s := ()) (f := fun (y_33 : Nat) => fun (s_36 : Unit) => (if (!(decide (y_33 ∈ (Str.cps ("0123456789" : Str)).toList))) then (some (Out.rt none)) else (some (Out.nx ())) : Option (Out Unit (Option Int)))) trivial fun c hc _ _ => by
      refine ⟨(), ?_, trivial⟩
      have := dig_mem (sI_dig h0 c hc)
      rw [if_neg (by simp [this])]
    exact hu
  unfold m_read_number
  rw [ne, gd_of (by have := bigE; omega), decide_eq_false (p := (30 : Int) < ((Str.length (sI (n : Int)) : Nat) : Int)) (by omega), gd_of (by have := bigE; omega), at0]
  simp only [Option.bind_some]
  have second : pAnd (decide ((⟨#[c]⟩ : Str) = ("0" : Str))) (gd (Str.length (sI (n : Int)) ≤ BIG) (some (decide ((1 : Int) < ((Str.length (sI (n : Int)) : Nat) : Int))))) = some false := by
    unfold pAnd
    cases z : decide ((⟨#[c]⟩ : Str) = ("0" : Str)) with
    | false => rfl
    | true =>
      rw [gd_of (by have := bigE; omega), decide_eq_false (by
        have := lead z
        rw [len, this]
        simp)]
      rfl
  rw [second]
  show (pOr false (some false)).bind _ = _
  show (lpx _ (Str.cps (sI (n : Int))).toList ()).bind _ = _
  rw [loop]
  show (iOk (sI (n : Int))).bind _ = _
  rw [iOk_sI hn]
  rfl
theorem rt_loop : ∀ {row xs : List Int}, (xs ++ row).Pairwise (· < ·) → (∀ k ∈ row, 0 ≤ k ∧ k < 10 ^ 30) → (xs ++ row).length < BIG →
    lpx (fun (y_37 : Str) => fun (s_40 : ((List Int))) => ((fun (xs_30 : (List Int)) => (m_read_number y_37).bind fun y_56 => (oel y_56 (if true then (some (Out.rt none)) else none) (fun (y_65 : Int) => (pOr false ((pAnd (!(decide (xs_30 = ([] : List Int)))) ((atI xs_30 (-(1 : Int))).bind fun y_79 => (some (decide (y_65 ≤ y_79))))).bind fun b_86 => (some b_86))).bind fun b_91 => (if b_91 then (some (Out.rt none)) else (gd (List.length xs_30 < BIG) (some (Out.nx ((xs_30 ++ [y_65]))))))))) s_40 : Option (Out ((List Int)) (Option (List Int))))) (row.map sI) xs = some (.nx (xs ++ row))
  | [], xs, _, _, _ => by rw [List.append_nil]; rfl
  | k :: row, xs, up, b, l => by
    have hk := b k List.mem_cons_self
    have ask : (pOr false ((pAnd (!(decide (xs = ([] : List Int)))) ((atI xs (-(1 : Int))).bind fun y_79 => (some (decide (k ≤ y_79))))).bind fun b_86 => (some b_86))) = some false := by
      rcases List.eq_nil_or_concat xs with e | ⟨ys, y, e⟩
      · subst e
        rfl
      · subst e
        rw [List.concat_eq_append, atI_last]
        rw [List.concat_eq_append] at up
        have : y < k := (List.pairwise_append.mp up).2.2 y (by simp) k List.mem_cons_self
        rw [decide_eq_false (p := ys ++ [y] = []) (by simp)]
        show (some (decide (k ≤ y))).bind _ = _
        rw [decide_eq_false (by omega)]
        rfl
    rw [List.map_cons]
    unfold lpx
    dsimp only
    rw [rn_ok hk.1 hk.2]
    dsimp only [Option.bind_some, oel]
    rw [ask]
    dsimp only [Option.bind_some]
    rw [if_neg Bool.false_ne_true, gd_of (by have := bigE; rw [List.length_append, List.length_cons] at l; omega)]
    show lpx _ (row.map sI) (xs ++ [k]) = _
    have e : xs ++ k :: row = xs ++ [k] ++ row := by simp
    rw [e] at up l ⊢
    exact rt_loop up (fun j hj => b j (List.mem_cons_of_mem _ hj)) l
theorem rt_ok {row : List Int} (up : row.Pairwise (· < ·)) (b : ∀ k ∈ row, 0 ≤ k ∧ k < 10 ^ 30) (l : row.length < 100000) : m_read_ties (tsT row) = some (some row) := by
  unfold m_read_ties tsT
  by_cases e : row = []
  · rw [if_pos e, if_pos (by decide), e]
  · rw [if_neg e]
    have free : ∀ y ∈ row.map sI, 44 ∉ tl y := fun y hy => by
      obtain ⟨k, hk, q⟩ := List.mem_map.mp hy
      rw [← q]
      intro z
      have := sI_dig (b k hk).1 44 z
      omega
    have ne : decide (Txt.join ("," : Str) (row.map sI) = ("-" : Str)) = false := decide_eq_false fun z => by
      have : (45 : Nat) ∈ tl (Txt.join ("," : Str) (row.map sI)) := by rw [z, strMi]; simp
      rcases join_mem this with h | ⟨y, hy, h⟩
      · rw [strC] at h
        simp at h
      · obtain ⟨k, hk, q⟩ := List.mem_map.mp hy
        rw [← q] at h
        have := sI_dig (b k hk).1 45 h
        omega
    have len : (Txt.join ("," : Str) (row.map sI)).length ≤ 100000 * (30 + 1) := join_len ("," : Str) (by decide +kernel) (fun y hy => by
      obtain ⟨k, hk, q⟩ := List.mem_map.mp hy
      rw [← q]
      exact sI_le (by omega) (b k hk).1 (b k hk).2) (by rw [List.length_map]; omega)
    rw [ne, if_neg Bool.false_ne_true, gd_of (by have := bigE; omega), split_back strC (by omega) (fun z => e (List.map_eq_nil_iff.mp z)) free, rt_loop (xs := []) (by simpa using up) b (by have := bigE; simp only [List.nil_append]; omega)]
    rfl
def SmallW (web : List (List Int)) : Prop := web.length ≤ 1000 ∧ ∀ row ∈ web, row.length ≤ 1000 ∧ row.Pairwise (· < ·) ∧ ∀ k ∈ row, 0 ≤ k ∧ k < 1000
def IsWeb (web : List (List Int)) : Prop := ∀ (i : Nat) row, web[i]? = some row → UpTo i row
theorem st_ok {row : List Int} (b : ∀ k ∈ row, 0 ≤ k ∧ k < 1000) (l : row.length ≤ 1000) : m_show_ties row = some (tsT row) := by
  unfold m_show_ties tsT
  by_cases e : row = []
  · rw [if_pos (by simpa using e), if_pos e]
  · rw [if_neg (by simpa using e), if_neg e, gd_of (by have := bigE; omega)]
    rw [lcm_ok (g := sI) fun x hx => gd_of (sOk_small (b x hx).1 (by have := (b x hx).2; omega))]
    simp only [Option.bind_some]
    rw [gd_of (jOk_of (k := 3) (n := 1000) (by decide +kernel) (fun y hy => by
      obtain ⟨k, hk, q⟩ := List.mem_map.mp hy
      rw [← q]
      exact sI_le (by omega) (b k hk).1 (by have := (b k hk).2; omega)) (by rw [List.length_map]; exact l) (by omega))]
theorem tsT_lens {web : List (List Int)} (s : SmallW web) : ∀ y ∈ web.map tsT, y.length ≤ 4000 := fun y hy => by
  obtain ⟨row, hr, q⟩ := List.mem_map.mp hy
  rw [← q]
  exact tsT_len (s.2 row hr).2.2 (s.2 row hr).1
theorem sw_ok {web : List (List Int)} (s : SmallW web) : m_show_web web = some (txW web) := by
  unfold m_show_web txW
  by_cases e : web = []
  · rw [if_pos (by simpa using e), if_pos e]
  · have l := s.1
    rw [if_neg (by simpa using e), if_neg e, gd_of (by have := bigE; omega)]
    rw [lcm_ok (g := tsT) fun x hx => by rw [st_ok (s.2 x hx).2.2 (s.2 x hx).1]; rfl]
    simp only [Option.bind_some]
    rw [gd_of (jOk_of (k := 4000) (n := 1000) (by decide +kernel) (tsT_lens s) (by rw [List.length_map]; exact l) (by omega))]
theorem ao_ok {row : List Int} {n : Int} (h : UpTo n row) : m_are_ties_o (some row) n = some true := by
  unfold m_are_ties_o
  dsimp only [oel, lt]
  rw [if_neg (by decide)]
  have loop : ∀ (row : List Int) (z : Int), row.Pairwise (· < ·) → (∀ k ∈ row, z < k ∧ k < n) → ∃ z', lpx (fun (y_29 : Int) => fun (s_32 : (Int)) => ((fun (x_24 : Int) => (m_is_integer y_29).bind fun y_48 => (if ((!y_48) || ((decide (y_29 ≤ x_24)) || (decide (n ≤ y_29)))) then (some (Out.rt false)) else (some (Out.nx (y_29))))) s_32 : Option (Out (Int) Bool))) row z = some (.nx z') := by
    intro row
    induction row with
    | nil => exact fun z _ _ => ⟨z, rfl⟩
    | cons k row ih =>
      intro z up b
      have hk := b k List.mem_cons_self
      obtain ⟨h1, h2⟩ := List.pairwise_cons.mp up
      obtain ⟨z', e⟩ := ih k h2 fun j hj => ⟨h1 j hj, (b j (List.mem_cons_of_mem _ hj)).2⟩
      refine ⟨z', ?_⟩
      unfold lpx
      dsimp only [m_is_integer, Option.bind_some]
      rw [if_neg (by simp; omega)]
      exact e
  obtain ⟨z', e⟩ := loop row (-1) h.1 fun k hk => ⟨by have := (h.2 k hk).1; omega, (h.2 k hk).2⟩
  rw [e]
  rfl
theorem wo_ok {web : List (List Int)} (h : IsWeb web) : m_is_web_o (web.map some) = some true := by
  unfold m_is_web_o
  rw [if_neg (by decide), enm_eq]
  have loop : ∀ (web : List (List Int)) (z : Nat), (∀ (i : Nat) row, web[i]? = some row → UpTo ((z + i : Nat) : Int) row) → lpx (fun (y_16 : (Int × (Option (List Int)))) => (fun (y_36 : Int) (y_37 : (Option (List Int))) => fun (s_19 : Unit) => ((m_are_ties_o y_37 y_36).bind fun y_46 => (if (!y_46) then (some (Out.rt false)) else (some (Out.nx ()))) : Option (Out Unit Bool))) y_16.1 y_16.2) (enF (z : Int) (web.map some)) () = some (.nx ()) := by
    intro web
    induction web with
    | nil => exact fun z _ => rfl
    | cons row web ih =>
      intro z h
      rw [List.map_cons]
      unfold enF lpx
      dsimp only
      rw [ao_ok (by simpa using h 0 row rfl)]
      have := ih (z + 1) fun i r hr => by
        have := h (i + 1) r (by simpa using hr)
        rw [show z + 1 + i = z + (i + 1) by omega]
        exact this
      rw [show ((z + 1 : Nat) : Int) = (z : Int) + 1 by omega] at this
      exact this
  have := loop web 0 fun i r hr => by simpa using h i r hr
  rw [show ((0 : Nat) : Int) = 0 from rfl] at this
  rw [this]
  rfl
theorem rw_ok {web : List (List Int)} (s : SmallW web) (h : IsWeb web) : m_read_web (txW web) = some web := by
  unfold m_read_web txW
  rw [if_neg (by decide)]
  by_cases e : web = []
  · rw [if_pos e, if_pos (by decide), e]
  · rw [if_neg e]
    have l := s.1
    have ne : decide (Txt.join (" " : Str) (web.map tsT) = ("." : Str)) = false := decide_eq_false fun z => by
      have : (46 : Nat) ∈ tl (Txt.join (" " : Str) (web.map tsT)) := by rw [z, strDot]; simp
      rcases join_mem this with h | ⟨y, hy, h⟩
      · rw [strSp] at h
        simp at h
      · obtain ⟨row, hr, q⟩ := List.mem_map.mp hy
        rw [← q] at h
        have := tsT_sign (fun k hk => ((s.2 row hr).2.2 k hk).1) h
        omega
    have free : ∀ y ∈ web.map tsT, 32 ∉ tl y := fun y hy => by
      obtain ⟨row, hr, q⟩ := List.mem_map.mp hy
      rw [← q]
      intro z
      have := tsT_sign (fun k hk => ((s.2 row hr).2.2 k hk).1) z
      omega
    have len := join_len (" " : Str) (by decide +kernel) (tsT_lens s) (n := 1000) (by rw [List.length_map]; exact l)
    rw [ne, if_neg Bool.false_ne_true, gd_of (by have := bigE; omega), split_back strSp (by omega) (fun z => e (List.map_eq_nil_iff.mp z)) free, gd_of (by have := bigE; rw [List.length_map]; omega)]
    have rd : lcm (fun (y_38 : Str) => (m_read_ties y_38).bind fun y_57 => (some y_57)) (web.map tsT) = some (web.map some) := by
      clear ne free len e h l
      induction web with
      | nil => rfl
      | cons row web ih =>
        have hr := s.2 row List.mem_cons_self
        rw [List.map_cons, List.map_cons]
        unfold lcm
        rw [rt_ok hr.2.1 (fun k hk => ⟨(hr.2.2 k hk).1, by have := (hr.2.2 k hk).2; omega⟩) (by omega), ih ⟨by have := s.1; rw [List.length_cons] at this; omega, fun r hr => s.2 r (List.mem_cons_of_mem _ hr)⟩]
        rfl
    rw [rd]
    simp only [Option.bind_some]
    rw [wo_ok h]
    simp only [Option.bind_some]
    rw [if_neg (by decide), allS_some]
    rfl
end Tw

namespace Tw
open PySem L2 TL
/-! ### lists compared -/
theorem all_rng {f : Int → Option Bool} {p : Nat → Bool} {n : Nat} (h : ∀ i : Nat, i < n → f (i : Int) = some (p i)) : (lcm f (rng (0 : Int) (n : Int))).bind (fun xs => some (List.all xs id)) = some ((List.range n).all p) := by
  have e : rng (0 : Int) (n : Int) = (List.range n).map fun i : Nat => (i : Int) := by
    unfold rng
    rw [show ((n : Int) - 0).toNat = n by omega]
    exact List.map_congr_left fun i _ => by omega
  have key : ∀ l : List Nat, (∀ i ∈ l, i < n) → lcm f (l.map fun i : Nat => (i : Int)) = some (l.map p) := by
    intro l
    induction l with
    | nil => exact fun _ => rfl
    | cons a l ih =>
      intro hl
      rw [List.map_cons, List.map_cons]
      unfold lcm
      rw [h a (hl a List.mem_cons_self), ih fun i hi => hl i (List.mem_cons_of_mem _ hi)]
      rfl
  rw [e, key _ fun i hi => List.mem_range.mp hi]
  show some (List.all ((List.range n).map p) id) = _
  rw [List.all_map]
  rfl
theorem all_eq {α : Type} [DecidableEq α] {v d : List α} (l : v.length = d.length) {p : Nat → Bool} (hp : ∀ i (h : i < d.length), p i = decide (v[i]'(by omega) = d[i])) : (List.range d.length).all p = decide (v = d) := by
  by_cases e : v = d
  · subst e
    rw [decide_eq_true rfl, List.all_eq_true]
    intro i hi
    rw [hp i (List.mem_range.mp hi)]
    simp
  · rw [decide_eq_false e]
    cases q : (List.range d.length).all p with
    | false => rfl
    | true =>
      exfalso
      apply e
      rw [List.all_eq_true] at q
      refine List.ext_getElem l fun i h1 h2 => ?_
      have := q i (List.mem_range.mpr h2)
      rw [hp i h2] at this
      exact of_decide_eq_true this
theorem sl_ok {v d : List Int} (l : d.length < 1000000) : m__law_same_list v d = some (decide (v = d)) := by
  unfold m__law_same_list
  by_cases e : v.length = d.length
  · rw [if_neg (by simp [e]), gd_of (rok_small (by omega) (by omega)), gd_of (by have := bigE; rw [rng_len]; omega)]
    rw [all_rng (p := fun i => decide (v[i]? = d[i]?))]
    · rw [all_eq e]
      intro i hi
      rw [List.getElem?_eq_getElem hi, List.getElem?_eq_getElem (by omega : i < v.length)]
      simp
    · intro i hi
      have h1 : atI v (i : Int) = some v[i] := by rw [atI_get (by omega) (by omega)]; simp
      have h2 : atI d (i : Int) = some d[i] := by rw [atI_get (by omega) (by omega)]; simp
      rw [h1, h2, List.getElem?_eq_getElem hi, List.getElem?_eq_getElem (by omega : i < v.length)]
      simp [m__law_is_integer, pAnd]
  · have n : v ≠ d := fun z => e (by rw [z])
    rw [if_pos (by simp; omega), decide_eq_false n]
theorem sr_ok {v d : List (List Int)} (l : d.length < 1000000) (r : ∀ x ∈ d, x.length < 1000000) : m__law_same_rows v d = some (decide (v = d)) := by
  unfold m__law_same_rows
  by_cases e : v.length = d.length
  · rw [if_neg (by simp [e]), gd_of (rok_small (by omega) (by omega)), gd_of (by have := bigE; rw [rng_len]; omega)]
    rw [all_rng (p := fun i => decide (v[i]? = d[i]?))]
    · rw [all_eq e]
      intro i hi
      rw [List.getElem?_eq_getElem hi, List.getElem?_eq_getElem (by omega : i < v.length)]
      simp
    · intro i hi
      have h1 : atI v (i : Int) = some v[i] := by rw [atI_get (by omega) (by omega)]; simp
      have h2 : atI d (i : Int) = some d[i] := by rw [atI_get (by omega) (by omega)]; simp
      rw [h1, h2, List.getElem?_eq_getElem hi, List.getElem?_eq_getElem (by omega : i < v.length)]
      simp only [Option.bind_some]
      rw [sl_ok (r _ (List.getElem_mem hi))]
      simp
  · have n : v ≠ d := fun z => e (by rw [z])
    rw [if_pos (by simp; omega), decide_eq_false n]
/-! ### the law's own text -/
theorem eqS_ok {l : List Str} (h : ∀ x ∈ l, PyData.strOk x = true) : Eqd.ok (eqdL eqdS) l = true := List.all_eq_true.mpr h
theorem lt_ok {web : List (List Int)} (s : SmallW web) (so : ∀ y ∈ web.map tsT, PyData.strOk y = true) : m__law_text web = some (txW web) := by
  unfold m__law_text
  have loop : ∀ (web : List (List Int)) (xs : List Str), SmallW web → (xs.length + web.length < 2000) → lp (fun (y_22 : (List Int)) => fun (s_25 : ((List Str))) => (fun (xs_15 : (List Str)) => (((if (!(decide (y_22 = ([] : List Int)))) then (gd (List.length y_22 < BIG) ((lcm (fun (y_80 : Int) => gd (sOk y_80) (some (sI y_80))) y_22).bind fun xs_70 => (gd (jOk ("," : Str) xs_70) (lt ((Txt.join ("," : Str) xs_70) : Str) fun x_105 => (some (x_105)))))) else (some (("-" : Str)))) : Option (Str))).bind fun (s_117 : (Str)) => (fun (x_44 : Str) => (gd (List.length xs_15 < BIG) (some ((xs_15 ++ [x_44]))))) s_117) s_25) web xs = some (xs ++ web.map tsT) := by
    intro web
    induction web with
    | nil =>
      intro xs _ _
      rw [List.map_nil, List.append_nil]
      rfl
    | cons row web ih =>
      intro xs s l
      have hr := s.2 row List.mem_cons_self
      have one : ((if (!(decide (row = ([] : List Int)))) then (gd (List.length row < BIG) ((lcm (fun (y_80 : Int) => gd (sOk y_80) (some (sI y_80))) row).bind fun xs_70 => (gd (jOk ("," : Str) xs_70) (lt ((Txt.join ("," : Str) xs_70) : Str) fun x_105 => (some (x_105)))))) else (some (("-" : Str)))) : Option (Str)) = some (tsT row) := by
        unfold tsT
        by_cases e : row = []
        · rw [if_neg (by simp [e]), if_pos e]
        · rw [if_pos (by simpa using e), if_neg e, gd_of (by have := bigE; omega)]
          rw [lcm_ok (g := sI) fun x hx => gd_of (sOk_small (hr.2.2 x hx).1 (by have := (hr.2.2 x hx).2; omega))]
          simp only [Option.bind_some, lt]
          rw [gd_of (jOk_of (k := 3) (n := 1000) (by decide +kernel) (fun y hy => by
            obtain ⟨k, hk, q⟩ := List.mem_map.mp hy
            rw [← q]
            exact sI_le (by omega) (hr.2.2 k hk).1 (by have := (hr.2.2 k hk).2; omega)) (by rw [List.length_map]; exact hr.1) (by omega))]
      unfold lp
      dsimp only
      rw [one]
      simp only [Option.bind_some]
      rw [gd_of (by have := bigE; rw [List.length_cons] at l; omega)]
      simp only [Option.bind_some]
      rw [ih (xs ++ [tsT row]) ⟨by have := s.1; rw [List.length_cons] at this; omega, fun r hr => s.2 r (List.mem_cons_of_mem _ hr)⟩ (by rw [List.length_cons] at l; rw [List.length_append, List.length_cons, List.length_nil]; omega)]
      simp
  rw [loop web [] s (by have := s.1; simp only [List.length_nil]; omega)]
  simp only [Option.bind_some, List.nil_append]
  rw [gd_of (eqS_ok so), gd_of (eqS_ok (by simp))]
  unfold txW
  by_cases e : web = []
  · rw [if_pos (by simp [e]), if_pos e]
  · rw [if_neg (by simp [e]), if_neg e]
    rw [gd_of (jOk_of (k := 4000) (n := 1000) (by decide +kernel) (tsT_lens s) (by rw [List.length_map]; exact s.1) (by omega))]
end Tw
namespace Tw
open PySem L2 TL
theorem strOk_of {x : Str} (h : ∀ c ∈ tl x, c < 256) : PyData.strOk x = true := by
  unfold PyData.strOk
  rw [← Array.all_toList]
  refine List.all_eq_true.mpr fun c hc => ?_
  have := h c hc
  exact decide_eq_true (by omega)
theorem tsT_ok {web : List (List Int)} (s : SmallW web) : ∀ y ∈ web.map tsT, PyData.strOk y = true := fun y hy => by
  obtain ⟨row, hr, q⟩ := List.mem_map.mp hy
  rw [← q]
  refine strOk_of fun c hc => ?_
  have := tsT_sign (fun k hk => ((s.2 row hr).2.2 k hk).1) hc
  omega
/-! ### the drawn webs -/
def RowsOk (web : List (List Int)) : Prop := ∀ (j : Nat) row, web[j]? = some row → UpTo j row ∧ row.length ≤ 1000
theorem RowsOk.web {web : List (List Int)} (h : RowsOk web) : IsWeb web := fun i row e => (h i row e).1
theorem RowsOk.small {web : List (List Int)} (h : RowsOk web) (l : web.length ≤ 1000) : SmallW web := ⟨l, fun row hr => by
  obtain ⟨i, e⟩ := List.mem_iff_getElem?.mp hr
  obtain ⟨h1, h2⟩ := h i row e
  have hi := (List.getElem?_eq_some_iff.mp e).1
  exact ⟨h2, h1.1, fun k hk => ⟨(h1.2 k hk).1, by have := (h1.2 k hk).2; omega⟩⟩⟩
theorem RowsOk.snoc {web : List (List Int)} {row : List Int} (h : RowsOk web) (u : UpTo (web.length : Int) row) (l : row.length ≤ 1000) : RowsOk (web ++ [row]) := fun j r e => by
  by_cases hj : j < web.length
  · rw [List.getElem?_append_left hj] at e
    exact h j r e
  · rw [List.getElem?_append_right (by omega)] at e
    have e0 : j - web.length = 0 := by
      have := (List.getElem?_eq_some_iff.mp e).1
      simp only [List.length_cons, List.length_nil] at this
      omega
    rw [e0] at e
    have er : row = r := by simpa using e
    have ej : j = web.length := by omega
    subst er
    subst ej
    exact ⟨u, l⟩
theorem upto_sub {n : Int} {l : List Int} (h0 : 0 ≤ n) (h : l.Sublist (rng 0 n)) : UpTo n l ∧ (l.length : Int) ≤ n := by
  refine ⟨⟨(rng_up 0 n).sublist h, fun k hk => ?_⟩, ?_⟩
  · have := rng_mem.mp (h.subset hk)
    exact this
  · have := h.length_le
    rw [rng_len] at this
    omega
theorem upto_srt {n : Int} {l : List Int} (h : ∀ k ∈ l, 0 ≤ k ∧ k < n) : UpTo n (srt l) := ⟨srt_up l, fun k hk => h k ((srt_mem k l).mp hk)⟩
theorem dense_ok {d : List Int} (hd : Dk d) : ∃ web d', m__law_dense_web d = some (web, d') ∧ RowsOk web ∧ web.length ≤ 90 ∧ Dk d' := by
  obtain ⟨x, d1, e, x0, x1, k1⟩ := draw8 (many := 10) (by omega) (by omega) hd
  unfold m__law_dense_web
  rw [e]
  simp only [Option.bind_some]
  rw [gd_of (rok_small (by omega) (by omega))]
  obtain ⟨⟨d9, web⟩, e9, k9, l9, r9⟩ := lp_rng0 (n := 33 + x) (by omega) (I := fun i s => Dk s.1 ∧ (s.2.length : Int) = i ∧ RowsOk s.2) (s := (d1, [])) ⟨k1, rfl, fun j row z => by simp at z⟩
    (f := (fun (y_39 : Int) => fun (s_42 : ((List Int) × (List (List Int)))) => (fun (xs_29 : (List Int)) (xs_32 : (List (List Int))) => (m__law_draw 8 xs_29 (y_39 + (1 : Int))).bind fun z_58 => (fun (y_55 : Int) (y_56 : List Int) => (gd (rok y_39) (gd (List.length (rng (0 : Int) y_39) < BIG) ((lcf (fun (y_87 : Int) => if (!(decide (y_87 = y_55))) then (some (some y_87)) else (some none)) (rng (0 : Int) y_39)).bind fun xs_77 => (gd (List.length xs_32 < BIG) (some (y_56, (xs_32 ++ [xs_77])))))))) z_58.1 z_58.2) s_42.1 s_42.2))
    fun i i0 i1 s hs => by
      obtain ⟨ds, ws⟩ := s
      obtain ⟨hk, hl, hr⟩ := hs
      dsimp only at hk hl hr ⊢
      obtain ⟨y, d2, e2, y0, y1, k2⟩ := draw8 (many := i + 1) (by omega) (by omega) hk
      rw [e2]
      simp only [Option.bind_some]
      rw [gd_of (rok_small i0 (by omega)), gd_of (by have := bigE; rw [rng_len]; omega)]
      rw [lcf_ok (p := fun z => !(decide (z = y))) (g := id) fun z _ => by cases decide (z = y) <;> rfl]
      simp only [Option.bind_some]
      rw [gd_of (by have := bigE; omega)]
      refine ⟨_, rfl, k2, by simp only [List.length_append, List.length_cons, List.length_nil]; omega, ?_⟩
      have u := upto_sub i0 (l := ((rng 0 i).filter fun z => !(decide (z = y))).map id) (by rw [List.map_id]; exact List.filter_sublist)
      exact hr.snoc (by rw [hl]; exact u.1) (by omega)
  rw [e9]
  dsimp only at l9
  exact ⟨web, d9, rfl, r9, by omega, k9⟩
theorem web_ok {d : List Int} (hd : Dk d) : ∃ web d', m__law_web d 14 = some (web, d') ∧ RowsOk web ∧ web.length ≤ 90 ∧ Dk d' := by
  obtain ⟨x1, d1, e1, a1, b1, k1⟩ := draw8 (many := 14 + 1) (by omega) (by omega) hd
  obtain ⟨x2, d2, e2, a2, b2, k2⟩ := draw8 (many := 7) (by omega) (by omega) k1
  obtain ⟨x3, d3, e3, a3, b3, k3⟩ := draw8 (many := 8) (by omega) (by omega) k2
  unfold m__law_web
  rw [e1]
  simp only [Option.bind_some]
  rw [e2]
  simp only [Option.bind_some, lt]
  rw [e3]
  simp only [Option.bind_some]
  have head : ∃ n d4, (((if (decide ((5 : Int) < x3)) then ((atI ([(31 : Int), (81 : Int)] : List Int) (x3 - (6 : Int))).bind fun y_68 => ((m__law_draw 8 d3 y_68).bind fun z_77 => (fun (y_74 : Int) (y_75 : List Int) => (some (y_74, y_75))) z_77.1 z_77.2)) else (some (x1, d3))) : Option (Int × (List Int)))) = some (n, d4) ∧ 0 ≤ n ∧ n < 81 ∧ Dk d4 := by
    by_cases h : 5 < x3
    · rw [if_pos (by simpa using h)]
      have : x3 = 6 ∨ x3 = 7 := by omega
      rcases this with z | z
      · subst z
        obtain ⟨y, d4, e4, a4, b4, k4⟩ := draw8 (many := 31) (by omega) (by omega) k3
        refine ⟨y, d4, ?_, a4, by omega, k4⟩
        show (some (31 : Int)).bind _ = _
        simp only [Option.bind_some]
        rw [e4]
        rfl
      · subst z
        obtain ⟨y, d4, e4, a4, b4, k4⟩ := draw8 (many := 81) (by omega) (by omega) k3
        refine ⟨y, d4, ?_, a4, by omega, k4⟩
        show (some (81 : Int)).bind _ = _
        simp only [Option.bind_some]
        rw [e4]
        rfl
    · rw [if_neg (by simpa using h)]
      exact ⟨x1, d3, rfl, a1, by omega, k3⟩
  obtain ⟨n, d4, e4, n0, n1, k4⟩ := head
  rw [e4]
  simp only [Option.bind_some]
  rw [gd_of (rok_small n0 (by omega))]
  obtain ⟨⟨d9, web⟩, e9, k9, l9, r9⟩ := lp_rng0 (n := n) n0 (I := fun i s => Dk s.1 ∧ (s.2.length : Int) = i ∧ RowsOk s.2) (s := (d4, [])) ⟨k4, rfl, fun j row z => by simp at z⟩
    (f := (fun (y_108 : Int) => fun (s_111 : ((List Int) × (List (List Int)))) => (fun (xs_98 : (List Int)) (xs_101 : (List (List Int))) => if (decide (x3 = (7 : Int))) then ((m__law_draw 8 xs_98 (6 : Int)).bind fun z_131 => (fun (y_128 : Int) (y_129 : List Int) => (gd (rok y_128) (gd (List.length (rng (0 : Int) y_128) < BIG) ((lcs (fun (y_161 : Int) => fun (s_194 : (List Int)) => (fun (xs_151 : (List Int)) => (m__law_draw 8 xs_151 (imax (1 : Int) y_108)).bind fun z_181 => (fun (y_178 : Int) (y_179 : List Int) => (some (some y_178, (y_179)))) z_181.1 z_181.2) s_194) (rng (0 : Int) y_128) (y_129)).bind fun z_195 => (fun (xs_148 : List Int) (xs_151 : (List Int)) => (gd (List.length xs_148 < BIG) ((lcf (fun (y_217 : Int) => if (decide (y_217 < y_108)) then (some (some y_217)) else (some none)) xs_148).bind fun xs_207 => (gd (List.length xs_207 ≤ 4000) (gd (List.length xs_101 < BIG) (some (xs_151, (xs_101 ++ [(srt xs_207)])))))))) z_195.1 z_195.2)))) z_131.1 z_131.2) else (gd (rok y_108) (gd (List.length (rng (0 : Int) y_108) < BIG) ((lcs (fun (y_291 : Int) => fun (s_332 : (List Int)) => (fun (xs_281 : (List Int)) => (m__law_draw 8 xs_281 (8 : Int)).bind fun z_311 => (fun (y_308 : Int) (y_309 : List Int) => (if (decide (y_308 < 1 + x2)) then (some (some y_291, (y_309))) else (some (none, (y_309))))) z_311.1 z_311.2) s_332) (rng (0 : Int) y_108) (xs_98)).bind fun z_333 => (fun (xs_278 : List Int) (xs_281 : (List Int)) => (gd (List.length xs_101 < BIG) (some (xs_281, (xs_101 ++ [xs_278]))))) z_333.1 z_333.2)))) s_111.1 s_111.2))
    fun i i0 i1 s hs => by
      obtain ⟨ds, ws⟩ := s
      obtain ⟨hk, hl, hr⟩ := hs
      dsimp only at hk hl hr ⊢
      by_cases h7 : x3 = 7
      · rw [if_pos (by simpa using h7)]
        obtain ⟨y, d5, e5, y0, y1, k5⟩ := draw8 (many := 6) (by omega) (by omega) hk
        rw [e5]
        simp only [Option.bind_some]
        rw [gd_of (rok_small y0 (by omega)), gd_of (by have := bigE; rw [rng_len]; omega)]
        obtain ⟨r, d6, e6, k6, l6, all6⟩ := lcs_all (I := Dk) (P := fun z : Int => 0 ≤ z) (l := rng 0 y) (s := d5) k5 (f := (fun (y_161 : Int) => fun (s_194 : (List Int)) => (fun (xs_151 : (List Int)) => (m__law_draw 8 xs_151 (imax (1 : Int) i)).bind fun z_181 => (fun (y_178 : Int) (y_179 : List Int) => (some (some y_178, (y_179)))) z_181.1 z_181.2) s_194)) fun z _ s hs => by
          have m1 : 0 < imax 1 i ∧ imax 1 i ≤ 1000 := by unfold imax; split <;> omega
          obtain ⟨q, dq, eq, q0, q1, kq⟩ := draw8 (many := imax 1 i) m1.1 (by omega) hs
          refine ⟨q, dq, ?_, kq, q0⟩
          dsimp only
          rw [eq]
          rfl
        rw [e6]
        simp only [Option.bind_some]
        rw [rng_len] at l6
        rw [gd_of (by have := bigE; omega)]
        rw [lcf_ok (p := fun z => decide (z < i)) (g := id) fun z _ => by cases decide (z < i) <;> rfl]
        simp only [Option.bind_some]
        have lf : (List.map id (List.filter (fun z => decide (z < i)) r)).length ≤ r.length := by
          rw [List.length_map]
          exact List.length_filter_le _ _
        rw [gd_of (by omega), gd_of (by have := bigE; omega)]
        refine ⟨_, rfl, k6, by simp only [List.length_append, List.length_cons, List.length_nil]; omega, hr.snoc ?_ (by have := srt_len (List.map id (List.filter (fun z => decide (z < i)) r)); omega)⟩
        rw [hl]
        refine upto_srt fun k hk9 => ?_
        rw [List.map_id] at hk9
        obtain ⟨m1, m2⟩ := List.mem_filter.mp hk9
        exact ⟨all6 k m1, of_decide_eq_true m2⟩
      · rw [if_neg (by simpa using h7), gd_of (rok_small i0 (by omega)), gd_of (by have := bigE; rw [rng_len]; omega)]
        obtain ⟨r, d6, e6, k6, sub⟩ := lcs_sub (I := Dk) (l := rng 0 i) (s := ds) hk (f := (fun (y_291 : Int) => fun (s_332 : (List Int)) => (fun (xs_281 : (List Int)) => (m__law_draw 8 xs_281 (8 : Int)).bind fun z_311 => (fun (y_308 : Int) (y_309 : List Int) => (if (decide (y_308 < 1 + x2)) then (some (some y_291, (y_309))) else (some (none, (y_309))))) z_311.1 z_311.2) s_332)) fun z _ s hs => by
          obtain ⟨q, dq, eq, q0, q1, kq⟩ := draw8 (many := 8) (by omega) (by omega) hs
          refine ⟨decide (q < 1 + x2), dq, ?_, kq⟩
          dsimp only
          rw [eq]
          simp only [Option.bind_some]
          cases decide (q < 1 + x2) <;> rfl
        rw [e6]
        simp only [Option.bind_some]
        rw [gd_of (by have := bigE; omega)]
        have u := upto_sub i0 sub
        exact ⟨_, rfl, k6, by simp only [List.length_append, List.length_cons, List.length_nil]; omega, hr.snoc (by rw [hl]; exact u.1) (by omega)⟩
  rw [e9]
  dsimp only at l9
  exact ⟨web, d9, rfl, r9, by omega, k9⟩
end Tw

namespace Tw
open PySem L2 TL
theorem set_split {α : Type} (l : List α) (k : Nat) (h : k < l.length) (y : α) : l.set k y = l.take k ++ [y] ++ l.drop (k + 1) := by
  rw [List.set_eq_take_append_cons_drop, if_pos h]
  simp
theorem lcm_id {α : Type} : ∀ l : List α, lcm (fun y => some y) l = some l
  | [] => rfl
  | x :: l => by
    show (some x).bind _ = _
    rw [lcm_id l]
    rfl
theorem law71_ok (script : List Int) : m_law71 script = some true := by
  unfold m_law71
  have n1 : 1 ≤ imax 1 (imin ((List.length script : Nat) : Int) 4) ∧ imax 1 (imin ((List.length script : Nat) : Int) 4) ≤ 4 ∧ (imax 1 (imin ((List.length script : Nat) : Int) 4) = 1 ∨ imax 1 (imin ((List.length script : Nat) : Int) 4) ≤ script.length) := by
    unfold imax imin
    split <;> split <;> omega
  generalize imax 1 (imin ((List.length script : Nat) : Int) 4) = n at n1 ⊢
  rw [gd_of (rok_small (by omega) (by omega))]
  suffices h : ∀ x ∈ rng 0 n, ∀ s : Unit, True → ∃ s', (fun (y_19 : Int) => fun (s_22 : Unit) => ((m__law_deck script y_19).bind fun y_35 => (((((m__law_draw 8 y_35 (8 : Int)).bind fun z_67 => (fun (y_64 : Int) (y_65 : List Int) => (if (decide (y_64 = (7 : Int))) then ((m__law_dense_web y_65).bind fun z_81 => (fun (y_78 : (List (List Int))) (y_79 : List Int) => (some (y_78, y_79))) z_81.1 z_81.2) else ((m__law_web y_65 (14 : Int)).bind fun z_101 => (fun (y_98 : (List (List Int))) (y_99 : List Int) => (some (y_98, y_99))) z_101.1 z_101.2))) z_67.1 z_67.2) : Option ((List (List Int)) × (List Int)))).bind fun (s_436 : ((List (List Int)) × (List Int))) => (fun (xs_53 : (List (List Int))) (xs_56 : (List Int)) => (gd (List.length xs_53 < BIG) ((lcm (fun (y_136 : (List Int)) => some y_136) xs_53).bind fun xs_126 => ((m__law_text xs_126).bind fun y_173 => ((m_show_web xs_53).bind fun y_181 => ((pOr (!true) ((pOr (!(decide (y_181 = y_173))) ((m__law_same_rows xs_53 xs_126).bind fun y_191 => (some (!y_191)))).bind fun b_199 => (some b_199))).bind fun b_207 => (if b_207 then (some (Out.rt false)) else ((m_read_web y_173).bind fun y_218 => ((m__law_same_rows y_218 xs_126).bind fun y_238 => (if (!y_238) then (some (Out.rt false)) else ((((if (!(decide (xs_126 = ([] : List (List Int))))) then ((m__law_draw 8 xs_56 ((List.length xs_126 : Nat) : Int)).bind fun z_277 => (fun (y_274 : Int) (y_275 : List Int) => ((atI y_218 y_274).bind fun y_287 => (gd (List.length y_287 < BIG) ((atI xs_126 y_274).bind fun y_311 => (gd (List.length y_311 + List.length ([(-(1 : Int))] : List Int) < BIG) (gd (List.length (cutL xs_126 none (some y_274)) + List.length ([(y_311 ++ ([(-(1 : Int))] : List Int))] : List (List Int)) < BIG) (gd (List.length ((cutL xs_126 none (some y_274)) ++ ([(y_311 ++ ([(-(1 : Int))] : List Int))] : List (List Int))) + List.length (cutL xs_126 (some (y_274 + (1 : Int))) none) < BIG) ((m__law_same_rows (setI y_218 y_274 (y_287 ++ [(-(1 : Int))])) (((cutL xs_126 none (some y_274)) ++ ([(y_311 ++ ([(-(1 : Int))] : List Int))] : List (List Int))) ++ (cutL xs_126 (some (y_274 + (1 : Int))) none))).bind fun y_366 => (if (!y_366) then (some (Out.rt false)) else (some (Out.nx (y_275, (setI y_218 y_274 (y_287 ++ [(-(1 : Int))])))))))))))))) z_277.1 z_277.2) else (some (Out.nx (xs_56, y_218)))) : Option (Out ((List Int) × (List (List Int))) Bool))).bind fun s_260 => Out.fin s_260 (fun (s_434 : ((List Int) × (List (List Int)))) => (fun (xs_253 : (List Int)) (xs_256 : (List (List Int))) => (gd (List.length xs_256 < BIG) ((m_read_web y_181).bind fun y_407 => ((m__law_same_rows y_407 xs_126).bind fun y_420 => (if (!y_420) then (some (Out.rt false)) else (some (Out.nx ()))))))) s_434.1 s_434.2) (fun r_435 => some (Out.rt r_435))))))))))))) s_436.1 s_436.2) : Option (Out Unit Bool))) x s = some (Out.nx s') ∧ True by
    obtain ⟨u, e, _⟩ := lpx_all (I := fun _ : Unit => True) trivial h
    rw [e]
    rfl
  intro at9 hat _ _
  obtain ⟨p0, p1⟩ := rng_mem.mp hat
  obtain ⟨d, e, k⟩ := dk_deck script at9 p0 (by omega)
  obtain ⟨x, d1, e1, x0, x1, k1⟩ := draw8 (many := 8) (by omega) (by omega) k
  refine ⟨(), ?_, trivial⟩
  dsimp only
  rw [e]
  simp only [Option.bind_some]
  rw [e1]
  simp only [Option.bind_some]
  obtain ⟨web, d2, e2, r2, l2, k2⟩ : ∃ web d2, (if (decide (x = (7 : Int))) = true then ((m__law_dense_web d1).bind fun z_81 => (some (z_81.1, z_81.2))) else ((m__law_web d1 (14 : Int)).bind fun z_101 => (some (z_101.1, z_101.2)))) = some (web, d2) ∧ RowsOk web ∧ web.length ≤ 90 ∧ Dk d2 := by
    by_cases h : x = 7
    · obtain ⟨web, d2, e2, r2, l2, k2⟩ := dense_ok k1
      exact ⟨web, d2, by rw [if_pos (by simpa using h), e2]; rfl, r2, l2, k2⟩
    · obtain ⟨web, d2, e2, r2, l2, k2⟩ := web_ok k1
      exact ⟨web, d2, by rw [if_neg (by simpa using h), e2]; rfl, r2, l2, k2⟩
  rw [e2]
  simp only [Option.bind_some]
  have sm := r2.small (by omega)
  have ml : ∀ y ∈ web, y.length < 1000000 := fun y hy => by have := (sm.2 y hy).1; omega
  rw [gd_of (by have := bigE; omega), lcm_id]
  simp only [Option.bind_some]
  rw [lt_ok sm (tsT_ok sm)]
  simp only [Option.bind_some]
  rw [sw_ok sm]
  simp only [Option.bind_some]
  have sr := sr_ok (v := web) (d := web) (by omega) ml
  rw [decide_eq_true rfl] at sr
  rw [sr, rw_ok sm r2.web]
  simp only [Option.bind_some, decide_true, Bool.not_true, pOr, Bool.false_eq_true, if_false, cond_false]
  rw [sr]
  simp only [Option.bind_some, Bool.not_true, Bool.false_eq_true, if_false]
  have key : ∃ d3 w3, (((if (!(decide (web = ([] : List (List Int))))) = true then ((m__law_draw 8 d2 ((List.length web : Nat) : Int)).bind fun z_277 => ((atI web z_277.1).bind fun y_287 => (gd (List.length y_287 < BIG) ((atI web z_277.1).bind fun y_311 => (gd (List.length y_311 + List.length ([(-(1 : Int))] : List Int) < BIG) (gd (List.length (cutL web none (some z_277.1)) + List.length ([(y_311 ++ ([(-(1 : Int))] : List Int))] : List (List Int)) < BIG) (gd (List.length ((cutL web none (some z_277.1)) ++ ([(y_311 ++ ([(-(1 : Int))] : List Int))] : List (List Int))) + List.length (cutL web (some (z_277.1 + (1 : Int))) none) < BIG) ((m__law_same_rows (setI web z_277.1 (y_287 ++ [(-(1 : Int))])) (((cutL web none (some z_277.1)) ++ ([(y_311 ++ ([(-(1 : Int))] : List Int))] : List (List Int))) ++ (cutL web (some (z_277.1 + (1 : Int))) none))).bind fun y_366 => (if (!y_366) = true then (some (Out.rt false)) else (some (Out.nx (z_277.2, (setI web z_277.1 (y_287 ++ [(-(1 : Int))])))))))))))))) else (some (Out.nx (d2, web)))) : Option (Out ((List Int) × (List (List Int))) Bool))) = some (.nx (d3, w3)) ∧ w3.length ≤ 90 := by
    by_cases hw : web = []
    · rw [if_neg (by simp [hw])]
      exact ⟨_, _, rfl, l2⟩
    · rw [if_pos (by simpa using hw)]
      have pos : 0 < web.length := List.length_pos_iff.mpr hw
      obtain ⟨q, d3, e3, q0, q1, k3⟩ := draw8 (many := (web.length : Int)) (by omega) (by omega) k2
      rw [e3]
      simp only [Option.bind_some]
      have at1 := atI_get q0 q1
      have inb : q.toNat < web.length := by omega
      have rl := (sm.2 _ (List.getElem_mem inb)).1
      rw [at1]
      simp only [Option.bind_some]
      rw [gd_of (by have := bigE; omega), gd_of (by have := bigE; simp only [List.length_cons, List.length_nil]; omega), cutL_to q0 (by omega), cutL_from (by omega) (by omega)]
      rw [gd_of (by have := bigE; simp only [List.length_cons, List.length_nil, List.length_take]; omega), gd_of (by have := bigE; simp only [List.length_append, List.length_cons, List.length_nil, List.length_take, List.length_drop]; omega)]
      rw [setI_get q0 q1, set_split web q.toNat inb, show (q + 1).toNat = q.toNat + 1 by omega]
      have len : (List.take q.toNat web ++ [web[q.toNat] ++ [-1]] ++ List.drop (q.toNat + 1) web).length ≤ 90 := by
        simp only [List.length_append, List.length_cons, List.length_nil, List.length_take, List.length_drop]
        omega
      rw [sr_ok (by omega) fun y hy => by
        rcases List.mem_append.mp hy with hy | hy
        · rcases List.mem_append.mp hy with hy | hy
          · exact ml y (List.mem_of_mem_take hy)
          · rw [List.mem_singleton.mp hy, List.length_append, List.length_cons, List.length_nil]
            omega
        · exact ml y (List.mem_of_mem_drop hy)]
      simp only [Option.bind_some, decide_true, Bool.not_true, Bool.false_eq_true, if_false]
      exact ⟨_, _, rfl, len⟩
  obtain ⟨d3, w3, e3, l3⟩ := key
  rw [e3]
  simp only [Option.bind_some, Out.fin]
  rw [gd_of (by have := bigE; omega)]
end Tw

namespace Tw
open PySem L2
theorem all_mk {l : PySem.W.OpenLaw} {w : World} {K : PySem.W.Frag} {h : Heap} {mg : Str → Option Value} {fa : Addr} (X : K.In h) (G : h.Ns mainGlobals mg) (hfa : mg "law" = some (.ref fa)) {t_MOST_DIGITS t_DIGITS : Tok}
    {f_is_integer : Addr} {od_is_integer an_is_integer : Option Addr} {sl_is_integer : Array (Option Value)} {oc_is_integer kV_is_integer dc_is_integer pm_is_integer cd_is_integer ct_is_integer : Value}
    {f_are_ties : Addr} {od_are_ties an_are_ties : Option Addr} {sl_are_ties : Array (Option Value)} {oc_are_ties kV_are_ties dc_are_ties pm_are_ties cd_are_ties ct_are_ties : Value}
    {f_is_web : Addr} {od_is_web an_is_web : Option Addr} {sl_is_web : Array (Option Value)} {oc_is_web kV_is_web dc_is_web pm_is_web cd_is_web ct_is_web : Value}
    {f_read_number : Addr} {od_read_number an_read_number : Option Addr} {sl_read_number : Array (Option Value)} {oc_read_number kV_read_number dc_read_number pm_read_number cd_read_number ct_read_number : Value}
    {f_read_ties : Addr} {od_read_ties an_read_ties : Option Addr} {sl_read_ties : Array (Option Value)} {oc_read_ties kV_read_ties dc_read_ties pm_read_ties cd_read_ties ct_read_ties : Value}
    {f_show_ties : Addr} {od_show_ties an_show_ties : Option Addr} {sl_show_ties : Array (Option Value)} {oc_show_ties kV_show_ties dc_show_ties pm_show_ties cd_show_ties ct_show_ties : Value}
    {f_show_web : Addr} {od_show_web an_show_web : Option Addr} {sl_show_web : Array (Option Value)} {oc_show_web kV_show_web dc_show_web pm_show_web cd_show_web ct_show_web : Value}
    {f_read_web : Addr} {od_read_web an_read_web : Option Addr} {sl_read_web : Array (Option Value)} {oc_read_web kV_read_web dc_read_web pm_read_web cd_read_web ct_read_web : Value}
    {f__law_deck : Addr} {od__law_deck an__law_deck : Option Addr} {sl__law_deck : Array (Option Value)} {oc__law_deck kV__law_deck dc__law_deck pm__law_deck cd__law_deck ct__law_deck : Value}
    {f__law_draw : Addr} {od__law_draw an__law_draw : Option Addr} {sl__law_draw : Array (Option Value)} {oc__law_draw kV__law_draw dc__law_draw pm__law_draw cd__law_draw ct__law_draw : Value}
    {f__law_is_integer : Addr} {od__law_is_integer an__law_is_integer : Option Addr} {sl__law_is_integer : Array (Option Value)} {oc__law_is_integer kV__law_is_integer dc__law_is_integer pm__law_is_integer cd__law_is_integer ct__law_is_integer : Value}
    {f__law_same_list : Addr} {od__law_same_list an__law_same_list : Option Addr} {sl__law_same_list : Array (Option Value)} {oc__law_same_list kV__law_same_list dc__law_same_list pm__law_same_list cd__law_same_list ct__law_same_list : Value}
    {f__law_same_rows : Addr} {od__law_same_rows an__law_same_rows : Option Addr} {sl__law_same_rows : Array (Option Value)} {oc__law_same_rows kV__law_same_rows dc__law_same_rows pm__law_same_rows cd__law_same_rows ct__law_same_rows : Value}
    {f__law_text : Addr} {od__law_text an__law_text : Option Addr} {sl__law_text : Array (Option Value)} {oc__law_text kV__law_text dc__law_text pm__law_text cd__law_text ct__law_text : Value}
    {f__law_dense_web : Addr} {od__law_dense_web an__law_dense_web : Option Addr} {sl__law_dense_web : Array (Option Value)} {oc__law_dense_web kV__law_dense_web dc__law_dense_web pm__law_dense_web cd__law_dense_web ct__law_dense_web : Value}
    {f__law_web : Addr} {od__law_web an__law_web : Option Addr} {sl__law_web : Array (Option Value)} {oc__law_web kV__law_web dc__law_web pm__law_web cd__law_web ct__law_web : Value}
    {f_law : Addr} {od_law an_law : Option Addr} {sl_law : Array (Option Value)} {oc_law kV_law dc_law pm_law cd_law ct_law : Value}
    (z_MOST_DIGITS : PySem.W.nsIn K mainGlobals "MOST_DIGITS" = some (some (Value.int (30 : Int) t_MOST_DIGITS)))
    (z_DIGITS : PySem.W.nsIn K mainGlobals "DIGITS" = some (some (Value.str ("0123456789" : Str) t_DIGITS)))
    (n_int : PySem.W.nsIn K mainGlobals "int" = some none)
    (n_isinstance : PySem.W.nsIn K mainGlobals "isinstance" = some none)
    (n_bool : PySem.W.nsIn K mainGlobals "bool" = some none)
    (n_list : PySem.W.nsIn K mainGlobals "list" = some none)
    (n_enumerate : PySem.W.nsIn K mainGlobals "enumerate" = some none)
    (n_len : PySem.W.nsIn K mainGlobals "len" = some none)
    (n_str : PySem.W.nsIn K mainGlobals "str" = some none)
    (n_range : PySem.W.nsIn K mainGlobals "range" = some none)
    (n_all : PySem.W.nsIn K mainGlobals "all" = some none)
    (n_max : PySem.W.nsIn K mainGlobals "max" = some none)
    (n_set : PySem.W.nsIn K mainGlobals "set" = some none)
    (n_sorted : PySem.W.nsIn K mainGlobals "sorted" = some none)
    (n_min : PySem.W.nsIn K mainGlobals "min" = some none)
    (a_is_integer : PySem.W.nsIn K mainGlobals "is_integer" = some (some (.ref f_is_integer)))
    (l_is_integer : K.lookup f_is_integer = some ⟨oc_is_integer, od_is_integer, .func (PySem.W.fnOf "is_integer" "is_integer" (defArgs s_is_integer) (defBody s_is_integer) (defScope s_is_integer) .none kV_is_integer dc_is_integer pm_is_integer an_is_integer cd_is_integer ct_is_integer), sl_is_integer⟩)
    (c_is_integer : PySem.W.codeIn K cd_is_integer "is_integer" = true)
    (k_is_integer : PySem.W.keepIn K (.ref f_is_integer) = true)
    (a_are_ties : PySem.W.nsIn K mainGlobals "are_ties" = some (some (.ref f_are_ties)))
    (l_are_ties : K.lookup f_are_ties = some ⟨oc_are_ties, od_are_ties, .func (PySem.W.fnOf "are_ties" "are_ties" (defArgs s_are_ties) (defBody s_are_ties) (defScope s_are_ties) .none kV_are_ties dc_are_ties pm_are_ties an_are_ties cd_are_ties ct_are_ties), sl_are_ties⟩)
    (c_are_ties : PySem.W.codeIn K cd_are_ties "are_ties" = true)
    (k_are_ties : PySem.W.keepIn K (.ref f_are_ties) = true)
    (a_is_web : PySem.W.nsIn K mainGlobals "is_web" = some (some (.ref f_is_web)))
    (l_is_web : K.lookup f_is_web = some ⟨oc_is_web, od_is_web, .func (PySem.W.fnOf "is_web" "is_web" (defArgs s_is_web) (defBody s_is_web) (defScope s_is_web) .none kV_is_web dc_is_web pm_is_web an_is_web cd_is_web ct_is_web), sl_is_web⟩)
    (c_is_web : PySem.W.codeIn K cd_is_web "is_web" = true)
    (k_is_web : PySem.W.keepIn K (.ref f_is_web) = true)
    (a_read_number : PySem.W.nsIn K mainGlobals "read_number" = some (some (.ref f_read_number)))
    (l_read_number : K.lookup f_read_number = some ⟨oc_read_number, od_read_number, .func (PySem.W.fnOf "read_number" "read_number" (defArgs s_read_number) (defBody s_read_number) (defScope s_read_number) .none kV_read_number dc_read_number pm_read_number an_read_number cd_read_number ct_read_number), sl_read_number⟩)
    (c_read_number : PySem.W.codeIn K cd_read_number "read_number" = true)
    (k_read_number : PySem.W.keepIn K (.ref f_read_number) = true)
    (a_read_ties : PySem.W.nsIn K mainGlobals "read_ties" = some (some (.ref f_read_ties)))
    (l_read_ties : K.lookup f_read_ties = some ⟨oc_read_ties, od_read_ties, .func (PySem.W.fnOf "read_ties" "read_ties" (defArgs s_read_ties) (defBody s_read_ties) (defScope s_read_ties) .none kV_read_ties dc_read_ties pm_read_ties an_read_ties cd_read_ties ct_read_ties), sl_read_ties⟩)
    (c_read_ties : PySem.W.codeIn K cd_read_ties "read_ties" = true)
    (k_read_ties : PySem.W.keepIn K (.ref f_read_ties) = true)
    (a_show_ties : PySem.W.nsIn K mainGlobals "show_ties" = some (some (.ref f_show_ties)))
    (l_show_ties : K.lookup f_show_ties = some ⟨oc_show_ties, od_show_ties, .func (PySem.W.fnOf "show_ties" "show_ties" (defArgs s_show_ties) (defBody s_show_ties) (defScope s_show_ties) .none kV_show_ties dc_show_ties pm_show_ties an_show_ties cd_show_ties ct_show_ties), sl_show_ties⟩)
    (c_show_ties : PySem.W.codeIn K cd_show_ties "show_ties" = true)
    (k_show_ties : PySem.W.keepIn K (.ref f_show_ties) = true)
    (a_show_web : PySem.W.nsIn K mainGlobals "show_web" = some (some (.ref f_show_web)))
    (l_show_web : K.lookup f_show_web = some ⟨oc_show_web, od_show_web, .func (PySem.W.fnOf "show_web" "show_web" (defArgs s_show_web) (defBody s_show_web) (defScope s_show_web) .none kV_show_web dc_show_web pm_show_web an_show_web cd_show_web ct_show_web), sl_show_web⟩)
    (c_show_web : PySem.W.codeIn K cd_show_web "show_web" = true)
    (k_show_web : PySem.W.keepIn K (.ref f_show_web) = true)
    (a_read_web : PySem.W.nsIn K mainGlobals "read_web" = some (some (.ref f_read_web)))
    (l_read_web : K.lookup f_read_web = some ⟨oc_read_web, od_read_web, .func (PySem.W.fnOf "read_web" "read_web" (defArgs s_read_web) (defBody s_read_web) (defScope s_read_web) .none kV_read_web dc_read_web pm_read_web an_read_web cd_read_web ct_read_web), sl_read_web⟩)
    (c_read_web : PySem.W.codeIn K cd_read_web "read_web" = true)
    (k_read_web : PySem.W.keepIn K (.ref f_read_web) = true)
    (a__law_deck : PySem.W.nsIn K mainGlobals "_law_deck" = some (some (.ref f__law_deck)))
    (l__law_deck : K.lookup f__law_deck = some ⟨oc__law_deck, od__law_deck, .func (PySem.W.fnOf "_law_deck" "_law_deck" (defArgs s__law_deck) (defBody s__law_deck) (defScope s__law_deck) .none kV__law_deck dc__law_deck pm__law_deck an__law_deck cd__law_deck ct__law_deck), sl__law_deck⟩)
    (c__law_deck : PySem.W.codeIn K cd__law_deck "_law_deck" = true)
    (k__law_deck : PySem.W.keepIn K (.ref f__law_deck) = true)
    (a__law_draw : PySem.W.nsIn K mainGlobals "_law_draw" = some (some (.ref f__law_draw)))
    (l__law_draw : K.lookup f__law_draw = some ⟨oc__law_draw, od__law_draw, .func (PySem.W.fnOf "_law_draw" "_law_draw" (defArgs s__law_draw) (defBody s__law_draw) (defScope s__law_draw) .none kV__law_draw dc__law_draw pm__law_draw an__law_draw cd__law_draw ct__law_draw), sl__law_draw⟩)
    (c__law_draw : PySem.W.codeIn K cd__law_draw "_law_draw" = true)
    (k__law_draw : PySem.W.keepIn K (.ref f__law_draw) = true)
    (a__law_is_integer : PySem.W.nsIn K mainGlobals "_law_is_integer" = some (some (.ref f__law_is_integer)))
    (l__law_is_integer : K.lookup f__law_is_integer = some ⟨oc__law_is_integer, od__law_is_integer, .func (PySem.W.fnOf "_law_is_integer" "_law_is_integer" (defArgs s__law_is_integer) (defBody s__law_is_integer) (defScope s__law_is_integer) .none kV__law_is_integer dc__law_is_integer pm__law_is_integer an__law_is_integer cd__law_is_integer ct__law_is_integer), sl__law_is_integer⟩)
    (c__law_is_integer : PySem.W.codeIn K cd__law_is_integer "_law_is_integer" = true)
    (k__law_is_integer : PySem.W.keepIn K (.ref f__law_is_integer) = true)
    (a__law_same_list : PySem.W.nsIn K mainGlobals "_law_same_list" = some (some (.ref f__law_same_list)))
    (l__law_same_list : K.lookup f__law_same_list = some ⟨oc__law_same_list, od__law_same_list, .func (PySem.W.fnOf "_law_same_list" "_law_same_list" (defArgs s__law_same_list) (defBody s__law_same_list) (defScope s__law_same_list) .none kV__law_same_list dc__law_same_list pm__law_same_list an__law_same_list cd__law_same_list ct__law_same_list), sl__law_same_list⟩)
    (c__law_same_list : PySem.W.codeIn K cd__law_same_list "_law_same_list" = true)
    (k__law_same_list : PySem.W.keepIn K (.ref f__law_same_list) = true)
    (a__law_same_rows : PySem.W.nsIn K mainGlobals "_law_same_rows" = some (some (.ref f__law_same_rows)))
    (l__law_same_rows : K.lookup f__law_same_rows = some ⟨oc__law_same_rows, od__law_same_rows, .func (PySem.W.fnOf "_law_same_rows" "_law_same_rows" (defArgs s__law_same_rows) (defBody s__law_same_rows) (defScope s__law_same_rows) .none kV__law_same_rows dc__law_same_rows pm__law_same_rows an__law_same_rows cd__law_same_rows ct__law_same_rows), sl__law_same_rows⟩)
    (c__law_same_rows : PySem.W.codeIn K cd__law_same_rows "_law_same_rows" = true)
    (k__law_same_rows : PySem.W.keepIn K (.ref f__law_same_rows) = true)
    (a__law_text : PySem.W.nsIn K mainGlobals "_law_text" = some (some (.ref f__law_text)))
    (l__law_text : K.lookup f__law_text = some ⟨oc__law_text, od__law_text, .func (PySem.W.fnOf "_law_text" "_law_text" (defArgs s__law_text) (defBody s__law_text) (defScope s__law_text) .none kV__law_text dc__law_text pm__law_text an__law_text cd__law_text ct__law_text), sl__law_text⟩)
    (c__law_text : PySem.W.codeIn K cd__law_text "_law_text" = true)
    (k__law_text : PySem.W.keepIn K (.ref f__law_text) = true)
    (a__law_dense_web : PySem.W.nsIn K mainGlobals "_law_dense_web" = some (some (.ref f__law_dense_web)))
    (l__law_dense_web : K.lookup f__law_dense_web = some ⟨oc__law_dense_web, od__law_dense_web, .func (PySem.W.fnOf "_law_dense_web" "_law_dense_web" (defArgs s__law_dense_web) (defBody s__law_dense_web) (defScope s__law_dense_web) .none kV__law_dense_web dc__law_dense_web pm__law_dense_web an__law_dense_web cd__law_dense_web ct__law_dense_web), sl__law_dense_web⟩)
    (c__law_dense_web : PySem.W.codeIn K cd__law_dense_web "_law_dense_web" = true)
    (k__law_dense_web : PySem.W.keepIn K (.ref f__law_dense_web) = true)
    (a__law_web : PySem.W.nsIn K mainGlobals "_law_web" = some (some (.ref f__law_web)))
    (l__law_web : K.lookup f__law_web = some ⟨oc__law_web, od__law_web, .func (PySem.W.fnOf "_law_web" "_law_web" (defArgs s__law_web) (defBody s__law_web) (defScope s__law_web) .none kV__law_web dc__law_web pm__law_web an__law_web cd__law_web ct__law_web), sl__law_web⟩)
    (c__law_web : PySem.W.codeIn K cd__law_web "_law_web" = true)
    (k__law_web : PySem.W.keepIn K (.ref f__law_web) = true)
    (a_law : PySem.W.nsIn K mainGlobals "law" = some (some (.ref f_law)))
    (l_law : K.lookup f_law = some ⟨oc_law, od_law, .func (PySem.W.fnOf "law" "law" (defArgs s_law) (defBody s_law) (defScope s_law) .none kV_law dc_law pm_law an_law cd_law ct_law), sl_law⟩)
    (c_law : PySem.W.codeIn K cd_law "law" = true)
    (k_law : PySem.W.keepIn K (.ref f_law) = true) :
    ∃ fd : FuncData, (∀ (s : Shared) (v : Value), BindsTo s fd ⟨[v], []⟩ [("script", v)]) ∧ ∀ base : Heap, K.In base → base.Ns mainGlobals mg → FnOk l.prog w K mg base CX0 11 fa fd ["script"] (sp_law71 K) := by
  have e := hfa.symm.trans (PySem.W.mg_of X G a_law)
  have e2 : f_law = fa := by
    cases e
    rfl
  subst e2
  have F_is_integer := fun_mk (st := s_is_integer) l_is_integer c_is_integer k_is_integer
  have F_are_ties := fun_mk (st := s_are_ties) l_are_ties c_are_ties k_are_ties
  have F_is_web := fun_mk (st := s_is_web) l_is_web c_is_web k_is_web
  have F_read_number := fun_mk (st := s_read_number) l_read_number c_read_number k_read_number
  have F_read_ties := fun_mk (st := s_read_ties) l_read_ties c_read_ties k_read_ties
  have F_show_ties := fun_mk (st := s_show_ties) l_show_ties c_show_ties k_show_ties
  have F_show_web := fun_mk (st := s_show_web) l_show_web c_show_web k_show_web
  have F_read_web := fun_mk (st := s_read_web) l_read_web c_read_web k_read_web
  have F__law_deck := fun_mk (st := s__law_deck) l__law_deck c__law_deck k__law_deck
  have F__law_draw := fun_mk (st := s__law_draw) l__law_draw c__law_draw k__law_draw
  have F__law_is_integer := fun_mk (st := s__law_is_integer) l__law_is_integer c__law_is_integer k__law_is_integer
  have F__law_same_list := fun_mk (st := s__law_same_list) l__law_same_list c__law_same_list k__law_same_list
  have F__law_same_rows := fun_mk (st := s__law_same_rows) l__law_same_rows c__law_same_rows k__law_same_rows
  have F__law_text := fun_mk (st := s__law_text) l__law_text c__law_text k__law_text
  have F__law_dense_web := fun_mk (st := s__law_dense_web) l__law_dense_web c__law_dense_web k__law_dense_web
  have F__law_web := fun_mk (st := s__law_web) l__law_web c__law_web k__law_web
  have F_law := fun_mk (st := s_law) l_law c_law k_law
  let T : Env K mg := {
    f_is_integer := f_is_integer
    d_is_integer := _
    F_is_integer := F_is_integer
    g_is_integer := PySem.W.mg_of X G a_is_integer
    b_is_integer := F_is_integer.binds (ps := ["value"]) fun _ _ _ _ _ _ us hl => match us, hl with | [_], _ => rfl
    f_are_ties := f_are_ties
    d_are_ties := _
    F_are_ties := F_are_ties
    g_are_ties := PySem.W.mg_of X G a_are_ties
    b_are_ties := F_are_ties.binds (ps := ["value", "size"]) fun _ _ _ _ _ _ us hl => match us, hl with | [_, _], _ => rfl
    f_is_web := f_is_web
    d_is_web := _
    F_is_web := F_is_web
    g_is_web := PySem.W.mg_of X G a_is_web
    b_is_web := F_is_web.binds (ps := ["value"]) fun _ _ _ _ _ _ us hl => match us, hl with | [_], _ => rfl
    f_read_number := f_read_number
    d_read_number := _
    F_read_number := F_read_number
    g_read_number := PySem.W.mg_of X G a_read_number
    b_read_number := F_read_number.binds (ps := ["word"]) fun _ _ _ _ _ _ us hl => match us, hl with | [_], _ => rfl
    f_read_ties := f_read_ties
    d_read_ties := _
    F_read_ties := F_read_ties
    g_read_ties := PySem.W.mg_of X G a_read_ties
    b_read_ties := F_read_ties.binds (ps := ["word"]) fun _ _ _ _ _ _ us hl => match us, hl with | [_], _ => rfl
    f_show_ties := f_show_ties
    d_show_ties := _
    F_show_ties := F_show_ties
    g_show_ties := PySem.W.mg_of X G a_show_ties
    b_show_ties := F_show_ties.binds (ps := ["ties"]) fun _ _ _ _ _ _ us hl => match us, hl with | [_], _ => rfl
    f_show_web := f_show_web
    d_show_web := _
    F_show_web := F_show_web
    g_show_web := PySem.W.mg_of X G a_show_web
    b_show_web := F_show_web.binds (ps := ["web"]) fun _ _ _ _ _ _ us hl => match us, hl with | [_], _ => rfl
    f_read_web := f_read_web
    d_read_web := _
    F_read_web := F_read_web
    g_read_web := PySem.W.mg_of X G a_read_web
    b_read_web := F_read_web.binds (ps := ["text"]) fun _ _ _ _ _ _ us hl => match us, hl with | [_], _ => rfl
    f__law_deck := f__law_deck
    d__law_deck := _
    F__law_deck := F__law_deck
    g__law_deck := PySem.W.mg_of X G a__law_deck
    b__law_deck := F__law_deck.binds (ps := ["script", "at"]) fun _ _ _ _ _ _ us hl => match us, hl with | [_, _], _ => rfl
    f__law_draw := f__law_draw
    d__law_draw := _
    F__law_draw := F__law_draw
    g__law_draw := PySem.W.mg_of X G a__law_draw
    b__law_draw := F__law_draw.binds (ps := ["deck", "many"]) fun _ _ _ _ _ _ us hl => match us, hl with | [_, _], _ => rfl
    f__law_is_integer := f__law_is_integer
    d__law_is_integer := _
    F__law_is_integer := F__law_is_integer
    g__law_is_integer := PySem.W.mg_of X G a__law_is_integer
    b__law_is_integer := F__law_is_integer.binds (ps := ["value"]) fun _ _ _ _ _ _ us hl => match us, hl with | [_], _ => rfl
    f__law_same_list := f__law_same_list
    d__law_same_list := _
    F__law_same_list := F__law_same_list
    g__law_same_list := PySem.W.mg_of X G a__law_same_list
    b__law_same_list := F__law_same_list.binds (ps := ["value", "due"]) fun _ _ _ _ _ _ us hl => match us, hl with | [_, _], _ => rfl
    f__law_same_rows := f__law_same_rows
    d__law_same_rows := _
    F__law_same_rows := F__law_same_rows
    g__law_same_rows := PySem.W.mg_of X G a__law_same_rows
    b__law_same_rows := F__law_same_rows.binds (ps := ["value", "due"]) fun _ _ _ _ _ _ us hl => match us, hl with | [_, _], _ => rfl
    f__law_text := f__law_text
    d__law_text := _
    F__law_text := F__law_text
    g__law_text := PySem.W.mg_of X G a__law_text
    b__law_text := F__law_text.binds (ps := ["web"]) fun _ _ _ _ _ _ us hl => match us, hl with | [_], _ => rfl
    f__law_dense_web := f__law_dense_web
    d__law_dense_web := _
    F__law_dense_web := F__law_dense_web
    g__law_dense_web := PySem.W.mg_of X G a__law_dense_web
    b__law_dense_web := F__law_dense_web.binds (ps := ["deck"]) fun _ _ _ _ _ _ us hl => match us, hl with | [_], _ => rfl
    f__law_web := f__law_web
    d__law_web := _
    F__law_web := F__law_web
    g__law_web := PySem.W.mg_of X G a__law_web
    b__law_web := F__law_web.binds (ps := ["deck", "most"]) fun _ _ _ _ _ _ us hl => match us, hl with | [_, _], _ => rfl
    f_law := f_law
    d_law := _
    F_law := F_law
    g_law := PySem.W.mg_of X G a_law
    b_law := F_law.binds (ps := ["script"]) fun _ _ _ _ _ _ us hl => match us, hl with | [_], _ => rfl
    t_MOST_DIGITS := t_MOST_DIGITS
    z_MOST_DIGITS := PySem.W.mg_of X G z_MOST_DIGITS
    t_DIGITS := t_DIGITS
    z_DIGITS := PySem.W.mg_of X G z_DIGITS
    n_int := PySem.W.mg_none_of X G n_int
    n_isinstance := PySem.W.mg_none_of X G n_isinstance
    n_bool := PySem.W.mg_none_of X G n_bool
    n_list := PySem.W.mg_none_of X G n_list
    n_enumerate := PySem.W.mg_none_of X G n_enumerate
    n_len := PySem.W.mg_none_of X G n_len
    n_str := PySem.W.mg_none_of X G n_str
    n_range := PySem.W.mg_none_of X G n_range
    n_all := PySem.W.mg_none_of X G n_all
    n_max := PySem.W.mg_none_of X G n_max
    n_set := PySem.W.mg_none_of X G n_set
    n_sorted := PySem.W.mg_none_of X G n_sorted
    n_min := PySem.W.mg_none_of X G n_min }
  exact ⟨PySem.W.fnOf "law" "law" (defArgs s_law) (defBody s_law) (defScope s_law) .none kV_law dc_law pm_law an_law cd_law ct_law, fun s v => .of_eq rfl, fun base _ _ => ok_law71 T⟩
theorem walkT {l : PySem.W.OpenLaw} {q : Program} {loose : List Str} {XP : (Str → Option Value) → Heap → Prop} {YP : World → Heap → Prop} {d : DefRec} {K : Params → PySem.W.Frag} (hn : l.most = some 63) (hdf : d.params.defaults = [])
    (hY : ∀ (w : World) (h : Heap), YP w h → (K w.params).In h) (F : ∀ (w : World) (mg : Str → Option Value) (fa : Addr) (h : Heap), (K w.params).In h → h.Ns mainGlobals mg → mg d.name = some (.ref fa) →
      ∃ fd : FuncData, (∀ (s : Shared) (u : Value), BindsTo s fd ⟨[u], []⟩ [("script", u)]) ∧ ∀ base : Heap, (K w.params).In base → base.Ns mainGlobals mg → FnOk l.prog w (K w.params) mg base CX0 11 fa fd ["script"] (sp_law71 (K w.params))) :
    PySem.W.WalkO q loose XP YP l.row.toRowW d [] (fun f vs => PySem.call f vs) :=
  L2.walk_of (n := 63) (k := 11) (x := "script") (CX := fun _ => CX0) (sp := fun w => sp_law71 (K w.params)) hn (by decide) hdf ⟨rfl, by decide, by decide⟩ hY F (fun _ H a ns _ _ hS => ⟨H, a, ns, true, rfl, Ex.refl _, hS, law71_ok ns, fun _ _ _ => rfl⟩) fun _ _ _ _ _ z => z
end Tw

open PySem PySem.W PyProof.Rows in
set_option maxRecDepth 100000 in
set_option maxHeartbeats 0 in
theorem PySem.Challenge.cw_tintonce_k71_texts_of_webs_holds : PySem.Challenge.rw_tintonce_k71_texts_of_webs.Holds := by
  w_on; o_law; k_head; (case hw => w_witness2)
  k_fill
  refine Tw.walkT (l := PySem.Challenge.rw_tintonce_k71_texts_of_webs) rfl rfl (fun w h Y => PySem.W.kIn_of Y) ?F
  case F =>
    intro w mg fa h KX G hmg
    refine' Tw.all_mk KX G hmg ?z_MOST_DIGITS ?z_DIGITS ?n_int ?n_isinstance ?n_bool ?n_list ?n_enumerate ?n_len ?n_str ?n_range ?n_all ?n_max ?n_set ?n_sorted ?n_min ?a_is_integer ?l_is_integer ?c_is_integer ?k_is_integer ?a_are_ties ?l_are_ties ?c_are_ties ?k_are_ties ?a_is_web ?l_is_web ?c_is_web ?k_is_web ?a_read_number ?l_read_number ?c_read_number ?k_read_number ?a_read_ties ?l_read_ties ?c_read_ties ?k_read_ties ?a_show_ties ?l_show_ties ?c_show_ties ?k_show_ties ?a_show_web ?l_show_web ?c_show_web ?k_show_web ?a_read_web ?l_read_web ?c_read_web ?k_read_web ?a__law_deck ?l__law_deck ?c__law_deck ?k__law_deck ?a__law_draw ?l__law_draw ?c__law_draw ?k__law_draw ?a__law_is_integer ?l__law_is_integer ?c__law_is_integer ?k__law_is_integer ?a__law_same_list ?l__law_same_list ?c__law_same_list ?k__law_same_list ?a__law_same_rows ?l__law_same_rows ?c__law_same_rows ?k__law_same_rows ?a__law_text ?l__law_text ?c__law_text ?k__law_text ?a__law_dense_web ?l__law_dense_web ?c__law_dense_web ?k__law_dense_web ?a__law_web ?l__law_web ?c__law_web ?k__law_web ?a_law ?l_law ?c_law ?k_law
    (case z_MOST_DIGITS => k_is)
    (case z_DIGITS => k_is)
    (case n_int => k_is)
    (case n_isinstance => k_is)
    (case n_bool => k_is)
    (case n_list => k_is)
    (case n_enumerate => k_is)
    (case n_len => k_is)
    (case n_str => k_is)
    (case n_range => k_is)
    (case n_all => k_is)
    (case n_max => k_is)
    (case n_set => k_is)
    (case n_sorted => k_is)
    (case n_min => k_is)
    (case a_is_integer => k_is)
    (case l_is_integer => k_is)
    (case c_is_integer => k_is)
    (case k_is_integer => k_is)
    (case a_are_ties => k_is)
    (case l_are_ties => k_is)
    (case c_are_ties => k_is)
    (case k_are_ties => k_is)
    (case a_is_web => k_is)
    (case l_is_web => k_is)
    (case c_is_web => k_is)
    (case k_is_web => k_is)
    (case a_read_number => k_is)
    (case l_read_number => k_is)
    (case c_read_number => k_is)
    (case k_read_number => k_is)
    (case a_read_ties => k_is)
    (case l_read_ties => k_is)
    (case c_read_ties => k_is)
    (case k_read_ties => k_is)
    (case a_show_ties => k_is)
    (case l_show_ties => k_is)
    (case c_show_ties => k_is)
    (case k_show_ties => k_is)
    (case a_show_web => k_is)
    (case l_show_web => k_is)
    (case c_show_web => k_is)
    (case k_show_web => k_is)
    (case a_read_web => k_is)
    (case l_read_web => k_is)
    (case c_read_web => k_is)
    (case k_read_web => k_is)
    (case a__law_deck => k_is)
    (case l__law_deck => k_is)
    (case c__law_deck => k_is)
    (case k__law_deck => k_is)
    (case a__law_draw => k_is)
    (case l__law_draw => k_is)
    (case c__law_draw => k_is)
    (case k__law_draw => k_is)
    (case a__law_is_integer => k_is)
    (case l__law_is_integer => k_is)
    (case c__law_is_integer => k_is)
    (case k__law_is_integer => k_is)
    (case a__law_same_list => k_is)
    (case l__law_same_list => k_is)
    (case c__law_same_list => k_is)
    (case k__law_same_list => k_is)
    (case a__law_same_rows => k_is)
    (case l__law_same_rows => k_is)
    (case c__law_same_rows => k_is)
    (case k__law_same_rows => k_is)
    (case a__law_text => k_is)
    (case l__law_text => k_is)
    (case c__law_text => k_is)
    (case k__law_text => k_is)
    (case a__law_dense_web => k_is)
    (case l__law_dense_web => k_is)
    (case c__law_dense_web => k_is)
    (case k__law_dense_web => k_is)
    (case a__law_web => k_is)
    (case l__law_web => k_is)
    (case c__law_web => k_is)
    (case k__law_web => k_is)
    (case a_law => k_is)
    (case l_law => k_is)
    (case c_law => k_is)
    (case k_law => k_is)
