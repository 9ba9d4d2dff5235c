import PyProof.Rows.All
import HandS.Deep
import HandS.Evl
import HandS.Exc
import HandS.ExcOwn
import HandS.ForExc
import HandS.ForMost
import HandS.IsInst
import HandS.New0
import HandS.SetFor
import HandS.SetIn
import HandS.SortInts
import HandS.Strs
import HandS.Text
import HandS.TryOnly
import HandS.Walk
import HandS.Wide
import HandS.WordsExc
import OpenK.AllK
import PyProof.MinMaxWalk
import PyProof.WalkInts
import Wide.All
import Wide.FinOn
import PySem.Challenge.RW_tintonce_k72_texts_of_colours
set_option Elab.async false
set_option linter.all false
set_option maxRecDepth 100000
set_option maxHeartbeats 4000000
/-! Tw: typed readings. A heap H, the part G of it that never changes any more, the mutable roots M. -/
namespace Tw
open PySem L2

/-! ### extension of heaps -/
def Ex (H H' : Hp) : Prop := ∀ a o, H a = some o → H' a = some o
theorem Ex.refl (H : Hp) : Ex H H := fun _ _ h => h
theorem Ex.trans {H H1 H2 : Hp} (a : Ex H H1) (b : Ex H1 H2) : Ex H H2 := fun x o h => b x o (a x o h)
theorem Ex.new {H : Hp} {p : Addr} {o : HO} (h : H p = none) : Ex H (upd H p o) := fun a u e => by
  rw [upd_ne (ne_of_none e h)]
  exact e
theorem Ex.free {H H' : Hp} {p : Addr} (e : Ex H H') (h : H' p = none) : H p = none := by
  cases h1 : H p with
  | none => rfl
  | some o =>
    rw [e p o h1] at h
    cases h
theorem ex_rd {H H' : Hp} {a : Addr} {u : HO} (e : Ex H H') (h : Rd H a u) : Rd H' a u := by
  rcases h with h | ⟨o, h⟩
  · exact Or.inl (e a _ h)
  · exact Or.inr ⟨o, e a _ h⟩
theorem ex_l {K : PySem.W.Frag} {H H' : Hp} {a : Addr} {xs : List V} (e : Ex H H') (h : SqL K H a xs) : SqL K H' a xs := by
  rcases h with h | h
  · exact Or.inl (ex_rd e h)
  · exact Or.inr h
theorem ex_t {K : PySem.W.Frag} {H H' : Hp} {a : Addr} {xs : List V} (e : Ex H H') (h : SqT K H a xs) : SqT K H' a xs := by
  rcases h with h | h
  · exact Or.inl (ex_rd e h)
  · exact Or.inr h

/-! ### lists item by item -/
inductive A2 {α β : Type} (F : α → β → Prop) : List α → List β → Prop where
  | nil : A2 F [] []
  | cons {x y xs ys} (h : F x y) (t : A2 F xs ys) : A2 F (x :: xs) (y :: ys)
section
variable {α β : Type} {F F' : α → β → Prop}
theorem A2.len : ∀ {xs : List α} {ys : List β}, A2 F xs ys → xs.length = ys.length
  | _, _, .nil => rfl
  | _, _, .cons _ t => by rw [List.length_cons, List.length_cons, t.len]
theorem A2.imp (f : ∀ x y, F x y → F' x y) : ∀ {xs : List α} {ys : List β}, A2 F xs ys → A2 F' xs ys
  | _, _, .nil => .nil
  | _, _, .cons h t => .cons (f _ _ h) (t.imp f)
theorem A2.get : ∀ {xs : List α} {ys : List β} {i : Nat} {y : β}, A2 F xs ys → ys[i]? = some y → ∃ x, xs[i]? = some x ∧ F x y
  | _, _, i, _, .nil, e => by simp at e
  | _, _, 0, _, .cons h _, e => by
    simp only [List.getElem?_cons_zero, Option.some.injEq] at e
    subst e
    exact ⟨_, rfl, h⟩
  | _, _, i + 1, _, .cons _ t, e => by
    obtain ⟨x, h1, h2⟩ := A2.get t (by simpa using e)
    exact ⟨x, by simpa using h1, h2⟩
theorem A2.get' : ∀ {xs : List α} {ys : List β} {i : Nat} {x : α}, A2 F xs ys → xs[i]? = some x → ∃ y, ys[i]? = some y ∧ F x y
  | _, _, i, _, .nil, e => by simp at e
  | _, _, 0, _, .cons h _, e => by
    simp only [List.getElem?_cons_zero, Option.some.injEq] at e
    subst e
    exact ⟨_, rfl, h⟩
  | _, _, i + 1, _, .cons _ t, e => by
    obtain ⟨x, h1, h2⟩ := A2.get' t (by simpa using e)
    exact ⟨x, by simpa using h1, h2⟩
theorem A2.app : ∀ {xs xs' : List α} {ys ys' : List β}, A2 F xs ys → A2 F xs' ys' → A2 F (xs ++ xs') (ys ++ ys')
  | _, _, _, _, .nil, h => h
  | _, _, _, _, .cons h t, h' => .cons h (t.app h')
theorem A2.one {x : α} {y : β} (h : F x y) : A2 F [x] [y] := .cons h .nil
theorem A2.take : ∀ {xs : List α} {ys : List β} (n : Nat), A2 F xs ys → A2 F (xs.take n) (ys.take n)
  | _, _, 0, _ => .nil
  | _, _, _ + 1, .nil => .nil
  | _, _, n + 1, .cons h t => .cons h (t.take n)
theorem A2.drop : ∀ {xs : List α} {ys : List β} (n : Nat), A2 F xs ys → A2 F (xs.drop n) (ys.drop n)
  | _, _, 0, h => h
  | _, _, _ + 1, .nil => .nil
  | _, _, n + 1, .cons _ t => A2.drop n t
theorem A2.set : ∀ {xs : List α} {ys : List β} (n : Nat) {x : α} {y : β}, A2 F xs ys → F x y → A2 F (xs.set n x) (ys.set n y)
  | _, _, _, _, _, .nil, _ => .nil
  | _, _, 0, _, _, .cons _ t, h => .cons h t
  | _, _, n + 1, _, _, .cons h' t, h => .cons h' (t.set n h)
theorem A2.rev : ∀ {xs : List α} {ys : List β}, A2 F xs ys → A2 F xs.reverse ys.reverse
  | _, _, .nil => .nil
  | _, _, .cons h t => by
    rw [List.reverse_cons, List.reverse_cons]
    exact t.rev.app (.one h)
theorem A2.map {γ : Type} {f : β → α} (g : γ → β) (h : ∀ c, F (f (g c)) (g c)) : ∀ cs : List γ, A2 F (cs.map fun c => f (g c)) (cs.map g)
  | [] => .nil
  | c :: cs => .cons (h c) (A2.map g h cs)
theorem A2.mapL {f : β → α} (h : ∀ c, F (f c) c) : ∀ cs : List β, A2 F (cs.map f) cs
  | [] => .nil
  | c :: cs => .cons (h c) (A2.mapL h cs)
theorem A2.eqmap {f : β → α} (h : ∀ x c, F x c → x = f c) : ∀ {xs : List α} {cs : List β}, A2 F xs cs → xs = cs.map f
  | _, _, .nil => rfl
  | _, _, .cons e t => by rw [List.map_cons, h _ _ e, t.eqmap h]
theorem A2.all {p : α → Bool} (h : ∀ x c, F x c → p x = true) : ∀ {xs : List α} {cs : List β}, A2 F xs cs → xs.all p = true
  | _, _, .nil => rfl
  | _, _, .cons e t => by rw [List.all_cons, h _ _ e, t.all h]; rfl
theorem A2.rep {x : α} {y : β} (h : F x y) : ∀ n, A2 F (List.replicate n x) (List.replicate n y)
  | 0 => .nil
  | n + 1 => by
    rw [List.replicate_succ, List.replicate_succ]
    exact .cons h (A2.rep h n)
end

/-! ### how a value shows a datum -/
structure Rep (α : Type) where
  r : Hp → V → α → Prop
  mono : ∀ {G G' v x}, Ex G G' → r G v x → r G' v x
def rI : Rep Int := ⟨fun _ v x => v = .int x, fun _ h => h⟩
def rB : Rep Bool := ⟨fun _ v x => v = .bl x, fun _ h => h⟩
def rS : Rep Str := ⟨fun _ v x => v = .str x, fun _ h => h⟩
def rN : Rep Unit := ⟨fun _ v _ => v = .non, fun _ h => h⟩
def rO {α : Type} (ρ : Rep α) : Rep (Option α) := ⟨fun G v x => match x with | none => v = .non | some y => ρ.r G v y, fun {G G' v x} e h => by
  cases x with
  | none => exact h
  | some y => exact ρ.mono e h⟩
abbrev AL {α : Type} (ρ : Rep α) (G : Hp) : List V → List α → Prop := A2 (ρ.r G)
theorem AL.mono {α : Type} {ρ : Rep α} {G G' : Hp} {vs : List V} {xs : List α} (e : Ex G G') (h : AL ρ G vs xs) : AL ρ G' vs xs := A2.imp (fun _ _ => ρ.mono e) h
def rL {α : Type} (ρ : Rep α) : Rep (List α) := ⟨fun G v xs => ∃ a vs, v = .ref a ∧ G a = some (.lst vs) ∧ AL ρ G vs xs, fun e ⟨a, vs, h1, h2, h3⟩ => ⟨a, vs, h1, e a _ h2, h3.mono e⟩⟩
def rT2 {α β : Type} (ρ : Rep α) (τ : Rep β) : Rep (α × β) := ⟨fun G v x => ∃ a v1 v2, v = .ref a ∧ G a = some (.tup [v1, v2]) ∧ ρ.r G v1 x.1 ∧ τ.r G v2 x.2,
  fun e ⟨a, v1, v2, h1, h2, h3, h4⟩ => ⟨a, v1, v2, h1, e a _ h2, ρ.mono e h3, τ.mono e h4⟩⟩
def rT3 {α β γ : Type} (ρ : Rep α) (τ : Rep β) (υ : Rep γ) : Rep (α × β × γ) := ⟨fun G v x => ∃ a v1 v2 v3, v = .ref a ∧ G a = some (.tup [v1, v2, v3]) ∧ ρ.r G v1 x.1 ∧ τ.r G v2 x.2.1 ∧ υ.r G v3 x.2.2,
  fun e ⟨a, v1, v2, v3, h1, h2, h3, h4, h5⟩ => ⟨a, v1, v2, v3, h1, e a _ h2, ρ.mono e h3, τ.mono e h4, υ.mono e h5⟩⟩
theorem al_I {G : Hp} {vs : List V} {xs : List Int} (h : AL rI G vs xs) : vs = xs.map V.int := A2.eqmap (fun _ _ e => e) h
theorem al_S {G : Hp} {vs : List V} {xs : List Str} (h : AL rS G vs xs) : vs = xs.map V.str := A2.eqmap (fun _ _ e => e) h
theorem al_B {G : Hp} {vs : List V} {xs : List Bool} (h : AL rB G vs xs) : vs = xs.map V.bl := A2.eqmap (fun _ _ e => e) h
theorem la_I (G : Hp) (xs : List Int) : AL rI G (xs.map V.int) xs := A2.mapL (f := V.int) (fun _ => rfl) xs
theorem la_S (G : Hp) (xs : List Str) : AL rS G (xs.map V.str) xs := A2.mapL (f := V.str) (fun _ => rfl) xs
theorem la_B (G : Hp) (xs : List Bool) : AL rB G (xs.map V.bl) xs := A2.mapL (f := V.bl) (fun _ => rfl) xs

/-! ### the state of a body: Bs borrowed roots, H0 G0 at the entry, G fixed, M the mutable roots -/
abbrev MM := List (Addr × HO)
structure Cf (Bs : List Addr) (H0 G0 G : Hp) (M : MM) (H : Hp) : Prop where
  ex0 : ∀ a o, a ∉ Bs → H0 a = some o → H a = some o
  bh : ∀ b ∈ Bs, H b ≠ none
  g0 : Ex G0 G
  fr : ∀ a, H0 a ≠ none → G a = G0 a
  gh : Ex G H
  own : ∀ x ∈ M, H x.1 = some x.2 ∧ G x.1 = none ∧ (H0 x.1 = none ∨ x.1 ∈ Bs)
  nd : (M.map Prod.fst).Nodup
/-- what a call does -/
structure Stp (Bs : List Addr) (G G' H H' : Hp) : Prop where
  ex : ∀ a o, a ∉ Bs → H a = some o → H' a = some o
  gg : Ex G G'
  fr : ∀ a, H a ≠ none → G' a = G a
  gh : Ex G' H'
section
variable {Bs : List Addr} {H0 G0 G G' H H' : Hp} {M M' : MM} {p q : Addr} {o o' : HO} {k : Nat}
theorem Cf.start (h : Ex G0 H0) : Cf [] H0 G0 G0 [] H0 := ⟨fun _ _ _ e => e, fun _ z => (nomatch z), Ex.refl _, fun _ _ => rfl, h, fun _ z => (nomatch z), List.nodup_nil⟩
theorem Cf.start1 (h : Ex G0 H0) (hp : H0 p = some o) (g : G0 p = none) : Cf [p] H0 G0 G0 [(p, o)] H0 := by
  refine ⟨fun _ _ _ e => e, fun b z => ?_, Ex.refl _, fun _ _ => rfl, h, fun x z => ?_, by simp⟩
  · have e : b = p := by simpa using z
    rw [e, hp]
    exact fun z => nomatch z
  · have e : x = (p, o) := by simpa using z
    subst e
    exact ⟨hp, g, .inr (by simp)⟩
theorem Cf.start2 (h : Ex G0 H0) (hp : H0 p = some o) (g : G0 p = none) (hq : H0 q = some o') (gq : G0 q = none) (ne : p ≠ q) : Cf [p, q] H0 G0 G0 [(p, o), (q, o')] H0 := by
  refine ⟨fun _ _ _ e => e, fun b z => ?_, Ex.refl _, fun _ _ => rfl, h, fun x z => ?_, by simp [ne]⟩
  · simp only [List.mem_cons, List.not_mem_nil, or_false] at z
    rcases z with e | e
    · rw [e, hp]
      exact fun z => nomatch z
    · rw [e, hq]
      exact fun z => nomatch z
  · simp only [List.mem_cons, List.not_mem_nil, or_false] at z
    rcases z with e | e
    · subst e
      exact ⟨hp, g, .inr (by simp)⟩
    · subst e
      exact ⟨hq, gq, .inr (by simp)⟩
theorem Cf.h0 (c : Cf Bs H0 G0 G M H) (hp : H p = none) : H0 p = none ∧ p ∉ Bs := by
  have nb : p ∉ Bs := fun z => c.bh p z hp
  refine ⟨?_, nb⟩
  cases e : H0 p with
  | none => rfl
  | some u =>
    rw [c.ex0 p u nb e] at hp
    cases hp
theorem Cf.notM (c : Cf Bs H0 G0 G M H) (hp : H p = none) : p ∉ M.map Prod.fst := fun z => by
  obtain ⟨x, hx, e⟩ := List.mem_map.mp z
  rw [← e, (c.own x hx).1] at hp
  cases hp
/-- an object that is not to be looked at again -/
theorem Cf.junk (c : Cf Bs H0 G0 G M H) (hp : H p = none) (o : HO) : Cf Bs H0 G0 G M (upd H p o) := by
  have key : ∀ a u, H a = some u → upd H p o a = some u := Ex.new hp
  refine ⟨fun a u n e => key a u (c.ex0 a u n e), fun b hb => ?_, c.g0, c.fr, fun a u e => key a u (c.gh a u e), fun x hx => ?_, c.nd⟩
  · cases e : H b with
    | none => exact absurd e (c.bh b hb)
    | some u =>
      rw [key b u e]
      exact fun z => nomatch z
  · obtain ⟨h1, h2, h3⟩ := c.own x hx
    exact ⟨key _ _ h1, h2, h3⟩
/-- a new mutable object -/
theorem Cf.newO (c : Cf Bs H0 G0 G M H) (hp : H p = none) (o : HO) : Cf Bs H0 G0 G ((p, o) :: M) (upd H p o) := by
  have j := c.junk hp o
  refine ⟨j.ex0, j.bh, j.g0, j.fr, j.gh, fun x hx => ?_, ?_⟩
  · rcases List.mem_cons.mp hx with e | hx
    · subst e
      exact ⟨upd_same, c.gh.free hp, .inl (c.h0 hp).1⟩
    · exact j.own x hx
  · rw [List.map_cons, List.nodup_cons]
    exact ⟨c.notM hp, c.nd⟩
/-- a new object that will not change -/
theorem Cf.newF (c : Cf Bs H0 G0 G M H) (hp : H p = none) (o : HO) : Cf Bs H0 G0 (upd G p o) M (upd H p o) := by
  have j := c.junk hp o
  have gp := c.gh.free hp
  have ex : Ex G (upd G p o) := Ex.new gp
  refine ⟨j.ex0, j.bh, c.g0.trans ex, fun a ha => ?_, fun a u e => ?_, fun x hx => ?_, c.nd⟩
  · have ne : a ≠ p := fun z => ha (by rw [z]; exact (c.h0 hp).1)
    rw [upd_ne ne]
    exact c.fr a ha
  · by_cases ne : a = p
    · subst ne
      rw [upd_same] at e ⊢
      exact e
    · rw [upd_ne ne] at e ⊢
      exact c.gh a u e
  · obtain ⟨h1, h2, h3⟩ := j.own x hx
    have ne : x.1 ≠ p := fun z => by
      rw [← z, (c.own x hx).1] at hp
      cases hp
    exact ⟨h1, by rw [upd_ne ne]; exact h2, h3⟩
theorem newF_ex (c : Cf Bs H0 G0 G M H) (hp : H p = none) (o : HO) : Ex G (upd G p o) := Ex.new (c.gh.free hp)
theorem Cf.get (c : Cf Bs H0 G0 G M H) (k : Nat) (h : M[k]? = some (p, o)) : H p = some o := (c.own _ (List.mem_of_getElem? h)).1
theorem Cf.ng (c : Cf Bs H0 G0 G M H) (k : Nat) (h : M[k]? = some (p, o)) : G p = none := (c.own _ (List.mem_of_getElem? h)).2.1
theorem Cf.hd (c : Cf Bs H0 G0 G ((p, o) :: M) H) : H p = some o := c.get 0 rfl
theorem Cf.hdg (c : Cf Bs H0 G0 G ((p, o) :: M) H) : G p = none := c.ng 0 rfl
/-- roots that are named differ -/
theorem Cf.ne (c : Cf Bs H0 G0 G M H) {i j : Nat} (h : M[i]? = some (p, o)) (h' : M[j]? = some (q, o')) (ij : i ≠ j) : p ≠ q := fun e => by
  have h1 : (M.map Prod.fst)[i]? = some p := by rw [List.getElem?_map, h]; rfl
  have h2 : (M.map Prod.fst)[j]? = some p := by rw [List.getElem?_map, h', e]; rfl
  obtain ⟨a1, a2⟩ := List.getElem?_eq_some_iff.mp h1
  obtain ⟨b1, b2⟩ := List.getElem?_eq_some_iff.mp h2
  exact ij ((List.getElem_inj c.nd).mp (a2.trans b2.symm))
theorem Cf.perm (c : Cf Bs H0 G0 G M H) (h : M.Perm M') : Cf Bs H0 G0 G M' H :=
  ⟨c.ex0, c.bh, c.g0, c.fr, c.gh, fun x hx => c.own x (h.mem_iff.mpr hx), (h.map Prod.fst).nodup_iff.mp c.nd⟩
theorem perm_at {α : Type} : ∀ (M : List α) (k : Nat) (x : α), M[k]? = some x → M.Perm (x :: M.eraseIdx k)
  | [], _, _, h => by simp at h
  | y :: M, 0, x, h => by
    simp only [List.getElem?_cons_zero, Option.some.injEq] at h
    subst h
    exact .refl _
  | y :: M, k + 1, x, h => by
    have ih := perm_at M k x (by simpa using h)
    rw [List.eraseIdx_cons_succ]
    exact (ih.cons y).trans (List.Perm.swap x y _)
/-- the k-th to the front -/
theorem Cf.front (c : Cf Bs H0 G0 G M H) (k : Nat) {x : Addr × HO} (h : M[k]? = some x) : Cf Bs H0 G0 G (x :: M.eraseIdx k) H := c.perm (perm_at M k x h)
theorem Cf.drop (c : Cf Bs H0 G0 G ((p, o) :: M) H) : Cf Bs H0 G0 G M H :=
  ⟨c.ex0, c.bh, c.g0, c.fr, c.gh, fun x hx => c.own x (List.mem_cons_of_mem _ hx), (List.nodup_cons.mp c.nd).2⟩
/-- the first root is changed -/
theorem Cf.mut (c : Cf Bs H0 G0 G ((p, o) :: M) H) (o' : HO) : Cf Bs H0 G0 G ((p, o') :: M) (upd H p o') := by
  obtain ⟨h1, h2, h3⟩ := c.own (p, o) List.mem_cons_self
  have nd := List.nodup_cons.mp c.nd
  refine ⟨fun a u n e => ?_, fun b hb => ?_, c.g0, c.fr, fun a u e => ?_, fun x hx => ?_, c.nd⟩
  · have ne : a ≠ p := fun z => by
      subst z
      rcases h3 with h3 | h3
      · have h3 : H0 a = none := h3
        rw [h3] at e
        cases e
      · exact n h3
    rw [upd_ne ne]
    exact c.ex0 a u n e
  · by_cases ne : b = p
    · rw [ne, upd_same]
      exact fun z => nomatch z
    · rw [upd_ne ne]
      exact c.bh b hb
  · have ne : a ≠ p := fun z => by
      subst z
      have h2 : G a = none := h2
      rw [h2] at e
      cases e
    rw [upd_ne ne]
    exact c.gh a u e
  · rcases List.mem_cons.mp hx with e | hx
    · subst e
      exact ⟨upd_same, h2, h3⟩
    · obtain ⟨g1, g2, g3⟩ := c.own x (List.mem_cons_of_mem _ hx)
      have ne : x.1 ≠ p := fun z => nd.1 (List.mem_map.mpr ⟨x, hx, z⟩)
      exact ⟨by rw [upd_ne ne]; exact g1, g2, g3⟩
/-- the first root will not change any more -/
theorem Cf.freeze (c : Cf Bs H0 G0 G ((p, o) :: M) H) (hb : ∀ b ∈ Bs, b ∈ M.map Prod.fst) : Cf Bs H0 G0 (upd G p o) M H := by
  obtain ⟨h1, h2, h3⟩ := c.own (p, o) List.mem_cons_self
  have nd := List.nodup_cons.mp c.nd
  have nb : p ∉ Bs := fun z => nd.1 (hb p z)
  have hn : H0 p = none := h3.resolve_right nb
  refine ⟨c.ex0, c.bh, c.g0.trans (Ex.new h2), fun a ha => ?_, fun a u e => ?_, fun x hx => ?_, nd.2⟩
  · have ne : a ≠ p := fun z => ha (by rw [z]; exact hn)
    rw [upd_ne ne]
    exact c.fr a ha
  · by_cases ne : a = p
    · subst ne
      rw [upd_same] at e
      rw [← e]
      exact h1
    · rw [upd_ne ne] at e
      exact c.gh a u e
  · obtain ⟨g1, g2, g3⟩ := c.own x (List.mem_cons_of_mem _ hx)
    have ne : x.1 ≠ p := fun z => nd.1 (List.mem_map.mpr ⟨x, hx, z⟩)
    exact ⟨g1, by rw [upd_ne ne]; exact g2, g3⟩
theorem freeze_ex (c : Cf Bs H0 G0 G ((p, o) :: M) H) : Ex G (upd G p o) := Ex.new c.hdg
/-- behind a call that changes none of ours -/
theorem Cf.call (c : Cf Bs H0 G0 G M H) (s : Stp [] G G' H H') : Cf Bs H0 G0 G' M H' := by
  have ex : Ex H H' := fun a o e => s.ex a o (by simp) e
  refine ⟨fun a o n e => ex a o (c.ex0 a o n e), fun b hb => ?_, c.g0.trans s.gg, fun a ha => ?_, s.gh, fun x hx => ?_, c.nd⟩
  · cases e : H b with
    | none => exact absurd e (c.bh b hb)
    | some u =>
      rw [ex b u e]
      exact fun z => nomatch z
  · have hh : H a ≠ none := by
      by_cases hb : a ∈ Bs
      · exact c.bh a hb
      · cases e : H0 a with
        | none => exact absurd e ha
        | some u =>
          rw [c.ex0 a u hb e]
          exact fun z => nomatch z
    rw [s.fr a hh]
    exact c.fr a ha
  · obtain ⟨h1, h2, h3⟩ := c.own x hx
    refine ⟨ex _ _ h1, ?_, h3⟩
    rw [s.fr x.1 (by rw [h1]; exact fun z => nomatch z)]
    exact h2
/-- behind a call that may read all of it and hands back a plain value -/
theorem Cf.callH (c : Cf Bs H0 G0 G M H) {Ga Gb : Hp} (s : Stp [] Ga Gb H H') : Cf Bs H0 G0 G M H' := by
  have ex : Ex H H' := fun a o e => s.ex a o (by simp) e
  refine ⟨fun a o n e => ex a o (c.ex0 a o n e), fun b hb => ?_, c.g0, c.fr, c.gh.trans ex, fun x hx => ?_, c.nd⟩
  · cases e : H b with
    | none => exact absurd e (c.bh b hb)
    | some u =>
      rw [ex b u e]
      exact fun z => nomatch z
  · obtain ⟨h1, h2, h3⟩ := c.own x hx
    exact ⟨ex _ _ h1, h2, h3⟩
/-- .. and gives out a new root -/
theorem Cf.callO (c : Cf Bs H0 G0 G M H) (s : Stp [] G G' H H') (hp : H p = none) (gp : G' p = none) (ho : H' p = some o) : Cf Bs H0 G0 G' ((p, o) :: M) H' := by
  have c' := c.call s
  refine ⟨c'.ex0, c'.bh, c'.g0, c'.fr, c'.gh, fun x hx => ?_, ?_⟩
  · rcases List.mem_cons.mp hx with e | hx
    · subst e
      exact ⟨ho, gp, .inl (c.h0 hp).1⟩
    · exact c'.own x hx
  · rw [List.map_cons, List.nodup_cons]
    exact ⟨c.notM hp, c.nd⟩
/-- behind a call that changes the first root -/
theorem Cf.call1 (c : Cf Bs H0 G0 G ((p, o) :: M) H) (s : Stp [p] G G' H H') (ho : H' p = some o') : Cf Bs H0 G0 G' ((p, o') :: M) H' := by
  obtain ⟨h1, h2, h3⟩ := c.own (p, o) List.mem_cons_self
  have nd := List.nodup_cons.mp c.nd
  have ex : ∀ a u, a ≠ p → H a = some u → H' a = some u := fun a u n e => s.ex a u (by simpa using n) e
  refine ⟨fun a u n e => ?_, fun b hb => ?_, c.g0.trans s.gg, fun a ha => ?_, s.gh, fun x hx => ?_, c.nd⟩
  · have ne : a ≠ p := fun z => by
      subst z
      rcases h3 with h3 | h3
      · have h3 : H0 a = none := h3
        rw [h3] at e
        cases e
      · exact n h3
    exact ex a u ne (c.ex0 a u n e)
  · by_cases ne : b = p
    · rw [ne, ho]
      exact fun z => nomatch z
    · cases e : H b with
      | none => exact absurd e (c.bh b hb)
      | some u =>
        rw [ex b u ne e]
        exact fun z => nomatch z
  · have hh : H a ≠ none := by
      by_cases hb : a ∈ Bs
      · exact c.bh a hb
      · cases e : H0 a with
        | none => exact absurd e ha
        | some u =>
          rw [c.ex0 a u hb e]
          exact fun z => nomatch z
    rw [s.fr a hh]
    exact c.fr a ha
  · rcases List.mem_cons.mp hx with e | hx
    · subst e
      refine ⟨ho, ?_, h3⟩
      have h1 : H p = some o := h1
      show G' p = none
      rw [s.fr p (by rw [h1]; exact fun z => nomatch z)]
      exact h2
    · obtain ⟨g1, g2, g3⟩ := c.own x (List.mem_cons_of_mem _ hx)
      have ne : x.1 ≠ p := fun z => nd.1 (List.mem_map.mpr ⟨x, hx, z⟩)
      refine ⟨ex _ _ ne g1, ?_, g3⟩
      rw [s.fr x.1 (by rw [g1]; exact fun z => nomatch z)]
      exact g2
theorem Cf.callO1 (c : Cf Bs H0 G0 G ((p, o) :: M) H) (s : Stp [p] G G' H H') (ho : H' p = some o') {o2 : HO} (hq : H q = none) (gq : G' q = none) (hq' : H' q = some o2) : Cf Bs H0 G0 G' ((q, o2) :: (p, o') :: M) H' := by
  have c' := c.call1 s ho
  refine ⟨c'.ex0, c'.bh, c'.g0, c'.fr, c'.gh, fun x hx => ?_, ?_⟩
  · rcases List.mem_cons.mp hx with e | hx
    · subst e
      exact ⟨hq', gq, .inl (c.h0 hq).1⟩
    · exact c'.own x hx
  · rw [List.map_cons, List.nodup_cons]
    exact ⟨c.notM hq, c'.nd⟩
/-- the whole body is a step -/
theorem Cf.stp (c : Cf Bs H0 G0 G M H) : Stp Bs G0 G H0 H := ⟨c.ex0, c.g0, c.fr, c.gh⟩
theorem Cf.hdn (c : Cf Bs H0 G0 G ((p, o) :: M) H) (hb : ∀ b ∈ Bs, b ∈ M.map Prod.fst) : H0 p = none := by
  have nd := List.nodup_cons.mp c.nd
  exact (c.own (p, o) List.mem_cons_self).2.2.resolve_right fun z => nd.1 (hb p z)
end
/-- a list that is read: its root may not be among the borrowed -/
def SqB (Bs : List Addr) (H : Hp) (a : Addr) (vs : List V) : Prop := H a = some (.lst vs) ∧ a ∉ Bs
theorem SqB.at {Bs : List Addr} {H0 G0 G H : Hp} {M : MM} {a : Addr} {vs : List V} (h : SqB Bs H0 a vs) (c : Cf Bs H0 G0 G M H) : H a = some (.lst vs) := c.ex0 a _ h.2 h.1
theorem SqB.of {H : Hp} {a : Addr} {vs : List V} (h : H a = some (.lst vs)) : SqB [] H a vs := ⟨h, by simp⟩
theorem SqB.fix {Bs : List Addr} {G H : Hp} {a : Addr} {vs : List V} (h : G a = some (.lst vs)) (e : Ex G H) (n : ∀ b ∈ Bs, G b = none) : SqB Bs H a vs := ⟨e a _ h, fun z => by
  have gz := n a z
  rw [h] at gz
  cases gz⟩
theorem ng1 {G : Hp} {p : Addr} (h : G p = none) : ∀ b ∈ [p], G b = none := fun b z => by
  have e : b = p := by simpa using z
  rw [e]
  exact h
theorem nin1 {a p : Addr} (h : a ≠ p) : a ∉ [p] := by simpa using h
end Tw

/-! Tw2: mirrors (partial functions over plain data) and what joins them with readings. -/
namespace Tw
open PySem L2

/-! ### words of mirrors -/
/-- go on only if c -/
def gd {α : Type} (c : Prop) [Decidable c] (r : Option α) : Option α := if c then r else none
/-- a name for a value -/
def lt {α β : Type} (e : α) (f : α → Option β) : Option β := f e
theorem bs {α β : Type} {x : Option α} {f : α → Option β} {b : β} (h : x.bind f = some b) : ∃ a, x = some a ∧ f a = some b := Option.bind_eq_some_iff.mp h
theorem gdp {α : Type} {c : Prop} [Decidable c] {r : Option α} {b : α} (h : gd c r = some b) : c ∧ r = some b := by
  unfold gd at h
  by_cases hc : c
  · rw [if_pos hc] at h
    exact ⟨hc, h⟩
  · rw [if_neg hc] at h
    cases h
theorem ltp {α β : Type} {e : α} {f : α → Option β} {b : β} (h : lt e f = some b) : ∃ x, e = x ∧ f x = some b := ⟨e, rfl, h⟩
theorem gd_of {α : Type} {c : Prop} [Decidable c] {r : Option α} (h : c) : gd c r = r := if_pos h
theorem some_in {α : Type} {a b : α} (h : some a = some b) : a = b := Option.some.inj h
/-- by None and some -/
def oel {α β : Type} (o : Option α) (a : β) (f : α → β) : β := match o with
  | none => a
  | some x => f x
/-- a loop without break or return -/
def lp {α S : Type} (f : α → S → Option S) : List α → S → Option S
  | [], s => some s
  | x :: l, s => (f x s).bind (lp f l)
theorem lp_cons {α S : Type} {f : α → S → Option S} {x : α} {l : List α} {s o : S} (h : lp f (x :: l) s = some o) : ∃ s', f x s = some s' ∧ lp f l s' = some o := bs h
theorem lp_nil {α S : Type} {f : α → S → Option S} {s o : S} (h : lp f [] s = some o) : s = o := Option.some.inj h
inductive Out (S R : Type) where
  | nx (s : S) | br (s : S) | rt (r : R)
def Out.go {S R : Type} (o : Out S R) (f : S → Option (Out S R)) : Option (Out S R) :=
  match o with
  | .nx s => f s
  | .br s => some (.nx s)
  | .rt r => some (.rt r)
def Out.fin {S R β : Type} (o : Out S R) (f : S → Option β) (g : R → Option β) : Option β :=
  match o with
  | .nx s => f s
  | .br s => f s
  | .rt r => g r
def lpx {α S R : Type} (f : α → S → Option (Out S R)) : List α → S → Option (Out S R)
  | [], s => some (.nx s)
  | x :: l, s => (f x s).bind fun o => o.go (lpx f l)
theorem lpx_cons {α S R : Type} {f : α → S → Option (Out S R)} {x : α} {l : List α} {s : S} {o : Out S R} (h : lpx f (x :: l) s = some o) : ∃ o', f x s = some o' ∧ o'.go (lpx f l) = some o := bs h
theorem lpx_nil {α S R : Type} {f : α → S → Option (Out S R)} {s : S} {o : Out S R} (h : lpx f [] s = some o) : Out.nx s = o := Option.some.inj h
/-- a while, at most n turns -/
def wh {S R : Type} (c : S → Option Bool) (f : S → Option (Out S R)) : Nat → S → Option (Out S R)
  | 0, _ => none
  | n + 1, s => (c s).bind fun b => if b = true then (f s).bind fun o => o.go (wh c f n) else some (.nx s)
theorem wh_pos {S R : Type} {c : S → Option Bool} {f : S → Option (Out S R)} {n : Nat} {s : S} {o : Out S R} (h : wh c f n s = some o) :
    ∃ m b, n = m + 1 ∧ c s = some b ∧ (if b = true then (f s).bind fun o => o.go (wh c f m) else some (.nx s)) = some o := by
  cases n with
  | zero => cases h
  | succ m =>
    obtain ⟨b, hb, h⟩ := bs h
    exact ⟨m, b, rfl, hb, h⟩
/-- comprehensions -/
def lcm {α β : Type} (f : α → Option β) : List α → Option (List β)
  | [] => some []
  | x :: l => (f x).bind fun y => (lcm f l).bind fun r => some (y :: r)
theorem lcm_cons {α β : Type} {f : α → Option β} {x : α} {l : List α} {o : List β} (h : lcm f (x :: l) = some o) : ∃ y r, f x = some y ∧ lcm f l = some r ∧ o = y :: r := by
  obtain ⟨y, hy, h⟩ := bs h
  obtain ⟨r, hr, h⟩ := bs h
  exact ⟨y, r, hy, hr, (Option.some.inj h).symm⟩
def lcf {α β : Type} (f : α → Option (Option β)) : List α → Option (List β)
  | [] => some []
  | x :: l => (f x).bind fun y => (lcf f l).bind fun r => some (match y with | some z => z :: r | none => r)
theorem lcf_cons {α β : Type} {f : α → Option (Option β)} {x : α} {l : List α} {o : List β} (h : lcf f (x :: l) = some o) : ∃ y r, f x = some y ∧ lcf f l = some r ∧ o = (match y with | some z => z :: r | none => r) := by
  obtain ⟨y, hy, h⟩ := bs h
  obtain ⟨r, hr, h⟩ := bs h
  exact ⟨y, r, hy, hr, (Option.some.inj h).symm⟩
/-- .. that change something on their way -/
def lcs {α β S : Type} (f : α → S → Option (Option β × S)) : List α → S → Option (List β × S)
  | [], s => some ([], s)
  | x :: l, s => (f x s).bind fun y => (lcs f l y.2).bind fun r => some (match y.1 with | some z => z :: r.1 | none => r.1, r.2)
theorem lcs_cons {α β S : Type} {f : α → S → Option (Option β × S)} {x : α} {l : List α} {s : S} {o : List β × S} (h : lcs f (x :: l) s = some o) :
    ∃ y s' r, f x s = some (y, s') ∧ lcs f l s' = some (r, o.2) ∧ o.1 = (match y with | some z => z :: r | none => r) := by
  obtain ⟨⟨y, s'⟩, hy, h⟩ := bs h
  obtain ⟨⟨r, s''⟩, hr, h⟩ := bs h
  have e := Option.some.inj h
  subst e
  exact ⟨y, s', r, hy, hr, rfl⟩
/-- a range -/
def rng (lo hi : Int) : List Int := (List.range (hi - lo).toNat).map fun i : Nat => lo + (i : Int)
theorem rng_len (lo hi : Int) : (rng lo hi).length = (hi - lo).toNat := by unfold rng; rw [List.length_map, List.length_range]
theorem rng_get {lo hi : Int} {i : Nat} {x : Int} (h : (rng lo hi)[i]? = some x) : x = lo + (i : Int) := by
  unfold rng at h
  rw [List.getElem?_map] at h
  cases e : (List.range (hi - lo).toNat)[i]? with
  | none => rw [e] at h; cases h
  | some j =>
    rw [e] at h
    have hj : j = i := by
      obtain ⟨h1, h2⟩ := List.getElem?_eq_some_iff.mp e
      rw [List.getElem_range] at h2
      exact h2.symm
    rw [hj] at h
    exact (Option.some.inj h).symm
def enm {α : Type} (xs : List α) : List (Int × α) := (rng 0 xs.length).zip xs
theorem enm_len {α : Type} (xs : List α) : (enm xs).length = xs.length := by
  unfold enm
  rw [List.length_zip, rng_len]
  omega
theorem enm_get {α : Type} {xs : List α} {i : Nat} {x : Int × α} (h : (enm xs)[i]? = some x) : x.1 = (i : Int) ∧ xs[i]? = some x.2 := by
  unfold enm at h
  rw [List.getElem?_zip_eq_some] at h
  exact ⟨by have := rng_get h.1; omega, h.2⟩
/-- may be used as a range's end -/
def rok (n : Int) : Prop := -(2 ^ 62) ≤ n ∧ n < 2 ^ 62
instance (n : Int) : Decidable (rok n) := inferInstanceAs (Decidable (_ ∧ _))
abbrev BIG : Nat := 16777216
theorem big_lt {n : Nat} (h : n < BIG) : n < sizeLine := by rw [sizeLine_eq]; exact h
theorem big_le {n : Nat} (h : n < BIG) : n ≤ sizeLine := Nat.le_of_lt (big_lt h)
theorem le_big {n : Nat} (h : n ≤ BIG) : n ≤ sizeLine := by rw [sizeLine_eq]; exact h

/-! ### tests -/
theorem ite_m {b : Bool} {α : Type} {x y : Option α} {r : α} {P Q : Prop} (hm : (if b = true then x else y) = some r) (h1 : b = true → x = some r → P) (h2 : b = false → y = some r → Q) : if b = true then P else Q := by
  cases b with
  | true =>
    rw [if_pos rfl] at hm ⊢
    exact h1 rfl hm
  | false =>
    rw [if_neg Bool.false_ne_true] at hm ⊢
    exact h2 rfl hm
theorem ite_b {b : Bool} {P Q : Prop} (h1 : b = true → P) (h2 : b = false → Q) : if b = true then P else Q := by
  cases b with
  | true => rw [if_pos rfl]; exact h1 rfl
  | false => rw [if_neg Bool.false_ne_true]; exact h2 rfl
theorem cas {b : Bool} {α : Type} {x y : Option α} {r : α} {P : Prop} (hm : (if b = true then x else y) = some r) (h1 : b = true → x = some r → P) (h2 : b = false → y = some r → P) : P := by
  cases b with
  | true =>
    rw [if_pos rfl] at hm
    exact h1 rfl hm
  | false =>
    rw [if_neg Bool.false_ne_true] at hm
    exact h2 rfl hm
/-- a and b, the second one asked only behind a true first: c is what the second one gives -/
def pAnd (a : Bool) (b : Option Bool) : Option Bool := if a = true then b else some false
def pOr (a : Bool) (b : Option Bool) : Option Bool := if a = true then some true else b
theorem and_r {a b : Bool} {u : Prop} {Q : Bool → Hp → Prop} {H : Hp} {mb : Option Bool} (hb : pAnd a mb = some b) (h : a = true → mb = some b → Q b H → u) (k : Q b H) : if a = true then u else Q false H := by
  cases a with
  | true =>
    rw [if_pos rfl]
    exact h rfl hb k
  | false =>
    rw [if_neg Bool.false_ne_true]
    have e : false = b := Option.some.inj hb
    rw [e]
    exact k
theorem or_r {a b : Bool} {u : Prop} {Q : Bool → Hp → Prop} {H : Hp} {mb : Option Bool} (hb : pOr a mb = some b) (h : a = false → mb = some b → Q b H → u) (k : Q b H) : if a = true then Q true H else u := by
  cases a with
  | false =>
    rw [if_neg Bool.false_ne_true]
    exact h rfl hb k
  | true =>
    rw [if_pos rfl]
    have e : true = b := Option.some.inj hb
    rw [e]
    exact k
theorem and_t {a b : Bool} {u : Prop} {Q : Bool → Hp → Prop} {H : Hp} (h : a = true → Q b H → u) (k : Q (a && b) H) : if a = true then u else Q false H := by
  cases a with
  | true =>
    rw [if_pos rfl]
    exact h rfl (by simpa using k)
  | false =>
    rw [if_neg Bool.false_ne_true]
    exact k
theorem or_t {a b : Bool} {u : Prop} {Q : Bool → Hp → Prop} {H : Hp} (h : a = false → Q b H → u) (k : Q (a || b) H) : if a = true then Q true H else u := by
  cases a with
  | false =>
    rw [if_neg Bool.false_ne_true]
    exact h rfl (by simpa using k)
  | true =>
    rw [if_pos rfl]
    exact k
/-- .. as values -/
theorem andV_t {a b : Bool} {u : Prop} {Q : V → Hp → Prop} {H : Hp} (h : a = true → Q (.bl b) H → u) (k : Q (.bl (a && b)) H) : if a = true then u else Q (.bl false) H := and_t (Q := fun b H => Q (.bl b) H) h k
theorem orV_t {a b : Bool} {u : Prop} {Q : V → Hp → Prop} {H : Hp} (h : a = false → Q (.bl b) H → u) (k : Q (.bl (a || b)) H) : if a = true then Q (.bl true) H else u := or_t (Q := fun b H => Q (.bl b) H) h k
theorem andV_r {a b : Bool} {u : Prop} {Q : V → Hp → Prop} {H : Hp} {mb : Option Bool} (hb : pAnd a mb = some b) (h : a = true → mb = some b → Q (.bl b) H → u) (k : Q (.bl b) H) : if a = true then u else Q (.bl false) H := and_r (Q := fun b H => Q (.bl b) H) hb h k
theorem orV_r {a b : Bool} {u : Prop} {Q : V → Hp → Prop} {H : Hp} {mb : Option Bool} (hb : pOr a mb = some b) (h : a = false → mb = some b → Q (.bl b) H → u) (k : Q (.bl b) H) : if a = true then Q (.bl true) H else u := or_r (Q := fun b H => Q (.bl b) H) hb h k
/-- .. where the second part changes the heap -/
theorem and_h {a b : Bool} {u : Prop} {Q : Bool → Hp → Prop} {H : Hp} {mb : Option Bool} {R : Hp → Prop} (hb : pAnd a mb = some b) (h : a = true → mb = some b → (∀ H', R H' → Q b H') → u) (h0 : R H) (k : ∀ H', R H' → Q b H') : if a = true then u else Q false H := by
  cases a with
  | true =>
    rw [if_pos rfl]
    exact h rfl hb k
  | false =>
    rw [if_neg Bool.false_ne_true]
    have e : false = b := Option.some.inj hb
    rw [e]
    exact k H h0
theorem or_h {a b : Bool} {u : Prop} {Q : Bool → Hp → Prop} {H : Hp} {mb : Option Bool} {R : Hp → Prop} (hb : pOr a mb = some b) (h : a = false → mb = some b → (∀ H', R H' → Q b H') → u) (h0 : R H) (k : ∀ H', R H' → Q b H') : if a = true then Q true H else u := by
  cases a with
  | false =>
    rw [if_neg Bool.false_ne_true]
    exact h rfl hb k
  | true =>
    rw [if_pos rfl]
    have e : true = b := Option.some.inj hb
    rw [e]
    exact k H h0
theorem andV_h {a b : Bool} {u : Prop} {Q : V → Hp → Prop} {H : Hp} {mb : Option Bool} {R : Hp → Prop} (hb : pAnd a mb = some b) (h : a = true → mb = some b → (∀ H', R H' → Q (.bl b) H') → u) (h0 : R H) (k : ∀ H', R H' → Q (.bl b) H') : if a = true then u else Q (.bl false) H := and_h (Q := fun b H => Q (.bl b) H) hb h h0 k
theorem orV_h {a b : Bool} {u : Prop} {Q : V → Hp → Prop} {H : Hp} {mb : Option Bool} {R : Hp → Prop} (hb : pOr a mb = some b) (h : a = false → mb = some b → (∀ H', R H' → Q (.bl b) H') → u) (h0 : R H) (k : ∀ H', R H' → Q (.bl b) H') : if a = true then Q (.bl true) H else u := or_h (Q := fun b H => Q (.bl b) H) hb h h0 k
theorem or_s {a : Bool} {u : Prop} {Q : Bool → Hp → Prop} {H : Hp} (h : a = true) (k : Q true H) : if a = true then Q true H else u := by rw [if_pos h]; exact k
theorem and_s {a : Bool} {u : Prop} {Q : Bool → Hp → Prop} {H : Hp} (h : a = false) (k : Q false H) : if a = true then u else Q false H := by rw [if_neg (by rw [h]; exact Bool.false_ne_true)]; exact k
theorem orV_s {a : Bool} {u : Prop} {Q : V → Hp → Prop} {H : Hp} (h : a = true) (k : Q (.bl true) H) : if a = true then Q (.bl true) H else u := by rw [if_pos h]; exact k
theorem andV_s {a : Bool} {u : Prop} {Q : V → Hp → Prop} {H : Hp} (h : a = false) (k : Q (.bl false) H) : if a = true then u else Q (.bl false) H := by rw [if_neg (by rw [h]; exact Bool.false_ne_true)]; exact k
theorem ite_yes {b : Bool} {P Q : Prop} (h : b = true) (p : P) : if b = true then P else Q := by rw [if_pos h]; exact p
theorem ite_no {b : Bool} {P Q : Prop} (h : b = false) (q : Q) : if b = true then P else Q := by rw [if_neg (by rw [h]; exact Bool.false_ne_true)]; exact q
theorem if_yes {b : Bool} {α : Type} {x y r : α} (h : b = true) (hm : (if b = true then x else y) = r) : x = r := by rw [if_pos h] at hm; exact hm
theorem if_no {b : Bool} {α : Type} {x y r : α} (h : b = false) (hm : (if b = true then x else y) = r) : y = r := by rw [if_neg (by rw [h]; exact Bool.false_ne_true)] at hm; exact hm
theorem pw_never {X : Cx} {e : Expr} : PW X e fun _ _ _ => False := ⟨fun _ _ _ _ _ _ _ h => h.elim⟩
/-! what is wanted behind is hidden by a letter -/
theorem if_opq {c : TT} {t u : TS} {D : Ends} {σ : St} {H : Hp} (h : ∀ Q9 : Bool → Hp → Prop, (∀ b H, (if b = true then t D σ H else u D σ H) → Q9 b H) → c σ H Q9) : tIfS c t u D σ H := h _ fun _ _ z => z
theorem q_if_opq {c : TT} {t u w : TS} {D : Ends} {σ : St} {H : Hp} (h : ∀ Q9 : Bool → Hp → Prop, (∀ b H, (if b = true then t { D with nx := w D } σ H else u { D with nx := w D } σ H) → Q9 b H) → c σ H Q9) : tSeq (tIfS c t u) w D σ H := h _ fun _ _ z => z
theorem opqT {c : TT} {σ : St} {H : Hp} {Q : Bool → Hp → Prop} (h : ∀ Q9 : Bool → Hp → Prop, (∀ b H, Q b H → Q9 b H) → c σ H Q9) : c σ H Q := h Q fun _ _ z => z
theorem opqV {c : TE} {σ : St} {H : Hp} {Q : VK} (h : ∀ Q9 : VK, (∀ v H, Q v H → Q9 v H) → c σ H Q9) : c σ H Q := h Q fun _ _ z => z
theorem ret_opq {te : TE} {D : Ends} {σ : St} {H : Hp} (h : ∀ Q9 : VK, (∀ v H, D.rt v H → Q9 v H) → te σ H Q9) : tRet te D σ H := h _ fun _ _ z => z
theorem q_ret_opq {te : TE} {w : TS} {D : Ends} {σ : St} {H : Hp} (h : ∀ Q9 : VK, (∀ v H, D.rt v H → Q9 v H) → te σ H Q9) : tSeq (tRet te) w D σ H := h _ fun _ _ z => z
theorem asg_opq {te : TE} {i : Nat} {D : Ends} {σ : St} {H : Hp} (h : ∀ Q9 : VK, (∀ v H, D.nx (σ.set i (some v)) H → Q9 v H) → te σ H Q9) : tAsg te (gName i) D σ H := h _ fun _ _ z => z
theorem q_asg_opq {te : TE} {i : Nat} {w : TS} {D : Ends} {σ : St} {H : Hp} (h : ∀ Q9 : VK, (∀ v H, w D (σ.set i (some v)) H → Q9 v H) → te σ H Q9) : tSeq (tAsg te (gName i)) w D σ H := h _ fun _ _ z => z
theorem drop_opq {te : TE} {D : Ends} {σ : St} {H : Hp} (h : ∀ Q9 : VK, (∀ v H, D.nx σ H → Q9 v H) → te σ H Q9) : tDrop te D σ H := h _ fun _ _ z => z
theorem q_drop_opq {te : TE} {w : TS} {D : Ends} {σ : St} {H : Hp} (h : ∀ Q9 : VK, (∀ v H, w D σ H → Q9 v H) → te σ H Q9) : tSeq (tDrop te) w D σ H := h _ fun _ _ z => z
theorem q_aug {i : Nat} {te : TE} {ti : TIp} {w : TS} {D : Ends} {σ : St} {H : Hp} (h : ∀ Q9 : VK, (∀ v H, w D (σ.set i (some v)) H → Q9 v H) → ∃ x, σ[i]? = some (some x) ∧ te σ H fun y H1 => ti x y H1 Q9) : tSeq (tAug i te ti) w D σ H := h _ fun _ _ z => z
theorem s_aug' {i : Nat} {te : TE} {ti : TIp} {D : Ends} {σ : St} {H : Hp} (h : ∀ Q9 : VK, (∀ v H, D.nx (σ.set i (some v)) H → Q9 v H) → ∃ x, σ[i]? = some (some x) ∧ te σ H fun y H1 => ti x y H1 Q9) : tAug i te ti D σ H := h _ fun _ _ z => z
theorem q_asgS {te to ti : TE} {ts : TSet} {w : TS} {D : Ends} {σ : St} {H : Hp} (h : ∀ Q9 : Hp → Prop, (∀ H, w D σ H → Q9 H) → te σ H fun x H1 => to σ H1 fun o H2 => ti σ H2 fun i H3 => ts o i x H3 Q9) : tSeq (tAsg te (gSub to ti ts)) w D σ H := h _ fun _ z => z
theorem s_asgS {te to ti : TE} {ts : TSet} {D : Ends} {σ : St} {H : Hp} (h : ∀ Q9 : Hp → Prop, (∀ H, D.nx σ H → Q9 H) → te σ H fun x H1 => to σ H1 fun o H2 => ti σ H2 fun i H3 => ts o i x H3 Q9) : tAsg te (gSub to ti ts) D σ H := h _ fun _ z => z
theorem yes_q {σ : St} {H : Hp} {P R : Hp → Prop} (h : P H) : tYes σ H (fun b H3 => if b = true then P H3 else R H3) := by
  show if true = true then P H else R H
  rw [if_pos rfl]
  exact h
/-- a name for the value that is stored -/
theorem nmI {x y : Int} {σ : St} {i : Nat} {H : Hp} {P : St → Hp → Prop} (e : x = y) (h : P (σ.set i (some (.int y))) H) : P (σ.set i (some (.int x))) H := by rw [e]; exact h
theorem nmV {α : Type} {f : α → V} {x y : α} {P : V → Prop} (e : x = y) (h : P (f y)) : P (f x) := by rw [e]; exact h

/-! ### loops -/
theorem for_w {α : Type} {J : It} {n : Nat} {Gd : Hp → Prop} {Y : Nat → Hp → V → Hp → Prop} (w : Walk J n Gd Y) (xs : List α) (hn : n = xs.length) {g : TG} {tb : TS} {D : Ends} {σ : St} {H : Hp} (I : List α → St → Hp → Prop)
    (h0 : I xs σ H) (hG : ∀ l σ H, I l σ H → Gd H)
    (hs : ∀ (i : Nat) x l σ H v H', xs[i]? = some x → I (x :: l) σ H → Y i H v H' → g v σ H' fun σ2 H2 => tb { D with nx := I l, ct := I l, bk := D.nx } σ2 H2) (hd : ∀ σ H, I [] σ H → D.nx σ H) :
    ∃ W : Nat → Nat → St → Hp → Prop, (∃ m, W 0 m σ H) ∧ ∀ i m σ H, W i m σ H →
      (J.stop i H ∧ D.nx σ H) ∨ (J.go i H ∧ ∃ N : St → Hp → Prop, (∀ σ' H', N σ' H' → ∃ m', m' < m ∧ W (i + 1) m' σ' H') ∧ ∀ x H', J.yld i H x H' → g x σ H' fun σ2 H2 => tb { D with nx := N, ct := N, bk := D.nx } σ2 H2) := by
  refine for_it w (fun i σ H => I (xs.drop i) σ H) h0 (fun i σ H _ h => hG _ σ H h) (fun i v σ H H' hi h y => ?_) (fun σ H h => ?_)
  · have hi' : i < xs.length := by omega
    have e : xs.drop i = xs[i] :: xs.drop (i + 1) := List.drop_eq_getElem_cons hi'
    have h : I (xs.drop i) σ H := h
    rw [e] at h
    exact hs i xs[i] (xs.drop (i + 1)) σ H v H' (List.getElem?_eq_getElem hi') h y
  · have e : xs.drop n = [] := List.drop_eq_nil_of_le (by omega)
    have h : I (xs.drop n) σ H := h
    rw [e] at h
    exact hd σ H h
/-- .. with break: k says what is wanted behind the loop -/
theorem for_wx {α : Type} {J : It} {n : Nat} {Gd : Hp → Prop} {Y : Nat → Hp → V → Hp → Prop} (w : Walk J n Gd Y) (xs : List α) (hn : n = xs.length) {g : TG} {tb : TS} {D : Ends} {σ : St} {H : Hp} (I : List α → St → Hp → Prop) (Mid : St → Hp → Prop)
    (k : ∀ σ H, Mid σ H → D.nx σ H) (h0 : I xs σ H) (hG : ∀ l σ H, I l σ H → Gd H)
    (hs : (∀ σ H, Mid σ H → D.nx σ H) → ∀ (i : Nat) x l σ H v H', xs[i]? = some x → I (x :: l) σ H → Y i H v H' → g v σ H' fun σ2 H2 => tb { D with nx := I l, ct := I l, bk := D.nx } σ2 H2) (hd : ∀ σ H, I [] σ H → Mid σ H) :
    ∃ W : Nat → Nat → St → Hp → Prop, (∃ m, W 0 m σ H) ∧ ∀ i m σ H, W i m σ H →
      (J.stop i H ∧ D.nx σ H) ∨ (J.go i H ∧ ∃ N : St → Hp → Prop, (∀ σ' H', N σ' H' → ∃ m', m' < m ∧ W (i + 1) m' σ' H') ∧ ∀ x H', J.yld i H x H' → g x σ H' fun σ2 H2 => tb { D with nx := N, ct := N, bk := D.nx } σ2 H2) :=
  for_w w xs hn I h0 hG (hs k) fun σ H h => k σ H (hd σ H h)
/-- a while whose first test is asked at once; n is the fuel -/
theorem wh_wx {c : TT} {tb : TS} {D : Ends} {σ : St} {H : Hp} (I : Nat → St → Hp → Prop) (Mid : St → Hp → Prop) (k : ∀ σ H, Mid σ H → D.nx σ H) (n : Nat) (h0 : I n σ H)
    (hs : (∀ σ H, Mid σ H → D.nx σ H) → ∀ n σ H, I n σ H → ∃ m, n = m + 1 ∧ c σ H fun b H1 => if b = true then (∃ N : St → Hp → Prop, (∀ σ' H', N σ' H' → ∃ m', m' < n ∧ I m' σ' H') ∧ tb { D with nx := N, ct := N, bk := D.nx } σ H1) else D.nx σ H1) : tWhile c tb D σ H :=
  ⟨I, ⟨n, h0⟩, fun n σ H h => by
    obtain ⟨m, _, h⟩ := hs k n σ H h
    exact h⟩
theorem wh_n {I : Nat → St → Hp → Prop} {m : Nat} {P : (St → Hp → Prop) → Prop} (h : P (I m)) : ∃ N : St → Hp → Prop, (∀ σ' H', N σ' H' → ∃ m', m' < m + 1 ∧ I m' σ' H') ∧ P N := ⟨I m, fun _ _ q => ⟨m, Nat.lt_succ_self _, q⟩, h⟩
theorem lc_w {α : Type} {J : It} {n : Nat} {Gd : Hp → Prop} {Y : Nat → Hp → V → Hp → Prop} (w : Walk J n Gd Y) (xs : List α) (hn : n = xs.length) {g : TG} {tt : TT} {te : TE} {vs : List Nat} {σ : St} {H1 : Hp} {D : Addr} {Qd : Hp → Prop} (I : List α → Hp → Prop)
    (h0 : I xs (upd H1 D (.lst []))) (hG : ∀ l H, I l H → Gd H)
    (hs : ∀ (i : Nat) x l H v H', xs[i]? = some x → I (x :: l) H → Y i H v H' → g v (wipe σ vs) H' fun σ2 H2 => wipe σ2 vs = wipe σ vs ∧ tt σ2 H2 fun b H3 =>
      if b = true then te σ2 H3 fun y H4 => ∃ acc, H4 D = some (.lst acc) ∧ acc.length < sizeLine ∧ I l (upd H4 D (.lst (acc ++ [y]))) else I l H3) (hd : ∀ H, I [] H → Qd H) :
    ∃ W : Nat → Nat → Hp → Prop, (∃ m, W 0 m (upd H1 D (.lst []))) ∧ ∀ i m H, W i m H →
      (J.stop i H ∧ Qd H) ∨ (J.go i H ∧ ∃ Nx : Hp → Prop, (∀ H', Nx H' → ∃ m', m' < m ∧ W (i + 1) m' H') ∧ ∀ x H', J.yld i H x H' → g x (wipe σ vs) H' fun σ2 H2 => wipe σ2 vs = wipe σ vs ∧ tt σ2 H2 fun b H3 =>
        if b = true then te σ2 H3 fun y H4 => ∃ acc, H4 D = some (.lst acc) ∧ acc.length < sizeLine ∧ Nx (upd H4 D (.lst (acc ++ [y]))) else Nx H3) := by
  refine lc_it w (fun i H => I (xs.drop i) H) h0 (fun i H _ h => hG _ H h) (fun i v H H' hi h y => ?_) (fun H h => ?_)
  · have hi' : i < xs.length := by omega
    have e : xs.drop i = xs[i] :: xs.drop (i + 1) := List.drop_eq_getElem_cons hi'
    have h : I (xs.drop i) H := h
    rw [e] at h
    exact hs i xs[i] (xs.drop (i + 1)) H v H' (List.getElem?_eq_getElem hi') h y
  · have e : xs.drop n = [] := List.drop_eq_nil_of_le (by omega)
    have h : I (xs.drop n) H := h
    rw [e] at h
    exact hd H h

/-- no item is None -/
def allS {α : Type} : List (Option α) → Option (List α)
  | [] => some []
  | none :: _ => none
  | some x :: l => (allS l).bind fun r => some (x :: r)
theorem al_allS {α : Type} {ρ : Rep α} {G : Hp} : ∀ {vs : List V} {xs : List (Option α)} {ys : List α}, AL (rO ρ) G vs xs → allS xs = some ys → AL ρ G vs ys
  | _, _, _, .nil, h => by
    obtain rfl := some_in h
    exact .nil
  | _, _, _, .cons (y := none) _ _, h => by cases h
  | _, _, _, .cons (y := some x) hx t, h => by
    obtain ⟨r, hr, h⟩ := bs h
    obtain rfl := some_in h
    exact .cons hx (al_allS t hr)

/-! ### kinds -/
section
variable {K : PySem.W.Frag} {H : Hp} {Q : VK}
theorem kit_of_ty {a b : String} {r : Bool} (h : kitB a b = some r) : PySem.W.kitOne K (.type a) (.type b) = some r := kit_ty h
theorem k_ii : PySem.W.kitOne K (.type "int") (.type "int") = some true := kit_ty (by decide +kernel)
theorem k_ib : PySem.W.kitOne K (.type "int") (.type "bool") = some false := kit_ty (by decide +kernel)
theorem k_is : PySem.W.kitOne K (.type "int") (.type "str") = some false := kit_ty (by decide +kernel)
theorem k_il : PySem.W.kitOne K (.type "int") (.type "list") = some false := kit_ty (by decide +kernel)
theorem k_it : PySem.W.kitOne K (.type "int") (.type "tuple") = some false := kit_ty (by decide +kernel)
theorem k_bi : PySem.W.kitOne K (.type "bool") (.type "int") = some true := kit_ty (by decide +kernel)
theorem k_bb : PySem.W.kitOne K (.type "bool") (.type "bool") = some true := kit_ty (by decide +kernel)
theorem k_bs : PySem.W.kitOne K (.type "bool") (.type "str") = some false := kit_ty (by decide +kernel)
theorem k_bl : PySem.W.kitOne K (.type "bool") (.type "list") = some false := kit_ty (by decide +kernel)
theorem k_si : PySem.W.kitOne K (.type "str") (.type "int") = some false := kit_ty (by decide +kernel)
theorem k_sb : PySem.W.kitOne K (.type "str") (.type "bool") = some false := kit_ty (by decide +kernel)
theorem k_ss : PySem.W.kitOne K (.type "str") (.type "str") = some true := kit_ty (by decide +kernel)
theorem k_sl : PySem.W.kitOne K (.type "str") (.type "list") = some false := kit_ty (by decide +kernel)
theorem k_st : PySem.W.kitOne K (.type "str") (.type "tuple") = some false := kit_ty (by decide +kernel)
theorem k_ni : PySem.W.kitOne K (.type "NoneType") (.type "int") = some false := kit_ty (by decide +kernel)
theorem k_nb : PySem.W.kitOne K (.type "NoneType") (.type "bool") = some false := kit_ty (by decide +kernel)
theorem k_ns : PySem.W.kitOne K (.type "NoneType") (.type "str") = some false := kit_ty (by decide +kernel)
theorem k_nl : PySem.W.kitOne K (.type "NoneType") (.type "list") = some false := kit_ty (by decide +kernel)
theorem k_nt : PySem.W.kitOne K (.type "NoneType") (.type "tuple") = some false := kit_ty (by decide +kernel)
theorem k_li : PySem.W.kitOne K (.type "list") (.type "int") = some false := kit_ty (by decide +kernel)
theorem k_lb : PySem.W.kitOne K (.type "list") (.type "bool") = some false := kit_ty (by decide +kernel)
theorem k_ls : PySem.W.kitOne K (.type "list") (.type "str") = some false := kit_ty (by decide +kernel)
theorem k_ll : PySem.W.kitOne K (.type "list") (.type "list") = some true := kit_ty (by decide +kernel)
theorem k_lt : PySem.W.kitOne K (.type "list") (.type "tuple") = some false := kit_ty (by decide +kernel)
theorem k_ti : PySem.W.kitOne K (.type "tuple") (.type "int") = some false := kit_ty (by decide +kernel)
theorem k_tb : PySem.W.kitOne K (.type "tuple") (.type "bool") = some false := kit_ty (by decide +kernel)
theorem k_ts : PySem.W.kitOne K (.type "tuple") (.type "str") = some false := kit_ty (by decide +kernel)
theorem k_tl : PySem.W.kitOne K (.type "tuple") (.type "list") = some false := kit_ty (by decide +kernel)
theorem k_tt : PySem.W.kitOne K (.type "tuple") (.type "tuple") = some true := kit_ty (by decide +kernel)
theorem isi {x : V} {T : String} {t : Value} {b : Bool} (ty : TyX K H x t) (k : PySem.W.kitOne K t (.type T) = some b) (q : Q (.bl b) H) : rIsi K [x, .ty T] H Q := ⟨x, .ty T, t, .type T, b, rfl, .ty T, ty, k, q⟩
theorem ty_i {i : Int} : TyX K H (.int i) (.type "int") := .base (.int i)
theorem ty_b {i : Bool} : TyX K H (.bl i) (.type "bool") := .base (.bl i)
theorem ty_s {i : Str} : TyX K H (.str i) (.type "str") := .base (.str i)
theorem ty_n : TyX K H .non (.type "NoneType") := .base .non
theorem ty_l {a : Addr} {vs : List V} (h : SqL K H a vs) : TyX K H (.ref a) (.type "list") := by
  rcases h with (h | ⟨o, h⟩) | ⟨o, its, n, h, c, _⟩
  · exact .base (.lst h)
  · exact .base (.frz h)
  · exact .kList h c
theorem ty_t {a : Addr} {vs : List V} (h : SqT K H a vs) : TyX K H (.ref a) (.type "tuple") := by
  rcases h with (h | ⟨o, h⟩) | ⟨o, its, n, h, c, _⟩
  · exact .base (.tup h)
  · exact .fTuple h
  · exact .kTuple h c
end

/-! ### lists by place, membership, equality -/
theorem ixN_len {n : Nat} {i : Int} {j : Nat} (h : ixN n i = some j) : j < n := by
  unfold ixN at h
  split at h
  · split at h
    · injection h with h; omega
    · cases h
  · split at h
    · injection h with h; omega
    · cases h
theorem at_l {α : Type} {ρ : Rep α} {G : Hp} {vs : List V} {xs : List α} {i : Int} {y : α} (h : AL ρ G vs xs) (e : atI xs i = some y) : ∃ v, atI vs i = some v ∧ ρ.r G v y := by
  unfold atI at e ⊢
  rw [h.len]
  obtain ⟨j, hj, e⟩ := Option.bind_eq_some_iff.mp e
  obtain ⟨v, hv, r⟩ := A2.get h e
  exact ⟨v, by rw [hj]; exact hv, r⟩
theorem atI_I {xs : List Int} {i y : Int} (e : atI xs i = some y) : atI (xs.map V.int) i = some (.int y) := by
  obtain ⟨v, h, r⟩ := at_l (la_I (fun _ => none) xs) e
  have r : v = .int y := r
  rw [← r]
  exact h
theorem flat_I (xs : List Int) : (xs.map V.int).all flatV = true := by
  rw [List.all_map]
  exact List.all_eq_true.mpr fun _ _ => rfl
theorem flat_S (xs : List Str) : (xs.map V.str).all flatV = true := by
  rw [List.all_map]
  exact List.all_eq_true.mpr fun _ _ => rfl
end Tw

/-! Tw3: rules by plain data. -/
namespace Tw
open PySem L2

/-! ### names of the built-ins -/
theorem bt_len : bootBuiltins "len" = some (.builtin "len") := by decide +kernel
theorem bt_isi : bootBuiltins "isinstance" = some (.builtin "isinstance") := by decide +kernel
theorem bt_int : bootBuiltins "int" = some (.type "int") := by decide +kernel
theorem bt_str : bootBuiltins "str" = some (.type "str") := by decide +kernel
theorem bt_bool : bootBuiltins "bool" = some (.type "bool") := by decide +kernel
theorem bt_list : bootBuiltins "list" = some (.type "list") := by decide +kernel
theorem bt_tuple : bootBuiltins "tuple" = some (.type "tuple") := by decide +kernel
theorem bt_max : bootBuiltins "max" = some (.builtin "max") := by decide +kernel
theorem bt_min : bootBuiltins "min" = some (.builtin "min") := by decide +kernel
theorem bt_all : bootBuiltins "all" = some (.builtin "all") := by decide +kernel
theorem bt_abs : bootBuiltins "abs" = some (.builtin "abs") := by decide +kernel
theorem bt_sorted : bootBuiltins "sorted" = some (.builtin "sorted") := by decide +kernel

/-! ### data that can be compared -/
structure Eqd {α : Type} (ρ : Rep α) where
  d : α → PyData
  h : ∀ (K : PySem.W.Frag) {H v x}, ρ.r H v x → Dp K H v (d x)
  ok : α → Bool
  sh : ∀ x, ok x = true → (d x).canLay0 = true
  dp : Nat
  dl : ∀ x, (d x).depth ≤ dp
  inj : ∀ x y, PyData.eqv (d x) (d y) = true ↔ x = y
theorem Eqd.shaped {α : Type} {ρ : Rep α} (e : Eqd ρ) (hd : e.dp ≤ 60) (x : α) (o : e.ok x = true) : SeqAt.shaped (e.d x) = true := by
  unfold SeqAt.shaped
  rw [e.sh x o, Bool.true_and]
  exact decide_eq_true (Nat.le_trans (e.dl x) (by omega))
theorem Eqd.eq {α : Type} [DecidableEq α] {ρ : Rep α} (e : Eqd ρ) (x y : α) : PyData.eqv (e.d x) (e.d y) = decide (x = y) := by
  by_cases h : x = y
  · rw [decide_eq_true h]
    exact (e.inj x y).mpr h
  · rw [decide_eq_false h]
    cases q : PyData.eqv (e.d x) (e.d y) with
    | false => rfl
    | true => exact absurd ((e.inj x y).mp q) h
theorem eqv_ii (i j : Int) : PyData.eqv (.int i) (.int j) = (i == j) := by simp [PyData.eqv]
theorem eqv_ll (x y : List PyData) : PyData.eqv (.list x) (.list y) = PyData.eqvAll x y := by simp [PyData.eqv]
def eqdI : Eqd rI where
  d := .int
  h := fun K {H v x} e => by
    have e : v = .int x := e
    rw [e]
    exact .int x
  ok := fun _ => true
  sh := fun _ _ => by simp [PyData.canLay0]
  dp := 0
  dl := fun _ => by simp [PyData.depth]
  inj := fun x y => by simp [eqv_ii]
theorem eqv_ss (i j : Str) : PyData.eqv (.str i) (.str j) = (i == j) := by simp [PyData.eqv]
def eqdS : Eqd rS where
  d := .str
  h := fun K {H v x} e => by
    have e : v = .str x := e
    rw [e]
    exact .str x
  ok := fun x => PyData.strOk x
  sh := fun _ o => by rw [PyData.canLay0]; exact o
  dp := 0
  dl := fun _ => by simp [PyData.depth]
  inj := fun x y => by simp [eqv_ss]
theorem eqv_bb (i j : Bool) : PyData.eqv (.bool i) (.bool j) = (i == j) := by simp [PyData.eqv]
def eqdB : Eqd rB where
  d := .bool
  h := fun K {H v x} e => by
    have e : v = .bl x := e
    rw [e]
    exact .bl x
  ok := fun _ => true
  sh := fun _ _ => by simp [PyData.canLay0]
  dp := 0
  dl := fun _ => by simp [PyData.depth]
  inj := fun x y => by simp [eqv_bb]
theorem dpAll_of {α : Type} {ρ : Rep α} (e : Eqd ρ) (K : PySem.W.Frag) {H : Hp} : ∀ {vs : List V} {xs : List α}, AL ρ H vs xs → DpAll K H vs (xs.map e.d)
  | _, _, .nil => .nil
  | _, _, .cons h t => .cons (e.h K h) (dpAll_of e K t)
theorem lay_all {α : Type} {ρ : Rep α} (e : Eqd ρ) : ∀ xs : List α, xs.all e.ok = true → PyData.canLayAll0 (xs.map e.d) = true
  | [], _ => by simp [PyData.canLayAll0]
  | x :: xs, o => by
    rw [List.all_cons, Bool.and_eq_true] at o
    rw [List.map_cons, PyData.canLayAll0, e.sh x o.1, lay_all e xs o.2]
    rfl
theorem dep_all {α : Type} {ρ : Rep α} (e : Eqd ρ) : ∀ xs : List α, PyData.depthAll (xs.map e.d) ≤ e.dp
  | [] => by simp [PyData.depthAll]
  | x :: xs => by
    rw [List.map_cons, PyData.depthAll]
    exact Nat.max_le.mpr ⟨e.dl x, dep_all e xs⟩
theorem eqv_all {α : Type} {ρ : Rep α} (e : Eqd ρ) : ∀ xs ys : List α, PyData.eqvAll (xs.map e.d) (ys.map e.d) = true ↔ xs = ys
  | [], [] => by simp [PyData.eqvAll]
  | [], y :: ys => by simp [PyData.eqvAll]
  | x :: xs, [] => by simp [PyData.eqvAll]
  | x :: xs, y :: ys => by
    rw [List.map_cons, List.map_cons, PyData.eqvAll, Bool.and_eq_true, e.inj, eqv_all e xs ys, List.cons.injEq]
def eqdL {α : Type} {ρ : Rep α} (e : Eqd ρ) : Eqd (rL ρ) where
  d := fun xs => .list (xs.map e.d)
  h := fun K {H v xs} ⟨a, vs, hv, hs, hal⟩ => by
    rw [hv]
    exact .lst (SqL.of hs) (dpAll_of e K hal)
  ok := fun xs => xs.all e.ok
  sh := fun xs o => by
    rw [PyData.canLay0]
    exact lay_all e xs o
  dp := e.dp + 1
  dl := fun xs => by
    rw [PyData.depth]
    have := dep_all e xs
    omega
  inj := fun x y => by rw [eqv_ll, eqv_all e]
section
variable {X : Cx} {α : Type} [DecidableEq α] {ρ : Rep α}
theorem okI (xs : List Int) : (eqdL eqdI).ok xs = true := List.all_eq_true.mpr fun _ _ => rfl
theorem okLI (xs : List (List Int)) : (eqdL (eqdL eqdI)).ok xs = true := List.all_eq_true.mpr fun x _ => okI x
theorem okLLI (xs : List (List (List Int))) : (eqdL (eqdL (eqdL eqdI))).ok xs = true := List.all_eq_true.mpr fun x _ => okLI x
def rEqT {ρ : Rep α} (e : Eqd ρ) : R2 := fun x y H Q => ∃ a b : α, ρ.r H x a ∧ ρ.r H y b ∧ e.ok a = true ∧ e.ok b = true ∧ Q (.bl (decide (a = b))) H
def rNeT {ρ : Rep α} (e : Eqd ρ) : R2 := fun x y H Q => ∃ a b : α, ρ.r H x a ∧ ρ.r H y b ∧ e.ok a = true ∧ e.ok b = true ∧ Q (.bl (!decide (a = b))) H
theorem op_eqT (hu : X.A.units + 64 < cLine) (e : Eqd ρ) (hd : e.dp ≤ 60) : OpR X (compareOp .Eq) (rEqT e) := fun pins s σ H x y v u Q I rx ry h => by
  obtain ⟨a, b, ha, hb, oa, ob, q⟩ := h
  exact op_eqD hu pins s σ H x y v u Q I rx ry ⟨e.d a, e.d b, e.h _ ha, e.h _ hb, e.shaped hd a oa, e.shaped hd b ob, by rw [e.eq]; exact q⟩
theorem op_neT (hu : X.A.units + 64 < cLine) (e : Eqd ρ) (hd : e.dp ≤ 60) : OpR X (compareOp .NotEq) (rNeT e) := fun pins s σ H x y v u Q I rx ry h => by
  obtain ⟨a, b, ha, hb, oa, ob, q⟩ := h
  exact op_neD hu pins s σ H x y v u Q I rx ry ⟨e.d a, e.d b, e.h _ ha, e.h _ hb, e.shaped hd a oa, e.shaped hd b ob, by rw [e.eq]; exact q⟩
/-- x in xs, by data -/
def rInT {ρ : Rep α} (e : Eqd ρ) : R2 := fun x y H Q => ∃ (a : α) (b : List α), ρ.r H x a ∧ (rL ρ).r H y b ∧ e.ok a = true ∧ b.all e.ok = true ∧ Q (.bl (decide (a ∈ b))) H
def rNinT {ρ : Rep α} (e : Eqd ρ) : R2 := fun x y H Q => ∃ (a : α) (b : List α), ρ.r H x a ∧ (rL ρ).r H y b ∧ e.ok a = true ∧ b.all e.ok = true ∧ Q (.bl (!decide (a ∈ b))) H
theorem any_mem (e : Eqd ρ) (a : α) (b : List α) : ((b.map e.d).any fun z => PyData.eqv z (e.d a)) = decide (a ∈ b) := by
  induction b with
  | nil => simp
  | cons c b ih =>
    rw [List.map_cons, List.any_cons, ih, e.eq, ← Bool.decide_or]
    congr 1
    rw [List.mem_cons]
    exact propext ⟨fun h => h.elim (fun h => .inl h.symm) .inr, fun h => h.elim (fun h => .inl h.symm) .inr⟩
theorem op_inT (hu : X.A.units + 65 < cLine) (e : Eqd ρ) (hd : e.dp ≤ 50) : OpR X (compareOp .In) (rInT e) := fun pins s σ H x y v u Q I rx ry h => by
  obtain ⟨a, b, ha, hb, oa, ob, q⟩ := h
  refine op_inD hu pins s σ H x y v u Q I rx ry ⟨e.d a, b.map e.d, e.h _ ha, (eqdL e).h _ hb, e.shaped (by omega) a oa, (eqdL e).shaped (show e.dp + 1 ≤ 60 by omega) b ob, ?_⟩
  rw [any_mem]
  exact q
theorem op_ninT (hu : X.A.units + 65 < cLine) (e : Eqd ρ) (hd : e.dp ≤ 50) : OpR X (compareOp .NotIn) (rNinT e) := fun pins s σ H x y v u Q I rx ry h => by
  obtain ⟨a, b, ha, hb, oa, ob, q⟩ := h
  refine op_notInD hu pins s σ H x y v u Q I rx ry ⟨e.d a, b.map e.d, e.h _ ha, (eqdL e).h _ hb, e.shaped (by omega) a oa, (eqdL e).shaped (show e.dp + 1 ≤ 60 by omega) b ob, ?_⟩
  rw [any_mem]
  exact q
end
theorem hu65 {k : Nat} {A : Around} (hr : Room k A) : A.units + 65 < cLine := by have := hr.un; omega

/-! ### flat things -/
section
variable {X : Cx}
def rEqS : R2 := fun x y H Q => ∃ a b : Str, x = .str a ∧ y = .str b ∧ Q (.bl (decide (a = b))) H
def rNeS : R2 := fun x y H Q => ∃ a b : Str, x = .str a ∧ y = .str b ∧ Q (.bl (!decide (a = b))) H
theorem dec_str (a b : Str) : decide (V.str a = V.str b) = decide (a = b) := by
  by_cases h : a = b
  · rw [h, decide_eq_true rfl, decide_eq_true rfl]
  · rw [decide_eq_false h, decide_eq_false fun z => h (V.str.inj z)]
theorem op_eqS : OpR X (compareOp .Eq) rEqS := fun pins s σ H x y v u Q I rx ry h => by
  obtain ⟨a, b, rfl, rfl, q⟩ := h
  exact op_eq pins s σ H _ _ v u Q I rx ry ⟨rfl, by rw [dec_str]; exact q⟩
theorem op_neS : OpR X (compareOp .NotEq) rNeS := fun pins s σ H x y v u Q I rx ry h => by
  obtain ⟨a, b, rfl, rfl, q⟩ := h
  exact op_ne pins s σ H _ _ v u Q I rx ry ⟨rfl, by rw [dec_str]; exact q⟩
theorem dec_bl (a b : Bool) : decide (V.bl a = V.bl b) = decide (a = b) := by cases a <;> cases b <;> rfl
def rEqBl : R2 := fun x y H Q => ∃ a b : Bool, x = .bl a ∧ y = .bl b ∧ Q (.bl (decide (a = b))) H
def rNeBl : R2 := fun x y H Q => ∃ a b : Bool, x = .bl a ∧ y = .bl b ∧ Q (.bl (!decide (a = b))) H
theorem op_eqBl : OpR X (compareOp .Eq) rEqBl := fun pins s σ H x y v u Q I rx ry h => by
  obtain ⟨a, b, rfl, rfl, q⟩ := h
  exact op_eq pins s σ H _ _ v u Q I rx ry ⟨rfl, by rw [dec_bl]; exact q⟩
theorem op_neBl : OpR X (compareOp .NotEq) rNeBl := fun pins s σ H x y v u Q I rx ry h => by
  obtain ⟨a, b, rfl, rfl, q⟩ := h
  exact op_ne pins s σ H _ _ v u Q I rx ry ⟨rfl, by rw [dec_bl]; exact q⟩
def rEqI : R2 := rI0 fun i j => .bl (decide (i = j))
def rNeI : R2 := rI0 fun i j => .bl (!decide (i = j))
theorem dec_int (a b : Int) : decide (V.int a = V.int b) = decide (a = b) := by
  by_cases h : a = b
  · rw [h, decide_eq_true rfl, decide_eq_true rfl]
  · rw [decide_eq_false h, decide_eq_false fun z => h (V.int.inj z)]
theorem op_eqI : OpR X (compareOp .Eq) rEqI := fun pins s σ H x y v u Q I rx ry h => by
  obtain ⟨a, b, rfl, rfl, q⟩ := h
  exact op_eq pins s σ H _ _ v u Q I rx ry ⟨rfl, by rw [dec_int]; exact q⟩
theorem op_neI : OpR X (compareOp .NotEq) rNeI := fun pins s σ H x y v u Q I rx ry h => by
  obtain ⟨a, b, rfl, rfl, q⟩ := h
  exact op_ne pins s σ H _ _ v u Q I rx ry ⟨rfl, by rw [dec_int]; exact q⟩
/-- an int, a text in a list of such -/
theorem inV_I (x : Int) (xs : List Int) : inV (.int x) (xs.map V.int) = decide (x ∈ xs) := by
  unfold inV
  induction xs with
  | nil => simp
  | cons y ys ih =>
    rw [List.map_cons, List.any_cons, ih]
    show ((y == x) || decide (x ∈ ys)) = _
    by_cases h : x = y
    · subst h; simp
    · have h2 : (y == x) = false := by simpa using fun z : y = x => h z.symm
      rw [h2, Bool.false_or]
      congr 1
      simp [h]
theorem inV_S (x : Str) (xs : List Str) : inV (.str x) (xs.map V.str) = decide (x ∈ xs) := by
  unfold inV
  induction xs with
  | nil => simp
  | cons y ys ih =>
    rw [List.map_cons, List.any_cons, ih]
    show ((y == x) || decide (x ∈ ys)) = _
    by_cases h : x = y
    · subst h; simp
    · have h2 : (y == x) = false := by simpa using fun z : y = x => h z.symm
      rw [h2, Bool.false_or]
      congr 1
      simp [h]
def rInI : R2 := fun x y H Q => ∃ (i : Int) (a : Addr) (vs : List V) (xs : List Int), x = .int i ∧ y = .ref a ∧ H a = some (.lst vs) ∧ AL rI H vs xs ∧ Q (.bl (decide (i ∈ xs))) H
def rNinI : R2 := fun x y H Q => ∃ (i : Int) (a : Addr) (vs : List V) (xs : List Int), x = .int i ∧ y = .ref a ∧ H a = some (.lst vs) ∧ AL rI H vs xs ∧ Q (.bl (!decide (i ∈ xs))) H
theorem op_inI : OpR X (compareOp .In) rInI := fun pins s σ H x y v u Q I rx ry h => by
  obtain ⟨i, a, vs, xs, rfl, rfl, h, hal, q⟩ := h
  rw [al_I hal] at h
  exact op_in_seq pins s σ H _ _ v u Q I rx ry ⟨a, _, rfl, .inl (SqL.of h), rfl, flat_I xs, by rw [inV_I]; exact q⟩
theorem op_ninI : OpR X (compareOp .NotIn) rNinI := fun pins s σ H x y v u Q I rx ry h => by
  obtain ⟨i, a, vs, xs, rfl, rfl, h, hal, q⟩ := h
  rw [al_I hal] at h
  exact op_notIn_seq pins s σ H _ _ v u Q I rx ry ⟨a, _, rfl, .inl (SqL.of h), rfl, flat_I xs, by rw [inV_I]; exact q⟩
def rInSl : R2 := fun x y H Q => ∃ (i : Str) (a : Addr) (vs : List V) (xs : List Str), x = .str i ∧ y = .ref a ∧ H a = some (.lst vs) ∧ AL rS H vs xs ∧ Q (.bl (decide (i ∈ xs))) H
def rNinSl : R2 := fun x y H Q => ∃ (i : Str) (a : Addr) (vs : List V) (xs : List Str), x = .str i ∧ y = .ref a ∧ H a = some (.lst vs) ∧ AL rS H vs xs ∧ Q (.bl (!decide (i ∈ xs))) H
theorem op_inSl : OpR X (compareOp .In) rInSl := fun pins s σ H x y v u Q I rx ry h => by
  obtain ⟨i, a, vs, xs, rfl, rfl, h, hal, q⟩ := h
  rw [al_S hal] at h
  exact op_in_seq pins s σ H _ _ v u Q I rx ry ⟨a, _, rfl, .inl (SqL.of h), rfl, flat_S xs, by rw [inV_S]; exact q⟩
theorem op_ninSl : OpR X (compareOp .NotIn) rNinSl := fun pins s σ H x y v u Q I rx ry h => by
  obtain ⟨i, a, vs, xs, rfl, rfl, h, hal, q⟩ := h
  rw [al_S hal] at h
  exact op_notIn_seq pins s σ H _ _ v u Q I rx ry ⟨a, _, rfl, .inl (SqL.of h), rfl, flat_S xs, by rw [inV_S]; exact q⟩
/-- calls -/
def rLenL : List V → Hp → VK → Prop := fun xs H Q => ∃ (p : Addr) (vs : List V) (n : Nat), xs = [.ref p] ∧ H p = some (.lst vs) ∧ vs.length = n ∧ Q (.int (n : Int)) H
theorem call_lenL : CallR X (.builtin "len") rLenL := fun pins s σ H xs us Q I r h => by
  obtain ⟨p, vs, n, rfl, h, rfl, q⟩ := h
  exact call_len_seq pins s σ H _ us Q I r ⟨p, vs, rfl, .inl (SqL.of h), q⟩
def rLenSc (K : PySem.W.Frag) : List V → Hp → VK → Prop := fun xs H Q => ∃ (p : Addr) (ns : List Int), xs = [.ref p] ∧ SqL K H p (ns.map V.int) ∧ Q (.int ((ns.length : Nat) : Int)) H
theorem call_lenSc' : CallR X (.builtin "len") (rLenSc X.K) := fun pins s σ H xs us Q I r h => by
  obtain ⟨p, ns, rfl, h, q⟩ := h
  exact call_len_seq pins s σ H _ us Q I r ⟨p, _, rfl, .inl h, by rw [List.length_map]; exact q⟩
theorem call_lenSc {K : PySem.W.Frag} (h : X.K = K) : CallR X (.builtin "len") (rLenSc K) := by rw [← h]; exact call_lenSc'
theorem ix_l {K : PySem.W.Frag} (h : X.K = K) : IxR X (rIxL K) := by rw [← h]; exact ix_list
theorem sl_l {K : PySem.W.Frag} (h : X.K = K) : SlR X (rSlL K) := by rw [← h]; exact sl_list
theorem call_is {K : PySem.W.Frag} (h : X.K = K) : CallR X (.builtin "isinstance") (rIsi K) := by rw [← h]; exact call_isi
def rIntI : List V → Hp → VK → Prop := fun xs H Q => ∃ i, xs = [.int i] ∧ Q (.int i) H
theorem call_intI : CallR X (.type "int") rIntI := fun pins s σ H xs us Q I r h => by
  obtain ⟨i, rfl, q⟩ := h
  exact call_int1 pins s σ H _ us Q I r (.inl ⟨i, rfl, q⟩)
def b2I (b : Bool) : Int := if b then 1 else 0
def rIntB : List V → Hp → VK → Prop := fun xs H Q => ∃ i, xs = [.bl i] ∧ Q (.int (b2I i)) H
theorem call_intB : CallR X (.type "int") rIntB := fun pins s σ H xs us Q I r h => by
  obtain ⟨i, rfl, q⟩ := h
  exact call_int1 pins s σ H _ us Q I r (.inr ⟨i, rfl, q⟩)
/-- str(i) -/
def sI (i : Int) : Str := toString i
def sOk (i : Int) : Prop := i.natAbs.log2 < 1920
instance (i : Int) : Decidable (sOk i) := inferInstanceAs (Decidable (_ < _))
def rStrI : List V → Hp → VK → Prop := fun xs H Q => ∃ i, xs = [.int i] ∧ sOk i ∧ Q (.str (sI i)) H
theorem call_strI : CallR X (.type "str") rStrI := call_str_int
instance (a b : Int) : Decidable (CMul a b) := inferInstanceAs (Decidable (_ ∨ _))
instance (a b : Int) : Decidable (CDivW a b) := inferInstanceAs (Decidable (_ ∧ _))
instance (a b : Int) : Decidable (CPow a b) := inferInstanceAs (Decidable (_ ∧ _))
theorem sc_at {K : PySem.W.Frag} {H0 G0 G H : Hp} {M : MM} {a : Addr} {vs : List V} (h : SqL K H0 a vs) (c : Cf [] H0 G0 G M H) : SqL K H a vs := ex_l (fun a o e => c.ex0 a o (by simp) e) h
def jOk (a : Str) (ys : List Str) : Prop := (ys.map (·.length)).sum + ys.length * a.length ≤ 16777216
instance (a : Str) (ys : List Str) : Decidable (jOk a ys) := inferInstanceAs (Decidable (_ ≤ _))
def imax (a b : Int) : Int := if b > a then b else a
def imin (a b : Int) : Int := if b < a then b else a
def rMax2 : List V → Hp → VK → Prop := fun xs H Q => ∃ i j, xs = [.int i, .int j] ∧ Q (.int (imax i j)) H
theorem call_maxI (hc : X.calm = true) : CallR X (.builtin "max") rMax2 := call_max2 hc
def rMin2 : List V → Hp → VK → Prop := fun xs H Q => ∃ i j, xs = [.int i, .int j] ∧ Q (.int (imin i j)) H
theorem call_minI (hc : X.calm = true) : CallR X (.builtin "min") rMin2 := call_min2 hc
def rAllB : List V → Hp → VK → Prop := fun xs H Q => ∃ (p : Addr) (vs : List V) (bs : List Bool), xs = [.ref p] ∧ H p = some (.lst vs) ∧ AL rB H vs bs ∧ Q (.bl (bs.all id)) H
theorem call_allB (hc : X.calm = true) : CallR X (.builtin "all") rAllB := fun pins s σ H xs us Q I r h => by
  obtain ⟨p, vs, bs, rfl, h, hal, q⟩ := h
  rw [al_B hal] at h
  exact cr_all hc pins s σ H _ us Q I r ⟨p, bs, rfl, SqL.of h, q⟩
def rListL : List V → Hp → VK → Prop := fun xs H Q => ∃ p vs, xs = [.ref p] ∧ H p = some (.lst vs) ∧ ∀ l, H l = none → Q (.ref l) (upd H l (.lst vs))
theorem call_listL : CallR X (.type "list") rListL := fun pins s σ H xs us Q I r h => by
  obtain ⟨p, vs, rfl, h, q⟩ := h
  exact call_list_of pins s σ H _ us Q I r ⟨p, vs, rfl, .inl (SqL.of h), q⟩
/-- int(text) -/
def iOk (z : Str) : Option Int := if z.length ≤ 640 then PySem.intText? z else none
def rIntS : List V → Hp → VK → Prop := fun xs H Q => ∃ a n, xs = [.str a] ∧ iOk a = some n ∧ Q (.int n) H
theorem call_intS : CallR X (.type "int") rIntS := fun pins s σ H xs us Q I r h => by
  obtain ⟨a, n, rfl, h, q⟩ := h
  unfold iOk at h
  by_cases hz : a.length ≤ 640
  · rw [if_pos hz] at h
    exact call_int_str pins s σ H _ us Q I r ⟨a, n, rfl, h, hz, q⟩
  · rw [if_neg hz] at h
    cases h
end
/-! ### slices -/
def cutL {α : Type} (xs : List α) (lo hi : Option Int) : List α := (xs.drop (HT.sIx xs.length 0 lo)).take (HT.sIx xs.length xs.length hi - HT.sIx xs.length 0 lo)
theorem cut_al {α : Type} {ρ : Rep α} {G : Hp} {vs : List V} {xs : List α} (h : AL ρ G vs xs) (lo hi : Option Int) : AL ρ G (cutV vs lo hi) (cutL xs lo hi) := by
  unfold cutV cutL
  rw [h.len]
  exact A2.take _ (A2.drop _ h)
end Tw

/-! Tw4: sets of ints made of a list, any number of members up to 4,000; sorted. -/
namespace Tw
open PySem PySem.Spec PyProof.Rows L2

/-! ### the strictly ascending list of the members -/
def ins (x : Int) : List Int → List Int
  | [] => [x]
  | y :: l => if x < y then x :: y :: l else if x = y then y :: l else y :: ins x l
def srt (l : List Int) : List Int := l.foldr ins []
theorem ins_mem (x k : Int) : ∀ l, k ∈ ins x l ↔ k = x ∨ k ∈ l
  | [] => by simp [ins]
  | y :: l => by
    unfold ins
    split
    · simp
    · split
      · rename_i h
        subst h
        simp
      · simp only [List.mem_cons, ins_mem x k l]
        constructor
        · rintro (h | h | h)
          · exact .inr (.inl h)
          · exact .inl h
          · exact .inr (.inr h)
        · rintro (h | h | h)
          · exact .inr (.inl h)
          · exact .inl h
          · exact .inr (.inr h)
theorem ins_up (x : Int) : ∀ {l : List Int}, l.Pairwise (· < ·) → (ins x l).Pairwise (· < ·)
  | [], _ => List.pairwise_singleton _ _
  | y :: l, h => by
    obtain ⟨h1, h2⟩ := List.pairwise_cons.mp h
    unfold ins
    split
    · rename_i c
      refine List.pairwise_cons.mpr ⟨fun z hz => ?_, h⟩
      rcases List.mem_cons.mp hz with e | hz
      · omega
      · have := h1 z hz
        omega
    · split
      · exact h
      · refine List.pairwise_cons.mpr ⟨fun z hz => ?_, ins_up x h2⟩
        rcases (ins_mem x z l).mp hz with e | hz
        · omega
        · exact h1 z hz
theorem srt_mem (k : Int) : ∀ l, k ∈ srt l ↔ k ∈ l
  | [] => by simp [srt]
  | x :: l => by
    show k ∈ ins x (srt l) ↔ _
    rw [ins_mem, srt_mem k l, List.mem_cons]
theorem srt_up : ∀ l, (srt l).Pairwise (· < ·)
  | [] => List.Pairwise.nil
  | x :: l => ins_up x (srt_up l)
theorem ins_len (x : Int) : ∀ l, (ins x l).length ≤ l.length + 1
  | [] => Nat.le_refl _
  | y :: l => by
    unfold ins
    split
    · exact Nat.le_refl _
    · split
      · exact Nat.le_succ _
      · have := ins_len x l
        simp only [List.length_cons]
        omega
theorem srt_len : ∀ l, (srt l).length ≤ l.length
  | [] => Nat.le_refl _
  | x :: l => by
    have h1 := ins_len x (srt l)
    have h2 := srt_len l
    show (ins x (srt l)).length ≤ l.length + 1
    omega
theorem up_nd {l : List Int} (h : l.Pairwise (· < ·)) : l.Nodup := h.imp fun {a b} q e => by omega
/-- two strictly ascending lists with the same members are one -/
theorem up_uniq : ∀ {l m : List Int}, l.Pairwise (· < ·) → m.Pairwise (· < ·) → (∀ k, k ∈ l ↔ k ∈ m) → l = m
  | [], [], _, _, _ => rfl
  | [], y :: m, _, _, e => absurd ((e y).mpr List.mem_cons_self) (by simp)
  | x :: l, [], _, _, e => absurd ((e x).mp List.mem_cons_self) (by simp)
  | x :: l, y :: m, h, g, e => by
    obtain ⟨h1, h2⟩ := List.pairwise_cons.mp h
    obtain ⟨g1, g2⟩ := List.pairwise_cons.mp g
    have exy : x = y := by
      rcases List.mem_cons.mp ((e x).mp List.mem_cons_self) with a | a
      · exact a
      · rcases List.mem_cons.mp ((e y).mpr List.mem_cons_self) with b | b
        · exact b.symm
        · have := h1 y b
          have := g1 x a
          omega
    subst exy
    congr 1
    refine up_uniq h2 g2 fun k => ⟨fun hk => ?_, fun hk => ?_⟩
    · rcases List.mem_cons.mp ((e k).mp (List.mem_cons_of_mem _ hk)) with a | a
      · have := h1 k hk
        omega
      · exact a
    · rcases List.mem_cons.mp ((e k).mpr (List.mem_cons_of_mem _ hk)) with a | a
      · have := g1 k hk
        omega
      · exact a
theorem nd_len {l m : List Int} (h : l.Nodup) (g : m.Nodup) (e : ∀ k, k ∈ l ↔ k ∈ m) : l.length = m.length :=
  ((List.perm_ext_iff_of_nodup h g).mpr e).length_eq
/-- the ascending list, doubles kept -/
def insD (x : Int) : List Int → List Int
  | [] => [x]
  | y :: l => if x ≤ y then x :: y :: l else y :: insD x l
def srtD (l : List Int) : List Int := l.foldr insD []
theorem insD_perm (x : Int) : ∀ l, (insD x l).Perm (x :: l)
  | [] => .refl _
  | y :: l => by
    unfold insD
    split
    · exact .refl _
    · exact ((insD_perm x l).cons y).trans (List.Perm.swap x y l)
theorem srtD_perm : ∀ l, (srtD l).Perm l
  | [] => .refl _
  | x :: l => (insD_perm x (srtD l)).trans ((srtD_perm l).cons x)
theorem insD_up (x : Int) : ∀ {l : List Int}, l.Pairwise (· ≤ ·) → (insD x l).Pairwise (· ≤ ·)
  | [], _ => List.pairwise_singleton _ _
  | y :: l, h => by
    obtain ⟨h1, h2⟩ := List.pairwise_cons.mp h
    unfold insD
    split
    · rename_i c
      refine List.pairwise_cons.mpr ⟨fun z hz => ?_, h⟩
      rcases List.mem_cons.mp hz with e | hz
      · omega
      · have := h1 z hz
        omega
    · refine List.pairwise_cons.mpr ⟨fun z hz => ?_, insD_up x h2⟩
      rcases List.mem_cons.mp ((insD_perm x l).mem_iff.mp hz) with e | hz
      · omega
      · exact h1 z hz
theorem srtD_up : ∀ l, (srtD l).Pairwise (· ≤ ·)
  | [] => List.Pairwise.nil
  | x :: l => insD_up x (srtD_up l)
theorem upD_uniq {l m : List Int} (h : l.Pairwise (· ≤ ·)) (g : m.Pairwise (· ≤ ·)) (p : l.Perm m) : l = m :=
  p.eq_of_pairwise (fun a b _ _ h1 h2 => by omega) h g

/-! ### set(xs), a list of ints -/
abbrev nso (w : World) : Obj := { cls := .type "set", dict := none, data := .set #[] 0 (.fresh 0 0 (!w.params.followText "set-order")) }
section
variable {P : Program} {w : World} {A : Around} {E : Value → Shared → Prop} {s : Shared}
/-- a set made of a list of ints; the number of members comes with it -/
theorem set_of_ints {l : Addr} {us : Array Value} (ns : List Int) {Q : Value → Shared → Prop} (nh : A.handled = none) (hl : s.heap.IsList l us) (hi : IntsAre us.toList ns) (fw : ns.length + 1 < scanBound)
    (k : ∀ (hp : Heap) (tk c : Nat), SetR w hp s.heap.objs.size (fun j => decide (j ∈ ns)) c → (∀ b o, s.heap.get? b = some o → hp.get? b = some o) → Q (.ref s.heap.objs.size) { s with heap := hp, toks := tk }) :
    wpAny (model P w) A (call (.type "set") [.ref l]) Q E s := by
  have hus : us.size = ns.length := by
    have e := IntsAre.length hi
    rwa [Array.length_toList] at e
  obtain ⟨mro1, mro2, mro⟩ := PySem.F.called_set.mro
  have made := PySem.F.called_set.made
  have subT := PySem.F.called_set.sub
  have notT := PySem.F.called_set.notType
  have canC := PySem.F.called_set.canCreate
  have tc1 := PySem.F.typeCall_set_1 (.ref l)
  refine wpAny_call (codeAny_of_tree (?_ : wpAny _ _ (callAny (.type "set") _) _ _ _))
  refine wpAny_pure ⟨Code.quiet_builtin _ (by decide +kernel), ?_⟩
  refine codeAny_builtin PySem.F.entry_type_call ?_
  rw [Around.under_plain (weight_type_call_type "set" [.ref l] ([] : List (Str × Value))) rfl]
  repeat (any_goals (first | assumption | wp_step))
  refine codeAny_mono (L2.code_set_led1 (.ref l) (E := E) (Q₁ := fun v t => v = .ref s.heap.objs.size ∧ t = { s with heap := s.heap.push (nso w) }) ⟨rfl, rfl⟩) fun r1 t1 g1 => ?_
  rcases r1 with _ | fl
  · exact g1
  cases fl
  case ret v =>
    obtain ⟨rfl, rfl⟩ := g1
    have at0 : (s.heap.push (nso w)).get? s.heap.objs.size = some (nso w) := Heap.get?_push_size _ rfl
    have ty0 : Shared.TypeIs { s with heap := s.heap.push (nso w) } (.ref s.heap.objs.size) "set" := ⟨_, at0, rfl⟩
    have look := PySem.F.called_set.init.lookup
    have bnd := PySem.F.called_set.init.bind (.ref s.heap.objs.size)
    repeat (any_goals (first | assumption | wp_step))
    refine codeAny_mono (codeAny_call_builtin (R := wants (fun v t => v = .none ∧ ∃ hp tk c, t = { s with heap := hp, toks := tk } ∧ SetR w hp s.heap.objs.size (fun j => decide (j ∈ ns)) c ∧ (∀ b o, s.heap.get? b = some o → hp.get? b = some o)) E)
      PySem.F.called_set.init.plain PySem.F.entry_set_init (check_set_init_1 ty0 ?_)) fun r2 t2 g2 => ?_
    · obtain ⟨⟨kl, dc, da, sl⟩, got, isl, ep, dat⟩ := hl
      simp only at isl dat
      subst isl
      subst dat
      have got1 : (s.heap.push (nso w)).get? l = some { cls := .type "list", dict := dc, data := .seq us ep, slots := sl } := Heap.get?_push_of_some _ got
      have hl1 : (s.heap.push (nso w)).IsList l us := ⟨_, got1, rfl, ep, rfl⟩
      have f1 := PySem.F.sub_list_set
      have f2 := PySem.F.sub_list_frozenset
      have f3 : (Value.type "list" == Value.type "dict") = false := by decide +kernel
      have lt0 : l < s.heap.objs.size := Heap.lt_size got
      unfold Builtin.«set.__init__» noKeywords Builtin.Frozenset.updateFrom
      generalize hIt : pyIter = It
      wp_walk
      subst hIt
      refine wpAny_pyIter_list hl1 (wpAny_bind (wpAny_runValue ?_))
      have nh3 : A.in1.in1.in1.handled = none := by simp [nh]
      have zz : (s.heap.push (nso w)).objs.size = s.heap.objs.size + 1 := Heap.size_push ..
      have ne1 : l ≠ (s.heap.push (nso w)).objs.size := by
        rw [zz]
        exact Nat.ne_of_lt (Nat.lt_succ_of_lt lt0)
      have nin : s.heap.objs.size ∉ [(s.heap.push (nso w)).objs.size, l] := by
        rw [zz, List.mem_cons, List.mem_singleton]
        rintro (e | e)
        · exact absurd e (Nat.ne_of_lt (Nat.lt_succ_self _))
        · exact absurd e.symm (Nat.ne_of_lt lt0)
      have item : ∀ (i : Nat) (v : Value), us[i]? = some v → ∃ n t, ns[i]? = some n ∧ v = .int n t := fun i v hv => by
        have q : i < ns.length := by
          rw [← hus]
          exact (Array.getElem?_eq_some_iff.mp hv).1
        obtain ⟨t, e⟩ := IntsAre.int_at hi i v (by rw [Array.getElem?_toList]; exact hv)
        refine ⟨ns[i], t, List.getElem?_eq_getElem q, e.trans ?_⟩
        rw [List.getD_eq_getElem?_getD, List.getElem?_eq_getElem q] <;> rfl
      refine L2.set_update_ints ((Walks.list nh3 _ l ne1 us).toS) s.heap.objs.size nin ns hus fw item (us.size - 0) 0 _ (by omega) (Nat.zero_le _) ⟨⟨_, Heap.get?_push_size _ rfl, rfl, rfl⟩, hl1.push _⟩
        ⟨0, Nat.le_refl 0, L2.setR_new_at (Heap.get?_push_of_some _ at0)⟩ fun t c mv hc sr => ?_
      obtain ⟨hp, gs, dr, tk, os⟩ := t
      obtain rfl : gs = s.gens := mv.gens
      obtain rfl : dr = s.drawn := mv.drawn
      obtain rfl : os = s.os := mv.os
      show wpAny _ _ _ _ _ _
      refine wpAny_pure ?_
      show wpAny (model P w) _ (ret Value.none) _ _ _
      refine wpAny_pure ⟨rfl, hp, tk, c, rfl, sr, fun b o e => ?_⟩
      have blt : b < s.heap.objs.size := Heap.lt_size e
      refine mv.heap b o (fun z => ?_) (Heap.get?_push_of_some _ (Heap.get?_push_of_some _ e))
      rw [zz, List.mem_cons, List.mem_singleton] at z
      rcases z with z | z
      · exact absurd z (Nat.ne_of_lt blt)
      · exact absurd z (Nat.ne_of_lt (Nat.lt_succ_of_lt blt))
    · rcases r2 with _ | fl2
      · exact g2
      cases fl2
      case ret v2 =>
        obtain ⟨rfl, hp, tk, c, rfl, sr, kp⟩ := g2
        repeat (any_goals (first | assumption | wp_step))
        exact k _ _ _ sr kp
      all_goals exact g2.elim
  all_goals exact g1.elim

/-- the members of a set, sorted, any number of them -/
theorem sort_of_set {a : Addr} {S : Int → Bool} {n : Nat} {Q : Value → Shared → Prop} (R : SetR w s.heap a S n) (nh : A.handled = none)
    (k : ∀ t p (us : Array Value) (e : Nat) (ns : List Int), (∀ b o, s.heap.get? b = some o → t.heap.get? b = some o) → t.gens = s.gens → t.os = s.os → s.heap.objs.size ≤ p →
      t.heap.get? p = some (seqObj "list" us e) → IntsAre us.toList ns → ns.Pairwise (· < ·) → (∀ k, k ∈ ns ↔ S k = true) → Q (.ref p) t) :
    wpAny (model P w) A (call (.builtin "sorted") [.ref a]) Q E s := by
  obtain ⟨ob, es, ep, tb, got, ⟨isS, _⟩, dat, good, nd, mem, room, fits, _, rs, led⟩ := R
  refine Calls.call_function_entry kind_sorted plain_sorted entry_sorted (args_sorted1 _) ?_
  unfold Builtin.«sorted»
  refine wpAny_bind (m := checkCount "sorted" 1 1 _) (wpAny_pure (wpAny_bind (L2.collect_set (A := A.in1) nh ⟨ob, got, isS, dat⟩ fits room rs led fun t vs kp hz eg eo pm => ?_)))
  have few : vs.length ≤ sizeLine := by
    rw [pm.length_eq, List.length_map, Array.length_toList]
    exact fits_of_scanBound room
  have hI := L2.ints_of vs fun v hv => by
    obtain ⟨e, he, q⟩ := List.mem_map.mp (pm.mem_iff.mp hv)
    obtain ⟨i, tk, h1, _⟩ := good e he
    exact ⟨i, tk, q.symm.trans h1⟩
  have pk : (vs.map Builtin.Re.reRawOf).Perm (es.toList.map L2.keyOf) := by
    have q := pm.map Builtin.Re.reRawOf
    rwa [List.map_map] at q
  refine wpAny_bind (wpAny_newList ?_ few)
  have at1 : (t.heap.push (seqObj "list" vs.toArray 0)).get? t.heap.objs.size = some (seqObj "list" vs.toArray 0) := Heap.get?_push_size _ rfl
  refine wpAny_bind (wpAny_holding (wpAny_call_entry slot_list_sort ⟨_, at1, rfl⟩ entry_list_sort (SrtO.list_sort_ord SrtO.swo_int at1 few (fun h2 => SrtO.ints_sortable hI h2) fun out h1 h2 => ⟨.none, rfl, ?_⟩) (args_list_sort _)))
  obtain ⟨g1, g2, g3⟩ := SrtO.ints_out hI h1 h2
  obtain ⟨e2, at2⟩ := sortedHeap_at (vs := vs) (out := out.toArray) at1
  have pn := g2.trans pk
  have g1' : IntsAre out.toArray.toList (out.map SrtO.iv) := g1
  refine wpAny_pure ⟨_, rfl, k _ t.heap.objs.size out.toArray e2 _ (fun b u e => ?_) eg eo hz at2 g1' (L2.lt_of_le_nodup _ g3 (pn.nodup_iff.mpr nd)) (fun i => by rw [pn.mem_iff, ← mem i])⟩
  have q := kp b u e
  have lt1 := Heap.lt_size q
  show (sortedHeap (t.heap.push (seqObj "list" vs.toArray 0)) t.heap.objs.size vs out.toArray).get? b = _
  rw [sortedHeap_old (Nat.ne_of_lt lt1) (by rw [size_push']; exact Nat.lt_succ_of_lt lt1)]
  exact Heap.get?_push_of_some _ q
theorem set_num {a : Addr} {ns : List Int} {c : Nat} {hp : Heap} (R : SetR w hp a (fun j => decide (j ∈ ns)) c) : c = (srt ns).length := by
  obtain ⟨ob, es, ep, tb, got, _, dat, good, nd, mem, room, fits, num, _⟩ := R
  rw [← num, ← Array.length_toList, ← List.length_map (f := L2.keyOf)]
  refine nd_len nd (up_nd (srt_up ns)) fun k => ?_
  rw [← mem k, srt_mem, decide_eq_true_eq]
end

/-! ### rules -/
section
variable {X : Cx}
def setL (w : World) (a : Addr) (ns : List Int) : HO := SetO w a (fun j => decide (j ∈ ns)) (srt ns).length
def rSetL (w : World) : List V → Hp → VK → Prop := fun xs H Q => ∃ (p : Addr) (vs : List V) (ns : List Int), xs = [.ref p] ∧ H p = some (.lst vs) ∧ AL rI H vs ns ∧ ns.length ≤ 4000 ∧ ∀ a, H a = none → Q (.ref a) (upd H a (setL w a ns))
theorem call_setL' (hc : X.calm = true) : CallR X (.type "set") (rSetL X.w) := fun pins s σ H xs us Q I r h => by
  obtain ⟨p, vs, ns, rfl, h, al, few, q⟩ := h
  rw [al_I al] at h
  obtain ⟨its, rv, pl, hz⟩ := I.list (SqL.of h)
  rw [Vals.ref1 r]
  have hI : IntsAre its.toArray.toList ns := rv.ints
  refine set_of_ints ns (I.ok.hd hc) pl.isList hI (by unfold scanBound; omega) fun hp tk c sr kp => ?_
  rw [set_num sr] at sr
  exact ⟨.ref _, upd H s.heap.objs.size (setL X.w s.heap.objs.size ns), I.laid (t' := tk) kp (Nat.le_refl _) (setO_new sr), rfl, q _ (I.hok.fresh (Nat.le_refl _))⟩
theorem call_setL {w : World} (hw : X.w = w) (hc : X.calm = true) : CallR X (.type "set") (rSetL w) := by
  subst hw
  exact call_setL' hc
def rSortS (w : World) : List V → Hp → VK → Prop := fun xs H Q => ∃ (a : Addr) (ns : List Int), xs = [.ref a] ∧ H a = some (setL w a ns) ∧ ∀ p, H p = none → Q (.ref p) (upd H p (.lst ((srt ns).map V.int)))
theorem call_sortS' (hc : X.calm = true) : CallR X (.builtin "sorted") (rSortS X.w) := fun pins s σ H xs us Q I r h => by
  obtain ⟨a, ns, rfl, ha, q⟩ := h
  have sr := setO_get I ha
  rw [Vals.ref1 r]
  refine sort_of_set sr (I.ok.hd hc) fun t p us e out kp eg eo hp at2 hI up mem => ?_
  obtain rfl : out = srt ns := up_uniq up (srt_up ns) fun k => by rw [mem k, srt_mem, decide_eq_true_eq]
  have few : ((srt ns).map V.int).length ≤ sizeLine := by
    obtain ⟨ob, es, ep, tb, got, _, dat, good, nd, mem', room, fits, num, _⟩ := sr
    rw [List.length_map, ← num]
    exact fits_of_scanBound room
  have hn : H p = none := I.hok.fresh hp
  have J : Inv X pins σ (upd H p (.lst ((srt ns).map V.int))) t :=
    I.call' (ch := []) eo (Un.laid kp hp hn) (I.hok.laid kp hp ⟨few, us.toList, e, vals_of_ints hI, by simpa using at2⟩) (by rw [eg]; exact I.bare) (fun _ z => nomatch z)
  exact ⟨.ref p, _, J, rfl, q p hn⟩
theorem call_sortS {w : World} (hw : X.w = w) (hc : X.calm = true) : CallR X (.builtin "sorted") (rSortS w) := by
  subst hw
  exact call_sortS' hc
def rLenS (w : World) : List V → Hp → VK → Prop := fun xs H Q => ∃ (a : Addr) (ns : List Int), xs = [.ref a] ∧ H a = some (setL w a ns) ∧ Q (.int (((srt ns).length : Nat) : Int)) H
theorem call_lenS' : CallR X (.builtin "len") (rLenS X.w) := fun pins s σ H xs us Q I r h => by
  obtain ⟨a, ns, rfl, ha, q⟩ := h
  obtain ⟨ob, es, ep, tb, got, isS, dat, good, nd, mem, room, fits, num, _⟩ := setO_get I ha
  rw [Vals.ref1 r]
  refine call_len_set got isS dat fits (by unfold scanBound at room; omega) ⟨.int (((srt ns).length : Nat) : Int), H, I.tok _, ⟨_, by rw [num]⟩, q⟩
theorem call_lenS {w : World} (hw : X.w = w) : CallR X (.builtin "len") (rLenS w) := by
  subst hw
  exact call_lenS'
def rSortL : List V → Hp → VK → Prop := fun xs H Q => ∃ (p : Addr) (vs : List V) (ns : List Int), xs = [.ref p] ∧ H p = some (.lst vs) ∧ AL rI H vs ns ∧ ∀ a, H a = none → Q (.ref a) (upd H a (.lst ((srtD ns).map V.int)))
theorem call_sortL : CallR X (.builtin "sorted") rSortL := fun pins s σ H xs us Q I r h => by
  obtain ⟨p, vs, ns, rfl, h, al, q⟩ := h
  rw [al_I al] at h
  refine cr_sortedI pins s σ H _ us Q I r ⟨p, ns, rfl, SqL.of h, fun out a pm up hn => ?_⟩
  rw [upD_uniq up (srtD_up ns) (pm.trans (srtD_perm ns).symm)]
  exact q a hn
theorem bt_set : bootBuiltins "set" = some (.type "set") := by decide +kernel
end
end Tw

/-! Tw5: lists of rows that change; fresh rows. -/
namespace Tw
open PySem L2

/-! ### a list whose rows are looked after one by one -/
def rw9 : List Addr → List (List Int) → MM
  | a :: as, x :: xs => (a, .lst (x.map V.int)) :: rw9 as xs
  | _, _ => []
theorem rw9_get : ∀ {as : List Addr} {xs : List (List Int)} {k : Nat} {a : Addr} {x : List Int}, as[k]? = some a → xs[k]? = some x → (rw9 as xs)[k]? = some (a, .lst (x.map V.int))
  | [], _, _, _, _, h, _ => by simp at h
  | _ :: _, [], _, _, _, _, h => by simp at h
  | a :: as, x :: xs, 0, _, _, h, g => by
    simp only [List.getElem?_cons_zero, Option.some.injEq] at h g
    rw [← h, ← g]
    rfl
  | a :: as, x :: xs, k + 1, _, _, h, g => by
    show (rw9 as xs)[k]? = _
    exact rw9_get (by simpa using h) (by simpa using g)
theorem rw9_set : ∀ {as : List Addr} {xs : List (List Int)} {k : Nat} {a : Addr} (x : List Int), as[k]? = some a → (rw9 as xs).set k (a, .lst (x.map V.int)) = rw9 as (xs.set k x)
  | [], _, _, _, _, h => by simp at h
  | _ :: _, [], _, _, _, _ => by simp [rw9]
  | a :: as, x :: xs, 0, _, _, h => by
    simp only [List.getElem?_cons_zero, Option.some.injEq] at h
    rw [← h]
    rfl
  | a :: as, x :: xs, k + 1, _, y, h => by
    show (a, HO.lst (x.map V.int)) :: (rw9 as xs).set k _ = (a, HO.lst (x.map V.int)) :: rw9 as (xs.set k y)
    rw [rw9_set y (by simpa using h)]
theorem rw9_app : ∀ {as : List Addr} {xs : List (List Int)} (a : Addr) (x : List Int), as.length = xs.length → rw9 (as ++ [a]) (xs ++ [x]) = rw9 as xs ++ [(a, .lst (x.map V.int))]
  | [], [], _, _, _ => rfl
  | [], _ :: _, _, _, h => by simp at h
  | _ :: _, [], _, _, h => by simp at h
  | b :: as, y :: xs, a, x, h => by
    show (b, HO.lst (y.map V.int)) :: rw9 (as ++ [a]) (xs ++ [x]) = (b, HO.lst (y.map V.int)) :: (rw9 as xs ++ _)
    rw [rw9_app a x (by simpa using h)]
theorem rw9_fst : ∀ {as : List Addr} {xs : List (List Int)}, as.length = xs.length → (rw9 as xs).map Prod.fst = as
  | [], [], _ => rfl
  | [], _ :: _, h => by simp at h
  | _ :: _, [], h => by simp at h
  | b :: as, y :: xs, h => by
    show b :: (rw9 as xs).map Prod.fst = b :: as
    rw [rw9_fst (by simpa using h)]
section
variable {Bs : List Addr} {H0 G0 G G' H H' : Hp} {M P : MM} {p q a : Addr} {o o' : HO} {k : Nat} {as : List Addr} {xs : List (List Int)}
theorem Cf.sub (c : Cf Bs H0 G0 G (P ++ M) H) : Cf Bs H0 G0 G P H :=
  ⟨c.ex0, c.bh, c.g0, c.fr, c.gh, fun x hx => c.own x (List.mem_append_left _ hx), by
    have h := c.nd
    rw [List.map_append] at h
    exact (List.nodup_append.mp h).1⟩
theorem Cf.mutAt (c : Cf Bs H0 G0 G M H) (h : M[k]? = some (a, o)) (o' : HO) : Cf Bs H0 G0 G (M.set k (a, o')) (upd H a o') := by
  have c1 := (c.front k h).mut o'
  refine c1.perm ?_
  have hk : k < M.length := (List.getElem?_eq_some_iff.mp h).1
  have h2 : (M.set k (a, o'))[k]? = some (a, o') := by simp [hk]
  have p2 := perm_at (M.set k (a, o')) k (a, o') h2
  have e : (M.set k (a, o')).eraseIdx k = M.eraseIdx k := by
    rw [List.eraseIdx_set_eq]
  rw [e] at p2
  exact p2.symm
theorem Cf.rowget (c : Cf Bs H0 G0 G (P ++ rw9 as xs) H) {x : List Int} (ha : as[k]? = some a) (hx : xs[k]? = some x) : H a = some (.lst (x.map V.int)) :=
  c.get (P.length + k) (by rw [List.getElem?_append_right (by omega), Nat.add_sub_cancel_left]; exact rw9_get ha hx)
theorem Cf.rowset (c : Cf Bs H0 G0 G (P ++ rw9 as xs) H) {x : List Int} (ha : as[k]? = some a) (hx : xs[k]? = some x) (y : List Int) : Cf Bs H0 G0 G (P ++ rw9 as (xs.set k y)) (upd H a (.lst (y.map V.int))) := by
  have c1 := c.mutAt (k := P.length + k) (a := a) (o := .lst (x.map V.int)) (by rw [List.getElem?_append_right (by omega), Nat.add_sub_cancel_left]; exact rw9_get ha hx) (.lst (y.map V.int))
  rw [List.set_append_right _ _ (by omega), Nat.add_sub_cancel_left, rw9_set y ha] at c1
  exact c1
theorem Cf.rowpush {x : List Int} (c : Cf Bs H0 G0 G ((q, .lst (x.map V.int)) :: (P ++ rw9 as xs)) H) (hl : as.length = xs.length) : Cf Bs H0 G0 G (P ++ rw9 (as ++ [q]) (xs ++ [x])) H := by
  refine c.perm ?_
  rw [rw9_app q x hl, ← List.append_assoc]
  exact (List.perm_append_singleton _ _).symm
theorem Cf.rowsnew (c : Cf Bs H0 G0 G P H) : Cf Bs H0 G0 G (P ++ rw9 [] []) H := by
  show Cf Bs H0 G0 G (P ++ []) H
  rw [List.append_nil]
  exact c
/-- all rows are fixed -/
theorem Cf.rowsfix (hb : ∀ b ∈ Bs, b ∈ P.map Prod.fst) : ∀ {as : List Addr} {xs : List (List Int)} {G : Hp}, as.length = xs.length → Cf Bs H0 G0 G (P ++ rw9 as xs) H → ∃ G9, Ex G G9 ∧ AL (rL rI) G9 (as.map V.ref) xs ∧ Cf Bs H0 G0 G9 P H
  | [], [], G, _, c => ⟨G, Ex.refl _, .nil, by
    have c : Cf Bs H0 G0 G (P ++ []) H := c
    rwa [List.append_nil] at c⟩
  | [], _ :: _, _, h, _ => by simp at h
  | _ :: _, [], _, h, _ => by simp at h
  | b :: as, y :: xs, G, hl, c => by
    have c1 : Cf Bs H0 G0 G ((b, .lst (y.map V.int)) :: (P ++ rw9 as xs)) H := c.perm (List.perm_middle)
    have c2 := c1.freeze fun b hb' => by
      rw [List.map_append]
      exact List.mem_append_left _ (hb b hb')
    have e1 := freeze_ex c1
    obtain ⟨G9, e2, al, c3⟩ := Cf.rowsfix hb (by simpa using hl) c2
    exact ⟨G9, e1.trans e2, .cons ⟨b, _, rfl, e2 _ _ upd_same, la_I _ _⟩ al, c3⟩
/-- the rows as they are in the heap -/
theorem rows_al (P : MM) : ∀ {as : List Addr} {xs : List (List Int)} , as.length = xs.length → (∀ x ∈ rw9 as xs, H x.1 = some x.2) → AL (rL rI) H (as.map V.ref) xs
  | [], [], _, _ => .nil
  | [], _ :: _, h, _ => by simp at h
  | _ :: _, [], h, _ => by simp at h
  | b :: as, y :: xs, hl, h => .cons ⟨b, _, rfl, h (b, .lst (y.map V.int)) List.mem_cons_self, la_I _ _⟩ (rows_al P (by simpa using hl) fun x hx => h x (List.mem_cons_of_mem _ hx))
theorem Cf.rowsal (c : Cf Bs H0 G0 G (P ++ rw9 as xs) H) (hl : as.length = xs.length) : AL (rL rI) H (as.map V.ref) xs :=
  rows_al P hl fun x hx => (c.own x (List.mem_append_right _ hx)).1

/-! ### fresh rows -/
def Fr9 (H : Hp) (vs : List V) : Prop := vs.Pairwise (fun x y => ∀ a, x = V.ref a → y ≠ V.ref a) ∧ ∀ a, V.ref a ∈ vs → H a = none
theorem Fr9.nil : Fr9 H [] := ⟨List.Pairwise.nil, fun _ h => nomatch h⟩
theorem Fr9.snoc {vs : List V} {v : V} {ys : List (Option (List Int))} (f : Fr9 H0 vs) (c : Cf Bs H0 G0 G M H) (al : AL (rO (rL rI)) G vs ys) (h : ∀ a, v = V.ref a → H a = none) : Fr9 H0 (vs ++ [v]) := by
  have live : ∀ {vs : List V} {ys : List (Option (List Int))}, AL (rO (rL rI)) G vs ys → ∀ a, V.ref a ∈ vs → H a ≠ none := by
    intro vs ys al
    induction al with
    | nil => exact fun _ h => nomatch h
    | cons hx t ih =>
      rename_i x y _ _
      intro a ha
      rcases List.mem_cons.mp ha with e | ha
      · cases y with
        | none =>
          have hx : x = .non := hx
          rw [hx] at e
          cases e
        | some y =>
          obtain ⟨b, ws, e2, g, _⟩ := hx
          rw [e2] at e
          cases e
          rw [c.gh _ _ g]
          exact fun z => nomatch z
      · exact ih a ha
  refine ⟨List.pairwise_append.mpr ⟨f.1, List.pairwise_singleton _ _, fun x hx y hy a e1 e2 => ?_⟩, fun a ha => ?_⟩
  · rw [List.mem_singleton.mp hy] at e2
    subst e1
    exact live al a hx (h a e2)
  · rcases List.mem_append.mp ha with ha | ha
    · exact f.2 a ha
    · exact (c.h0 (h a (List.mem_singleton.mp ha).symm)).1
theorem al_refs : ∀ {vs : List V} {xs : List (List Int)}, AL (rL rI) G vs xs → ∃ as : List Addr, vs = as.map V.ref ∧ as.length = xs.length ∧ ∀ x ∈ rw9 as xs, G x.1 = some x.2
  | _, _, .nil => ⟨[], rfl, rfl, fun _ h => nomatch h⟩
  | _, _, .cons ⟨a, ws, e, g, h⟩ t => by
    obtain ⟨as, e2, l2, k⟩ := al_refs t
    subst e
    subst e2
    rw [al_I h] at g
    refine ⟨a :: as, rfl, by rw [List.length_cons, List.length_cons, l2], fun x hx => ?_⟩
    rcases List.mem_cons.mp hx with e | hx
    · rw [e]
      exact g
    · exact k x hx
/-- behind a call that gives out a list of fresh rows: they are ours -/
theorem Cf.callM (c : Cf Bs H0 G0 G M H) (s : Stp [] G G' H H') {vs : List V} (hp : H p = none) (gp : G' p = none) (ho : H' p = some (.lst vs)) (al : AL (rL rI) G' vs xs) (f : Fr9 H vs) :
    ∃ G9 as, vs = as.map V.ref ∧ as.length = xs.length ∧ Ex G G9 ∧ Cf Bs H0 G0 G9 ((p, .lst (as.map V.ref)) :: M ++ rw9 as xs) H' := by
  obtain ⟨as, e, l, rows⟩ := al_refs al
  subst e
  have c1 := c.callO s hp gp ho
  have fst := rw9_fst l
  have new : ∀ a ∈ as, H a = none := fun a ha => f.2 a (List.mem_map.mpr ⟨a, ha, rfl⟩)
  have nG : ∀ a ∈ as, G a = none := fun a ha => c.gh.free (new a ha)
  have nd : as.Nodup := (List.pairwise_map.mp f.1).imp fun {x y} h e => h x rfl (by rw [e])
  classical
  refine ⟨fun a => if a ∈ as then none else G' a, as, rfl, l, fun a u e => ?_, ?_⟩
  · have : a ∉ as := fun z => by rw [nG a z] at e; cases e
    show (if a ∈ as then none else G' a) = some u
    rw [if_neg this]
    exact s.gg a u e
  · refine ⟨c1.ex0, c1.bh, fun a u e => ?_, fun a ha => ?_, fun a u e => ?_, fun x hx => ?_, ?_⟩
    · have : a ∉ as := fun z => by
        have := c.g0 a u e
        rw [nG a z] at this
        cases this
      show (if a ∈ as then none else G' a) = some u
      rw [if_neg this]
      exact c1.g0 a u e
    · have : a ∉ as := fun z => ha (c.h0 (new a z)).1
      show (if a ∈ as then none else G' a) = _
      rw [if_neg this]
      exact c1.fr a ha
    · have e : (if a ∈ as then none else G' a) = some u := e
      by_cases z : a ∈ as
      · rw [if_pos z] at e
        cases e
      · rw [if_neg z] at e
        exact c1.gh a u e
    · rcases List.mem_append.mp hx with hx | hx
      · obtain ⟨h1, h2, h3⟩ := c1.own x hx
        refine ⟨h1, ?_, h3⟩
        show (if x.1 ∈ as then none else G' x.1) = none
        by_cases z : x.1 ∈ as
        · rw [if_pos z]
        · rw [if_neg z]
          exact h2
      · have z : x.1 ∈ as := by
          rw [← fst]
          exact List.mem_map.mpr ⟨x, hx, rfl⟩
        refine ⟨s.gh _ _ (rows x hx), ?_, .inl (c.h0 (new _ z)).1⟩
        show (if x.1 ∈ as then none else G' x.1) = none
        rw [if_pos z]
    · rw [List.map_append, fst, List.nodup_append]
      refine ⟨c1.nd, nd, fun x hx y hy e => ?_⟩
      subst e
      rcases List.mem_cons.mp hx with e | hx
      · have h1 : ∃ x9 ∈ rw9 as xs, x9.1 = x := by
          rw [← fst] at hy
          obtain ⟨x9, h, e9⟩ := List.mem_map.mp hy
          exact ⟨x9, h, e9⟩
        obtain ⟨x9, h9, e9⟩ := h1
        have := rows x9 h9
        rw [e9, e, gp] at this
        cases this
      · obtain ⟨x9, h9, e9⟩ := List.mem_map.mp hx
        have := (c.own x9 h9).1
        rw [e9, new x hy] at this
        cases this
end
theorem at_ref {as : List Addr} {xs : List (List Int)} {i : Int} {x : List Int} (hl : as.length = xs.length) (h : atI xs i = some x) : ∃ k a, ixN xs.length i = some k ∧ as[k]? = some a ∧ xs[k]? = some x ∧ atI (as.map V.ref) i = some (.ref a) := by
  unfold atI at h
  obtain ⟨k, hk, h⟩ := Option.bind_eq_some_iff.mp h
  have lt : k < xs.length := ixN_len hk
  have lt2 : k < as.length := by omega
  refine ⟨k, as[k], hk, List.getElem?_eq_getElem lt2, h, ?_⟩
  unfold atI
  rw [List.length_map, hl, hk]
  show (as.map V.ref)[k]? = _
  rw [List.getElem?_map, List.getElem?_eq_getElem lt2]
  rfl
/-- a row is changed, by its place -/
def setI {α : Type} (xs : List α) (i : Int) (y : α) : List α := match ixN xs.length i with
  | some k => xs.set k y
  | none => xs
theorem setI_of {α : Type} {xs : List α} {i : Int} {y : α} {k : Nat} (h : ixN xs.length i = some k) : setI xs i y = xs.set k y := by
  unfold setI
  rw [h]
end Tw

/-! Tw6: plain facts about the words of mirrors. -/
namespace Tw
open PySem L2

theorem bigE : BIG = 16777216 := rfl
theorem lcm_ok {α β : Type} {f : α → Option β} {g : α → β} : ∀ {l : List α}, (∀ x ∈ l, f x = some (g x)) → lcm f l = some (l.map g)
  | [], _ => rfl
  | x :: l, h => by
    show (f x).bind _ = _
    rw [h x List.mem_cons_self, lcm_ok fun y hy => h y (List.mem_cons_of_mem _ hy)]
    rfl
theorem lcf_ok {α β : Type} {f : α → Option (Option β)} {p : α → Bool} {g : α → β} : ∀ {l : List α}, (∀ x ∈ l, f x = some (if p x = true then some (g x) else none)) → lcf f l = some ((l.filter p).map g)
  | [], _ => rfl
  | x :: l, h => by
    show (f x).bind _ = _
    rw [h x List.mem_cons_self, lcf_ok fun y hy => h y (List.mem_cons_of_mem _ hy)]
    cases e : p x with
    | true => simp [e]
    | false => simp [e]
theorem lcs_sub {α S : Type} {f : α → S → Option (Option α × S)} {I : S → Prop} : ∀ {l : List α} {s : S}, I s → (∀ x ∈ l, ∀ s, I s → ∃ (b : Bool) (s' : S), f x s = some (if b = true then some x else none, s') ∧ I s') → ∃ r s', lcs f l s = some (r, s') ∧ I s' ∧ r.Sublist l
  | [], s, i, _ => ⟨[], s, rfl, i, .slnil⟩
  | x :: l, s, i, h => by
    obtain ⟨b, s1, e, i1⟩ := h x List.mem_cons_self s i
    obtain ⟨r, s2, e2, i2, q⟩ := lcs_sub i1 fun y hy => h y (List.mem_cons_of_mem _ hy)
    cases b with
    | true =>
      refine ⟨x :: r, s2, ?_, i2, q.cons₂ x⟩
      show (f x s).bind _ = _
      rw [e]
      show (lcs f l s1).bind _ = _
      rw [e2]
      rfl
    | false =>
      refine ⟨r, s2, ?_, i2, q.cons x⟩
      show (f x s).bind _ = _
      rw [e]
      show (lcs f l s1).bind _ = _
      rw [e2]
      rfl
theorem lcs_all {α β S : Type} {f : α → S → Option (Option β × S)} {I : S → Prop} {P : β → Prop} : ∀ {l : List α} {s : S}, I s → (∀ x ∈ l, ∀ s, I s → ∃ (y : β) (s' : S), f x s = some (some y, s') ∧ I s' ∧ P y) → ∃ r s', lcs f l s = some (r, s') ∧ I s' ∧ r.length = l.length ∧ ∀ y ∈ r, P y
  | [], s, i, _ => ⟨[], s, rfl, i, rfl, fun _ z => nomatch z⟩
  | x :: l, s, i, h => by
    obtain ⟨y, s1, e, i1, p⟩ := h x List.mem_cons_self s i
    obtain ⟨r, s2, e2, i2, q, all⟩ := lcs_all i1 fun y hy => h y (List.mem_cons_of_mem _ hy)
    refine ⟨y :: r, s2, ?_, i2, by simp [q], fun z hz => ?_⟩
    · show (f x s).bind _ = _
      rw [e]
      show (lcs f l s1).bind _ = _
      rw [e2]
      rfl
    · rcases List.mem_cons.mp hz with e | hz
      · rw [e]
        exact p
      · exact all z hz
/-! ranges -/
theorem rng_nil {lo hi : Int} (h : hi ≤ lo) : rng lo hi = [] := by
  unfold rng
  rw [show (hi - lo).toNat = 0 by omega]
  rfl
theorem rng_cons {lo hi : Int} (h : lo < hi) : rng lo hi = lo :: rng (lo + 1) hi := by
  unfold rng
  obtain ⟨n, hn⟩ : ∃ n, (hi - lo).toNat = n + 1 := ⟨(hi - lo).toNat - 1, by omega⟩
  rw [hn, show (hi - (lo + 1)).toNat = n by omega, List.range_succ_eq_map, List.map_cons, List.map_map]
  congr 1
  · simp
  · refine List.map_congr_left fun i _ => ?_
    show lo + ((i + 1 : Nat) : Int) = lo + 1 + (i : Int)
    omega
theorem rng_mem {lo hi x : Int} : x ∈ rng lo hi ↔ lo ≤ x ∧ x < hi := by
  unfold rng
  rw [List.mem_map]
  constructor
  · rintro ⟨i, hi', e⟩
    rw [List.mem_range] at hi'
    omega
  · intro h
    exact ⟨(x - lo).toNat, by rw [List.mem_range]; omega, by omega⟩
theorem rng_up (lo hi : Int) : (rng lo hi).Pairwise (· < ·) := by
  unfold rng
  rw [List.pairwise_map]
  exact List.pairwise_lt_range.imp fun {a b} h => by omega
theorem lp_rng {S : Type} {f : Int → S → Option S} {I : Int → S → Prop} {hi : Int} : ∀ (n : Nat) (lo : Int) (s : S), hi - lo = n → I lo s → (∀ i, lo ≤ i → i < hi → ∀ s, I i s → ∃ s', f i s = some s' ∧ I (i + 1) s') → ∃ s', lp f (rng lo hi) s = some s' ∧ I hi s'
  | 0, lo, s, e, i, _ => ⟨s, by rw [rng_nil (by omega)]; rfl, by rw [show hi = lo by omega]; exact i⟩
  | n + 1, lo, s, e, i, h => by
    obtain ⟨s1, e1, i1⟩ := h lo (Int.le_refl _) (by omega) s i
    obtain ⟨s2, e2, i2⟩ := lp_rng n (lo + 1) s1 (by omega) i1 fun j h1 h2 => h j (by omega) h2
    refine ⟨s2, ?_, i2⟩
    rw [rng_cons (by omega)]
    show (f lo s).bind _ = _
    rw [e1]
    exact e2
/-- .. from 0 to a number that may be below -/
theorem lp_rng0 {S : Type} {f : Int → S → Option S} {I : Int → S → Prop} {n : Int} (h0 : 0 ≤ n) {s : S} (i : I 0 s) (h : ∀ i, 0 ≤ i → i < n → ∀ s, I i s → ∃ s', f i s = some s' ∧ I (i + 1) s') : ∃ s', lp f (rng 0 n) s = some s' ∧ I n s' :=
  lp_rng n.toNat 0 s (by omega) i h
theorem lpx_all {α S R : Type} {f : α → S → Option (Out S R)} {I : S → Prop} : ∀ {l : List α} {s : S}, I s → (∀ x ∈ l, ∀ s, I s → ∃ s', f x s = some (.nx s') ∧ I s') → ∃ s', lpx f l s = some (.nx s') ∧ I s'
  | [], s, i, _ => ⟨s, rfl, i⟩
  | x :: l, s, i, h => by
    obtain ⟨s1, e, i1⟩ := h x List.mem_cons_self s i
    obtain ⟨s2, e2, i2⟩ := lpx_all i1 fun y hy => h y (List.mem_cons_of_mem _ hy)
    refine ⟨s2, ?_, i2⟩
    show (f x s).bind _ = _
    rw [e]
    exact e2
/-! enumerate -/
def enF {α : Type} : Int → List α → List (Int × α)
  | _, [] => []
  | k, x :: l => (k, x) :: enF (k + 1) l
theorem zip_enF {α : Type} : ∀ (xs : List α) (k : Int), (rng k (k + xs.length)).zip xs = enF k xs
  | [], k => by rw [List.zip_nil_right]; rfl
  | x :: l, k => by
    rw [rng_cons (by simp only [List.length_cons]; omega), List.zip_cons_cons]
    show (k, x) :: _ = (k, x) :: enF (k + 1) l
    rw [← zip_enF l (k + 1)]
    congr 3
    simp only [List.length_cons]
    omega
theorem enm_eq {α : Type} (xs : List α) : enm xs = enF 0 xs := by
  rw [← zip_enF xs 0]
  unfold enm
  rw [show (0 : Int) + (xs.length : Int) = (xs.length : Int) by omega]
/-! places -/
theorem atI_nat {α : Type} {xs : List α} {i : Int} (h0 : 0 ≤ i) (h1 : i < xs.length) : atI xs i = xs[i.toNat]? := by
  unfold atI ixN
  rw [if_pos h0, if_pos h1]
  rfl
theorem atI_get {α : Type} {xs : List α} {i : Int} (h0 : 0 ≤ i) (h1 : i < xs.length) : atI xs i = some (xs[i.toNat]'(by omega)) := by
  rw [atI_nat h0 h1]
  exact List.getElem?_eq_getElem (by omega)
theorem ixN_nat {n : Nat} {i : Int} (h0 : 0 ≤ i) (h1 : i < n) : ixN n i = some i.toNat := by
  unfold ixN
  rw [if_pos h0, if_pos h1]
theorem atI_last {α : Type} {xs : List α} {x : α} : atI (xs ++ [x]) (-(1 : Int)) = some x := by
  unfold atI ixN
  rw [if_neg (by omega), if_pos (by simp only [List.length_append, List.length_cons, List.length_nil]; omega)]
  show (xs ++ [x])[(-(1 : Int) + ((xs ++ [x]).length : Int)).toNat]? = _
  rw [show (-(1 : Int) + ((xs ++ [x]).length : Int)).toNat = xs.length by simp only [List.length_append, List.length_cons, List.length_nil]; omega]
  simp
theorem setI_get {α : Type} {xs : List α} {i : Int} {y : α} (h0 : 0 ≤ i) (h1 : i < xs.length) : setI xs i y = xs.set i.toNat y := setI_of (ixN_nat h0 h1)
theorem cutL_to {α : Type} {xs : List α} {i : Int} (h0 : 0 ≤ i) (h1 : i ≤ xs.length) : cutL xs none (some i) = xs.take i.toNat := by
  unfold cutL
  show (xs.drop 0).take ((if i < 0 then _ else min i.toNat xs.length) - 0) = _
  rw [if_neg (by omega), List.drop_zero, Nat.sub_zero, Nat.min_eq_left (by omega)]
theorem cutL_from {α : Type} {xs : List α} {i : Int} (h0 : 0 ≤ i) (h1 : i ≤ xs.length) : cutL xs (some i) none = xs.drop i.toNat := by
  unfold cutL
  show (xs.drop (if i < 0 then _ else min i.toNat xs.length)).take (xs.length - (if i < 0 then _ else min i.toNat xs.length)) = _
  rw [if_neg (by omega), Nat.min_eq_left (by omega)]
  exact List.take_of_length_le (by rw [List.length_drop]; omega)
theorem allS_some {α : Type} : ∀ xs : List α, allS (xs.map some) = some xs
  | [] => rfl
  | x :: l => by
    show (allS (l.map some)).bind _ = _
    rw [allS_some l]
    rfl
theorem rok_small {n : Int} (h0 : 0 ≤ n) (h1 : n < 1000000) : rok n := by
  unfold rok
  omega
end Tw
namespace Tw
open PySem L2
/-! ### an answer is there, and such -/
def Yes {α : Type} (x : Option α) (Q : α → Prop) : Prop := ∃ r, x = some r ∧ Q r
section
variable {α β S R : Type} {Q : β → Prop}
theorem Yes.so {x : Option β} {b : β} (h : Yes x fun r => r = b) : x = some b := by
  obtain ⟨r, e, q⟩ := h
  rw [e, q]
theorem Yes.val {b : β} (h : Q b) : Yes (some b) Q := ⟨b, rfl, h⟩
theorem Yes.bind {x : Option α} {f : α → Option β} {P : α → Prop} (h : Yes x P) (k : ∀ a, P a → Yes (f a) Q) : Yes (x.bind f) Q := by
  obtain ⟨a, e, p⟩ := h
  rw [e]
  exact k a p
theorem Yes.bindS {x : Option α} {f : α → Option β} {a : α} (h : x = some a) (k : Yes (f a) Q) : Yes (x.bind f) Q := by
  rw [h]
  exact k
theorem Yes.gd {c : Prop} [Decidable c] {r : Option β} (h : c) (k : Yes r Q) : Yes (gd c r) Q := by
  rw [gd_of h]
  exact k
theorem Yes.lt {e : α} {f : α → Option β} (k : Yes (f e) Q) : Yes (lt e f) Q := k
theorem Yes.ite {b : Bool} {x y : Option β} (h1 : b = true → Yes x Q) (h2 : b = false → Yes y Q) : Yes (if b = true then x else y) Q := by
  cases b with
  | true => exact h1 rfl
  | false => exact h2 rfl
theorem Yes.imp {P : β → Prop} {x : Option β} (h : Yes x P) (k : ∀ b, P b → Q b) : Yes x Q := by
  obtain ⟨a, e, p⟩ := h
  exact ⟨a, e, k a p⟩
theorem Yes.lp0 {f : Int → S → Option S} {n : Int} {s : S} {g : S → Option β} (I : Int → S → Prop) (h0 : 0 ≤ n) (i : I 0 s) (h : ∀ i, 0 ≤ i → i < n → ∀ s, I i s → Yes (f i s) (I (i + 1))) (k : ∀ s, I n s → Yes (g s) Q) : Yes ((lp f (rng 0 n) s).bind g) Q := by
  obtain ⟨s', e, i'⟩ := lp_rng0 h0 i h
  rw [e]
  exact k s' i'
theorem Yes.lpl {f : α → S → Option S} {l : List α} {s : S} {g : S → Option β} (I : S → Prop) (i : I s) (h : ∀ x ∈ l, ∀ s, I s → Yes (f x s) I) (k : ∀ s, I s → Yes (g s) Q) : Yes ((lp f l s).bind g) Q := by
  have all : ∀ (l : List α) (s : S), I s → (∀ x ∈ l, ∀ s, I s → Yes (f x s) I) → ∃ s', lp f l s = some s' ∧ I s' := by
    intro l
    induction l with
    | nil => exact fun s i _ => ⟨s, rfl, i⟩
    | cons x l ih =>
      intro s i h
      obtain ⟨s1, e1, i1⟩ := h x List.mem_cons_self s i
      obtain ⟨s2, e2, i2⟩ := ih s1 i1 fun y hy => h y (List.mem_cons_of_mem _ hy)
      refine ⟨s2, ?_, i2⟩
      show (f x s).bind _ = _
      rw [e1]
      exact e2
  obtain ⟨s', e, i'⟩ := all l s i h
  rw [e]
  exact k s' i'
theorem Yes.lpxl {f : α → S → Option (Out S R)} {l : List α} {s : S} {g : Out S R → Option β} (I : S → Prop) (i : I s) (h : ∀ x ∈ l, ∀ s, I s → Yes (f x s) fun o => ∃ s', o = .nx s' ∧ I s') (k : ∀ s, I s → Yes (g (.nx s)) Q) : Yes ((lpx f l s).bind g) Q := by
  obtain ⟨s', e, i'⟩ := lpx_all (f := f) (I := I) i fun x hx s hs => by
    obtain ⟨o, e, s', eo, i'⟩ := h x hx s hs
    exact ⟨s', by rw [e, eo], i'⟩
  rw [e]
  exact k s' i'
theorem Yes.lpxu {f : α → Unit → Option (Out Unit R)} {l : List α} {s : Unit} {g : Out Unit R → Option β} (h : ∀ x ∈ l, Yes (f x ()) fun o => o = .nx ()) (k : Yes (g (.nx ())) Q) : Yes ((lpx f l s).bind g) Q :=
  Yes.lpxl (fun _ => True) trivial (fun x hx s _ => (h x hx).imp fun o e => ⟨(), e, trivial⟩) fun _ _ => k
theorem Yes.lcmg {γ : Type} {f : α → Option γ} (g : α → γ) {l : List α} {k : List γ → Option β} (h : ∀ x ∈ l, f x = some (g x)) (q : Yes (k (l.map g)) Q) : Yes ((lcm f l).bind k) Q := by
  rw [lcm_ok h]
  exact q
theorem Yes.lcm {γ : Type} {f : α → Option γ} {P : γ → Prop} {l : List α} {k : List γ → Option β} (h : ∀ x ∈ l, Yes (f x) P) (q : ∀ r : List γ, r.length = l.length → (∀ y ∈ r, P y) → Yes (k r) Q) : Yes ((lcm f l).bind k) Q := by
  have all : ∀ l : List α, (∀ x ∈ l, Yes (f x) P) → ∃ r : List γ, Tw.lcm f l = some r ∧ r.length = l.length ∧ ∀ y ∈ r, P y := by
    intro l
    induction l with
    | nil => exact fun _ => ⟨[], rfl, rfl, fun _ z => nomatch z⟩
    | cons x l ih =>
      intro h
      obtain ⟨y, e, p⟩ := h x List.mem_cons_self
      obtain ⟨r, e2, l2, a2⟩ := ih fun z hz => h z (List.mem_cons_of_mem _ hz)
      refine ⟨y :: r, ?_, by simp [l2], fun z hz => ?_⟩
      · show (f x).bind _ = _
        rw [e]
        show (Tw.lcm f l).bind _ = _
        rw [e2]
        rfl
      · rcases List.mem_cons.mp hz with c | hz
        · rw [c]
          exact p
        · exact a2 z hz
  obtain ⟨r, e, l2, a2⟩ := all l h
  rw [e]
  exact q r l2 a2
theorem Yes.lcfg {γ : Type} {f : α → Option (Option γ)} (p : α → Bool) (g : α → γ) {l : List α} {k : List γ → Option β} (h : ∀ x ∈ l, f x = some (if p x = true then some (g x) else none)) (q : Yes (k ((l.filter p).map g)) Q) : Yes ((lcf f l).bind k) Q := by
  rw [lcf_ok h]
  exact q
theorem Yes.lcsub {f : α → S → Option (Option α × S)} (I : S → Prop) {l : List α} {s : S} {k : List α × S → Option β} (i : I s) (h : ∀ x ∈ l, ∀ s, I s → Yes (f x s) fun o => (o.1 = some x ∨ o.1 = none) ∧ I o.2) (q : ∀ r s, r.Sublist l → I s → Yes (k (r, s)) Q) : Yes ((lcs f l s).bind k) Q := by
  obtain ⟨r, s', e, i', sub⟩ := lcs_sub (f := f) i fun x hx s hs => by
    obtain ⟨⟨o1, o2⟩, e, c, i2⟩ := h x hx s hs
    rcases c with c | c
    · exact ⟨true, o2, by rw [e]; exact congrArg some (Prod.ext c rfl), i2⟩
    · exact ⟨false, o2, by rw [e]; exact congrArg some (Prod.ext c rfl), i2⟩
  rw [e]
  exact q r s' sub i'
theorem Yes.lcsall {γ : Type} {f : α → S → Option (Option γ × S)} (I : S → Prop) (P : γ → Prop) {l : List α} {s : S} {k : List γ × S → Option β} (i : I s) (h : ∀ x ∈ l, ∀ s, I s → Yes (f x s) fun o => (∃ y, o.1 = some y ∧ P y) ∧ I o.2) (q : ∀ r s, r.length = l.length → (∀ y ∈ r, P y) → I s → Yes (k (r, s)) Q) : Yes ((lcs f l s).bind k) Q := by
  obtain ⟨r, s', e, i', l', a'⟩ := lcs_all (f := f) (P := P) i fun x hx s hs => by
    obtain ⟨⟨o1, o2⟩, e, ⟨y, ey, p⟩, i2⟩ := h x hx s hs
    exact ⟨y, o2, by rw [e]; exact congrArg some (Prod.ext ey rfl), i2, p⟩
  rw [e]
  exact q r s' l' a' i'
end
end Tw

/-! Tw7: plain facts about texts of numbers. -/
namespace Tw
open PySem L2 TL

theorem tl_sI (n : Nat) : tl (sI (n : Int)) = numL n := tl_num n
theorem str0 : ("0" : Str) = ⟨#[48]⟩ := by decide +kernel
theorem strC : tl ("," : Str) = 44 :: [] := by decide +kernel
theorem strSp : tl (" " : Str) = 32 :: [] := by decide +kernel
theorem strMi : tl ("-" : Str) = [45] := by decide +kernel
theorem strDot : tl ("." : Str) = [46] := by decide +kernel
theorem strDg : (Str.cps ("0123456789" : Str)).toList = [48, 49, 50, 51, 52, 53, 54, 55, 56, 57] := by decide +kernel
theorem strE : tl ("" : Str) = [] := by decide +kernel
theorem numL_zero : ∀ {n : Nat} {r : List Nat}, numL n = 48 :: r → n = 0 := by
  intro n
  induction n using Nat.strongRecOn with
  | _ n ih =>
    intro r h
    by_cases hn : n < 10
    · rw [numL_lt hn] at h
      injection h with h1 h2
      omega
    · rw [numL_step (by omega)] at h
      obtain ⟨c, l, e⟩ : ∃ c l, numL (n / 10) = c :: l := by
        cases e : numL (n / 10) with
        | nil => exact absurd e (numL_ne _)
        | cons c l => exact ⟨c, l, rfl⟩
      rw [e] at h
      injection h with h1 h2
      rw [h1] at e
      have := ih (n / 10) (by omega) e
      omega
theorem dig_mem {c : Nat} (h : 48 ≤ c ∧ c ≤ 57) : c ∈ (Str.cps ("0123456789" : Str)).toList := by
  rw [strDg]
  have : c = 48 ∨ c = 49 ∨ c = 50 ∨ c = 51 ∨ c = 52 ∨ c = 53 ∨ c = 54 ∨ c = 55 ∨ c = 56 ∨ c = 57 := by omega
  simpa using this
theorem sI_len {n : Nat} {k : Nat} (hk : 0 < k) (h : n < 10 ^ k) : (sI (n : Int)).length ≤ k := by
  rw [len_tl, tl_sI]
  exact numL_len hk h
theorem iOk_sI {n : Nat} (h : n < 10 ^ 30) : iOk (sI (n : Int)) = some (n : Int) := by
  have l := sI_len (k := 30) (by omega) h
  unfold iOk
  rw [if_pos (by omega)]
  exact int_num (by have := numL_len (k := 30) (by omega) h; omega)
theorem sI_inj {m n : Nat} (h : sI (m : Int) = sI (n : Int)) : m = n := numL_inj (by rw [← tl_sI, ← tl_sI, h])
theorem sOk_nat {n : Nat} (h : n < 2 ^ 1900) : sOk (n : Int) := by
  show ((n : Int).natAbs).log2 < 1920
  rw [Int.natAbs_natCast]
  by_cases z : n = 0
  · subst z
    decide
  · exact (Nat.log2_lt z).mpr (Nat.lt_of_lt_of_le h (Nat.pow_le_pow_right (by omega) (by omega)))
theorem sOk_small {i : Int} (h0 : 0 ≤ i) (h1 : i < 10 ^ 40) : sOk i := by
  obtain ⟨n, rfl⟩ := Int.eq_ofNat_of_zero_le h0
  refine sOk_nat (Nat.lt_of_lt_of_le (by omega : n < 10 ^ 40) ?_)
  exact Nat.le_trans (by decide : 10 ^ 40 ≤ 2 ^ 150) (Nat.pow_le_pow_right (by omega) (by omega))
theorem sum_le {k : Nat} : ∀ {l : List Nat}, (∀ x ∈ l, x ≤ k) → l.sum ≤ l.length * k
  | [], _ => by simp
  | x :: l, h => by
    have h1 := h x List.mem_cons_self
    have h2 := sum_le fun y hy => h y (List.mem_cons_of_mem _ hy)
    rw [List.sum_cons, List.length_cons, Nat.succ_mul]
    omega
theorem jOk_of {a : Str} {ys : List Str} {k n : Nat} (ha : a.length ≤ 1) (hy : ∀ y ∈ ys, y.length ≤ k) (hn : ys.length ≤ n) (h : n * (k + 1) ≤ 16777216) : jOk a ys := by
  have h1 : (ys.map (·.length)).sum ≤ ys.length * k := by
    have := sum_le (k := k) (l := ys.map (·.length)) fun x hx => by
      obtain ⟨y, hy', e⟩ := List.mem_map.mp hx
      rw [← e]
      exact hy y hy'
    rwa [List.length_map] at this
  have h2 : ys.length * a.length ≤ ys.length * 1 := Nat.mul_le_mul_left _ ha
  have h3 : ys.length * (k + 1) ≤ n * (k + 1) := Nat.mul_le_mul_right _ hn
  have h4 : ys.length * (k + 1) = ys.length * k + ys.length := Nat.mul_succ _ _
  show (ys.map (·.length)).sum + ys.length * a.length ≤ 16777216
  omega
theorem join_len (a : Str) (ha : a.length ≤ 1) {ys : List Str} {k n : Nat} (hy : ∀ y ∈ ys, y.length ≤ k) (hn : ys.length ≤ n) : (Txt.join a ys).length ≤ n * (k + 1) := by
  rw [join_eq]
  have h0 := StrLaws.join_length_le a ys
  have h1 : (ys.map (·.length)).sum ≤ ys.length * k := by
    have := sum_le (k := k) (l := ys.map (·.length)) fun x hx => by
      obtain ⟨y, hy', e⟩ := List.mem_map.mp hx
      rw [← e]
      exact hy y hy'
    rwa [List.length_map] at this
  have h2 : ys.length * a.length ≤ ys.length * 1 := Nat.mul_le_mul_left _ ha
  have h3 : ys.length * (k + 1) ≤ n * (k + 1) := Nat.mul_le_mul_right _ hn
  have h4 : ys.length * (k + 1) = ys.length * k + ys.length := Nat.mul_succ _ _
  omega
/-- the signs of a joined text -/
theorem joinL_mem {S : List Nat} {c : Nat} : ∀ {ps : List (List Nat)}, c ∈ joinL S ps → c ∈ S ∨ ∃ p ∈ ps, c ∈ p
  | [], h => by cases h
  | [p], h => .inr ⟨p, List.mem_cons_self, h⟩
  | p :: q :: r, h => by
    have h : c ∈ p ++ (S ++ joinL S (q :: r)) := h
    rcases List.mem_append.mp h with h | h
    · exact .inr ⟨p, List.mem_cons_self, h⟩
    · rcases List.mem_append.mp h with h | h
      · exact .inl h
      · rcases joinL_mem h with h | ⟨z, hz, h⟩
        · exact .inl h
        · exact .inr ⟨z, List.mem_cons_of_mem _ hz, h⟩
theorem join_mem {a : Str} {ys : List Str} {c : Nat} (h : c ∈ tl (Txt.join a ys)) : c ∈ tl a ∨ ∃ y ∈ ys, c ∈ tl y := by
  rw [join_eq, tl_join] at h
  rcases joinL_mem h with h | ⟨p, hp, h⟩
  · exact .inl h
  · obtain ⟨y, hy, e⟩ := List.mem_map.mp hp
    rw [← e] at h
    exact .inr ⟨y, hy, h⟩
theorem ok256 {a : Str} {s : Nat} (h : tl a = [s]) (hs : s < 256) : a.cps.all (· < 256) = true := by
  rw [← Array.all_toList]
  show (tl a).all _ = true
  rw [h]
  simp [hs]
theorem split_back {a : Str} {s : Nat} (h : tl a = s :: []) (hs : s < 256) {ys : List Str} (ne : ys ≠ []) (hy : ∀ y ∈ ys, s ∉ tl y) : Txt.split (Txt.join a ys) a = ys := split_join h (ok256 h hs) ne hy

/-! ### the texts of webs -/
def tsT (ties : List Int) : Str := if ties = [] then ("-" : Str) else Txt.join ("," : Str) (ties.map sI)
def txW (web : List (List Int)) : Str := if web = [] then ("." : Str) else Txt.join (" " : Str) (web.map tsT)
def UpTo (n : Int) (row : List Int) : Prop := row.Pairwise (· < ·) ∧ ∀ k ∈ row, 0 ≤ k ∧ k < n
theorem UpTo.mono {n m : Int} {row : List Int} (h : UpTo n row) (l : n ≤ m) : UpTo m row := ⟨h.1, fun k hk => ⟨(h.2 k hk).1, by have := (h.2 k hk).2; omega⟩⟩
theorem sI_dig {k : Int} (h0 : 0 ≤ k) : ∀ c ∈ tl (sI k), 48 ≤ c ∧ c ≤ 57 := by
  obtain ⟨n, rfl⟩ := Int.eq_ofNat_of_zero_le h0
  rw [tl_sI]
  exact numL_digits n
theorem sI_ne {k : Int} (h0 : 0 ≤ k) : tl (sI k) ≠ [] := by
  obtain ⟨n, rfl⟩ := Int.eq_ofNat_of_zero_le h0
  rw [tl_sI]
  exact numL_ne n
theorem sI_le {k : Int} {m : Nat} (hm : 0 < m) (h0 : 0 ≤ k) (h1 : k < 10 ^ m) : (sI k).length ≤ m := by
  obtain ⟨n, rfl⟩ := Int.eq_ofNat_of_zero_le h0
  refine sI_len hm ?_
  have e : ((10 : Int) ^ m) = ((10 ^ m : Nat) : Int) := by simp
  rw [e] at h1
  exact Int.ofNat_lt.mp h1
theorem tsT_sign {row : List Int} (h : ∀ k ∈ row, 0 ≤ k) {c : Nat} (hc : c ∈ tl (tsT row)) : c = 44 ∨ c = 45 ∨ (48 ≤ c ∧ c ≤ 57) := by
  unfold tsT at hc
  split at hc
  · rw [strMi] at hc
    simp at hc
    exact .inr (.inl hc)
  · rcases join_mem hc with h1 | ⟨y, hy, h1⟩
    · rw [strC] at h1
      simp at h1
      exact .inl h1
    · obtain ⟨k, hk, e⟩ := List.mem_map.mp hy
      rw [← e] at h1
      exact .inr (.inr (sI_dig (h k hk) c h1))
theorem tsT_len {row : List Int} (h : ∀ k ∈ row, 0 ≤ k ∧ k < 1000) (l : row.length ≤ 1000) : (tsT row).length ≤ 4000 := by
  unfold tsT
  split
  · decide +kernel
  · have := join_len ("," : Str) (by decide +kernel) (ys := row.map sI) (k := 3) (n := 1000) (fun y hy => by
      obtain ⟨k, hk, e⟩ := List.mem_map.mp hy
      rw [← e]
      have := h k hk
      exact sI_le (m := 3) (by omega) this.1 (by omega)) (by rw [List.length_map]; exact l)
    omega
end Tw

/-! Tw8: errors; values by two ways. -/
namespace Tw
open PySem L2

/-- an error: its class by a number, its field -/
abbrev Er := Nat × Int
def ern : Nat → Str
  | 0 => "InvalidText"
  | 1 => "InvalidCommand"
  | 2 => "NotReady"
  | 3 => "InvalidThing"
  | 4 => "NothingToUndo"
  | 5 => "NotTwoSided"
  | 6 => "InvalidColouring"
  | 7 => "NoParting"
  | _ => ""
/-- by error and value -/
def exo {ε α β : Type} (z : Except ε α) (f : ε → β) (g : α → β) : β := match z with
  | .error e => f e
  | .ok y => g y
/-- the error's own dict -/
def efr (e : Er) (d : Option Addr) (H H' : Hp) : Prop :=
  if e.1 = 5 ∨ e.1 = 6 then ∃ dd, d = some dd ∧ H dd = none ∧ H' dd = some (.xd [(("thing" : Str), V.int e.2)]) else d = none
theorem efr_plain {e : Er} {H H' : Hp} (h : ¬ (e.1 = 5 ∨ e.1 = 6)) : efr e none H H' := by
  unfold efr
  rw [if_neg h]
theorem efr.up {Bs : List Addr} {H0 G0 G H H' : Hp} {M : MM} {e : Er} {d : Option Addr} (h : efr e d H H') (c : Cf Bs H0 G0 G M H) : efr e d H0 H' := by
  unfold efr at h ⊢
  split at h
  · rename_i q
    rw [if_pos q]
    obtain ⟨dd, h1, h2, h3⟩ := h
    exact ⟨dd, h1, (c.h0 h2).1, h3⟩
  · rename_i q
    rw [if_neg q]
    exact h
theorem cls_is {mg : Str → Option Value} {e : Er} {cls : Value} {C : Addr} {i : Nat} (hc : mg (ern e.1) = some cls) (hg : e.1 = i) (g : mg (ern i) = some (.ref C)) : cls = .ref C := by
  rw [hg, g] at hc
  exact (Option.some.inj hc).symm
theorem pe_never {X : Cx} {e : Expr} : PE X e fun _ _ _ => False := ⟨fun _ _ _ _ _ _ h => h.elim⟩
/-- a value by two ways, named behind them -/
theorem if_join {c : Bool} {ta tb : TE} {σ : St} {H : Hp} {Q : VK} (R : VK) (h : ∀ Q9 : VK, (∀ v H, R v H → Q9 v H) → if c = true then ta σ H Q9 else tb σ H Q9) (k : ∀ v H, R v H → Q v H) : if c = true then ta σ H Q else tb σ H Q := h Q k
end Tw
namespace Tw
open PySem PySem.Spec PyProof.Rows L2
/-! ### the least, the greatest of a list of ints -/
def lmin : List Int → Option Int
  | [] => none
  | x :: l => some (l.foldl (fun m y => if y < m then y else m) x)
def lmax : List Int → Option Int
  | [] => none
  | x :: l => some (l.foldl (fun m y => if y > m then y else m) x)
theorem int_items : ∀ {us : List Value} {ns : List Int}, IntsAre us ns → ∃ xs : List (Int × Tok), us = xs.map (fun p => Value.int p.1 p.2) ∧ xs.map (·.1) = ns
  | _, _, .nil => ⟨[], rfl, rfl⟩
  | _, _, .cons n t h => by
    obtain ⟨xs, e1, e2⟩ := int_items h
    exact ⟨(n, t) :: xs, by rw [e1]; rfl, by rw [List.map_cons, e2]⟩
theorem best_fold (better : Int → Int → Bool) (xs : Array (Int × Tok)) (x : Int × Tok) (l : List (Int × Tok)) (e : xs.toList = x :: l) : ∀ k, k ≤ l.length →
    ∃ h : argBest (fun i j => better (numAt xs i) (numAt xs j)) k < xs.size, (xs[argBest (fun i j => better (numAt xs i) (numAt xs j)) k]).1 = (l.take k).foldl (fun m y => if better y.1 m = true then y.1 else m) x.1 := by
  have sz : xs.size = l.length + 1 := by rw [← Array.length_toList, e, List.length_cons]
  have num : ∀ i (h : i < xs.size), numAt xs i = xs[i].1 := fun i h => by simp [numAt, h]
  have at0 : ∀ i (h : i < l.length), xs[i + 1]'(by omega) = l[i] := fun i h => by
    have h1 : xs.toList[i + 1]? = some l[i] := by
      rw [e, List.getElem?_cons_succ, List.getElem?_eq_getElem h]
    rw [Array.getElem?_toList] at h1
    exact (Array.getElem?_eq_some_iff.mp h1).2
  intro k
  induction k with
  | zero =>
    intro _
    refine ⟨by show 0 < xs.size; omega, ?_⟩
    show (xs[0]'(by omega)).1 = x.1
    have h1 : xs.toList[0]? = some x := by rw [e]; rfl
    rw [Array.getElem?_toList] at h1
    rw [(Array.getElem?_eq_some_iff.mp h1).2]
  | succ k ih =>
    intro hk
    obtain ⟨h, q⟩ := ih (by omega)
    have hl : k < l.length := hk
    have tk : (l.take (k + 1)) = l.take k ++ [l[k]] := by rw [List.take_add_one, List.getElem?_eq_getElem hl]; rfl
    have now : better (numAt xs (k + 1)) (numAt xs (argBest (fun i j => better (numAt xs i) (numAt xs j)) k)) = better l[k].1 ((l.take k).foldl (fun m y => if better y.1 m = true then y.1 else m) x.1) := by
      rw [num (k + 1) (by omega), num _ h, q, at0 k hl]
    have step : argBest (fun i j => better (numAt xs i) (numAt xs j)) (k + 1) = if better l[k].1 ((l.take k).foldl (fun m y => if better y.1 m = true then y.1 else m) x.1) = true then k + 1 else argBest (fun i j => better (numAt xs i) (numAt xs j)) k := by
      rw [← now]
      rfl
    rw [tk, List.foldl_append]
    simp only [List.foldl_cons, List.foldl_nil]
    by_cases b : better l[k].1 ((l.take k).foldl (fun m y => if better y.1 m = true then y.1 else m) x.1) = true
    · rw [if_pos b] at step
      simp only [step]
      refine ⟨by omega, ?_⟩
      rw [if_pos b, at0 k hl]
    · rw [if_neg b] at step
      simp only [step]
      refine ⟨h, ?_⟩
      rw [if_neg b, q]
theorem fold_map (better : Int → Int → Bool) : ∀ (l : List (Int × Tok)) (m : Int), l.foldl (fun m y => if better y.1 m = true then y.1 else m) m = (l.map (·.1)).foldl (fun m y => if better y m = true then y else m) m
  | [], _ => rfl
  | p :: l, m => fold_map better l _
section
variable {X : Cx}
def rLmin : List V → Hp → VK → Prop := fun xs H Q => ∃ (p : Addr) (vs : List V) (ns : List Int) (m : Int), xs = [.ref p] ∧ H p = some (.lst vs) ∧ AL rI H vs ns ∧ lmin ns = some m ∧ Q (.int m) H
def rLmax : List V → Hp → VK → Prop := fun xs H Q => ∃ (p : Addr) (vs : List V) (ns : List Int) (m : Int), xs = [.ref p] ∧ H p = some (.lst vs) ∧ AL rI H vs ns ∧ lmax ns = some m ∧ Q (.int m) H
theorem best_val (better : Int → Int → Bool) {xs : List (Int × Tok)} {x : Int} {l : List Int} (e : xs.map (·.1) = x :: l) {v : Value} (h : (intItems xs.toArray)[argBest (fun i j => better (numAt xs.toArray i) (numAt xs.toArray j)) (xs.toArray.size - 1)]? = some v) :
    ∃ t, v = .int (l.foldl (fun m y => if better y m = true then y else m) x) t := by
  cases xs with
  | nil => cases e
  | cons p ps =>
    rw [List.map_cons] at e
    injection e with e1 e2
    obtain ⟨hb, q⟩ := best_fold better (p :: ps).toArray p ps rfl ps.length (Nat.le_refl _)
    have hz : (p :: ps).toArray.size - 1 = ps.length := by simp
    rw [hz] at h
    simp only [intItems, Array.getElem?_map, Option.map_eq_some_iff] at h
    obtain ⟨y, hy, rfl⟩ := h
    refine ⟨y.2, ?_⟩
    have ey := (Array.getElem?_eq_some_iff.mp hy).2
    rw [← ey, q, List.take_length, fold_map, e2, e1]
theorem call_lmin (hc : X.calm = true) : CallR X (.builtin "min") rLmin := fun pins s σ H xs us Q I r h => by
  obtain ⟨p, vs, ns, m, rfl, h, al, hm, q⟩ := h
  rw [al_I al] at h
  obtain ⟨its, rv, pl, hz⟩ := I.list (SqL.of h)
  rw [Vals.ref1 r]
  obtain ⟨xs, e1, e2⟩ := int_items rv.ints
  cases ns with
  | nil => cases hm
  | cons x l =>
    have hl : s.heap.IsList p (intItems xs.toArray) := by
      have e3 : intItems xs.toArray = its.toArray := by
        rw [e1]
        simp [intItems]
      rw [e3]
      exact pl.isList
    refine min_intList (I.ok.hd hc) hl (by rw [List.size_toArray, ← List.length_map (f := (·.1)), e2]; exact Nat.succ_pos _) fun v h' tk hv kp => ?_
    obtain ⟨t, rfl⟩ := best_val (fun a b => decide (a < b)) e2 hv
    obtain rfl := some_in hm
    refine ⟨_, H, I.kept kp, ?_, q⟩
    exact ⟨t, by simp only [decide_eq_true_eq]⟩
theorem call_lmax (hc : X.calm = true) : CallR X (.builtin "max") rLmax := fun pins s σ H xs us Q I r h => by
  obtain ⟨p, vs, ns, m, rfl, h, al, hm, q⟩ := h
  rw [al_I al] at h
  obtain ⟨its, rv, pl, hz⟩ := I.list (SqL.of h)
  rw [Vals.ref1 r]
  obtain ⟨xs, e1, e2⟩ := int_items rv.ints
  cases ns with
  | nil => cases hm
  | cons x l =>
    have hl : s.heap.IsList p (intItems xs.toArray) := by
      have e3 : intItems xs.toArray = its.toArray := by
        rw [e1]
        simp [intItems]
      rw [e3]
      exact pl.isList
    refine max_intList (I.ok.hd hc) hl (by rw [List.size_toArray, ← List.length_map (f := (·.1)), e2]; exact Nat.succ_pos _) fun v h' tk hv kp => ?_
    obtain ⟨t, rfl⟩ := best_val (fun a b => decide (a > b)) e2 hv
    obtain rfl := some_in hm
    refine ⟨_, H, I.kept kp, ?_, q⟩
    exact ⟨t, by simp only [decide_eq_true_eq]⟩
end
end Tw
namespace Tw
open PySem L2
/-- an error of a class is what its own name catches -/
theorem exm9 {K : PySem.W.Frag} {S : Addr} (sub : PySem.W.subIn K (.ref S) (.type "BaseException") = some true) (cl : PySem.W.isClsIn K S = true) (ty : PySem.W.typeIn K (.ref S) = some (.type "type")) (self : PySem.W.subIn K (.ref S) (.ref S) = some true) : PySem.W.exmOne K (.ref S) (.ref S) = some true := by
  have cl2 : (PySem.W.clsIn K S).isSome = true := cl
  unfold PySem.W.exmOne PySem.W.kitCls
  simp [sub, cl2, ty, self]
end Tw

/-! Tw9: objects of the text's classes. -/
namespace Tw
open PySem PySem.Spec PyProof.Rows L2
/-- what a class without an own __init__ must have -/
structure MkO (K : PySem.W.Frag) (C : Addr) : Prop where
  makes : PySem.W.makesIn K C = true
  ini : PySem.W.findIn K (.ref C) "__init__" = some (some (.builtin "object.__init__"))
  top : PySem.W.mroIn K C (.type "object") = some true
  kp : PySem.W.keepIn K (.ref C) = true
def tMakeO (C : Addr) : TE := fun _ H Q => ∀ x dx, H x = none → H dx = none → dx ≠ x → Q (.ref x) (upd (upd H dx (.own x)) x (.ins C dx []))
section
variable {X : Cx} {C : Addr} {x : Str} {p pos : Pos}
theorem run_makeO {pins : List (Addr × Obj)} {σ : L2.St} {H : Hp} {s : Shared} {Q : VK} (M : MkO X.K C) (I : Inv X pins σ H s)
    (h : ∀ x dx, H x = none → H dx = none → dx ≠ x → Q (.ref x) (upd (upd H dx (.own x)) x (.ins C dx []))) : wpAny (model X.prog X.w) X.A (call (.ref C) []) (EP X pins σ Q) X.xe s := by
  have q := h (s.heap.objs.size + 1) s.heap.objs.size (I.hok.fresh (Nat.le_succ _)) (I.hok.fresh (Nat.le_refl _)) (Nat.ne_of_lt (Nat.lt_succ_self _))
  have I2 := Inv.made (C := C) I
  refine wpAny_call (make_map0 I.kIn M.makes M.ini (fun self => PySem.W.Looks.of_pure (PySem.W.oi_bind self)) ?_)
  have here : ((s.heap.push PySem.W.emptyDict).push (PySem.W.instObj C s.heap.objs.size)).get? (s.heap.objs.size + 1) = some (PySem.W.instObj C s.heap.objs.size) := by heap_get
  have ty : PySem.W.Looks (model X.prog X.w) ((s.heap.push PySem.W.emptyDict).push (PySem.W.instObj C s.heap.objs.size)) (typeOf (.ref (s.heap.objs.size + 1))) (.ref C) := NwA.type_at here rfl
  have inst : PySem.W.Looks (model X.prog X.w) ((s.heap.push PySem.W.emptyDict).push (PySem.W.instObj C s.heap.objs.size)) (isInstance (.ref (s.heap.objs.size + 1)) (.type "object")) true := ty.andThen (PySem.W.looks_mroIn I2.kIn M.top)
  refine codeAny_call_builtin PySem.W.oi_plain PySem.W.entry_oi (PySem.W.check_slot PySem.W.oi_kind PySem.W.oi_split inst (PySem.W.oi_args _) ?_)
  rw [PySem.W.oi_run]
  exact wpAny_pure ⟨rfl, ⟨V.ref (s.heap.objs.size + 1), _, I2, rfl, q⟩⟩
theorem pe_makeO (M : MkO X.K C) (hg : Gl X x) (hm : X.mg x = some (.ref C)) (hdb : (x == ("__debug__" : Str)) = false := by decide) : PE X (.Call (.Name x p) [] [] pos) (tMakeO C) := by
  refine ⟨fun pins s σ H Q I h => ?_⟩
  refine wpAny_Call_Name_kw (ld_glob I hg hm ?_ hdb)
  exact PySem.W.callWith_K0 I.kIn M.kp (run_makeO M I h)
end
end Tw
namespace Tw
open PySem PySem.Spec PyProof.Rows L2
/-! ### a method of an object whose class is known to the reading alone -/
def tMethD (X : Cx) (m : Str) (ta : TE) (t : TA) : TE := fun σ H Q => ta σ H fun x H1 => ∃ (a C dx : Addr) (fs : List (Str × V)) (f : Addr) (fd : FuncData) (k : Nat) (ps : List Str) (sp : Sp),
  x = .ref a ∧ H1 a = some (.ins C dx fs) ∧ fs.lookup m = none ∧ L2.Cls X.K C ∧ L2.Meth X.K C m f ∧ FnOk X.prog X.w X.K X.mg X.base CX0 k f fd ps sp ∧ Room k X.A ∧ Binds X.K fd ps [] ∧ t σ H1 fun vs H2 => sp (.ref a :: vs) H2 Q E0
section
variable {X : Cx} {m : Str} {p pos apos : Pos} {e o : Expr} {es : List Expr} {ta : TE} {t : TA}
theorem pe_methD {pl : Sem Bool} (ho : PE X o ta) (ha : PA X (e :: es) t)
    (h1 : starEach (e :: es) X.env = (false, eval e X.env) :: starEach es X.env := by rfl) (h2 : (backTo pos (starEach es X.env)).any (·.1) = false := by rfl)
    (h3 : eval (.Call (.Attribute o m apos) (e :: es) [] pos) X.env = (do
      let v ← eval o X.env
      standAt apos.atName
      let (g, fst) ← holding [v] (getMethod v m pl)
      callWith pos g fst (backTo pos (starEach (e :: es) X.env)) (backToKw pos (keywordEach [] X.env))) := by rfl) : PE X (.Call (.Attribute o m apos) (e :: es) [] pos) (tMethD X m ta t) := by
  refine ⟨fun pins s σ H Q I h => ?_⟩
  refine PySem.W.methodCall_KW (pl := pl) (thn (ho.run pins s σ H _ I h) fun u s1 ⟨x, H1, I1, rx, a, C, dx, fs, f, fd, k, ps, sp, ex, ea, l, c, mt, F, hr, hb, q⟩ => ?_) h3
  subst ex
  obtain rfl : u = Value.ref a := rx
  refine getmeth_ok I1 ea c mt l ?_
  refine PySem.W.callWith_K (first := [.ref a]) (h₀ := X.base) I.ok.mod.kin mt.kp (thn (ha.run pos pins s1 σ H1 _ I1 q) fun us s2 ⟨vs, H2, I2, r, q2⟩ => ⟨I2.kIn, ?_⟩) h1 h2
  exact run_fn (us := .ref a :: us) (vs := .ref a :: vs) F hr hb .nil pass0 I2 (.cons rfl r) (by rw [List.append_nil]; exact q2)
end
/-! ### givers -/
inductive Gv where
  | first | busy | rare | other
deriving DecidableEq
def gname : Gv → Str
  | .first => "First"
  | .busy => "Busy"
  | .rare => "Rare"
  | .other => "Other"
structure GvC (K : PySem.W.Frag) (C : Addr) : Prop where
  mko : MkO K C
  cl : L2.Cls K C
  ca : PySem.W.findIn K (.ref C) "__class__" = some (some (.builtin "object.__class__"))
structure GvT (K : PySem.W.Frag) (mg : Str → Option Value) where
  C : Gv → Addr
  g : ∀ r, mg (gname r) = some (.ref (C r)) ∨ mg (gname r) = none
  o : ∀ r, mg (gname r) = some (.ref (C r)) → GvC K (C r)
  kit : ∀ r, mg (gname r) = some (.ref (C r)) → PySem.W.kitOne K (.ref (C r)) (.ref (C .other)) = some (decide (r = .other))
  hn : PySem.W.specialIn K (.builtin "object.__class__") "__get__" = some (some (.builtin "getset_descriptor.__get__"))
  tk : PySem.W.takesIn K (.builtin "object.__class__") = some true
def rG (mg : Str → Option Value) : Rep Gv := ⟨fun G v r => ∃ C a dx, mg (gname r) = some (.ref C) ∧ v = .ref a ∧ G a = some (.ins C dx []), fun e ⟨C, a, dx, h1, h2, h3⟩ => ⟨C, a, dx, h1, h2, e a _ h3⟩⟩
theorem gv_open {K : PySem.W.Frag} {mg : Str → Option Value} (T : GvT K mg) {G : Hp} {v : V} {r : Gv} (h : (rG mg).r G v r) : ∃ a dx, mg (gname r) = some (.ref (T.C r)) ∧ v = .ref a ∧ G a = some (.ins (T.C r) dx []) := by
  obtain ⟨C, a, dx, h1, h2, h3⟩ := h
  rcases T.g r with q | q
  · obtain rfl : T.C r = C := by
      rw [q] at h1
      have := Option.some.inj h1
      injection this
    exact ⟨a, dx, q, h2, h3⟩
  · rw [q] at h1
    cases h1
theorem gv_ty {K : PySem.W.Frag} {mg : Str → Option Value} (T : GvT K mg) {H : Hp} {a dx : Addr} {r : Gv} (p : mg (gname r) = some (.ref (T.C r))) (h : H a = some (.ins (T.C r) dx [])) : TyX K H (.ref a) (.ref (T.C r)) :=
  .base (.ins h (T.o r p).cl (T.o r p).ca T.hn T.tk (T.o r p).mko.top)
/-! ### witnesses on paper -/
inductive Pap where
  | mk (t : Int) (ch : List Pap)
def Pap.t : Pap → Int
  | .mk t _ => t
def Pap.ch : Pap → List Pap
  | .mk _ c => c
inductive PapR (G : Hp) : V → Pap → Prop where
  | mk {a b : Addr} {ws : List V} {t : Int} {ch : List Pap} (h1 : G a = some (.tup [.int t, .ref b])) (h2 : G b = some (.lst ws)) (h3 : A2 (PapR G) ws ch) : PapR G (.ref a) (.mk t ch)
theorem PapR.open {G : Hp} {v : V} {p : Pap} (h : PapR G v p) : ∃ a b ws, v = .ref a ∧ G a = some (.tup [.int p.t, .ref b]) ∧ G b = some (.lst ws) ∧ A2 (PapR G) ws p.ch := by
  cases h with
  | mk h1 h2 h3 => exact ⟨_, _, _, rfl, h1, h2, h3⟩
mutual
theorem PapR.mono {G G' : Hp} (e : Ex G G') : ∀ (p : Pap) (v : V), PapR G v p → PapR G' v p
  | .mk t ch, v, h => by
    cases h with
    | mk h1 h2 h3 => exact .mk (e _ _ h1) (e _ _ h2) (PapR.monoL e ch _ h3)
theorem PapR.monoL {G G' : Hp} (e : Ex G G') : ∀ (ps : List Pap) (vs : List V), A2 (PapR G) vs ps → A2 (PapR G') vs ps
  | [], _, h => by
    cases h
    exact .nil
  | p :: ps, _, h => by
    cases h with
    | cons h t => exact .cons (PapR.mono e p _ h) (PapR.monoL e ps _ t)
end
def rP : Rep Pap := ⟨PapR, fun e h => PapR.mono e _ _ h⟩
end Tw
namespace Tw
open PySem L2
theorem kit9 {K : PySem.W.Frag} {C D : Addr} {b : Bool} (sub : PySem.W.subIn K (.ref D) (.ref C) = some b) (cl : PySem.W.isClsIn K C = true) (ty : PySem.W.typeIn K (.ref C) = some (.type "type")) (self : PySem.W.subIn K (.ref C) (.ref C) = some true) : PySem.W.kitOne K (.ref D) (.ref C) = some b := by
  have cl2 : (PySem.W.clsIn K C).isSome = true := cl
  unfold PySem.W.kitOne
  by_cases e : D = C
  · subst e
    rw [self] at sub
    rw [if_pos (by simp), ← sub]
  · rw [if_neg (by simpa using e)]
    unfold PySem.W.kitCls
    simp [cl2, ty, sub]
end Tw

namespace Tw
open PySem L2
def topS (i : Nat) : Stmt := PySem.Challenge.pw_tintonce_k72_texts_of_colours.main.body.getD i (.Pass ⟨0, 0, 0, 0⟩)
abbrev s_is_integer : Stmt := topS 8
abbrev s_are_ties : Stmt := topS 9
abbrev s_is_web : Stmt := topS 10
abbrev s_check_web : Stmt := topS 12
abbrev s_is_thing : Stmt := topS 11
abbrev s_check_colouring : Stmt := topS 20
abbrev s_colour_count : Stmt := topS 21
abbrev s_read_number : Stmt := topS 16
abbrev s_show_colours : Stmt := topS 17
abbrev s_read_colours : Stmt := topS 18
abbrev s_least_free : Stmt := topS 25
abbrev s_First_pick : Stmt := inClass (topS 26) 1
abbrev s_next_colour : Stmt := topS 29
abbrev s_is_right : Stmt := topS 31
abbrev s_is_witness : Stmt := topS 32
abbrev s__law_deck : Stmt := topS 34
abbrev s__law_draw : Stmt := topS 35
abbrev s__law_is_integer : Stmt := topS 36
abbrev s__law_same_list : Stmt := topS 37
abbrev s__law_integer : Stmt := topS 38
abbrev s__law_text : Stmt := topS 39
abbrev s__law_refuses : Stmt := topS 40
abbrev s__law_goes_on : Stmt := topS 41
abbrev s_law : Stmt := topS 42
structure Env (K : PySem.W.Frag) (mg : Str → Option Value) where
  gv : GvT K mg
  gP_First : mg (gname .first) = some (.ref (gv.C .first))
  gP_Other : mg (gname .other) = some (.ref (gv.C .other))
  n_int : mg "int" = none
  n_isinstance : mg "isinstance" = none
  n_bool : mg "bool" = none
  n_list : mg "list" = none
  n_enumerate : mg "enumerate" = none
  n_len : mg "len" = none
  n_set : mg "set" = none
  n_str : mg "str" = none
  n_tuple : mg "tuple" = none
  n_range : mg "range" = none
  n_all : mg "all" = none
  n_min : mg "min" = none
  n_max : mg "max" = none
  C_InvalidText : Addr
  g_InvalidText : mg "InvalidText" = some (.ref C_InvalidText)
  x_InvalidText : PySem.W.excIn K C_InvalidText [.type "ValueError", .type "Exception", .type "BaseException", .type "object"] "ValueError.__new__" = true
  k_InvalidText : PySem.W.keepIn K (.ref C_InvalidText) = true
  b_InvalidText : PySem.W.subIn K (.ref C_InvalidText) (.type "BaseException") = some true
  t_InvalidText : PySem.W.typeIn K (.ref C_InvalidText) = some (.type "type")
  e_InvalidText : PySem.W.exmOne K (.ref C_InvalidText) (.ref C_InvalidText) = some true
  t_MOST_DIGITS : Tok
  z_MOST_DIGITS : mg "MOST_DIGITS" = some (Value.int (30 : Int) t_MOST_DIGITS)
  t_DIGITS : Tok
  z_DIGITS : mg "DIGITS" = some (Value.str ("0123456789" : Str) t_DIGITS)
  f_is_integer : Addr
  d_is_integer : FuncData
  F_is_integer : Fun K "is_integer" "is_integer" s_is_integer f_is_integer d_is_integer
  g_is_integer : mg "is_integer" = some (.ref f_is_integer)
  b_is_integer : Binds K d_is_integer ["value"] []
  f_are_ties : Addr
  d_are_ties : FuncData
  F_are_ties : Fun K "are_ties" "are_ties" s_are_ties f_are_ties d_are_ties
  g_are_ties : mg "are_ties" = some (.ref f_are_ties)
  b_are_ties : Binds K d_are_ties ["value", "size"] []
  f_is_web : Addr
  d_is_web : FuncData
  F_is_web : Fun K "is_web" "is_web" s_is_web f_is_web d_is_web
  g_is_web : mg "is_web" = some (.ref f_is_web)
  b_is_web : Binds K d_is_web ["value"] []
  f_check_web : Addr
  d_check_web : FuncData
  F_check_web : Fun K "check_web" "check_web" s_check_web f_check_web d_check_web
  g_check_web : mg "check_web" = some (.ref f_check_web)
  b_check_web : Binds K d_check_web ["web"] []
  f_is_thing : Addr
  d_is_thing : FuncData
  F_is_thing : Fun K "is_thing" "is_thing" s_is_thing f_is_thing d_is_thing
  g_is_thing : mg "is_thing" = some (.ref f_is_thing)
  b_is_thing : Binds K d_is_thing ["value", "web"] []
  f_check_colouring : Addr
  d_check_colouring : FuncData
  F_check_colouring : Fun K "check_colouring" "check_colouring" s_check_colouring f_check_colouring d_check_colouring
  g_check_colouring : mg "check_colouring" = some (.ref f_check_colouring)
  b_check_colouring : Binds K d_check_colouring ["web", "colours"] []
  f_colour_count : Addr
  d_colour_count : FuncData
  F_colour_count : Fun K "colour_count" "colour_count" s_colour_count f_colour_count d_colour_count
  g_colour_count : mg "colour_count" = some (.ref f_colour_count)
  b_colour_count : Binds K d_colour_count ["colours"] []
  f_read_number : Addr
  d_read_number : FuncData
  F_read_number : Fun K "read_number" "read_number" s_read_number f_read_number d_read_number
  g_read_number : mg "read_number" = some (.ref f_read_number)
  b_read_number : Binds K d_read_number ["word"] []
  f_show_colours : Addr
  d_show_colours : FuncData
  F_show_colours : Fun K "show_colours" "show_colours" s_show_colours f_show_colours d_show_colours
  g_show_colours : mg "show_colours" = some (.ref f_show_colours)
  b_show_colours : Binds K d_show_colours ["colours"] []
  f_read_colours : Addr
  d_read_colours : FuncData
  F_read_colours : Fun K "read_colours" "read_colours" s_read_colours f_read_colours d_read_colours
  g_read_colours : mg "read_colours" = some (.ref f_read_colours)
  b_read_colours : Binds K d_read_colours ["text"] []
  f_least_free : Addr
  d_least_free : FuncData
  F_least_free : Fun K "least_free" "least_free" s_least_free f_least_free d_least_free
  g_least_free : mg "least_free" = some (.ref f_least_free)
  b_least_free : Binds K d_least_free ["taken"] []
  f_First_pick : Addr
  d_First_pick : FuncData
  F_First_pick : Fun K "pick" "First.pick" s_First_pick f_First_pick d_First_pick
  b_First_pick : Binds K d_First_pick ["self", "colours", "ties"] []
  h_First_pick : L2.Meth K (gv.C .first) "pick" f_First_pick
  f_next_colour : Addr
  d_next_colour : FuncData
  F_next_colour : Fun K "next_colour" "next_colour" s_next_colour f_next_colour d_next_colour
  g_next_colour : mg "next_colour" = some (.ref f_next_colour)
  b_next_colour : Binds K d_next_colour ["giver", "web", "colours", "ties"] []
  f_is_right : Addr
  d_is_right : FuncData
  F_is_right : Fun K "is_right" "is_right" s_is_right f_is_right d_is_right
  g_is_right : mg "is_right" = some (.ref f_is_right)
  b_is_right : Binds K d_is_right ["web", "colours", "paper"] []
  f_is_witness : Addr
  d_is_witness : FuncData
  F_is_witness : Fun K "is_witness" "is_witness" s_is_witness f_is_witness d_is_witness
  g_is_witness : mg "is_witness" = some (.ref f_is_witness)
  b_is_witness : Binds K d_is_witness ["web", "colours", "paper"] []
  f__law_deck : Addr
  d__law_deck : FuncData
  F__law_deck : Fun K "_law_deck" "_law_deck" s__law_deck f__law_deck d__law_deck
  g__law_deck : mg "_law_deck" = some (.ref f__law_deck)
  b__law_deck : Binds K d__law_deck ["script", "at"] []
  f__law_draw : Addr
  d__law_draw : FuncData
  F__law_draw : Fun K "_law_draw" "_law_draw" s__law_draw f__law_draw d__law_draw
  g__law_draw : mg "_law_draw" = some (.ref f__law_draw)
  b__law_draw : Binds K d__law_draw ["deck", "many"] []
  f__law_is_integer : Addr
  d__law_is_integer : FuncData
  F__law_is_integer : Fun K "_law_is_integer" "_law_is_integer" s__law_is_integer f__law_is_integer d__law_is_integer
  g__law_is_integer : mg "_law_is_integer" = some (.ref f__law_is_integer)
  b__law_is_integer : Binds K d__law_is_integer ["value"] []
  f__law_same_list : Addr
  d__law_same_list : FuncData
  F__law_same_list : Fun K "_law_same_list" "_law_same_list" s__law_same_list f__law_same_list d__law_same_list
  g__law_same_list : mg "_law_same_list" = some (.ref f__law_same_list)
  b__law_same_list : Binds K d__law_same_list ["value", "due"] []
  f__law_integer : Addr
  d__law_integer : FuncData
  F__law_integer : Fun K "_law_integer" "_law_integer" s__law_integer f__law_integer d__law_integer
  g__law_integer : mg "_law_integer" = some (.ref f__law_integer)
  b__law_integer : Binds K d__law_integer ["deck"] []
  f__law_text : Addr
  d__law_text : FuncData
  F__law_text : Fun K "_law_text" "_law_text" s__law_text f__law_text d__law_text
  g__law_text : mg "_law_text" = some (.ref f__law_text)
  b__law_text : Binds K d__law_text ["row"] []
  f__law_refuses : Addr
  d__law_refuses : FuncData
  F__law_refuses : Fun K "_law_refuses" "_law_refuses" s__law_refuses f__law_refuses d__law_refuses
  g__law_refuses : mg "_law_refuses" = some (.ref f__law_refuses)
  b__law_refuses : Binds K d__law_refuses ["text"] []
  f__law_goes_on : Addr
  d__law_goes_on : FuncData
  F__law_goes_on : Fun K "_law_goes_on" "_law_goes_on" s__law_goes_on f__law_goes_on d__law_goes_on
  g__law_goes_on : mg "_law_goes_on" = some (.ref f__law_goes_on)
  b__law_goes_on : Binds K d__law_goes_on ["deck", "back", "due"] []
  f_law : Addr
  d_law : FuncData
  F_law : Fun K "law" "law" s_law f_law d_law
  g_law : mg "law" = some (.ref f_law)
  b_law : Binds K d_law ["script"] []
section
variable {P : Program} {w : World} {K : PySem.W.Frag} {mg : Str → Option Value} {base : Heap}
theorem sc_is_integer : FnScope ["value"] ["value"] (defScope s_is_integer) := ⟨rfl, rfl, rfl, by decide +kernel, rfl, by decide +kernel, by decide +kernel⟩
def m_is_integer (value' : Int) : Option Bool :=
  some (true && (!false))
def sp_is_integer (K : PySem.W.Frag) : Sp := fun vs H Q _ => ∃ (G : Hp) (value' : Int) (r : Bool), vs = [(.int value')] ∧ Ex G H ∧ m_is_integer value' = some r ∧ ∀ (G' H' : Hp), Stp [] G G' H H' → Q (.bl r) H'
theorem ok_is_integer (T : Env K mg) : FnOk P w K mg base CX0 1 T.f_is_integer T.d_is_integer ["value"] (sp_is_integer K) := by
  refine T.F_is_integer.ok sc_is_integer (fun vs H Q E h => ?_) (fun cdv A outer s H0 vs Q E hr h => ?_)
  · obtain ⟨G0, value', r, rfl, _⟩ := h
    rfl
  · obtain ⟨G0, value', r, rfl, hG0, hm, k⟩ := h
    have hu := hr.units
    have hu65 := hu65 hr
    have c0 := Cf.start hG0
    unfold m_is_integer at hm
    refine ⟨_, (pss_one (ps_ret (pe_and (pe_callB (call_is (K := K) rfl) (by rfl) T.n_isinstance bt_isi (pa_cons (pv 0) (pa_cons (pe_bltn (v := .ty "int") (by rfl) T.n_int bt_int rfl) pa_nil))) (pe_one (pe_not (pe_callB (call_is (K := K) rfl) (by rfl) T.n_isinstance bt_isi (pa_cons (pv 0) (pa_cons (pe_bltn (v := .ty "bool") (by rfl) T.n_bool bt_bool rfl) pa_nil)))))))), ?_⟩
    refine ret_opq (fun Q_1 kk_2 => ?_)
    refine ⟨_, rfl, _, _, _, _, _, rfl, .ty _, ty_i, k_ii, _, rfl, ?_⟩
    refine andV_t (b := (!false)) (fun ha_5 q_4 => ?_) ?_
    · skip
      refine ⟨_, rfl, _, _, _, _, _, rfl, .ty _, ty_i, k_ib, _, rfl, ?_⟩
      exact q_4
    refine kk_2 _ _ ?_
    obtain rfl := some_in hm
    exact k G0 H0 c0.stp
theorem sc_are_ties : FnScope ["value", "size", "before", "thing"] ["value", "size"] (defScope s_are_ties) := ⟨rfl, rfl, rfl, by decide +kernel, rfl, by decide +kernel, by decide +kernel⟩
def m_are_ties (value' : (List Int)) (size' : Int) : Option Bool :=
  if (!true) then none else (lt ((-(1 : Int)) : Int) fun x_10 => ((lpx (fun (y_20 : Int) => fun (s_23 : (Int)) => ((fun (x_15 : Int) => (m_is_integer y_20).bind fun y_39 => (if ((!y_39) || ((decide (y_20 ≤ x_15)) || (decide (size' ≤ y_20)))) then (some (Out.rt false)) else (some (Out.nx (y_20))))) s_23 : Option (Out (Int) Bool))) value' (x_10)).bind fun o_17 => Out.fin o_17 (fun (s_59 : (Int)) => (fun (x_15 : Int) => (some true)) s_59) (fun r_60 => some r_60)))
def sp_are_ties (K : PySem.W.Frag) : Sp := fun vs H Q _ => ∃ (G : Hp) (a_1 : Addr) (vs_2 : List V) (value' : (List Int)) (size' : Int) (r : Bool), vs = [.ref a_1, (.int size')] ∧ Ex G H ∧ SqB [] H a_1 vs_2 ∧ AL rI G vs_2 value' ∧ m_are_ties value' size' = some r ∧ ∀ (G' H' : Hp), Stp [] G G' H H' → Q (.bl r) H'
theorem ok_are_ties (T : Env K mg) : FnOk P w K mg base CX0 2 T.f_are_ties T.d_are_ties ["value", "size"] (sp_are_ties K) := by
  refine T.F_are_ties.ok sc_are_ties (fun vs H Q E h => ?_) (fun cdv A outer s H0 vs Q E hr h => ?_)
  · obtain ⟨G0, a_1, vs_2, value', size', r, rfl, _⟩ := h
    rfl
  · obtain ⟨G0, a_1, vs_2, value', size', r, rfl, hG0, sq_3, al_4, hm, k⟩ := h
    have hu := hr.units
    have hu65 := hu65 hr
    have c0 := Cf.start hG0
    unfold m_are_ties at hm
    refine ⟨_, (pss_cons (ps_if (pt_not (pt_val (pe_callB (call_is (K := K) rfl) (by rfl) T.n_isinstance bt_isi (pa_cons (pv 0) (pa_cons (pe_bltn (v := .ty "list") (by rfl) T.n_list bt_list rfl) pa_nil))))) pss_never pss_nil)
      (pss_cons (ps_set (i := 2) sc_are_ties.nd rfl (by first | exact Or.inl rfl | exact Or.inr rfl) (pe_un un_neg pe_int))
      (pss_cons (ps_for PassesOwn.never rfl (pi_list (pv 0)) (pg_name (i := 3) sc_are_ties.nd rfl (by first | exact Or.inl rfl | exact Or.inr rfl)) (pss_cons (ps_if (PW.pt (pw_or (pt_not (pt_val (pe_call (ok_is_integer T) (hr.mono (by decide)) (by rfl) T.g_is_integer T.F_is_integer.kp T.b_is_integer .nil pass0 (pa_cons (pv 3) pa_nil)))) (pw_or (pt_cmpR op_le (pv 3) (pv 2) (nomark _)) (pw_or1 (pt_cmpR op_ge (pv 3) (pv 1) (nomark _)))))) (pss_one (ps_ret pe_bl)) pss_nil)
      (pss_one (ps_set (i := 2) sc_are_ties.nd rfl (by first | exact Or.inl rfl | exact Or.inr rfl) (pv 3)))))
      (pss_one (ps_ret pe_bl))))), ?_⟩
    refine q_if_opq (fun Q_5 kk_6 => ?_)
    refine ⟨_, rfl, _, _, _, _, _, rfl, .ty _, (ty_l (SqL.of (sq_3.at c0))), k_ll, _, rfl, ?_⟩
    refine kk_6 _ _ ?_
    refine ite_no (by first | decide | rfl) ?_
    have hm := if_no (by decide) hm
    try dsimp only [tNext]
    refine q_asg_opq (fun Q_8 kk_9 => ?_)
    obtain ⟨x_10, hl_11, hm⟩ := ltp hm
    refine ⟨_, rfl, ?_⟩
    refine nmV (f := V.int) (P := fun v9 => Q_8 v9 _) hl_11 ?_
    refine kk_9 _ _ ?_
    refine ⟨_, rfl, _, rfl, ⟨_, SqL.of (sq_3.at c0)⟩, ?_⟩
    obtain ⟨o_17, ho_18, hm⟩ := bs hm
    refine for_w (walk_list (xs := vs_2)) value' (A2.len al_4) (fun l_19 σ_21 H_22 => ∃ (G_12 : Hp) (x_15 : Int) (o_16 : Option V), σ_21 = [(some (.ref a_1)), (some (.int size')), (some (.int x_15)), o_16] ∧ Ex G0 G_12 ∧ Cf [] H0 G0 G_12 [] H_22 ∧ lpx (fun (y_20 : Int) => fun (s_23 : (Int)) => ((fun (x_15 : Int) => (m_is_integer y_20).bind fun y_39 => (if ((!y_39) || ((decide (y_20 ≤ x_15)) || (decide (size' ≤ y_20)))) then (some (Out.rt false)) else (some (Out.nx (y_20))))) s_23 : Option (Out (Int) Bool))) l_19 (x_15) = some o_17)
      ⟨G0, x_10, none, rfl, Ex.refl _, c0, ho_18⟩
      (fun l_19 σ_21 H_22 hI => by
        obtain ⟨G_12, x_15, o_16, rfl, eg_13, c_14, ho_18⟩ := hI
        exact (SqL.of (sq_3.at c_14)))
      (fun i_29 y_20 l_19 σ_21 H_22 v_26 H_30 hx_27 hI hy_28 => ?_) (fun σ_21 H_22 hI => ?_)
    · obtain ⟨G_12, x_15, o_16, rfl, eg_13, c_14, ho_18⟩ := hI
      obtain ⟨so_31, hf_24, hgo_25⟩ := lpx_cons ho_18
      try dsimp only at hf_24
      obtain ⟨rfl, hv_32⟩ := hy_28
      obtain ⟨v_33, hv_34, rv_35⟩ := A2.get al_4 hx_27
      obtain rfl := Option.some.inj (hv_32.symm.trans hv_34)
      obtain rfl := (show v_26 = (.int y_20) from rv_35)
      refine q_if_opq (fun Q_37 kk_38 => ?_)
      obtain ⟨y_39, hb_40, hf_24⟩ := bs hf_24
      refine ⟨_, rfl, G_12, y_20, y_39, rfl, c_14.gh, hb_40, fun G_41 H_42 sp_43 => ?_⟩
      have c_44 := c_14.call sp_43
      refine ⟨_, rfl, ?_⟩
      refine or_t (b := ((decide (y_20 ≤ x_15)) || (decide (size' ≤ y_20)))) (fun ha_50 q_49 => ?_) ?_
      · skip
        refine ⟨_, rfl, _, rfl, _, _, rfl, rfl, _, rfl, ?_⟩
        refine or_t (b := (decide (size' ≤ y_20))) (fun ha_48 q_47 => ?_) ?_
        · skip
          refine ⟨_, rfl, _, rfl, _, _, rfl, rfl, _, rfl, ?_⟩
          exact q_47
        exact q_49
      refine kk_38 _ _ ?_
      refine ite_m hf_24 (fun hc_51 hf_24 => ?_) (fun hc_51 hf_24 => ?_)
      · skip
        refine ret_opq (fun Q_52 kk_53 => ?_)
        refine kk_53 _ _ ?_
        obtain rfl := some_in hf_24
        obtain rfl := some_in hgo_25
        obtain rfl := some_in hm
        exact k G_41 H_42 c_44.stp
      · skip
        try dsimp only [tNext]
        refine asg_opq (fun Q_54 kk_55 => ?_)
        refine ⟨_, rfl, ?_⟩
        refine kk_55 _ _ ?_
        obtain rfl := some_in hf_24
        exact ⟨G_41, y_20, (some (.int y_20)), rfl, (eg_13.trans sp_43.gg), c_44, hgo_25⟩
    · obtain ⟨G_12, x_15, o_16, rfl, eg_13, c_14, ho_18⟩ := hI
      obtain rfl := lpx_nil ho_18
      dsimp only [Out.fin] at hm
      try dsimp only at hm
      try dsimp only
      refine ret_opq (fun Q_57 kk_58 => ?_)
      refine kk_58 _ _ ?_
      obtain rfl := some_in hm
      exact k G_12 H_22 c_14.stp
theorem sc_is_web : FnScope ["value", "thing", "ties"] ["value"] (defScope s_is_web) := ⟨rfl, rfl, rfl, by decide +kernel, rfl, by decide +kernel, by decide +kernel⟩
def m_is_web (value' : (List (List Int))) : Option Bool :=
  if (!true) then none else ((lpx (fun (y_16 : (Int × (List Int))) => (fun (y_36 : Int) (y_37 : (List Int)) => fun (s_19 : Unit) => ((m_are_ties y_37 y_36).bind fun y_46 => (if (!y_46) then (some (Out.rt false)) else (some (Out.nx ()))) : Option (Out Unit Bool))) y_16.1 y_16.2) (enm value') ()).bind fun o_13 => Out.fin o_13 (fun (s_62 : Unit) => (some true)) (fun r_63 => some r_63))
def sp_is_web (K : PySem.W.Frag) : Sp := fun vs H Q _ => ∃ (G : Hp) (a_1 : Addr) (vs_2 : List V) (value' : (List (List Int))) (r : Bool), vs = [.ref a_1] ∧ Ex G H ∧ SqB [] H a_1 vs_2 ∧ AL (rL rI) G vs_2 value' ∧ m_is_web value' = some r ∧ ∀ (G' H' : Hp), Stp [] G G' H H' → Q (.bl r) H'
theorem ok_is_web (T : Env K mg) : FnOk P w K mg base CX0 3 T.f_is_web T.d_is_web ["value"] (sp_is_web K) := by
  refine T.F_is_web.ok sc_is_web (fun vs H Q E h => ?_) (fun cdv A outer s H0 vs Q E hr h => ?_)
  · obtain ⟨G0, a_1, vs_2, value', r, rfl, _⟩ := h
    rfl
  · obtain ⟨G0, a_1, vs_2, value', r, rfl, hG0, sq_3, al_4, hm, k⟩ := h
    have hu := hr.units
    have hu65 := hu65 hr
    have c0 := Cf.start hG0
    unfold m_is_web at hm
    refine ⟨_, (pss_cons (ps_if (pt_not (pt_val (pe_callB (call_is (K := K) rfl) (by rfl) T.n_isinstance bt_isi (pa_cons (pv 0) (pa_cons (pe_bltn (v := .ty "list") (by rfl) T.n_list bt_list rfl) pa_nil))))) pss_never pss_nil)
      (pss_cons (ps_for PassesOwn.never rfl (pi_enum (by rfl) T.n_enumerate (pa_cons (pv 0) pa_nil)) (pg_tup rfl (pgs_cons (pg_name (i := 1) sc_is_web.nd rfl (by first | exact Or.inl rfl | exact Or.inr rfl)) (pgs_cons (pg_name (i := 2) sc_is_web.nd rfl (by first | exact Or.inl rfl | exact Or.inr rfl)) pgs_nil))) (pss_one (ps_if (pt_not (pt_val (pe_call (ok_are_ties T) (hr.mono (by decide)) (by rfl) T.g_are_ties T.F_are_ties.kp T.b_are_ties .nil pass0 (pa_cons (pv 2) (pa_cons (pv 1) pa_nil))))) (pss_one (ps_ret pe_bl)) pss_nil)))
      (pss_one (ps_ret pe_bl)))), ?_⟩
    refine q_if_opq (fun Q_5 kk_6 => ?_)
    refine ⟨_, rfl, _, _, _, _, _, rfl, .ty _, (ty_l (SqL.of (sq_3.at c0))), k_ll, _, rfl, ?_⟩
    refine kk_6 _ _ ?_
    refine ite_no (by first | decide | rfl) ?_
    have hm := if_no (by decide) hm
    try dsimp only [tNext]
    refine ⟨_, rfl, _, _, rfl, (SqL.of (sq_3.at c0)), ?_⟩
    obtain ⟨o_13, ho_14, hm⟩ := bs hm
    refine for_w (walk_enum (xs := vs_2)) (enm value') (by rw [enm_len, A2.len al_4]) (fun l_15 σ_17 H_18 => ∃ (G_8 : Hp) (o_11 : Option V) (o_12 : Option V), σ_17 = [(some (.ref a_1)), o_11, o_12] ∧ Ex G0 G_8 ∧ Cf [] H0 G0 G_8 [] H_18 ∧ lpx (fun (y_16 : (Int × (List Int))) => (fun (y_36 : Int) (y_37 : (List Int)) => fun (s_19 : Unit) => ((m_are_ties y_37 y_36).bind fun y_46 => (if (!y_46) then (some (Out.rt false)) else (some (Out.nx ()))) : Option (Out Unit Bool))) y_16.1 y_16.2) l_15 () = some o_13)
      ⟨G0, none, none, rfl, Ex.refl _, c0, ho_14⟩
      (fun l_15 σ_17 H_18 hI => by
        obtain ⟨G_8, o_11, o_12, rfl, eg_9, c_10, ho_14⟩ := hI
        exact (SqL.of (sq_3.at c_10)))
      (fun i_25 y_16 l_15 σ_17 H_18 v_22 H_26 hx_23 hI hy_24 => ?_) (fun σ_17 H_18 hI => ?_)
    · obtain ⟨G_8, o_11, o_12, rfl, eg_9, c_10, ho_14⟩ := hI
      obtain ⟨so_27, hf_20, hgo_21⟩ := lpx_cons ho_14
      try dsimp only at hf_20
      obtain ⟨T_28, u_29, v_30, rfl, nT_31, rfl, h_32, h_33⟩ := hy_24
      obtain ⟨h_34, h_35⟩ := enm_get hx_23
      obtain ⟨y_36, y_37⟩ := y_16
      dsimp only at h_34 h_35 hf_20
      obtain rfl := Option.some.inj h_32
      rw [← h_34]
      obtain ⟨v_38, hv_39, rv_40⟩ := A2.get al_4 h_35
      obtain rfl := Option.some.inj (h_33.symm.trans hv_39)
      have c_41 := c_10.junk nT_31 (.tup [.int y_36, v_30])
      refine ⟨_, _, rfl, SqT.of upd_same, rfl, _, _, rfl, _, _, rfl, rfl, ?_⟩
      generalize hh : upd H_18 T_28 (.tup [.int y_36, v_30]) = H_42 at c_41 ⊢
      clear hh
      refine if_opq (fun Q_44 kk_45 => ?_)
      obtain ⟨y_46, hb_47, hf_20⟩ := bs hf_20
      obtain ⟨a_48, vs_49, rfl, sq_50, al_51⟩ := ((rL rI).mono eg_9 rv_40)
      refine ⟨_, rfl, _, rfl, G_8, a_48, vs_49, y_37, y_36, y_46, rfl, c_41.gh, (SqB.of (c_41.gh _ _ sq_50)), al_51, hb_47, fun G_52 H_53 sp_54 => ?_⟩
      have c_55 := c_41.call sp_54
      refine ⟨_, rfl, ?_⟩
      refine kk_45 _ _ ?_
      refine ite_m hf_20 (fun hc_56 hf_20 => ?_) (fun hc_56 hf_20 => ?_)
      · skip
        refine ret_opq (fun Q_57 kk_58 => ?_)
        refine kk_58 _ _ ?_
        obtain rfl := some_in hf_20
        obtain rfl := some_in hgo_21
        obtain rfl := some_in hm
        exact k G_52 H_53 c_55.stp
      · skip
        obtain rfl := some_in hf_20
        exact ⟨G_52, (some (.int y_36)), (some (.ref a_48)), rfl, (eg_9.trans sp_54.gg), c_55, hgo_21⟩
    · obtain ⟨G_8, o_11, o_12, rfl, eg_9, c_10, ho_14⟩ := hI
      obtain rfl := lpx_nil ho_14
      dsimp only [Out.fin] at hm
      try dsimp only at hm
      try dsimp only
      refine ret_opq (fun Q_60 kk_61 => ?_)
      refine kk_61 _ _ ?_
      obtain rfl := some_in hm
      exact k G_8 H_18 c_10.stp
theorem sc_check_web : FnScope ["web"] ["web"] (defScope s_check_web) := ⟨rfl, rfl, rfl, by decide +kernel, rfl, by decide +kernel, by decide +kernel⟩
def m_check_web (web' : (List (List Int))) : Option Unit :=
  (m_is_web web').bind fun y_7 => (if (!y_7) then (none) else (some ()))
def sp_check_web (K : PySem.W.Frag) : Sp := fun vs H Q _ => ∃ (G : Hp) (a_1 : Addr) (vs_2 : List V) (web' : (List (List Int))) (r : Unit), vs = [.ref a_1] ∧ Ex G H ∧ SqB [] H a_1 vs_2 ∧ AL (rL rI) G vs_2 web' ∧ m_check_web web' = some r ∧ ∀ (G' H' : Hp), Stp [] G G' H H' → Q .non H'
theorem ok_check_web (T : Env K mg) : FnOk P w K mg base CX0 4 T.f_check_web T.d_check_web ["web"] (sp_check_web K) := by
  refine T.F_check_web.ok sc_check_web (fun vs H Q E h => ?_) (fun cdv A outer s H0 vs Q E hr h => ?_)
  · obtain ⟨G0, a_1, vs_2, web', r, rfl, _⟩ := h
    rfl
  · obtain ⟨G0, a_1, vs_2, web', r, rfl, hG0, sq_3, al_4, hm, k⟩ := h
    have hu := hr.units
    have hu65 := hu65 hr
    have c0 := Cf.start hG0
    unfold m_check_web at hm
    refine ⟨_, (pss_one (ps_if (pt_not (pt_val (pe_call (ok_is_web T) (hr.mono (by decide)) (by rfl) T.g_is_web T.F_is_web.kp T.b_is_web .nil pass0 (pa_cons (pv 0) pa_nil)))) (pss_one ps_never) pss_nil)), ?_⟩
    refine if_opq (fun Q_5 kk_6 => ?_)
    obtain ⟨y_7, hb_8, hm⟩ := bs hm
    refine ⟨_, rfl, G0, a_1, vs_2, web', y_7, rfl, c0.gh, (SqB.of (sq_3.at c0)), al_4, hb_8, fun G_9 H_10 sp_11 => ?_⟩
    have c_12 := c0.call sp_11
    refine ⟨_, rfl, ?_⟩
    refine kk_6 _ _ ?_
    refine ite_m hm (fun hc_13 hm => ?_) (fun hc_13 hm => ?_)
    · skip
      cases hm
    · skip
      obtain rfl := some_in hm
      exact k G_9 H_10 c_12.stp
theorem sc_is_thing : FnScope ["value", "web"] ["value", "web"] (defScope s_is_thing) := ⟨rfl, rfl, rfl, by decide +kernel, rfl, by decide +kernel, by decide +kernel⟩
def m_is_thing (value' : Int) (web' : (List (List Int))) : Option Bool :=
  (m_is_integer value').bind fun y_7 => (some (y_7 && ((decide ((0 : Int) ≤ value')) && (decide (value' < ((List.length web' : Nat) : Int))))))
def sp_is_thing (K : PySem.W.Frag) : Sp := fun vs H Q _ => ∃ (G : Hp) (value' : Int) (a_1 : Addr) (vs_2 : List V) (web' : (List (List Int))) (r : Bool), vs = [(.int value'), .ref a_1] ∧ Ex G H ∧ SqB [] H a_1 vs_2 ∧ AL (rL rI) G vs_2 web' ∧ m_is_thing value' web' = some r ∧ ∀ (G' H' : Hp), Stp [] G G' H H' → Q (.bl r) H'
theorem ok_is_thing (T : Env K mg) : FnOk P w K mg base CX0 2 T.f_is_thing T.d_is_thing ["value", "web"] (sp_is_thing K) := by
  refine T.F_is_thing.ok sc_is_thing (fun vs H Q E h => ?_) (fun cdv A outer s H0 vs Q E hr h => ?_)
  · obtain ⟨G0, value', a_1, vs_2, web', r, rfl, _⟩ := h
    rfl
  · obtain ⟨G0, value', a_1, vs_2, web', r, rfl, hG0, sq_3, al_4, hm, k⟩ := h
    have hu := hr.units
    have hu65 := hu65 hr
    have c0 := Cf.start hG0
    unfold m_is_thing at hm
    refine ⟨_, (pss_one (ps_ret (pe_and (pe_call (ok_is_integer T) (hr.mono (by decide)) (by rfl) T.g_is_integer T.F_is_integer.kp T.b_is_integer .nil pass0 (pa_cons (pv 0) pa_nil)) (pe_and (pe_cmpR op_ge (pv 0) pe_int (nomark _)) (pe_one (pe_cmpR op_lt (pv 0) (pe_callB call_lenL (by rfl) T.n_len bt_len (pa_cons (pv 1) pa_nil)) (nomark _))))))), ?_⟩
    refine ret_opq (fun Q_5 kk_6 => ?_)
    obtain ⟨y_7, hb_8, hm⟩ := bs hm
    refine ⟨_, rfl, G0, value', y_7, rfl, c0.gh, hb_8, fun G_9 H_10 sp_11 => ?_⟩
    have c_12 := c0.call sp_11
    refine ⟨_, rfl, ?_⟩
    refine andV_t (b := ((decide ((0 : Int) ≤ value')) && (decide (value' < ((List.length web' : Nat) : Int))))) (fun ha_18 q_17 => ?_) ?_
    · skip
      refine ⟨_, rfl, _, _, rfl, rfl, _, rfl, ?_⟩
      refine andV_t (b := (decide (value' < ((List.length web' : Nat) : Int)))) (fun ha_16 q_15 => ?_) ?_
      · skip
        refine ⟨_, rfl, _, rfl, _, _, (List.length web'), rfl, (sq_3.at c_12), (A2.len (AL.mono sp_11.gg al_4)), _, _, rfl, rfl, ?_⟩
        exact q_15
      exact q_17
    refine kk_6 _ _ ?_
    obtain rfl := some_in hm
    exact k G_9 H_10 c_12.stp
theorem sc_check_colouring : FnScope ["web", "colours", "thing", "ties", "colour", "other"] ["web", "colours"] (defScope s_check_colouring) := ⟨rfl, rfl, rfl, by decide +kernel, rfl, by decide +kernel, by decide +kernel⟩
def m_check_colouring (web' : (List (List Int))) (colours' : (List Int)) : Option Unit :=
  (m_check_web web').bind fun y_11 => ((lpx (fun (y_27 : (Int × (List Int))) => (fun (y_47 : Int) (y_48 : (List Int)) => fun (s_30 : Unit) => (if (decide (((List.length colours' : Nat) : Int) ≤ y_47)) then (none) else ((atI colours' y_47).bind fun y_60 => ((m_is_integer y_60).bind fun y_67 => (if ((!y_67) || (decide (y_60 < (1 : Int)))) then (none) else ((lpx (fun (y_88 : Int) => fun (s_91 : Unit) => ((atI colours' y_88).bind fun y_107 => (if (decide (y_107 = y_60)) then (none) else (some (Out.nx ()))) : Option (Out Unit Unit))) y_48 ()).bind fun o_85 => Out.fin o_85 (fun (s_114 : Unit) => (some (Out.nx ()))) (fun r_115 => some (Out.rt r_115)))))) : Option (Out Unit Unit))) y_27.1 y_27.2) (enm web') ()).bind fun o_24 => Out.fin o_24 (fun (s_120 : Unit) => (if (decide (((List.length web' : Nat) : Int) < ((List.length colours' : Nat) : Int))) then (none) else (some ()))) (fun r_121 => some r_121))
def sp_check_colouring (K : PySem.W.Frag) : Sp := fun vs H Q _ => ∃ (G : Hp) (a_1 : Addr) (vs_2 : List V) (web' : (List (List Int))) (a_5 : Addr) (vs_6 : List V) (colours' : (List Int)) (r : Unit), vs = [.ref a_1, .ref a_5] ∧ Ex G H ∧ SqB [] H a_1 vs_2 ∧ AL (rL rI) G vs_2 web' ∧ SqB [] H a_5 vs_6 ∧ AL rI G vs_6 colours' ∧ m_check_colouring web' colours' = some r ∧ ∀ (G' H' : Hp), Stp [] G G' H H' → Q .non H'
theorem ok_check_colouring (T : Env K mg) : FnOk P w K mg base CX0 5 T.f_check_colouring T.d_check_colouring ["web", "colours"] (sp_check_colouring K) := by
  refine T.F_check_colouring.ok sc_check_colouring (fun vs H Q E h => ?_) (fun cdv A outer s H0 vs Q E hr h => ?_)
  · obtain ⟨G0, a_1, vs_2, web', a_5, vs_6, colours', r, rfl, _⟩ := h
    rfl
  · obtain ⟨G0, a_1, vs_2, web', a_5, vs_6, colours', r, rfl, hG0, sq_3, al_4, sq_7, al_8, hm, k⟩ := h
    have hu := hr.units
    have hu65 := hu65 hr
    have c0 := Cf.start hG0
    unfold m_check_colouring at hm
    refine ⟨_, (pss_cons (ps_expr (pe_call (ok_check_web T) (hr.mono (by decide)) (by rfl) T.g_check_web T.F_check_web.kp T.b_check_web .nil pass0 (pa_cons (pv 0) pa_nil)))
      (pss_cons (ps_for PassesOwn.never rfl (pi_enum (by rfl) T.n_enumerate (pa_cons (pv 0) pa_nil)) (pg_tup rfl (pgs_cons (pg_name (i := 2) sc_check_colouring.nd rfl (by first | exact Or.inl rfl | exact Or.inr rfl)) (pgs_cons (pg_name (i := 3) sc_check_colouring.nd rfl (by first | exact Or.inl rfl | exact Or.inr rfl)) pgs_nil))) (pss_cons (ps_if (pt_cmpR op_ge (pv 2) (pe_callB call_lenL (by rfl) T.n_len bt_len (pa_cons (pv 1) pa_nil)) (nomark _)) (pss_one ps_never) pss_nil)
      (pss_cons (ps_set (i := 4) sc_check_colouring.nd rfl (by first | exact Or.inl rfl | exact Or.inr rfl) (pe_ix (ix_l (K := K) rfl) (pv 1) (pv 2) (fun _ _ => rfl)))
      (pss_cons (ps_if (PW.pt (pw_or (pt_not (pt_val (pe_call (ok_is_integer T) (hr.mono (by decide)) (by rfl) T.g_is_integer T.F_is_integer.kp T.b_is_integer .nil pass0 (pa_cons (pv 4) pa_nil)))) (pw_or1 (pt_cmpR op_lt (pv 4) pe_int (nomark _))))) (pss_one ps_never) pss_nil)
      (pss_one (ps_for PassesOwn.never rfl (pi_list (pv 3)) (pg_name (i := 5) sc_check_colouring.nd rfl (by first | exact Or.inl rfl | exact Or.inr rfl)) (pss_one (ps_if (pt_cmpR op_eqI (pe_ix (ix_l (K := K) rfl) (pv 1) (pv 5) (fun _ _ => rfl)) (pv 4) (nomark _)) (pss_one ps_never) pss_nil))))))))
      (pss_one (ps_if (pt_cmpR op_gt (pe_callB call_lenL (by rfl) T.n_len bt_len (pa_cons (pv 1) pa_nil)) (pe_callB call_lenL (by rfl) T.n_len bt_len (pa_cons (pv 0) pa_nil)) (nomark _)) (pss_one ps_never) pss_nil)))), ?_⟩
    refine q_drop_opq (fun Q_9 kk_10 => ?_)
    obtain ⟨y_11, hb_12, hm⟩ := bs hm
    refine ⟨_, rfl, G0, a_1, vs_2, web', y_11, rfl, c0.gh, (SqB.of (sq_3.at c0)), al_4, hb_12, fun G_13 H_14 sp_15 => ?_⟩
    have c_16 := c0.call sp_15
    refine kk_10 _ _ ?_
    refine ⟨_, rfl, _, _, rfl, (SqL.of (sq_3.at c_16)), ?_⟩
    obtain ⟨o_24, ho_25, hm⟩ := bs hm
    refine for_w (walk_enum (xs := vs_2)) (enm web') (by rw [enm_len, A2.len (AL.mono sp_15.gg al_4)]) (fun l_26 σ_28 H_29 => ∃ (G_17 : Hp) (o_20 : Option V) (o_21 : Option V) (o_22 : Option V) (o_23 : Option V), σ_28 = [(some (.ref a_1)), (some (.ref a_5)), o_20, o_21, o_22, o_23] ∧ Ex G_13 G_17 ∧ Cf [] H0 G0 G_17 [] H_29 ∧ lpx (fun (y_27 : (Int × (List Int))) => (fun (y_47 : Int) (y_48 : (List Int)) => fun (s_30 : Unit) => (if (decide (((List.length colours' : Nat) : Int) ≤ y_47)) then (none) else ((atI colours' y_47).bind fun y_60 => ((m_is_integer y_60).bind fun y_67 => (if ((!y_67) || (decide (y_60 < (1 : Int)))) then (none) else ((lpx (fun (y_88 : Int) => fun (s_91 : Unit) => ((atI colours' y_88).bind fun y_107 => (if (decide (y_107 = y_60)) then (none) else (some (Out.nx ()))) : Option (Out Unit Unit))) y_48 ()).bind fun o_85 => Out.fin o_85 (fun (s_114 : Unit) => (some (Out.nx ()))) (fun r_115 => some (Out.rt r_115)))))) : Option (Out Unit Unit))) y_27.1 y_27.2) l_26 () = some o_24)
      ⟨G_13, none, none, none, none, rfl, Ex.refl _, c_16, ho_25⟩
      (fun l_26 σ_28 H_29 hI => by
        obtain ⟨G_17, o_20, o_21, o_22, o_23, rfl, eg_18, c_19, ho_25⟩ := hI
        exact (SqL.of (sq_3.at c_19)))
      (fun i_36 y_27 l_26 σ_28 H_29 v_33 H_37 hx_34 hI hy_35 => ?_) (fun σ_28 H_29 hI => ?_)
    · obtain ⟨G_17, o_20, o_21, o_22, o_23, rfl, eg_18, c_19, ho_25⟩ := hI
      obtain ⟨so_38, hf_31, hgo_32⟩ := lpx_cons ho_25
      try dsimp only at hf_31
      obtain ⟨T_39, u_40, v_41, rfl, nT_42, rfl, h_43, h_44⟩ := hy_35
      obtain ⟨h_45, h_46⟩ := enm_get hx_34
      obtain ⟨y_47, y_48⟩ := y_27
      dsimp only at h_45 h_46 hf_31
      obtain rfl := Option.some.inj h_43
      rw [← h_45]
      obtain ⟨v_49, hv_50, rv_51⟩ := A2.get (AL.mono sp_15.gg al_4) h_46
      obtain rfl := Option.some.inj (h_44.symm.trans hv_50)
      have c_52 := c_19.junk nT_42 (.tup [.int y_47, v_41])
      refine ⟨_, _, rfl, SqT.of upd_same, rfl, _, _, rfl, _, _, rfl, rfl, ?_⟩
      generalize hh : upd H_29 T_39 (.tup [.int y_47, v_41]) = H_53 at c_52 ⊢
      clear hh
      refine q_if_opq (fun Q_55 kk_56 => ?_)
      refine ⟨_, rfl, _, rfl, _, _, (List.length colours'), rfl, (sq_7.at c_52), (A2.len (AL.mono (sp_15.gg.trans eg_18) al_8)), _, _, rfl, rfl, _, rfl, ?_⟩
      refine kk_56 _ _ ?_
      refine ite_m hf_31 (fun hc_57 hf_31 => ?_) (fun hc_57 hf_31 => ?_)
      · skip
        cases hf_31
      · skip
        try dsimp only [tNext]
        refine q_asg_opq (fun Q_58 kk_59 => ?_)
        obtain ⟨y_60, hb_61, hf_31⟩ := bs hf_31
        obtain ⟨v_62, hv_63, rv_64⟩ := at_l (AL.mono (sp_15.gg.trans eg_18) al_8) hb_61
        obtain rfl := (show v_62 = (.int y_60) from rv_64)
        refine ⟨_, rfl, _, rfl, _, _, _, _, rfl, rfl, (SqL.of (sq_7.at c_52)), hv_63, ?_⟩
        refine kk_59 _ _ ?_
        refine q_if_opq (fun Q_65 kk_66 => ?_)
        obtain ⟨y_67, hb_68, hf_31⟩ := bs hf_31
        refine ⟨_, rfl, G_17, y_60, y_67, rfl, c_52.gh, hb_68, fun G_69 H_70 sp_71 => ?_⟩
        have c_72 := c_52.call sp_71
        refine ⟨_, rfl, ?_⟩
        refine or_t (b := (decide (y_60 < (1 : Int)))) (fun ha_75 q_74 => ?_) ?_
        · skip
          refine ⟨_, rfl, _, _, rfl, rfl, _, rfl, ?_⟩
          exact q_74
        refine kk_66 _ _ ?_
        refine ite_m hf_31 (fun hc_76 hf_31 => ?_) (fun hc_76 hf_31 => ?_)
        · skip
          cases hf_31
        · skip
          try dsimp only [tNext]
          obtain ⟨a_77, vs_78, rfl, sq_79, al_80⟩ := ((rL rI).mono (eg_18.trans sp_71.gg) rv_51)
          refine ⟨_, rfl, _, rfl, ⟨_, SqL.of (c_72.gh _ _ sq_79)⟩, ?_⟩
          obtain ⟨o_85, ho_86, hf_31⟩ := bs hf_31
          refine for_w (walk_list (xs := vs_78)) y_48 (A2.len al_80) (fun l_87 σ_89 H_90 => ∃ (G_81 : Hp) (o_84 : Option V), σ_89 = [(some (.ref a_1)), (some (.ref a_5)), (some (.int y_47)), (some (.ref a_77)), (some (.int y_60)), o_84] ∧ Ex G_69 G_81 ∧ Cf [] H0 G0 G_81 [] H_90 ∧ lpx (fun (y_88 : Int) => fun (s_91 : Unit) => ((atI colours' y_88).bind fun y_107 => (if (decide (y_107 = y_60)) then (none) else (some (Out.nx ()))) : Option (Out Unit Unit))) l_87 () = some o_85)
            ⟨G_69, o_23, rfl, Ex.refl _, c_72, ho_86⟩
            (fun l_87 σ_89 H_90 hI => by
              obtain ⟨G_81, o_84, rfl, eg_82, c_83, ho_86⟩ := hI
              exact (SqL.of (c_83.gh _ _ (eg_82 _ _ sq_79))))
            (fun i_97 y_88 l_87 σ_89 H_90 v_94 H_98 hx_95 hI hy_96 => ?_) (fun σ_89 H_90 hI => ?_)
          · obtain ⟨G_81, o_84, rfl, eg_82, c_83, ho_86⟩ := hI
            obtain ⟨so_99, hf_92, hgo_93⟩ := lpx_cons ho_86
            try dsimp only at hf_92
            obtain ⟨rfl, hv_100⟩ := hy_96
            obtain ⟨v_101, hv_102, rv_103⟩ := A2.get al_80 hx_95
            obtain rfl := Option.some.inj (hv_100.symm.trans hv_102)
            obtain rfl := (show v_94 = (.int y_88) from rv_103)
            refine if_opq (fun Q_105 kk_106 => ?_)
            obtain ⟨y_107, hb_108, hf_92⟩ := bs hf_92
            obtain ⟨v_109, hv_110, rv_111⟩ := at_l (AL.mono (((sp_15.gg.trans eg_18).trans sp_71.gg).trans eg_82) al_8) hb_108
            obtain rfl := (show v_109 = (.int y_107) from rv_111)
            refine ⟨_, rfl, _, rfl, _, _, _, _, rfl, rfl, (SqL.of (sq_7.at c_83)), hv_110, _, rfl, _, _, rfl, rfl, _, rfl, ?_⟩
            refine kk_106 _ _ ?_
            refine ite_m hf_92 (fun hc_112 hf_92 => ?_) (fun hc_112 hf_92 => ?_)
            · skip
              cases hf_92
            · skip
              obtain rfl := some_in hf_92
              exact ⟨G_81, (some (.int y_88)), rfl, eg_82, c_83, hgo_93⟩
          · obtain ⟨G_81, o_84, rfl, eg_82, c_83, ho_86⟩ := hI
            obtain rfl := lpx_nil ho_86
            dsimp only [Out.fin] at hf_31
            try dsimp only at hf_31
            try dsimp only
            obtain rfl := some_in hf_31
            exact ⟨G_81, (some (.int y_47)), (some (.ref a_77)), (some (.int y_60)), o_84, rfl, ((eg_18.trans sp_71.gg).trans eg_82), c_83, hgo_32⟩
    · obtain ⟨G_17, o_20, o_21, o_22, o_23, rfl, eg_18, c_19, ho_25⟩ := hI
      obtain rfl := lpx_nil ho_25
      dsimp only [Out.fin] at hm
      try dsimp only at hm
      try dsimp only
      refine if_opq (fun Q_117 kk_118 => ?_)
      refine ⟨_, rfl, _, _, (List.length colours'), rfl, (sq_7.at c_19), (A2.len (AL.mono (sp_15.gg.trans eg_18) al_8)), _, rfl, _, _, (List.length web'), rfl, (sq_3.at c_19), (A2.len (AL.mono (sp_15.gg.trans eg_18) al_4)), _, _, rfl, rfl, _, rfl, ?_⟩
      refine kk_118 _ _ ?_
      refine ite_m hm (fun hc_119 hm => ?_) (fun hc_119 hm => ?_)
      · skip
        cases hm
      · skip
        obtain rfl := some_in hm
        exact k G_17 H_29 c_19.stp
theorem sc_colour_count : FnScope ["colours"] ["colours"] (defScope s_colour_count) := ⟨rfl, rfl, rfl, by decide +kernel, rfl, by decide +kernel, by decide +kernel⟩
def m_colour_count (colours' : (List Int)) : Option Int :=
  gd (List.length colours' ≤ 4000) (some ((List.length (srt colours') : Nat) : Int))
def sp_colour_count (K : PySem.W.Frag) : Sp := fun vs H Q _ => ∃ (G : Hp) (a_1 : Addr) (vs_2 : List V) (colours' : (List Int)) (r : Int), vs = [.ref a_1] ∧ Ex G H ∧ SqB [] H a_1 vs_2 ∧ AL rI G vs_2 colours' ∧ m_colour_count colours' = some r ∧ ∀ (G' H' : Hp), Stp [] G G' H H' → Q (.int r) H'
theorem ok_colour_count (T : Env K mg) : FnOk P w K mg base CX0 1 T.f_colour_count T.d_colour_count ["colours"] (sp_colour_count K) := by
  refine T.F_colour_count.ok sc_colour_count (fun vs H Q E h => ?_) (fun cdv A outer s H0 vs Q E hr h => ?_)
  · obtain ⟨G0, a_1, vs_2, colours', r, rfl, _⟩ := h
    rfl
  · obtain ⟨G0, a_1, vs_2, colours', r, rfl, hG0, sq_3, al_4, hm, k⟩ := h
    have hu := hr.units
    have hu65 := hu65 hr
    have c0 := Cf.start hG0
    unfold m_colour_count at hm
    refine ⟨_, (pss_one (ps_ret (pe_callB (call_lenS (w := w) rfl) (by rfl) T.n_len bt_len (pa_cons (pe_callTy (call_setL (w := w) rfl rfl) (by rfl) T.n_set bt_set (pa_cons (pv 0) pa_nil)) pa_nil)))), ?_⟩
    refine ret_opq (fun Q_5 kk_6 => ?_)
    obtain ⟨hg_7, hm⟩ := gdp hm
    refine ⟨_, rfl, _, _, colours', rfl, (sq_3.at c0), AL.mono c0.gh al_4, hg_7, fun p_8 np_9 => ?_⟩
    have c_11 := c0.junk np_9 (setL w p_8 colours')
    have hs_10 : upd H0 p_8 (setL w p_8 colours') p_8 = some (setL w p_8 colours') := upd_same
    generalize hh : upd H0 p_8 (setL w p_8 colours') = H_12 at c_11 hs_10 ⊢
    clear hh
    refine ⟨_, _, rfl, hs_10, ?_⟩
    refine kk_6 _ _ ?_
    obtain rfl := some_in hm
    exact k G0 H_12 c_11.stp
theorem sc_read_number : FnScope ["word", "char"] ["word"] (defScope s_read_number) := ⟨rfl, rfl, rfl, by decide +kernel, rfl, by decide +kernel, by decide +kernel⟩
def m_read_number (word' : Str) : Option (Option Int) :=
  (pOr (decide (word' = ("" : Str))) (gd (Str.length word' ≤ BIG) ((pOr (decide ((30 : Int) < ((Str.length word' : Nat) : Int))) (gd (Str.length word' ≤ BIG) ((atI (Str.cps word').toList (0 : Int)).bind fun ch_7 => ((pAnd (decide ((⟨#[ch_7]⟩ : Str) = ("0" : Str))) (gd (Str.length word' ≤ BIG) (some (decide ((1 : Int) < ((Str.length word' : Nat) : Int)))))).bind fun b_13 => (some b_13))))).bind fun b_17 => (some b_17)))).bind fun b_21 => (if b_21 then (some none) else ((lpx (fun (y_33 : Nat) => fun (s_36 : Unit) => (if (!(decide (y_33 ∈ (Str.cps ("0123456789" : Str)).toList))) then (some (Out.rt none)) else (some (Out.nx ())) : Option (Out Unit (Option Int)))) (Str.cps word').toList ()).bind fun o_30 => Out.fin o_30 (fun (s_58 : Unit) => ((iOk word').bind fun i_56 => (some (some i_56)))) (fun r_59 => some r_59)))
def sp_read_number (K : PySem.W.Frag) : Sp := fun vs H Q _ => ∃ (G : Hp) (word' : Str) (r : (Option Int)), vs = [(.str word')] ∧ Ex G H ∧ m_read_number word' = some r ∧ ∀ (v9 : V) (G' H' : Hp), Stp [] G G' H H' → (rO rI).r G' v9 r → Q v9 H'
theorem ok_read_number (T : Env K mg) : FnOk P w K mg base CX0 1 T.f_read_number T.d_read_number ["word"] (sp_read_number K) := by
  refine T.F_read_number.ok sc_read_number (fun vs H Q E h => ?_) (fun cdv A outer s H0 vs Q E hr h => ?_)
  · obtain ⟨G0, word', r, rfl, _⟩ := h
    rfl
  · obtain ⟨G0, word', r, rfl, hG0, hm, k⟩ := h
    have hu := hr.units
    have hu65 := hu65 hr
    have c0 := Cf.start hG0
    unfold m_read_number at hm
    refine ⟨_, (pss_cons (ps_if (PW.pt (pw_or (pt_cmpR op_eqS (pv 0) pe_str (nomark _)) (pw_or (pt_cmpR op_gt (pe_callB call_len_str (by rfl) T.n_len bt_len (pa_cons (pv 0) pa_nil)) (pe_glob (v := (.int (30 : Int))) rfl T.z_MOST_DIGITS ⟨_, rfl⟩) (nomark _)) (pw_or1 (PW.pt (pw_and (pt_cmpR op_eqS (pe_ix ix_str (pv 0) pe_int (fun _ _ => rfl)) pe_str (nomark _)) (pw_and1 (pt_cmpR op_gt (pe_callB call_len_str (by rfl) T.n_len bt_len (pa_cons (pv 0) pa_nil)) pe_int (nomark _))))))))) (pss_one (ps_ret pe_non)) pss_nil)
      (pss_cons (ps_for PassesOwn.never rfl (pi_str (pv 0)) (pg_name (i := 1) sc_read_number.nd rfl (by first | exact Or.inl rfl | exact Or.inr rfl)) (pss_one (ps_if (pt_cmpR op_notIn_sign (pv 1) (pe_glob (v := (.str ("0123456789" : Str))) rfl T.z_DIGITS ⟨_, rfl⟩) rfl) (pss_one (ps_ret pe_non)) pss_nil)))
      (pss_one (ps_ret (pe_callTy call_intS (by rfl) T.n_int bt_int (pa_cons (pv 0) pa_nil)))))), ?_⟩
    refine q_if_opq (fun Q_1 kk_2 => ?_)
    refine ⟨_, rfl, _, _, rfl, rfl, _, rfl, ?_⟩
    obtain ⟨b_21, hb_22, hm⟩ := bs hm
    refine or_r hb_22 (fun ha_20 hq_3 q_19 => ?_) ?_
    · skip
      obtain ⟨hg_4, hq_3⟩ := gdp hq_3
      refine ⟨_, rfl, _, rfl, (le_big hg_4), _, _, rfl, rfl, _, rfl, ?_⟩
      obtain ⟨b_17, hb_18, hq_3⟩ := bs hq_3
      refine or_r hb_18 (fun ha_16 hq_5 q_15 => ?_) ?_
      · skip
        obtain ⟨hg_6, hq_5⟩ := gdp hq_5
        obtain ⟨ch_7, hb_8, hq_5⟩ := bs hq_5
        refine ⟨_, rfl, _, _, _, rfl, rfl, (le_big hg_6), hb_8, _, _, rfl, rfl, _, rfl, ?_⟩
        obtain ⟨b_13, hb_14, hq_5⟩ := bs hq_5
        refine and_r hb_14 (fun ha_12 hq_9 q_11 => ?_) ?_
        · skip
          obtain ⟨hg_10, hq_9⟩ := gdp hq_9
          refine ⟨_, rfl, _, rfl, (le_big hg_10), _, _, rfl, rfl, _, rfl, ?_⟩
          obtain rfl := some_in hq_9
          exact q_11
        obtain rfl := some_in hq_5
        exact q_15
      obtain rfl := some_in hq_3
      exact q_19
    refine kk_2 _ _ ?_
    refine ite_m hm (fun hc_23 hm => ?_) (fun hc_23 hm => ?_)
    · skip
      refine ret_opq (fun Q_24 kk_25 => ?_)
      refine kk_25 _ _ ?_
      obtain rfl := some_in hm
      exact k .non G0 H0 c0.stp rfl
    · skip
      try dsimp only [tNext]
      refine ⟨_, rfl, _, rfl, ?_⟩
      obtain ⟨o_30, ho_31, hm⟩ := bs hm
      refine for_w (walk_str (z := word')) (Str.cps word').toList rfl (fun l_32 σ_34 H_35 => ∃ (G_26 : Hp) (o_29 : Option V), σ_34 = [(some (.str word')), o_29] ∧ Ex G0 G_26 ∧ Cf [] H0 G0 G_26 [] H_35 ∧ lpx (fun (y_33 : Nat) => fun (s_36 : Unit) => (if (!(decide (y_33 ∈ (Str.cps ("0123456789" : Str)).toList))) then (some (Out.rt none)) else (some (Out.nx ())) : Option (Out Unit (Option Int)))) l_32 () = some o_30)
        ⟨G0, none, rfl, Ex.refl _, c0, ho_31⟩
        (fun l_32 σ_34 H_35 hI => by
          obtain ⟨G_26, o_29, rfl, eg_27, c_28, ho_31⟩ := hI
          exact True.intro)
        (fun i_42 y_33 l_32 σ_34 H_35 v_39 H_43 hx_40 hI hy_41 => ?_) (fun σ_34 H_35 hI => ?_)
      · obtain ⟨G_26, o_29, rfl, eg_27, c_28, ho_31⟩ := hI
        obtain ⟨so_44, hf_37, hgo_38⟩ := lpx_cons ho_31
        try dsimp only at hf_37
        obtain ⟨rfl, ch_46, hv_45, rfl⟩ := hy_41
        obtain rfl : y_33 = ch_46 := by rw [Array.getElem?_toList, hv_45] at hx_40; exact (Option.some.inj hx_40).symm
        refine if_opq (fun Q_48 kk_49 => ?_)
        refine ⟨_, rfl, _, _, rfl, rfl, _, rfl, ?_⟩
        refine kk_49 _ _ ?_
        refine ite_m hf_37 (fun hc_50 hf_37 => ?_) (fun hc_50 hf_37 => ?_)
        · skip
          refine ret_opq (fun Q_51 kk_52 => ?_)
          refine kk_52 _ _ ?_
          obtain rfl := some_in hf_37
          obtain rfl := some_in hgo_38
          obtain rfl := some_in hm
          exact k .non G_26 H_43 c_28.stp rfl
        · skip
          obtain rfl := some_in hf_37
          exact ⟨G_26, (some (.str (⟨#[y_33]⟩ : Str))), rfl, eg_27, c_28, hgo_38⟩
      · obtain ⟨G_26, o_29, rfl, eg_27, c_28, ho_31⟩ := hI
        obtain rfl := lpx_nil ho_31
        dsimp only [Out.fin] at hm
        try dsimp only at hm
        try dsimp only
        refine ret_opq (fun Q_54 kk_55 => ?_)
        obtain ⟨i_56, hb_57, hm⟩ := bs hm
        refine ⟨_, rfl, _, _, rfl, hb_57, ?_⟩
        refine kk_55 _ _ ?_
        obtain rfl := some_in hm
        exact k (.int i_56) G_26 H_35 c_28.stp (show ((rO rI)).r G_26 (.int i_56) (some i_56) from rfl)
theorem sc_show_colours : FnScope ["colours", "colour"] ["colours"] (defScope s_show_colours) := ⟨rfl, rfl, rfl, by decide +kernel, rfl, by decide +kernel, by decide +kernel⟩
def m_show_colours (colours' : (List Int)) : Option Str :=
  if (decide (colours' = ([] : List Int))) then (some ("." : Str)) else (gd (List.length colours' < BIG) ((lcm (fun (y_34 : Int) => gd (sOk y_34) (some (sI y_34))) colours').bind fun xs_24 => (gd (jOk (" " : Str) xs_24) (some (Txt.join (" " : Str) xs_24)))))
def sp_show_colours (K : PySem.W.Frag) : Sp := fun vs H Q _ => ∃ (G : Hp) (a_1 : Addr) (vs_2 : List V) (colours' : (List Int)) (r : Str), vs = [.ref a_1] ∧ Ex G H ∧ SqB [] H a_1 vs_2 ∧ AL rI G vs_2 colours' ∧ m_show_colours colours' = some r ∧ ∀ (G' H' : Hp), Stp [] G G' H H' → Q (.str r) H'
theorem ok_show_colours (T : Env K mg) : FnOk P w K mg base CX0 1 T.f_show_colours T.d_show_colours ["colours"] (sp_show_colours K) := by
  refine T.F_show_colours.ok sc_show_colours (fun vs H Q E h => ?_) (fun cdv A outer s H0 vs Q E hr h => ?_)
  · obtain ⟨G0, a_1, vs_2, colours', r, rfl, _⟩ := h
    rfl
  · obtain ⟨G0, a_1, vs_2, colours', r, rfl, hG0, sq_3, al_4, hm, k⟩ := h
    have hu := hr.units
    have hu65 := hu65 hr
    have c0 := Cf.start hG0
    unfold m_show_colours at hm
    refine ⟨_, (pss_cons (ps_if (pt_cmpR (op_eqT hu (eqdL eqdI) (by decide)) (pv 0) (pe_lst pa_nil) (nomark _)) (pss_one (ps_ret pe_str)) pss_nil)
      (pss_one (ps_ret (pe_join pe_str (pe_lc (own := [("colour", 1)]) (g := gName 1) (tt := tYes)  rfl sc_show_colours.nd (pi_list (pv 0)) (blkOk_by (own := [("colour", 1)]) (N := ["colours", "colour"]) (sc := defScope s_show_colours) (by decide +kernel)) (fun _ _ _ _ _ => (pg_name (i := 1) sc_show_colours.nd rfl (by first | exact Or.inl rfl | exact Or.inr rfl))) (fun _ _ _ _ _ => pts_nil) (fun _ _ _ _ _ => (pe_callTy call_strI (by rfl) T.n_str bt_str (pa_cons (pv 1) pa_nil)))))))), ?_⟩
    refine q_if_opq (fun Q_5 kk_6 => ?_)
    refine ⟨_, rfl, (Nat.zero_le _), fun p_7 np_8 => ?_⟩
    have c_9 := c0.newO np_8 (.lst [])
    generalize hh : upd H0 p_7 (.lst []) = H_10 at c_9 ⊢
    clear hh
    refine ⟨_, _, ⟨a_1, vs_2, rfl, (sq_3.at c_9), AL.mono c_9.gh al_4⟩, ⟨p_7, [], rfl, (c_9.get 0 rfl), AL.mono c_9.gh A2.nil⟩, (okI _), (okI _), _, rfl, ?_⟩
    refine kk_6 _ _ ?_
    refine ite_m hm (fun hc_11 hm => ?_) (fun hc_11 hm => ?_)
    · skip
      refine ret_opq (fun Q_12 kk_13 => ?_)
      refine kk_13 _ _ ?_
      obtain rfl := some_in hm
      exact k G0 H_10 c_9.stp
    · skip
      try dsimp only [tNext]
      refine ret_opq (fun Q_14 kk_15 => ?_)
      obtain ⟨hg_16, hm⟩ := gdp hm
      refine ⟨⟨_, rfl⟩, _, rfl, _, rfl, ⟨_, SqL.of (sq_3.at c_9)⟩, fun D_17 nD_18 => ?_⟩
      have c_19 := c_9.newO nD_18 (.lst [])
      obtain ⟨out_26, hb_27, hm⟩ := bs hm
      refine lc_w (walk_list (xs := vs_2)) colours' (A2.len al_4) (fun l_33 H_35 => ∃ (G_20 : Hp) (vs_23 : List V) (xs_24 : (List Str)), Ex G0 G_20 ∧ Cf [] H0 G0 G_20 [(D_17, (.lst vs_23)), (p_7, (.lst []))] H_35 ∧ AL rS G_20 vs_23 xs_24 ∧ List.length xs_24 + List.length l_33 < BIG ∧ ∃ rest_29, lcm (fun (y_34 : Int) => gd (sOk y_34) (some (sI y_34))) l_33 = some rest_29 ∧ xs_24 ++ rest_29 = out_26)
        ⟨G0, [], ([] : List Str), Ex.refl _, c_19, A2.nil, ⟨by simpa using hg_16, out_26, hb_27, rfl⟩⟩
        (fun l_33 H_35 hI => by
          obtain ⟨G_20, vs_23, xs_24, eg_21, c_22, al_25, ⟨hlen_32, rest_29, hf_30, hout_31⟩⟩ := hI
          exact (SqL.of (sq_3.at c_22)))
        (fun i_37 y_34 l_33 H_35 v_38 H_41 hx_39 hI hy_40 => ?_) (fun H_35 hI => ?_)
      · obtain ⟨G_20, vs_23, xs_24, eg_21, c_22, al_25, ⟨hlen_32, rest_29, hf_30, hout_31⟩⟩ := hI
        obtain ⟨z_42, rest_43, hq_36, hf_44, ho_45⟩ := lcm_cons hf_30
        try dsimp only at hq_36
        obtain ⟨rfl, hv_47⟩ := hy_40
        obtain ⟨v_48, hv_49, rv_50⟩ := A2.get al_4 hx_39
        obtain rfl := Option.some.inj (hv_47.symm.trans hv_49)
        obtain rfl := (show v_38 = (.int y_34) from rv_50)
        refine ⟨rfl, ?_⟩
        refine yes_q ?_
        refine opqV (fun Q_51 kk_52 => ?_)
        obtain ⟨hg_53, hq_36⟩ := gdp hq_36
        refine ⟨_, rfl, _, rfl, hg_53, ?_⟩
        refine kk_52 _ _ ?_
        refine ⟨_, c_22.hd, big_lt (by have h9 := hlen_32; have h8 := A2.len al_25; simp only [List.length_cons] at h9; omega), ?_⟩
        obtain ⟨vs_54, hvs, al_55⟩ : ∃ vs9, vs9 = (vs_23 ++ [(.str (sI y_34))]) ∧ AL rS G_20 vs9 (xs_24 ++ [(sI y_34)]) := ⟨_, rfl, (A2.app al_25 (A2.one rfl))⟩
        rw [← hvs]
        clear hvs
        have c_56 := c_22.mut (.lst vs_54)
        generalize hh : upd H_41 D_17 (.lst vs_54) = H_57 at c_56 ⊢
        clear hh
        obtain rfl := some_in hq_36
        exact ⟨G_20, vs_54, (xs_24 ++ [(sI y_34)]), eg_21, c_56, al_55, ⟨by have h9 := hlen_32; simp only [List.length_append, List.length_cons, List.length_nil] at h9 ⊢; first | done | omega, rest_43, hf_44, by rw [← hout_31, ho_45]; first | done | simp⟩⟩
      obtain ⟨G_20, vs_23, xs_24, eg_21, c_22, al_25, ⟨hlen_32, rest_29, hf_30, hout_31⟩⟩ := hI
      obtain rfl := some_in hf_30
      rw [List.append_nil] at hout_31
      subst hout_31
      obtain ⟨hg_58, hm⟩ := gdp hm
      refine ⟨_, _, xs_24, rfl, rfl, (.inl (SqL.of (by rw [← al_S al_25]; exact (c_22.get 0 rfl)))), hg_58, ?_⟩
      refine kk_15 _ _ ?_
      obtain rfl := some_in hm
      exact k G_20 H_35 c_22.stp
theorem sc_read_colours : FnScope ["text", "colours", "word", "colour"] ["text"] (defScope s_read_colours) := ⟨rfl, rfl, rfl, by decide +kernel, rfl, by decide +kernel, by decide +kernel⟩
def m_read_colours (text' : Str) : Option (Except Er (List Int)) :=
  if (!true) then none else (if (decide (text' = ("." : Str))) then (some (Except.ok ([] : List Int))) else (gd (Str.length text' + 2 ≤ BIG) ((lpx (fun (y_35 : Str) => fun (s_38 : ((List Int))) => ((fun (xs_28 : (List Int)) => (m_read_number y_35).bind fun y_54 => (oel y_54 (if true then (some (Out.rt (Except.error ((0, 0) : Er)))) else none) (fun (y_63 : Int) => if (false || (decide (y_63 = (0 : Int)))) then (some (Out.rt (Except.error ((0, 0) : Er)))) else (gd (List.length xs_28 < BIG) (some (Out.nx ((xs_28 ++ [y_63])))))))) s_38 : Option (Out ((List Int)) (Except Er (List Int))))) (Txt.split text' (" " : Str)) (([] : List Int))).bind fun o_32 => Out.fin o_32 (fun (s_86 : ((List Int))) => (fun (xs_28 : (List Int)) => (some (Except.ok xs_28))) s_86) (fun r_87 => some r_87))))
def sp_read_colours (K : PySem.W.Frag) (mg : Str → Option Value) : Sp := fun vs H Q E => ∃ (G : Hp) (text' : Str) (r : (Except Er (List Int))), vs = [(.str text')] ∧ Ex G H ∧ m_read_colours text' = some r ∧ (∀ r9, r = Except.ok r9 → ∀ (p9 : Addr) (vs9 : List V) (G' H' : Hp), Stp [] G G' H H' → H p9 = none → G' p9 = none → H' p9 = some (.lst vs9) → AL rI G' vs9 r9 → Q (.ref p9) H') ∧ ∀ (e9 : Er), r = Except.error e9 → ∀ (G' H' : Hp) (cls : Value) (d : Option Addr), Stp [] G G' H H' → mg (ern e9.1) = some cls → efr e9 d H H' → E cls d H'
theorem ok_read_colours (T : Env K mg) : FnOk P w K mg base (L2.CX P w) 2 T.f_read_colours T.d_read_colours ["text"] (sp_read_colours K mg) := by
  refine T.F_read_colours.okX sc_read_colours (fun vs H Q E h => ?_) (fun cdv A outer s H0 vs Q E hr h => ?_)
  · obtain ⟨G0, text', r, rfl, _⟩ := h
    rfl
  · obtain ⟨G0, text', r, rfl, hG0, hm, k, kE⟩ := h
    have hu := hr.units
    have hu65 := hu65 hr
    have c0 := Cf.start hG0
    unfold m_read_colours at hm
    refine ⟨_, (pss_cons (ps_if (pt_not (pt_val (pe_callB (call_is (K := K) rfl) (by rfl) T.n_isinstance bt_isi (pa_cons (pv 0) (pa_cons (pe_bltn (v := .ty "str") (by rfl) T.n_str bt_str rfl) pa_nil))))) pss_never pss_nil)
      (pss_cons (ps_if (pt_cmpR op_eqS (pv 0) pe_str (nomark _)) (pss_one (ps_ret (pe_lst pa_nil))) pss_nil)
      (pss_cons (ps_set (i := 1) sc_read_colours.nd rfl (by first | exact Or.inl rfl | exact Or.inr rfl) (pe_lst pa_nil))
      (pss_cons (ps_for (passes_of rfl) rfl (pi_list (pe_split (pv 0) pe_str)) (pg_name (i := 2) sc_read_colours.nd rfl (by first | exact Or.inl rfl | exact Or.inr rfl)) (pss_cons (ps_set (i := 3) sc_read_colours.nd rfl (by first | exact Or.inl rfl | exact Or.inr rfl) (pe_call (ok_read_number T) (hr.mono (by decide)) (by rfl) T.g_read_number T.F_read_number.kp T.b_read_number .nil pass0 (pa_cons (pv 2) pa_nil)))
      (pss_cons (ps_if (PW.pt (pw_or (pt_cmpR op_isN (pv 3) pe_non (nomark _)) (pw_or1 (pt_cmpR op_eqI (pv 3) pe_int (nomark _))))) (pss_one (ps_raise rfl (takes_of rfl rfl rfl rfl) (pmk_own PySem.F.excBase_ValueError T.x_InvalidText T.g_InvalidText T.k_InvalidText (raises_own T.b_InvalidText T.t_InvalidText) rfl))) pss_nil) (pss_one (ps_expr (pe_bm PySem.F.plainAttrs_list PySem.F.slot_list_append PySem.F.type_list_append mt_append (pv 1) (pa_cons (pv 3) pa_nil)))))))
      (pss_one (ps_ret (pv 1))))))), ?_⟩
    refine q_if_opq (fun Q_1 kk_2 => ?_)
    refine ⟨_, rfl, _, _, _, _, _, rfl, .ty _, ty_s, k_ss, _, rfl, ?_⟩
    refine kk_2 _ _ ?_
    refine ite_no (by first | decide | rfl) ?_
    have hm := if_no (by decide) hm
    try dsimp only [tNext]
    refine q_if_opq (fun Q_4 kk_5 => ?_)
    refine ⟨_, rfl, _, _, rfl, rfl, _, rfl, ?_⟩
    refine kk_5 _ _ ?_
    refine ite_m hm (fun hc_6 hm => ?_) (fun hc_6 hm => ?_)
    · skip
      refine ret_opq (fun Q_7 kk_8 => ?_)
      refine ⟨(Nat.zero_le _), fun p_9 np_10 => ?_⟩
      have c_11 := c0.newO np_10 (.lst [])
      generalize hh : upd H0 p_9 (.lst []) = H_12 at c_11 ⊢
      clear hh
      refine kk_8 _ _ ?_
      obtain rfl := some_in hm
      exact k _ rfl p_9 [] G0 H_12 c_11.stp (c_11.hdn (fun _ z => (nomatch z))) c_11.hdg c_11.hd A2.nil
    · skip
      try dsimp only [tNext]
      refine q_asg_opq (fun Q_13 kk_14 => ?_)
      refine ⟨(Nat.zero_le _), fun p_15 np_16 => ?_⟩
      have c_17 := c0.newO np_16 (.lst [])
      generalize hh : upd H0 p_15 (.lst []) = H_18 at c_17 ⊢
      clear hh
      refine kk_14 _ _ ?_
      obtain ⟨hg_19, hm⟩ := gdp hm
      refine ⟨_, rfl, ⟨_, rfl⟩, _, _, rfl, rfl, (by decide +kernel), (le_big hg_19), fun p_20 np_21 => ?_⟩
      have c_22 := c_17.newO np_21 (.lst (List.map V.str (Txt.split text' (" " : Str))))
      generalize hh : upd H_18 p_20 (.lst (List.map V.str (Txt.split text' (" " : Str)))) = H_23 at c_22 ⊢
      clear hh
      refine ⟨_, rfl, ⟨_, SqL.of (c_22.get 0 rfl)⟩, ?_⟩
      obtain ⟨o_32, ho_33, hm⟩ := bs hm
      refine for_w (walk_list (xs := (List.map V.str (Txt.split text' (" " : Str))))) (Txt.split text' (" " : Str)) (A2.len (la_S G0 (Txt.split text' (" " : Str)))) (fun l_34 σ_36 H_37 => ∃ (G_24 : Hp) (vs_27 : List V) (xs_28 : (List Int)) (o_30 : Option V) (o_31 : Option V), σ_36 = [(some (.str text')), (some (.ref p_15)), o_30, o_31] ∧ Ex G0 G_24 ∧ Cf [] H0 G0 G_24 [(p_20, (.lst (List.map V.str (Txt.split text' (" " : Str))))), (p_15, (.lst vs_27))] H_37 ∧ AL rI G_24 vs_27 xs_28 ∧ lpx (fun (y_35 : Str) => fun (s_38 : ((List Int))) => ((fun (xs_28 : (List Int)) => (m_read_number y_35).bind fun y_54 => (oel y_54 (if true then (some (Out.rt (Except.error ((0, 0) : Er)))) else none) (fun (y_63 : Int) => if (false || (decide (y_63 = (0 : Int)))) then (some (Out.rt (Except.error ((0, 0) : Er)))) else (gd (List.length xs_28 < BIG) (some (Out.nx ((xs_28 ++ [y_63])))))))) s_38 : Option (Out ((List Int)) (Except Er (List Int))))) l_34 (xs_28) = some o_32)
        ⟨G0, [], ([] : List Int), none, none, rfl, Ex.refl _, c_22, A2.nil, ho_33⟩
        (fun l_34 σ_36 H_37 hI => by
          obtain ⟨G_24, vs_27, xs_28, o_30, o_31, rfl, eg_25, c_26, al_29, ho_33⟩ := hI
          exact (SqL.of (c_26.get 0 rfl)))
        (fun i_44 y_35 l_34 σ_36 H_37 v_41 H_45 hx_42 hI hy_43 => ?_) (fun σ_36 H_37 hI => ?_)
      · obtain ⟨G_24, vs_27, xs_28, o_30, o_31, rfl, eg_25, c_26, al_29, ho_33⟩ := hI
        obtain ⟨so_46, hf_39, hgo_40⟩ := lpx_cons ho_33
        try dsimp only at hf_39
        obtain ⟨rfl, hv_47⟩ := hy_43
        obtain ⟨v_48, hv_49, rv_50⟩ := A2.get (la_S G0 (Txt.split text' (" " : Str))) hx_42
        obtain rfl := Option.some.inj (hv_47.symm.trans hv_49)
        obtain rfl := (show v_41 = (.str y_35) from rv_50)
        refine q_asg_opq (fun Q_52 kk_53 => ?_)
        obtain ⟨y_54, hb_55, hf_39⟩ := bs hf_39
        refine ⟨_, rfl, G_24, y_35, y_54, rfl, c_26.gh, hb_55, fun v_60 G_56 H_57 sp_58 rv_61 => ?_⟩
        have c_59 := c_26.call sp_58
        refine kk_53 _ _ ?_
        rcases y_54 with _ | y_63
        · skip
          dsimp only [oel] at hf_39
          obtain rfl := (show v_60 = .non from rv_61)
          refine q_if_opq (fun Q_64 kk_65 => ?_)
          refine ⟨_, rfl, rfl, _, rfl, ?_⟩
          refine or_s (by first | decide | rfl) ?_
          refine kk_65 _ _ ?_
          refine ite_yes (by first | decide | rfl) ?_
          have hf_39 := if_yes (by decide) hf_39
          obtain rfl := some_in hf_39
          obtain rfl := some_in hgo_40
          obtain rfl := some_in hm
          exact kE _ rfl G_56 H_57 (.ref T.C_InvalidText) none c_59.stp T.g_InvalidText (efr_plain (by decide))
        · skip
          dsimp only [oel] at hf_39
          obtain rfl := (show v_60 = (.int y_63) from rv_61)
          refine q_if_opq (fun Q_67 kk_68 => ?_)
          refine ⟨_, rfl, rfl, _, rfl, ?_⟩
          refine or_t (b := (decide (y_63 = (0 : Int)))) (fun ha_71 q_70 => ?_) ?_
          · skip
            refine ⟨_, rfl, _, _, rfl, rfl, _, rfl, ?_⟩
            exact q_70
          refine kk_68 _ _ ?_
          refine ite_m hf_39 (fun hc_72 hf_39 => ?_) (fun hc_72 hf_39 => ?_)
          · skip
            obtain rfl := some_in hf_39
            obtain rfl := some_in hgo_40
            obtain rfl := some_in hm
            exact kE _ rfl G_56 H_57 (.ref T.C_InvalidText) none c_59.stp T.g_InvalidText (efr_plain (by decide))
          · skip
            try dsimp only [tNext]
            refine drop_opq (fun Q_73 kk_74 => ?_)
            obtain ⟨hg_75, hf_39⟩ := gdp hf_39
            have c_76 : Cf [] H0 G0 G_56 [(p_15, (.lst vs_27)), (p_20, (.lst (List.map V.str (Txt.split text' (" " : Str)))))] H_57 := c_59.front 1 rfl
            refine ⟨_, rfl, .inl ⟨rfl, _, SqL.of (c_59.get 1 rfl)⟩, _, rfl, _, _, _, rfl, rfl, c_76.hd, (by rw [A2.len (AL.mono sp_58.gg al_29)]; exact big_lt hg_75), ?_⟩
            obtain ⟨vs_77, hvs, al_78⟩ : ∃ vs9, vs9 = (vs_27 ++ [(.int y_63)]) ∧ AL rI G_56 vs9 (xs_28 ++ [y_63]) := ⟨_, rfl, (A2.app (AL.mono sp_58.gg al_29) (A2.one rfl))⟩
            rw [← hvs]
            clear hvs
            have c_79 := c_76.mut (.lst vs_77)
            generalize hh : upd H_57 p_15 (.lst vs_77) = H_80 at c_79 ⊢
            clear hh
            refine kk_74 _ _ ?_
            have c_81 : Cf [] H0 G0 G_56 [(p_20, (.lst (List.map V.str (Txt.split text' (" " : Str))))), (p_15, (.lst vs_77))] H_80 := c_79.front 1 rfl
            obtain rfl := some_in hf_39
            exact ⟨G_56, vs_77, (xs_28 ++ [y_63]), (some (.str y_35)), (some (.int y_63)), rfl, (eg_25.trans sp_58.gg), c_81, al_78, hgo_40⟩
      · obtain ⟨G_24, vs_27, xs_28, o_30, o_31, rfl, eg_25, c_26, al_29, ho_33⟩ := hI
        obtain rfl := lpx_nil ho_33
        dsimp only [Out.fin] at hm
        try dsimp only at hm
        try dsimp only
        refine ret_opq (fun Q_83 kk_84 => ?_)
        refine ⟨_, rfl, ?_⟩
        refine kk_84 _ _ ?_
        obtain rfl := some_in hm
        have c_85 : Cf [] H0 G0 G_24 [(p_15, (.lst vs_27)), (p_20, (.lst (List.map V.str (Txt.split text' (" " : Str)))))] H_37 := c_26.front 1 rfl
        exact k _ rfl p_15 vs_27 G_24 H_37 c_85.stp (c_85.hdn (fun _ z => (nomatch z))) c_85.hdg c_85.hd al_29
theorem sc_least_free : FnScope ["taken", "colour"] ["taken"] (defScope s_least_free) := ⟨rfl, rfl, rfl, by decide +kernel, rfl, by decide +kernel, by decide +kernel⟩
def m_least_free (taken' : (List Int)) : Option Int :=
  (wh (fun (s_22 : (Int)) => ((fun (x_10 : Int) => (some (decide (x_10 ∈ taken')))) s_22 : Option Bool)) (fun (s_22 : (Int)) => ((fun (x_10 : Int) => (lt ((x_10 + (1 : Int)) : Int) fun x_29 => (some (Out.nx (x_29))))) s_22 : Option (Out (Int) Int))) 100000 ((1 : Int))).bind fun o_11 => Out.fin o_11 (fun (s_33 : (Int)) => (fun (x_10 : Int) => (some x_10)) s_33) (fun r_34 => some r_34)
def sp_least_free (K : PySem.W.Frag) : Sp := fun vs H Q _ => ∃ (G : Hp) (a_1 : Addr) (vs_2 : List V) (taken' : (List Int)) (r : Int), vs = [.ref a_1] ∧ Ex G H ∧ SqB [] H a_1 vs_2 ∧ AL rI G vs_2 taken' ∧ m_least_free taken' = some r ∧ ∀ (G' H' : Hp), Stp [] G G' H H' → Q (.int r) H'
theorem ok_least_free (T : Env K mg) : FnOk P w K mg base CX0 1 T.f_least_free T.d_least_free ["taken"] (sp_least_free K) := by
  refine T.F_least_free.ok sc_least_free (fun vs H Q E h => ?_) (fun cdv A outer s H0 vs Q E hr h => ?_)
  · obtain ⟨G0, a_1, vs_2, taken', r, rfl, _⟩ := h
    rfl
  · obtain ⟨G0, a_1, vs_2, taken', r, rfl, hG0, sq_3, al_4, hm, k⟩ := h
    have hu := hr.units
    have hu65 := hu65 hr
    have c0 := Cf.start hG0
    unfold m_least_free at hm
    refine ⟨_, (pss_cons (ps_set (i := 1) sc_least_free.nd rfl (by first | exact Or.inl rfl | exact Or.inr rfl) pe_int)
      (pss_cons (ps_while PassesOwn.never (pt_cmpR op_inI (pv 1) (pv 0) rfl) (pss_one (ps_aug (i := 1) sc_least_free.nd rfl (by first | exact Or.inl rfl | exact Or.inr rfl) pe_int ip_add)))
      (pss_one (ps_ret (pv 1))))), ?_⟩
    refine q_asg_opq (fun Q_5 kk_6 => ?_)
    refine kk_6 _ _ ?_
    obtain ⟨o_11, ho_12, hm⟩ := bs hm
    refine wh_wx (fun n_13 σ_20 H_21 => ∃ (G_7 : Hp) (x_10 : Int), σ_20 = [(some (.ref a_1)), (some (.int x_10))] ∧ Ex G0 G_7 ∧ Cf [] H0 G0 G_7 [] H_21 ∧ wh (fun (s_22 : (Int)) => ((fun (x_10 : Int) => (some (decide (x_10 ∈ taken')))) s_22 : Option Bool)) (fun (s_22 : (Int)) => ((fun (x_10 : Int) => (lt ((x_10 + (1 : Int)) : Int) fun x_29 => (some (Out.nx (x_29))))) s_22 : Option (Out (Int) Int))) n_13 (x_10) = some o_11) (fun σ_20 H_21 => ∃ (G_7 : Hp) (x_10 : Int), σ_20 = [(some (.ref a_1)), (some (.int x_10))] ∧ Ex G0 G_7 ∧ Cf [] H0 G0 G_7 [] H_21 ∧ Out.nx (x_10) = o_11) ?_ 100000 ⟨G0, (1 : Int), rfl, Ex.refl _, c0, ho_12⟩ (fun kk_23 n_13 σ_20 H_21 hI => ?_)
    rotate_left
    · obtain ⟨G_7, x_10, rfl, eg_8, c_9, ho_12⟩ := hI
      obtain ⟨n_14, b_15, rfl, hb_16, hgo_17⟩ := wh_pos ho_12
      try dsimp only at hb_16
      refine ⟨n_14, rfl, ?_⟩
      refine opqT (fun Q_24 kk_25 => ?_)
      refine ⟨_, rfl, _, rfl, _, _, _, taken', rfl, rfl, (sq_3.at c_9), AL.mono c_9.gh (AL.mono eg_8 al_4), _, rfl, ?_⟩
      refine kk_25 _ _ ?_
      obtain rfl := some_in hb_16
      refine ite_m hgo_17 (fun hc_26 hgo_17 => ?_) (fun hc_26 hgo_17 => ?_)
      · skip
        obtain ⟨so_19, hf_18, hgo_17⟩ := bs hgo_17
        try dsimp only at hf_18
        refine wh_n ?_
        refine s_aug' (fun Q_27 kk_28 => ?_)
        obtain ⟨x_29, hl_30, hf_18⟩ := ltp hf_18
        refine ⟨_, rfl, _, _, rfl, rfl, ?_⟩
        refine nmV (f := V.int) (P := fun v9 => Q_27 v9 _) hl_30 ?_
        refine kk_28 _ _ ?_
        obtain rfl := some_in hf_18
        exact ⟨G_7, x_29, rfl, eg_8, c_9, hgo_17⟩
      · exact kk_23 _ _ ⟨G_7, x_10, rfl, eg_8, c_9, (some_in hgo_17)⟩
    rintro σ_20 H_21 ⟨G_7, x_10, rfl, eg_8, c_9, rfl⟩
    dsimp only [Out.fin] at hm
    try dsimp only at hm
    try dsimp only
    refine ret_opq (fun Q_31 kk_32 => ?_)
    refine ⟨_, rfl, ?_⟩
    refine kk_32 _ _ ?_
    obtain rfl := some_in hm
    exact k G_7 H_21 c_9.stp
theorem sc_First_pick : FnScope ["self", "colours", "ties", "other"] ["self", "colours", "ties"] (defScope s_First_pick) := ⟨rfl, rfl, rfl, by decide +kernel, rfl, by decide +kernel, by decide +kernel⟩
def m_First_pick (colours' : (List Int)) (ties' : (List Int)) : Option Int :=
  gd (List.length ties' < BIG) ((lcm (fun (y_30 : Int) => (atI colours' y_30).bind fun y_49 => (some y_49)) ties').bind fun xs_20 => ((m_least_free xs_20).bind fun y_58 => (some y_58)))
def sp_First_pick (K : PySem.W.Frag) : Sp := fun vs H Q _ => ∃ (G : Hp) (v_1 : V) (a_2 : Addr) (vs_3 : List V) (colours' : (List Int)) (a_6 : Addr) (vs_7 : List V) (ties' : (List Int)) (r : Int), vs = [v_1, .ref a_2, .ref a_6] ∧ Ex G H ∧ SqB [] H a_2 vs_3 ∧ AL rI G vs_3 colours' ∧ SqB [] H a_6 vs_7 ∧ AL rI G vs_7 ties' ∧ m_First_pick colours' ties' = some r ∧ ∀ (G' H' : Hp), Stp [] G G' H H' → Q (.int r) H'
theorem ok_First_pick (T : Env K mg) : FnOk P w K mg base CX0 2 T.f_First_pick T.d_First_pick ["self", "colours", "ties"] (sp_First_pick K) := by
  refine T.F_First_pick.ok sc_First_pick (fun vs H Q E h => ?_) (fun cdv A outer s H0 vs Q E hr h => ?_)
  · obtain ⟨G0, v_1, a_2, vs_3, colours', a_6, vs_7, ties', r, rfl, _⟩ := h
    rfl
  · obtain ⟨G0, v_1, a_2, vs_3, colours', a_6, vs_7, ties', r, rfl, hG0, sq_4, al_5, sq_8, al_9, hm, k⟩ := h
    have hu := hr.units
    have hu65 := hu65 hr
    have c0 := Cf.start hG0
    unfold m_First_pick at hm
    refine ⟨_, (pss_one (ps_ret (pe_call (ok_least_free T) (hr.mono (by decide)) (by rfl) T.g_least_free T.F_least_free.kp T.b_least_free .nil pass0 (pa_cons (pe_lc (own := [("other", 3)]) (g := gName 3) (tt := tYes)  rfl sc_First_pick.nd (pi_list (pv 2)) (blkOk_by (own := [("other", 3)]) (N := ["self", "colours", "ties", "other"]) (sc := defScope s_First_pick) (by decide +kernel)) (fun _ _ _ _ _ => (pg_name (i := 3) sc_First_pick.nd rfl (by first | exact Or.inl rfl | exact Or.inr rfl))) (fun _ _ _ _ _ => pts_nil) (fun _ _ _ _ _ => (pe_ix (ix_l (K := K) rfl) (pv 1) (pv 3) (fun _ _ => rfl)))) pa_nil)))), ?_⟩
    refine ret_opq (fun Q_10 kk_11 => ?_)
    obtain ⟨hg_12, hm⟩ := gdp hm
    refine ⟨_, rfl, _, rfl, ⟨_, SqL.of (sq_8.at c0)⟩, fun D_13 nD_14 => ?_⟩
    have c_15 := c0.newO nD_14 (.lst [])
    obtain ⟨out_22, hb_23, hm⟩ := bs hm
    refine lc_w (walk_list (xs := vs_7)) ties' (A2.len al_9) (fun l_29 H_31 => ∃ (G_16 : Hp) (vs_19 : List V) (xs_20 : (List Int)), Ex G0 G_16 ∧ Cf [] H0 G0 G_16 [(D_13, (.lst vs_19))] H_31 ∧ AL rI G_16 vs_19 xs_20 ∧ List.length xs_20 + List.length l_29 < BIG ∧ ∃ rest_25, lcm (fun (y_30 : Int) => (atI colours' y_30).bind fun y_49 => (some y_49)) l_29 = some rest_25 ∧ xs_20 ++ rest_25 = out_22)
      ⟨G0, [], ([] : List Int), Ex.refl _, c_15, A2.nil, ⟨by simpa using hg_12, out_22, hb_23, rfl⟩⟩
      (fun l_29 H_31 hI => by
        obtain ⟨G_16, vs_19, xs_20, eg_17, c_18, al_21, ⟨hlen_28, rest_25, hf_26, hout_27⟩⟩ := hI
        exact (SqL.of (sq_8.at c_18)))
      (fun i_33 y_30 l_29 H_31 v_34 H_37 hx_35 hI hy_36 => ?_) (fun H_31 hI => ?_)
    · obtain ⟨G_16, vs_19, xs_20, eg_17, c_18, al_21, ⟨hlen_28, rest_25, hf_26, hout_27⟩⟩ := hI
      obtain ⟨z_38, rest_39, hq_32, hf_40, ho_41⟩ := lcm_cons hf_26
      try dsimp only at hq_32
      obtain ⟨rfl, hv_43⟩ := hy_36
      obtain ⟨v_44, hv_45, rv_46⟩ := A2.get al_9 hx_35
      obtain rfl := Option.some.inj (hv_43.symm.trans hv_45)
      obtain rfl := (show v_34 = (.int y_30) from rv_46)
      refine ⟨rfl, ?_⟩
      refine yes_q ?_
      refine opqV (fun Q_47 kk_48 => ?_)
      obtain ⟨y_49, hb_50, hq_32⟩ := bs hq_32
      obtain ⟨v_51, hv_52, rv_53⟩ := at_l (AL.mono eg_17 al_5) hb_50
      obtain rfl := (show v_51 = (.int y_49) from rv_53)
      refine ⟨_, rfl, _, rfl, _, _, _, _, rfl, rfl, (SqL.of (sq_4.at c_18)), hv_52, ?_⟩
      refine kk_48 _ _ ?_
      refine ⟨_, c_18.hd, big_lt (by have h9 := hlen_28; have h8 := A2.len al_21; simp only [List.length_cons] at h9; omega), ?_⟩
      obtain ⟨vs_54, hvs, al_55⟩ : ∃ vs9, vs9 = (vs_19 ++ [(.int y_49)]) ∧ AL rI G_16 vs9 (xs_20 ++ [y_49]) := ⟨_, rfl, (A2.app al_21 (A2.one rfl))⟩
      rw [← hvs]
      clear hvs
      have c_56 := c_18.mut (.lst vs_54)
      generalize hh : upd H_37 D_13 (.lst vs_54) = H_57 at c_56 ⊢
      clear hh
      obtain rfl := some_in hq_32
      exact ⟨G_16, vs_54, (xs_20 ++ [y_49]), eg_17, c_56, al_55, ⟨by have h9 := hlen_28; simp only [List.length_append, List.length_cons, List.length_nil] at h9 ⊢; first | done | omega, rest_39, hf_40, by rw [← hout_27, ho_41]; first | done | simp⟩⟩
    obtain ⟨G_16, vs_19, xs_20, eg_17, c_18, al_21, ⟨hlen_28, rest_25, hf_26, hout_27⟩⟩ := hI
    obtain rfl := some_in hf_26
    rw [List.append_nil] at hout_27
    subst hout_27
    obtain ⟨y_58, hb_59, hm⟩ := bs hm
    refine ⟨G_16, D_13, vs_19, xs_20, y_58, rfl, c_18.gh, (SqB.of (c_18.get 0 rfl)), al_21, hb_59, fun G_60 H_61 sp_62 => ?_⟩
    have c_63 := c_18.call sp_62
    refine kk_11 _ _ ?_
    obtain rfl := some_in hm
    exact k G_60 H_61 c_63.stp
def m_pick (g : Gv) (colours ties : List Int) : Option Int := match g with
  | .first => m_First_pick colours ties
  | _ => none
def sp_pick (K : PySem.W.Frag) (g : Gv) : Sp := fun vs H Q _ => ∃ (G : Hp) (v_1 : V) (a_2 : Addr) (vs_3 : List V) (colours : (List Int)) (a_6 : Addr) (vs_7 : List V) (ties : (List Int)) (r : Int), vs = [v_1, .ref a_2, .ref a_6] ∧ Ex G H ∧ SqB [] H a_2 vs_3 ∧ AL rI G vs_3 colours ∧ SqB [] H a_6 vs_7 ∧ AL rI G vs_7 ties ∧ m_pick g colours ties = some r ∧ ∀ (G' H' : Hp), Stp [] G G' H H' → Q (.int r) H'
theorem pick_any (T : Env K mg) {g : Gv} {colours ties : List Int} {r : Int} (h : m_pick g colours ties = some r) : ∃ f fd k, k ≤ 2 ∧ L2.Meth K (T.gv.C g) "pick" f ∧ FnOk P w K mg base CX0 k f fd ["self", "colours", "ties"] (sp_pick K g) ∧ Binds K fd ["self", "colours", "ties"] [] := by
  cases g with
  | first => exact ⟨_, _, 2, by decide, T.h_First_pick, ok_First_pick T, T.b_First_pick⟩
  | busy => cases h
  | rare => cases h
  | other => cases h
theorem sc_next_colour : FnScope ["giver", "web", "colours", "ties", "halves", "row"] ["giver", "web", "colours", "ties"] (defScope s_next_colour) := ⟨rfl, rfl, rfl, by decide +kernel, rfl, by decide +kernel, by decide +kernel⟩
def m_next_colour (giver' : Gv) (web' : (List (List Int))) (colours' : (List Int)) (ties' : (List Int)) : Option Int :=
  (m_check_colouring web' colours').bind fun y_17 => ((m_are_ties ties' ((List.length web' : Nat) : Int)).bind fun y_25 => (if (!y_25) then (none) else (if (!(decide (giver' = Gv.other))) then ((m_pick giver' colours' ties').bind fun y_45 => (some y_45)) else (none))))
def sp_next_colour (K : PySem.W.Frag) (mg : Str → Option Value) : Sp := fun vs H Q _ => ∃ (G : Hp) (v_1 : V) (giver' : Gv) (a_3 : Addr) (vs_4 : List V) (web' : (List (List Int))) (a_7 : Addr) (vs_8 : List V) (colours' : (List Int)) (a_11 : Addr) (vs_12 : List V) (ties' : (List Int)) (r : Int), vs = [v_1, .ref a_3, .ref a_7, .ref a_11] ∧ Ex G H ∧ (rG mg).r G v_1 giver' ∧ SqB [] H a_3 vs_4 ∧ AL (rL rI) G vs_4 web' ∧ SqB [] H a_7 vs_8 ∧ AL rI G vs_8 colours' ∧ SqB [] H a_11 vs_12 ∧ AL rI G vs_12 ties' ∧ m_next_colour giver' web' colours' ties' = some r ∧ ∀ (G' H' : Hp), Stp [] G G' H H' → Q (.int r) H'
theorem ok_next_colour (T : Env K mg) : FnOk P w K mg base CX0 6 T.f_next_colour T.d_next_colour ["giver", "web", "colours", "ties"] (sp_next_colour K mg) := by
  refine T.F_next_colour.ok sc_next_colour (fun vs H Q E h => ?_) (fun cdv A outer s H0 vs Q E hr h => ?_)
  · obtain ⟨G0, v_1, giver', a_3, vs_4, web', a_7, vs_8, colours', a_11, vs_12, ties', r, rfl, _⟩ := h
    rfl
  · obtain ⟨G0, v_1, giver', a_3, vs_4, web', a_7, vs_8, colours', a_11, vs_12, ties', r, rfl, hG0, rv_2, sq_5, al_6, sq_9, al_10, sq_13, al_14, hm, k⟩ := h
    have hu := hr.units
    have hu65 := hu65 hr
    have c0 := Cf.start hG0
    unfold m_next_colour at hm
    refine ⟨_, (pss_cons (ps_expr (pe_call (ok_check_colouring T) (hr.mono (by decide)) (by rfl) T.g_check_colouring T.F_check_colouring.kp T.b_check_colouring .nil pass0 (pa_cons (pv 1) (pa_cons (pv 2) pa_nil))))
      (pss_cons (ps_if (pt_not (pt_val (pe_call (ok_are_ties T) (hr.mono (by decide)) (by rfl) T.g_are_ties T.F_are_ties.kp T.b_are_ties .nil pass0 (pa_cons (pv 3) (pa_cons (pe_callB call_lenL (by rfl) T.n_len bt_len (pa_cons (pv 1) pa_nil)) pa_nil))))) (pss_one ps_never) pss_nil)
      (pss_cons (ps_if (pt_not (pt_val (pe_callB (call_is (K := K) rfl) (by rfl) T.n_isinstance bt_isi (pa_cons (pv 0) (pa_cons (pe_glob (v := .ref (T.gv.C .other)) rfl T.gP_Other rfl) pa_nil))))) (pss_one (ps_ret (pe_methD (pv 0) (pa_cons (pv 2) (pa_cons (pv 3) pa_nil))))) pss_nil)
      pss_never))), ?_⟩
    refine q_drop_opq (fun Q_15 kk_16 => ?_)
    obtain ⟨y_17, hb_18, hm⟩ := bs hm
    refine ⟨_, rfl, _, rfl, G0, a_3, vs_4, web', a_7, vs_8, colours', y_17, rfl, c0.gh, (SqB.of (sq_5.at c0)), al_6, (SqB.of (sq_9.at c0)), al_10, hb_18, fun G_19 H_20 sp_21 => ?_⟩
    have c_22 := c0.call sp_21
    refine kk_16 _ _ ?_
    refine q_if_opq (fun Q_23 kk_24 => ?_)
    obtain ⟨y_25, hb_26, hm⟩ := bs hm
    refine ⟨_, rfl, _, rfl, _, _, (List.length web'), rfl, (sq_5.at c_22), (A2.len (AL.mono sp_21.gg al_6)), G_19, a_11, vs_12, ties', ((List.length web' : Nat) : Int), y_25, rfl, c_22.gh, (SqB.of (sq_13.at c_22)), (AL.mono sp_21.gg al_14), hb_26, fun G_27 H_28 sp_29 => ?_⟩
    have c_30 := c_22.call sp_29
    refine ⟨_, rfl, ?_⟩
    refine kk_24 _ _ ?_
    refine ite_m hm (fun hc_31 hm => ?_) (fun hc_31 hm => ?_)
    · skip
      cases hm
    · skip
      try dsimp only [tNext]
      refine q_if_opq (fun Q_32 kk_33 => ?_)
      obtain ⟨a_34, dx_35, hp_37, hv9, h_36⟩ := gv_open T.gv ((rG mg).mono (sp_21.gg.trans sp_29.gg) rv_2)
      refine ⟨_, rfl, _, _, _, _, (decide (giver' = Gv.other)), rfl, .own _, (by rw [hv9]; exact gv_ty T.gv hp_37 (c_30.gh _ _ h_36)), (T.gv.kit giver' hp_37), _, rfl, ?_⟩
      refine kk_33 _ _ ?_
      refine ite_m hm (fun hc_38 hm => ?_) (fun hc_38 hm => ?_)
      · skip
        refine ret_opq (fun Q_39 kk_40 => ?_)
        refine ⟨_, rfl, ?_⟩
        obtain ⟨y_45, hb_46, hm⟩ := bs hm
        obtain ⟨f_47, fd_48, k_49, hk_50, mt_51, fo_52, bn_53⟩ := pick_any (P := P) (w := w) (base := base) T hb_46
        obtain ⟨a_41, dx_42, hp_54, hv9, h_43⟩ := gv_open T.gv ((rG mg).mono (sp_21.gg.trans sp_29.gg) rv_2)
        refine ⟨a_41, _, dx_42, [], f_47, fd_48, k_49, _, _, hv9, (c_30.gh _ _ h_43), rfl, (T.gv.o giver' hp_54).cl, mt_51, fo_52, (hr.mono (Nat.le_trans hk_50 (by decide))), bn_53, _, rfl, _, rfl, G_27, _, a_7, vs_8, colours', a_11, vs_12, ties', y_45, rfl, c_30.gh, (SqB.of (sq_9.at c_30)), (AL.mono (sp_21.gg.trans sp_29.gg) al_10), (SqB.of (sq_13.at c_30)), (AL.mono (sp_21.gg.trans sp_29.gg) al_14), hb_46, fun G_55 H_56 sp_57 => ?_⟩
        have c_58 := c_30.call sp_57
        refine kk_40 _ _ ?_
        obtain rfl := some_in hm
        exact k G_55 H_56 c_58.stp
      · skip
        try dsimp only [tNext]
        cases hm
theorem sc_is_right : FnScope ["web", "colours", "paper", "thing", "children", "index", "child"] ["web", "colours", "paper"] (defScope s_is_right) := ⟨rfl, rfl, rfl, by decide +kernel, rfl, by decide +kernel, by decide +kernel⟩
def m_is_right : Nat → (List (List Int)) → (List Int) → Pap → Option Bool
  | 0, _, _, _ => none
  | fuel + 1, web', colours', paper' =>
  if ((!true) || false) then (some false) else ((m_is_thing (Pap.t paper') web').bind fun y_28 => ((pOr (!y_28) ((pOr (!true) ((atI colours' (Pap.t paper')).bind fun y_36 => (some (!(decide (((List.length (Pap.ch paper') : Nat) : Int) = (y_36 - (1 : Int)))))))).bind fun b_43 => (some b_43))).bind fun b_47 => (if b_47 then (some false) else ((lpx (fun (y_60 : (Int × Pap)) => (fun (y_80 : Int) (y_81 : Pap) => fun (s_63 : Unit) => ((m_is_right fuel web' colours' y_81).bind fun y_90 => (if (!y_90) then (some (Out.rt false)) else ((atI web' (Pap.t paper')).bind fun y_108 => ((pOr (!(decide ((Pap.t y_81) ∈ y_108))) ((atI colours' (Pap.t y_81)).bind fun y_118 => (some (!(decide (y_118 = (y_80 + (1 : Int)))))))).bind fun b_125 => (if b_125 then (some (Out.rt false)) else (some (Out.nx ())))))) : Option (Out Unit Bool))) y_60.1 y_60.2) (enm (Pap.ch paper')) ()).bind fun o_57 => Out.fin o_57 (fun (s_133 : Unit) => (some true)) (fun r_134 => some r_134)))))
theorem m_is_right_s (fuel : Nat) (web' : (List (List Int))) (colours' : (List Int)) (paper' : Pap) : m_is_right (fuel + 1) web' colours' paper' =
  (if ((!true) || false) then (some false) else ((m_is_thing (Pap.t paper') web').bind fun y_28 => ((pOr (!y_28) ((pOr (!true) ((atI colours' (Pap.t paper')).bind fun y_36 => (some (!(decide (((List.length (Pap.ch paper') : Nat) : Int) = (y_36 - (1 : Int)))))))).bind fun b_43 => (some b_43))).bind fun b_47 => (if b_47 then (some false) else ((lpx (fun (y_60 : (Int × Pap)) => (fun (y_80 : Int) (y_81 : Pap) => fun (s_63 : Unit) => ((m_is_right fuel web' colours' y_81).bind fun y_90 => (if (!y_90) then (some (Out.rt false)) else ((atI web' (Pap.t paper')).bind fun y_108 => ((pOr (!(decide ((Pap.t y_81) ∈ y_108))) ((atI colours' (Pap.t y_81)).bind fun y_118 => (some (!(decide (y_118 = (y_80 + (1 : Int)))))))).bind fun b_125 => (if b_125 then (some (Out.rt false)) else (some (Out.nx ())))))) : Option (Out Unit Bool))) y_60.1 y_60.2) (enm (Pap.ch paper')) ()).bind fun o_57 => Out.fin o_57 (fun (s_133 : Unit) => (some true)) (fun r_134 => some r_134)))))) := rfl
def sp_is_right (K : PySem.W.Frag) (fuel : Nat) : Sp := fun vs H Q _ => ∃ (G : Hp) (a_1 : Addr) (vs_2 : List V) (web' : (List (List Int))) (a_5 : Addr) (vs_6 : List V) (colours' : (List Int)) (v_9 : V) (paper' : Pap) (r : Bool), vs = [.ref a_1, .ref a_5, v_9] ∧ Ex G H ∧ SqB [] H a_1 vs_2 ∧ AL (rL rI) G vs_2 web' ∧ SqB [] H a_5 vs_6 ∧ AL rI G vs_6 colours' ∧ rP.r G v_9 paper' ∧ m_is_right fuel web' colours' paper' = some r ∧ ∀ (G' H' : Hp), Stp [] G G' H H' → Q (.bl r) H'
theorem ok_is_right (T : Env K mg) (fuel : Nat) : FnOk P w K mg base CX0 (fuel + 3) T.f_is_right T.d_is_right ["web", "colours", "paper"] (sp_is_right K fuel) := by
  induction fuel with
  | zero =>
    refine T.F_is_right.ok sc_is_right (fun vs H Q E h => ?_) (fun cdv A outer s H0 vs Q E hr h => ?_)
    · obtain ⟨G0, a_1, vs_2, web', a_5, vs_6, colours', v_9, paper', r, rfl, _⟩ := h
      rfl
    · obtain ⟨G0, a_1, vs_2, web', a_5, vs_6, colours', v_9, paper', r, rfl, hG0, sq_3, al_4, sq_7, al_8, rv_10, hm, k⟩ := h
      cases hm
  | succ fuel ih =>
    refine T.F_is_right.ok sc_is_right (fun vs H Q E h => ?_) (fun cdv A outer s H0 vs Q E hr h => ?_)
    · obtain ⟨G0, a_1, vs_2, web', a_5, vs_6, colours', v_9, paper', r, rfl, _⟩ := h
      rfl
    · obtain ⟨G0, a_1, vs_2, web', a_5, vs_6, colours', v_9, paper', r, rfl, hG0, sq_3, al_4, sq_7, al_8, rv_10, hm, k⟩ := h
      have hu := hr.units
      have hu65 := hu65 hr
      have c0 := Cf.start hG0
      rw [m_is_right_s] at hm
      refine ⟨_, (pss_cons (ps_if (PW.pt (pw_or (pt_not (pt_val (pe_callB (call_is (K := K) rfl) (by rfl) T.n_isinstance bt_isi (pa_cons (pv 2) (pa_cons (pe_bltn (v := .ty "tuple") (by rfl) T.n_tuple bt_tuple rfl) pa_nil))))) (pw_or1 (pt_cmpR op_neI (pe_callB call_len_seq (by rfl) T.n_len bt_len (pa_cons (pv 2) pa_nil)) pe_int (nomark _))))) (pss_one (ps_ret pe_bl)) pss_nil)
        (pss_cons (ps_asg (pv 2) (pg_tup rfl (pgs_cons (pg_name (i := 3) sc_is_right.nd rfl (by first | exact Or.inl rfl | exact Or.inr rfl)) (pgs_cons (pg_name (i := 4) sc_is_right.nd rfl (by first | exact Or.inl rfl | exact Or.inr rfl)) pgs_nil))))
        (pss_cons (ps_if (PW.pt (pw_or (pt_not (pt_val (pe_call (ok_is_thing T) (hr.mono (by omega)) (by rfl) T.g_is_thing T.F_is_thing.kp T.b_is_thing .nil pass0 (pa_cons (pv 3) (pa_cons (pv 0) pa_nil))))) (pw_or (pt_not (pt_val (pe_callB (call_is (K := K) rfl) (by rfl) T.n_isinstance bt_isi (pa_cons (pv 4) (pa_cons (pe_bltn (v := .ty "list") (by rfl) T.n_list bt_list rfl) pa_nil))))) (pw_or1 (pt_cmpR op_neI (pe_callB call_lenL (by rfl) T.n_len bt_len (pa_cons (pv 4) pa_nil)) (pe_op op_sub (pe_ix (ix_l (K := K) rfl) (pv 1) (pv 3) (fun _ _ => rfl)) pe_int) (nomark _)))))) (pss_one (ps_ret pe_bl)) pss_nil)
        (pss_cons (ps_for PassesOwn.never rfl (pi_enum (by rfl) T.n_enumerate (pa_cons (pv 4) pa_nil)) (pg_tup rfl (pgs_cons (pg_name (i := 5) sc_is_right.nd rfl (by first | exact Or.inl rfl | exact Or.inr rfl)) (pgs_cons (pg_name (i := 6) sc_is_right.nd rfl (by first | exact Or.inl rfl | exact Or.inr rfl)) pgs_nil))) (pss_cons (ps_if (pt_not (pt_val (pe_call ih (hr.mono (by omega)) (by rfl) T.g_is_right T.F_is_right.kp T.b_is_right .nil pass0 (pa_cons (pv 0) (pa_cons (pv 1) (pa_cons (pv 6) pa_nil)))))) (pss_one (ps_ret pe_bl)) pss_nil)
        (pss_one (ps_if (PW.pt (pw_or (pt_cmpR op_ninI (pe_ix ix_tup (pv 6) pe_int (fun _ _ => rfl)) (pe_ix (ix_l (K := K) rfl) (pv 0) (pv 3) (fun _ _ => rfl)) rfl) (pw_or1 (pt_cmpR op_neI (pe_ix (ix_l (K := K) rfl) (pv 1) (pe_ix ix_tup (pv 6) pe_int (fun _ _ => rfl)) (fun _ _ => rfl)) (pe_op op_add (pv 5) pe_int) (nomark _))))) (pss_one (ps_ret pe_bl)) pss_nil))))
        (pss_one (ps_ret pe_bl)))))), ?_⟩
      refine q_if_opq (fun Q_11 kk_12 => ?_)
      have rv_19 := rv_10
      obtain ⟨a_13, b_14, ws_15, rfl, h_16, sq_17, al_18⟩ := PapR.open rv_19
      have al_18 : AL rP G0 ws_15 (Pap.ch paper') := al_18
      refine ⟨_, rfl, _, _, _, _, _, rfl, .ty _, (ty_t (SqT.of (c0.gh _ _ h_16))), k_tt, _, rfl, ?_⟩
      refine or_t (b := false) (fun ha_22 q_21 => ?_) ?_
      · skip
        refine ⟨_, rfl, _, _, rfl, .inr (SqT.of (c0.gh _ _ h_16)), _, _, rfl, rfl, _, rfl, ?_⟩
        exact q_21
      refine kk_12 _ _ ?_
      refine ite_m hm (fun hc_23 hm => ?_) (fun hc_23 hm => ?_)
      · skip
        refine ret_opq (fun Q_24 kk_25 => ?_)
        refine kk_25 _ _ ?_
        obtain rfl := some_in hm
        exact k G0 H0 c0.stp
      · skip
        try dsimp only [tNext]
        refine ⟨_, rfl, _, _, rfl, SqT.of (c0.gh _ _ h_16), rfl, _, _, rfl, _, _, rfl, rfl, ?_⟩
        try dsimp only
        refine q_if_opq (fun Q_26 kk_27 => ?_)
        obtain ⟨y_28, hb_29, hm⟩ := bs hm
        refine ⟨_, rfl, _, rfl, G0, (Pap.t paper'), a_1, vs_2, web', y_28, rfl, c0.gh, (SqB.of (sq_3.at c0)), al_4, hb_29, fun G_30 H_31 sp_32 => ?_⟩
        have c_33 := c0.call sp_32
        refine ⟨_, rfl, ?_⟩
        obtain ⟨b_47, hb_48, hm⟩ := bs hm
        refine or_r hb_48 (fun ha_46 hq_34 q_45 => ?_) ?_
        · skip
          refine ⟨_, rfl, _, _, _, _, _, rfl, .ty _, (ty_l (SqL.of (c_33.gh _ _ (sp_32.gg _ _ sq_17)))), k_ll, _, rfl, ?_⟩
          obtain ⟨b_43, hb_44, hq_34⟩ := bs hq_34
          refine or_r hb_44 (fun ha_42 hq_35 q_41 => ?_) ?_
          · skip
            obtain ⟨y_36, hb_37, hq_35⟩ := bs hq_35
            obtain ⟨v_38, hv_39, rv_40⟩ := at_l (AL.mono sp_32.gg al_8) hb_37
            obtain rfl := (show v_38 = (.int y_36) from rv_40)
            refine ⟨_, rfl, _, _, (List.length (Pap.ch paper')), rfl, (c_33.gh _ _ (sp_32.gg _ _ sq_17)), (A2.len (AL.mono sp_32.gg al_18)), _, rfl, _, rfl, _, _, _, _, rfl, rfl, (SqL.of (sq_7.at c_33)), hv_39, _, _, rfl, rfl, _, _, rfl, rfl, _, rfl, ?_⟩
            obtain rfl := some_in hq_35
            exact q_41
          obtain rfl := some_in hq_34
          exact q_45
        refine kk_27 _ _ ?_
        refine ite_m hm (fun hc_49 hm => ?_) (fun hc_49 hm => ?_)
        · skip
          refine ret_opq (fun Q_50 kk_51 => ?_)
          refine kk_51 _ _ ?_
          obtain rfl := some_in hm
          exact k G_30 H_31 c_33.stp
        · skip
          try dsimp only [tNext]
          refine ⟨_, rfl, _, _, rfl, (SqL.of (c_33.gh _ _ (sp_32.gg _ _ sq_17))), ?_⟩
          obtain ⟨o_57, ho_58, hm⟩ := bs hm
          refine for_w (walk_enum (xs := ws_15)) (enm (Pap.ch paper')) (by rw [enm_len, A2.len (AL.mono sp_32.gg al_18)]) (fun l_59 σ_61 H_62 => ∃ (G_52 : Hp) (o_55 : Option V) (o_56 : Option V), σ_61 = [(some (.ref a_1)), (some (.ref a_5)), (some (.ref a_13)), (some (.int (Pap.t paper'))), (some (.ref b_14)), o_55, o_56] ∧ Ex G_30 G_52 ∧ Cf [] H0 G0 G_52 [] H_62 ∧ lpx (fun (y_60 : (Int × Pap)) => (fun (y_80 : Int) (y_81 : Pap) => fun (s_63 : Unit) => ((m_is_right fuel web' colours' y_81).bind fun y_90 => (if (!y_90) then (some (Out.rt false)) else ((atI web' (Pap.t paper')).bind fun y_108 => ((pOr (!(decide ((Pap.t y_81) ∈ y_108))) ((atI colours' (Pap.t y_81)).bind fun y_118 => (some (!(decide (y_118 = (y_80 + (1 : Int)))))))).bind fun b_125 => (if b_125 then (some (Out.rt false)) else (some (Out.nx ())))))) : Option (Out Unit Bool))) y_60.1 y_60.2) l_59 () = some o_57)
            ⟨G_30, none, none, rfl, Ex.refl _, c_33, ho_58⟩
            (fun l_59 σ_61 H_62 hI => by
              obtain ⟨G_52, o_55, o_56, rfl, eg_53, c_54, ho_58⟩ := hI
              exact (SqL.of (c_54.gh _ _ ((sp_32.gg.trans eg_53) _ _ sq_17))))
            (fun i_69 y_60 l_59 σ_61 H_62 v_66 H_70 hx_67 hI hy_68 => ?_) (fun σ_61 H_62 hI => ?_)
          · obtain ⟨G_52, o_55, o_56, rfl, eg_53, c_54, ho_58⟩ := hI
            obtain ⟨so_71, hf_64, hgo_65⟩ := lpx_cons ho_58
            try dsimp only at hf_64
            obtain ⟨T_72, u_73, v_74, rfl, nT_75, rfl, h_76, h_77⟩ := hy_68
            obtain ⟨h_78, h_79⟩ := enm_get hx_67
            obtain ⟨y_80, y_81⟩ := y_60
            dsimp only at h_78 h_79 hf_64
            obtain rfl := Option.some.inj h_76
            rw [← h_78]
            obtain ⟨v_82, hv_83, rv_84⟩ := A2.get (AL.mono sp_32.gg al_18) h_79
            obtain rfl := Option.some.inj (h_77.symm.trans hv_83)
            have c_85 := c_54.junk nT_75 (.tup [.int y_80, v_74])
            refine ⟨_, _, rfl, SqT.of upd_same, rfl, _, _, rfl, _, _, rfl, rfl, ?_⟩
            generalize hh : upd H_62 T_72 (.tup [.int y_80, v_74]) = H_86 at c_85 ⊢
            clear hh
            refine q_if_opq (fun Q_88 kk_89 => ?_)
            obtain ⟨y_90, hb_91, hf_64⟩ := bs hf_64
            refine ⟨_, rfl, _, rfl, _, rfl, G_52, a_1, vs_2, web', a_5, vs_6, colours', v_74, y_81, y_90, rfl, c_85.gh, (SqB.of (sq_3.at c_85)), (AL.mono (sp_32.gg.trans eg_53) al_4), (SqB.of (sq_7.at c_85)), (AL.mono (sp_32.gg.trans eg_53) al_8), (rP.mono eg_53 rv_84), hb_91, fun G_92 H_93 sp_94 => ?_⟩
            have c_95 := c_85.call sp_94
            refine ⟨_, rfl, ?_⟩
            refine kk_89 _ _ ?_
            refine ite_m hf_64 (fun hc_96 hf_64 => ?_) (fun hc_96 hf_64 => ?_)
            · skip
              refine ret_opq (fun Q_97 kk_98 => ?_)
              refine kk_98 _ _ ?_
              obtain rfl := some_in hf_64
              obtain rfl := some_in hgo_65
              obtain rfl := some_in hm
              exact k G_92 H_93 c_95.stp
            · skip
              try dsimp only [tNext]
              refine if_opq (fun Q_99 kk_100 => ?_)
              have rv_107 := (rP.mono (eg_53.trans sp_94.gg) rv_84)
              obtain ⟨a_101, b_102, ws_103, rfl, h_104, sq_105, al_106⟩ := PapR.open rv_107
              have al_106 : AL rP G_92 ws_103 (Pap.ch y_81) := al_106
              obtain ⟨y_108, hb_109, hf_64⟩ := bs hf_64
              obtain ⟨v_110, hv_111, rv_112⟩ := at_l (AL.mono ((sp_32.gg.trans eg_53).trans sp_94.gg) al_4) hb_109
              obtain ⟨a_113, vs_114, rfl, sq_115, al_116⟩ := rv_112
              refine ⟨_, rfl, _, _, _, (.int (Pap.t y_81)), rfl, rfl, (SqT.of (c_95.gh _ _ h_104)), rfl, _, rfl, _, rfl, _, _, _, _, rfl, rfl, (SqL.of (sq_3.at c_95)), hv_111, _, _, _, y_108, rfl, rfl, (c_95.gh _ _ sq_115), AL.mono c_95.gh al_116, _, rfl, ?_⟩
              obtain ⟨b_125, hb_126, hf_64⟩ := bs hf_64
              refine or_r hb_126 (fun ha_124 hq_117 q_123 => ?_) ?_
              · skip
                obtain ⟨y_118, hb_119, hq_117⟩ := bs hq_117
                obtain ⟨v_120, hv_121, rv_122⟩ := at_l (AL.mono ((sp_32.gg.trans eg_53).trans sp_94.gg) al_8) hb_119
                obtain rfl := (show v_120 = (.int y_118) from rv_122)
                refine ⟨_, rfl, _, rfl, _, _, _, (.int (Pap.t y_81)), rfl, rfl, (SqT.of (c_95.gh _ _ h_104)), rfl, _, _, _, _, rfl, rfl, (SqL.of (sq_7.at c_95)), hv_121, _, rfl, _, _, rfl, rfl, _, _, rfl, rfl, _, rfl, ?_⟩
                obtain rfl := some_in hq_117
                exact q_123
              refine kk_100 _ _ ?_
              refine ite_m hf_64 (fun hc_127 hf_64 => ?_) (fun hc_127 hf_64 => ?_)
              · skip
                refine ret_opq (fun Q_128 kk_129 => ?_)
                refine kk_129 _ _ ?_
                obtain rfl := some_in hf_64
                obtain rfl := some_in hgo_65
                obtain rfl := some_in hm
                exact k G_92 H_93 c_95.stp
              · skip
                obtain rfl := some_in hf_64
                exact ⟨G_92, (some (.int y_80)), (some (.ref a_101)), rfl, (eg_53.trans sp_94.gg), c_95, hgo_65⟩
          · obtain ⟨G_52, o_55, o_56, rfl, eg_53, c_54, ho_58⟩ := hI
            obtain rfl := lpx_nil ho_58
            dsimp only [Out.fin] at hm
            try dsimp only at hm
            try dsimp only
            refine ret_opq (fun Q_131 kk_132 => ?_)
            refine kk_132 _ _ ?_
            obtain rfl := some_in hm
            exact k G_52 H_62 c_54.stp
theorem sc_is_witness : FnScope ["web", "colours", "paper"] ["web", "colours", "paper"] (defScope s_is_witness) := ⟨rfl, rfl, rfl, by decide +kernel, rfl, by decide +kernel, by decide +kernel⟩
def m_is_witness (web' : (List (List Int))) (colours' : (List Int)) (paper' : Pap) : Option Bool :=
  (m_check_colouring web' colours').bind fun y_13 => ((m_is_right 200 web' colours' paper').bind fun y_21 => (some y_21))
def sp_is_witness (K : PySem.W.Frag) : Sp := fun vs H Q _ => ∃ (G : Hp) (a_1 : Addr) (vs_2 : List V) (web' : (List (List Int))) (a_5 : Addr) (vs_6 : List V) (colours' : (List Int)) (v_9 : V) (paper' : Pap) (r : Bool), vs = [.ref a_1, .ref a_5, v_9] ∧ Ex G H ∧ SqB [] H a_1 vs_2 ∧ AL (rL rI) G vs_2 web' ∧ SqB [] H a_5 vs_6 ∧ AL rI G vs_6 colours' ∧ rP.r G v_9 paper' ∧ m_is_witness web' colours' paper' = some r ∧ ∀ (G' H' : Hp), Stp [] G G' H H' → Q (.bl r) H'
theorem ok_is_witness (T : Env K mg) : FnOk P w K mg base CX0 204 T.f_is_witness T.d_is_witness ["web", "colours", "paper"] (sp_is_witness K) := by
  refine T.F_is_witness.ok sc_is_witness (fun vs H Q E h => ?_) (fun cdv A outer s H0 vs Q E hr h => ?_)
  · obtain ⟨G0, a_1, vs_2, web', a_5, vs_6, colours', v_9, paper', r, rfl, _⟩ := h
    rfl
  · obtain ⟨G0, a_1, vs_2, web', a_5, vs_6, colours', v_9, paper', r, rfl, hG0, sq_3, al_4, sq_7, al_8, rv_10, hm, k⟩ := h
    have hu := hr.units
    have hu65 := hu65 hr
    have c0 := Cf.start hG0
    unfold m_is_witness at hm
    refine ⟨_, (pss_cons (ps_expr (pe_call (ok_check_colouring T) (hr.mono (by decide)) (by rfl) T.g_check_colouring T.F_check_colouring.kp T.b_check_colouring .nil pass0 (pa_cons (pv 0) (pa_cons (pv 1) pa_nil))))
      (pss_one (ps_ret (pe_call (ok_is_right T 200) (hr.mono (by decide)) (by rfl) T.g_is_right T.F_is_right.kp T.b_is_right .nil pass0 (pa_cons (pv 0) (pa_cons (pv 1) (pa_cons (pv 2) pa_nil))))))), ?_⟩
    refine q_drop_opq (fun Q_11 kk_12 => ?_)
    obtain ⟨y_13, hb_14, hm⟩ := bs hm
    refine ⟨_, rfl, _, rfl, G0, a_1, vs_2, web', a_5, vs_6, colours', y_13, rfl, c0.gh, (SqB.of (sq_3.at c0)), al_4, (SqB.of (sq_7.at c0)), al_8, hb_14, fun G_15 H_16 sp_17 => ?_⟩
    have c_18 := c0.call sp_17
    refine kk_12 _ _ ?_
    refine ret_opq (fun Q_19 kk_20 => ?_)
    obtain ⟨y_21, hb_22, hm⟩ := bs hm
    refine ⟨_, rfl, _, rfl, _, rfl, G_15, a_1, vs_2, web', a_5, vs_6, colours', v_9, paper', y_21, rfl, c_18.gh, (SqB.of (sq_3.at c_18)), (AL.mono sp_17.gg al_4), (SqB.of (sq_7.at c_18)), (AL.mono sp_17.gg al_8), (rP.mono sp_17.gg rv_10), hb_22, fun G_23 H_24 sp_25 => ?_⟩
    have c_26 := c_18.call sp_25
    refine kk_20 _ _ ?_
    obtain rfl := some_in hm
    exact k G_23 H_24 c_26.stp
theorem sc__law_deck : FnScope ["script", "at", "cell", "seed"] ["script", "at"] (defScope s__law_deck) := ⟨rfl, rfl, rfl, by decide +kernel, rfl, by decide +kernel, by decide +kernel⟩
def m__law_deck (script' : List Int) (at' : Int) : Option (List Int) :=
  (((if (decide (at' < ((List.length script' : Nat) : Int))) then ((atI script' at').bind fun y_18 => (some (y_18))) else (some ((0 : Int)))) : Option (Int))).bind fun (s_41 : (Int)) => (fun (x_8 : Int) => (lt (((((x_8 * (7919 : Int)) + (at' * (104729 : Int))) + (1 : Int)) % (2147483647 : Int)) : Int) fun x_22 => (if (decide (((10 : Int) ^ ((18 : Int)).toNat) ≤ x_8)) then (some ([(x_8 - ((10 : Int) ^ ((18 : Int)).toNat)), x_22, at'] : List Int)) else (some ([(0 : Int), x_22, (x_8 % (1000000000000000003 : Int))] : List Int))))) s_41
def sp__law_deck (K : PySem.W.Frag) : Sp := fun vs H Q _ => ∃ (G : Hp) (a_1 : Addr) (script' : List Int) (at' : Int) (r : (List Int)), vs = [.ref a_1, (.int at')] ∧ Ex G H ∧ SqL K H a_1 (script'.map V.int) ∧ m__law_deck script' at' = some r ∧ ∀ (p9 : Addr) (vs9 : List V) (G' H' : Hp), Stp [] G G' H H' → H p9 = none → G' p9 = none → H' p9 = some (.lst vs9) → AL rI G' vs9 r → Q (.ref p9) H'
theorem ok__law_deck (T : Env K mg) : FnOk P w K mg base CX0 1 T.f__law_deck T.d__law_deck ["script", "at"] (sp__law_deck K) := by
  refine T.F__law_deck.ok sc__law_deck (fun vs H Q E h => ?_) (fun cdv A outer s H0 vs Q E hr h => ?_)
  · obtain ⟨G0, a_1, script', at', r, rfl, _⟩ := h
    rfl
  · obtain ⟨G0, a_1, script', at', r, rfl, hG0, sq_2, hm, k⟩ := h
    have hu := hr.units
    have hu65 := hu65 hr
    have c0 := Cf.start hG0
    unfold m__law_deck at hm
    refine ⟨_, (pss_cons (ps_set (i := 2) sc__law_deck.nd rfl (by first | exact Or.inl rfl | exact Or.inr rfl) pe_int)
      (Evl.pss_cut (ps_if (pt_cmpR op_lt (pv 1) (pe_callB (call_lenSc (K := K) rfl) (by rfl) T.n_len bt_len (pa_cons (pv 0) pa_nil)) (nomark _)) (pss_one (ps_set (i := 2) sc__law_deck.nd rfl (by first | exact Or.inl rfl | exact Or.inr rfl) (pe_ix (ix_l (K := K) rfl) (pv 0) (pv 1) (fun _ _ => rfl)))) pss_nil)
      (pss_cons (ps_set (i := 3) sc__law_deck.nd rfl (by first | exact Or.inl rfl | exact Or.inr rfl) (pe_op op_mod (pe_callTy call_intI (by rfl) T.n_int bt_int (pa_cons (pe_op op_add (pe_op op_add (pe_op op_mul (pv 2) pe_int) (pe_op op_mul (pv 1) pe_int)) pe_int) pa_nil)) pe_int))
      (pss_cons (ps_if (pt_cmpR op_ge (pv 2) (pe_op op_pow pe_int pe_int) (nomark _)) (pss_one (ps_ret (pe_lst (pa_cons (pe_op op_sub (pv 2) (pe_op op_pow pe_int pe_int)) (pa_cons (pv 3) (pa_cons (pv 1) pa_nil)))))) pss_nil)
      (pss_one (ps_ret (pe_lst (pa_cons pe_int (pa_cons (pv 3) (pa_cons (pe_op op_mod (pe_callTy call_intI (by rfl) T.n_int bt_int (pa_cons (pv 2) pa_nil)) pe_int) pa_nil)))))))))), ?_⟩
    refine q_asg_opq (fun Q_3 kk_4 => ?_)
    refine kk_4 _ _ ?_
    obtain ⟨s_9, hs_10, hm⟩ := bs hm
    refine ⟨(fun σ_11 H_12 => ∃ (G_5 : Hp) (x_8 : Int), σ_11 = [(some (.ref a_1)), (some (.int at')), (some (.int x_8)), none] ∧ Ex G0 G_5 ∧ Cf [] H0 G0 G_5 [] H_12 ∧ (x_8) = s_9), ?_, ?_⟩
    · skip
      refine if_opq (fun Q_13 kk_14 => ?_)
      refine ⟨_, rfl, _, rfl, _, _, rfl, (sc_at sq_2 c0), _, _, rfl, rfl, _, rfl, ?_⟩
      refine kk_14 _ _ ?_
      refine ite_m hs_10 (fun hc_15 hs_10 => ?_) (fun hc_15 hs_10 => ?_)
      · skip
        refine asg_opq (fun Q_16 kk_17 => ?_)
        obtain ⟨y_18, hb_19, hs_10⟩ := bs hs_10
        refine ⟨_, rfl, _, rfl, _, _, _, _, rfl, rfl, (sc_at sq_2 c0), (atI_I hb_19), ?_⟩
        refine kk_17 _ _ ?_
        obtain rfl := some_in hs_10
        exact ⟨G0, y_18, rfl, Ex.refl _, c0, rfl⟩
      · skip
        try dsimp only [tNext]
        obtain rfl := some_in hs_10
        exact ⟨G0, (0 : Int), rfl, Ex.refl _, c0, rfl⟩
    rintro σ_11 H_12 ⟨G_5, x_8, rfl, eg_6, c_7, rfl⟩
    try dsimp only at hm
    refine q_asg_opq (fun Q_20 kk_21 => ?_)
    obtain ⟨x_22, hl_23, hm⟩ := ltp hm
    refine ⟨_, rfl, _, _, rfl, rfl, .inr ⟨by decide, by decide⟩, _, rfl, _, _, rfl, rfl, .inr ⟨by decide, by decide⟩, _, _, rfl, rfl, _, _, rfl, rfl, _, rfl, _, _, rfl, rfl, (by show (0 : Int) < 2147483647; decide), ?_⟩
    refine nmV (f := V.int) (P := fun v9 => Q_20 v9 _) hl_23 ?_
    refine kk_21 _ _ ?_
    refine q_if_opq (fun Q_24 kk_25 => ?_)
    refine ⟨_, rfl, _, _, rfl, rfl, ⟨by decide, by decide, by decide⟩, _, _, rfl, rfl, _, rfl, ?_⟩
    refine kk_25 _ _ ?_
    refine ite_m hm (fun hc_26 hm => ?_) (fun hc_26 hm => ?_)
    · skip
      refine ret_opq (fun Q_27 kk_28 => ?_)
      have al_31 : AL rI G_5 [(.int (x_8 - ((10 : Int) ^ ((18 : Int)).toNat))), (.int x_22), (.int at')] ([(x_8 - ((10 : Int) ^ ((18 : Int)).toNat)), x_22, at'] : List Int) := (A2.cons rfl (A2.cons rfl (A2.cons rfl A2.nil)))
      refine ⟨_, rfl, _, _, rfl, rfl, ⟨by decide, by decide, by decide⟩, _, _, rfl, rfl, _, rfl, _, rfl, (by show 3 ≤ sizeLine; decide), fun p_29 np_30 => ?_⟩
      have c_32 := c_7.newO np_30 (.lst [(.int (x_8 - ((10 : Int) ^ ((18 : Int)).toNat))), (.int x_22), (.int at')])
      generalize hh : upd H_12 p_29 (.lst [(.int (x_8 - ((10 : Int) ^ ((18 : Int)).toNat))), (.int x_22), (.int at')]) = H_33 at c_32 ⊢
      clear hh
      refine kk_28 _ _ ?_
      obtain rfl := some_in hm
      exact k p_29 [(.int (x_8 - ((10 : Int) ^ ((18 : Int)).toNat))), (.int x_22), (.int at')] G_5 H_33 c_32.stp (c_32.hdn (fun _ z => (nomatch z))) c_32.hdg c_32.hd al_31
    · skip
      try dsimp only [tNext]
      refine ret_opq (fun Q_34 kk_35 => ?_)
      have al_38 : AL rI G_5 [(.int (0 : Int)), (.int x_22), (.int (x_8 % (1000000000000000003 : Int)))] ([(0 : Int), x_22, (x_8 % (1000000000000000003 : Int))] : List Int) := (A2.cons rfl (A2.cons rfl (A2.cons rfl A2.nil)))
      refine ⟨_, rfl, _, rfl, _, rfl, _, _, rfl, rfl, (by show (0 : Int) < 1000000000000000003; decide), (by show 3 ≤ sizeLine; decide), fun p_36 np_37 => ?_⟩
      have c_39 := c_7.newO np_37 (.lst [(.int (0 : Int)), (.int x_22), (.int (x_8 % (1000000000000000003 : Int)))])
      generalize hh : upd H_12 p_36 (.lst [(.int (0 : Int)), (.int x_22), (.int (x_8 % (1000000000000000003 : Int)))]) = H_40 at c_39 ⊢
      clear hh
      refine kk_35 _ _ ?_
      obtain rfl := some_in hm
      exact k p_36 [(.int (0 : Int)), (.int x_22), (.int (x_8 % (1000000000000000003 : Int)))] G_5 H_40 c_39.stp (c_39.hdn (fun _ z => (nomatch z))) c_39.hdg c_39.hd al_38
theorem sc__law_draw : FnScope ["deck", "many", "drawn", "low", "mixed"] ["deck", "many"] (defScope s__law_draw) := ⟨rfl, rfl, rfl, by decide +kernel, rfl, by decide +kernel, by decide +kernel⟩
def m__law_draw : Nat → (List Int) → Int → Option (Int × List Int)
  | 0, _, _ => none
  | fuel + 1, deck', many' =>
  (atI deck' (0 : Int)).bind fun y_8 => (if (decide ((0 : Int) < y_8)) then ((atI deck' (0 : Int)).bind fun y_16 => (gd (0 < many') (lt ((y_16 % many') : Int) fun x_22 => ((atI deck' (0 : Int)).bind fun y_26 => (gd (CDivW y_26 many') ((ixN (List.length deck') (0 : Int)).bind fun j_32 => (some (x_22, (List.set deck' j_32 (y_26 / many')))))))))) else (if (decide (((10 : Int) ^ ((6 : Int)).toNat) < many')) then ((m__law_draw fuel deck' ((10 : Int) ^ ((6 : Int)).toNat)).bind fun z_50 => (fun (y_47 : Int) (y_48 : List Int) => (gd (CDivW many' ((10 : Int) ^ ((6 : Int)).toNat)) ((m__law_draw fuel y_48 ((many' / ((10 : Int) ^ ((6 : Int)).toNat)) + (1 : Int))).bind fun z_64 => (fun (y_61 : Int) (y_62 : List Int) => (gd (CMul ((10 : Int) ^ ((6 : Int)).toNat) y_61) (gd (0 < many') (some (((y_47 + (((10 : Int) ^ ((6 : Int)).toNat) * y_61)) % many'), y_62))))) z_64.1 z_64.2))) z_50.1 z_50.2) else ((atI deck' (1 : Int)).bind fun y_76 => ((ixN (List.length deck') (1 : Int)).bind fun j_81 => ((atI (List.set deck' j_81 (((y_76 * (48271 : Int)) + (12345 : Int)) % (2147483647 : Int))) (1 : Int)).bind fun y_91 => ((atI (List.set deck' j_81 (((y_76 * (48271 : Int)) + (12345 : Int)) % (2147483647 : Int))) (1 : Int)).bind fun y_96 => (gd (CMul y_91 y_96) ((atI (List.set deck' j_81 (((y_76 * (48271 : Int)) + (12345 : Int)) % (2147483647 : Int))) (2 : Int)).bind fun y_102 => (lt ((((y_91 * y_96) + y_102) % (2147483629 : Int)) : Int) fun x_107 => (gd (CMul x_107 x_107) (gd (0 < many') (some (((((x_107 * x_107) % (2147483587 : Int)) / (8 : Int)) % many'), (List.set deck' j_81 (((y_76 * (48271 : Int)) + (12345 : Int)) % (2147483647 : Int))))))))))))))))
theorem m__law_draw_s (fuel : Nat) (deck' : (List Int)) (many' : Int) : m__law_draw (fuel + 1) deck' many' =
  ((atI deck' (0 : Int)).bind fun y_8 => (if (decide ((0 : Int) < y_8)) then ((atI deck' (0 : Int)).bind fun y_16 => (gd (0 < many') (lt ((y_16 % many') : Int) fun x_22 => ((atI deck' (0 : Int)).bind fun y_26 => (gd (CDivW y_26 many') ((ixN (List.length deck') (0 : Int)).bind fun j_32 => (some (x_22, (List.set deck' j_32 (y_26 / many')))))))))) else (if (decide (((10 : Int) ^ ((6 : Int)).toNat) < many')) then ((m__law_draw fuel deck' ((10 : Int) ^ ((6 : Int)).toNat)).bind fun z_50 => (fun (y_47 : Int) (y_48 : List Int) => (gd (CDivW many' ((10 : Int) ^ ((6 : Int)).toNat)) ((m__law_draw fuel y_48 ((many' / ((10 : Int) ^ ((6 : Int)).toNat)) + (1 : Int))).bind fun z_64 => (fun (y_61 : Int) (y_62 : List Int) => (gd (CMul ((10 : Int) ^ ((6 : Int)).toNat) y_61) (gd (0 < many') (some (((y_47 + (((10 : Int) ^ ((6 : Int)).toNat) * y_61)) % many'), y_62))))) z_64.1 z_64.2))) z_50.1 z_50.2) else ((atI deck' (1 : Int)).bind fun y_76 => ((ixN (List.length deck') (1 : Int)).bind fun j_81 => ((atI (List.set deck' j_81 (((y_76 * (48271 : Int)) + (12345 : Int)) % (2147483647 : Int))) (1 : Int)).bind fun y_91 => ((atI (List.set deck' j_81 (((y_76 * (48271 : Int)) + (12345 : Int)) % (2147483647 : Int))) (1 : Int)).bind fun y_96 => (gd (CMul y_91 y_96) ((atI (List.set deck' j_81 (((y_76 * (48271 : Int)) + (12345 : Int)) % (2147483647 : Int))) (2 : Int)).bind fun y_102 => (lt ((((y_91 * y_96) + y_102) % (2147483629 : Int)) : Int) fun x_107 => (gd (CMul x_107 x_107) (gd (0 < many') (some (((((x_107 * x_107) % (2147483587 : Int)) / (8 : Int)) % many'), (List.set deck' j_81 (((y_76 * (48271 : Int)) + (12345 : Int)) % (2147483647 : Int))))))))))))))))) := rfl
def sp__law_draw (K : PySem.W.Frag) (fuel : Nat) : Sp := fun vs H Q _ => ∃ (G : Hp) (p_1 : Addr) (vs_2 : List V) (deck' : (List Int)) (many' : Int) (r : (Int × List Int)), vs = [.ref p_1, (.int many')] ∧ Ex G H ∧ H p_1 = some (.lst vs_2) ∧ G p_1 = none ∧ AL rI G vs_2 deck' ∧ m__law_draw fuel deck' many' = some r ∧ ∀ (G' H' : Hp), Stp [p_1] G G' H H' → ∀ vs8, H' p_1 = some (.lst vs8) → AL rI G' vs8 r.2 → Q (.int r.1) H'
theorem ok__law_draw (T : Env K mg) (fuel : Nat) : FnOk P w K mg base CX0 (fuel + 1) T.f__law_draw T.d__law_draw ["deck", "many"] (sp__law_draw K fuel) := by
  induction fuel with
  | zero =>
    refine T.F__law_draw.ok sc__law_draw (fun vs H Q E h => ?_) (fun cdv A outer s H0 vs Q E hr h => ?_)
    · obtain ⟨G0, p_1, vs_2, deck', many', r, rfl, _⟩ := h
      rfl
    · obtain ⟨G0, p_1, vs_2, deck', many', r, rfl, hG0, hp_3, gp_4, al_5, hm, k⟩ := h
      cases hm
  | succ fuel ih =>
    refine T.F__law_draw.ok sc__law_draw (fun vs H Q E h => ?_) (fun cdv A outer s H0 vs Q E hr h => ?_)
    · obtain ⟨G0, p_1, vs_2, deck', many', r, rfl, _⟩ := h
      rfl
    · obtain ⟨G0, p_1, vs_2, deck', many', r, rfl, hG0, hp_3, gp_4, al_5, hm, k⟩ := h
      have hu := hr.units
      have hu65 := hu65 hr
      have c0 := Cf.start1 hG0 hp_3 gp_4
      rw [m__law_draw_s] at hm
      refine ⟨_, (pss_cons (ps_if (pt_cmpR op_gt (pe_ix (ix_l (K := K) rfl) (pv 0) pe_int (fun _ _ => rfl)) pe_int (nomark _)) (pss_cons (ps_set (i := 2) sc__law_draw.nd rfl (by first | exact Or.inl rfl | exact Or.inr rfl) (pe_op op_mod (pe_callTy call_intI (by rfl) T.n_int bt_int (pa_cons (pe_ix (ix_l (K := K) rfl) (pv 0) pe_int (fun _ _ => rfl)) pa_nil)) (pv 1)))
        (pss_cons (ps_asg (pe_op op_fdivW (pe_ix (ix_l (K := K) rfl) (pv 0) pe_int (fun _ _ => rfl)) (pv 1)) (pg_sub (pv 0) pe_int set_list))
        (pss_one (ps_ret (pv 2))))) pss_nil)
        (pss_cons (ps_if (pt_cmpR op_gt (pv 1) (pe_op op_pow pe_int pe_int) (nomark _)) (pss_cons (ps_set (i := 3) sc__law_draw.nd rfl (by first | exact Or.inl rfl | exact Or.inr rfl) (pe_call ih (hr.mono (by omega)) (by rfl) T.g__law_draw T.F__law_draw.kp T.b__law_draw .nil pass0 (pa_cons (pv 0) (pa_cons (pe_op op_pow pe_int pe_int) pa_nil))))
        (pss_one (ps_ret (pe_op op_mod (pe_callTy call_intI (by rfl) T.n_int bt_int (pa_cons (pe_op op_add (pv 3) (pe_op op_mul (pe_op op_pow pe_int pe_int) (pe_call ih (hr.mono (by omega)) (by rfl) T.g__law_draw T.F__law_draw.kp T.b__law_draw .nil pass0 (pa_cons (pv 0) (pa_cons (pe_op op_add (pe_op op_fdivW (pv 1) (pe_op op_pow pe_int pe_int)) pe_int) pa_nil))))) pa_nil)) (pv 1))))) pss_nil)
        (pss_cons (ps_asg (pe_op op_mod (pe_callTy call_intI (by rfl) T.n_int bt_int (pa_cons (pe_op op_add (pe_op op_mul (pe_ix (ix_l (K := K) rfl) (pv 0) pe_int (fun _ _ => rfl)) pe_int) pe_int) pa_nil)) pe_int) (pg_sub (pv 0) pe_int set_list))
        (pss_cons (ps_set (i := 4) sc__law_draw.nd rfl (by first | exact Or.inl rfl | exact Or.inr rfl) (pe_op op_mod (pe_callTy call_intI (by rfl) T.n_int bt_int (pa_cons (pe_op op_add (pe_op op_mul (pe_ix (ix_l (K := K) rfl) (pv 0) pe_int (fun _ _ => rfl)) (pe_ix (ix_l (K := K) rfl) (pv 0) pe_int (fun _ _ => rfl))) (pe_ix (ix_l (K := K) rfl) (pv 0) pe_int (fun _ _ => rfl))) pa_nil)) pe_int))
        (pss_one (ps_ret (pe_op op_mod (pe_op op_fdiv (pe_op op_mod (pe_callTy call_intI (by rfl) T.n_int bt_int (pa_cons (pe_op op_mul (pv 4) (pv 4)) pa_nil)) pe_int) pe_int) (pv 1)))))))), ?_⟩
      refine q_if_opq (fun Q_6 kk_7 => ?_)
      obtain ⟨y_8, hb_9, hm⟩ := bs hm
      obtain ⟨v_10, hv_11, rv_12⟩ := at_l al_5 hb_9
      obtain rfl := (show v_10 = (.int y_8) from rv_12)
      refine ⟨_, rfl, _, _, _, _, rfl, rfl, (SqL.of (c0.get 0 rfl)), hv_11, _, _, rfl, rfl, _, rfl, ?_⟩
      refine kk_7 _ _ ?_
      refine ite_m hm (fun hc_13 hm => ?_) (fun hc_13 hm => ?_)
      · skip
        refine q_asg_opq (fun Q_14 kk_15 => ?_)
        obtain ⟨y_16, hb_17, hm⟩ := bs hm
        obtain ⟨v_18, hv_19, rv_20⟩ := at_l al_5 hb_17
        obtain rfl := (show v_18 = (.int y_16) from rv_20)
        obtain ⟨hg_21, hm⟩ := gdp hm
        obtain ⟨x_22, hl_23, hm⟩ := ltp hm
        refine ⟨_, rfl, _, _, _, _, rfl, rfl, (SqL.of (c0.get 0 rfl)), hv_19, _, rfl, _, rfl, _, _, rfl, rfl, hg_21, ?_⟩
        refine nmV (f := V.int) (P := fun v9 => Q_14 v9 _) hl_23 ?_
        refine kk_15 _ _ ?_
        refine q_asgS (fun Q_24 kk_25 => ?_)
        obtain ⟨y_26, hb_27, hm⟩ := bs hm
        obtain ⟨v_28, hv_29, rv_30⟩ := at_l al_5 hb_27
        obtain rfl := (show v_28 = (.int y_26) from rv_30)
        obtain ⟨hg_31, hm⟩ := gdp hm
        obtain ⟨j_32, hb_33, hm⟩ := bs hm
        refine ⟨_, rfl, _, _, _, _, rfl, rfl, (SqL.of (c0.get 0 rfl)), hv_29, _, rfl, _, _, rfl, rfl, hg_31, _, rfl, _, _, _, _, rfl, rfl, c0.hd, (by rw [A2.len al_5]; exact hb_33), ?_⟩
        obtain ⟨vs_36, hvs, al_37⟩ : ∃ vs9, vs9 = (List.set vs_2 j_32 (.int (y_26 / many'))) ∧ AL rI G0 vs9 (List.set deck' j_32 (y_26 / many')) := ⟨_, rfl, (A2.set j_32 al_5 rfl)⟩
        rw [← hvs]
        clear hvs
        have c_38 := c0.mut (.lst vs_36)
        generalize hh : upd H0 p_1 (.lst vs_36) = H_39 at c_38 ⊢
        clear hh
        refine kk_25 _ ?_
        refine ret_opq (fun Q_40 kk_41 => ?_)
        refine ⟨_, rfl, ?_⟩
        refine kk_41 _ _ ?_
        obtain rfl := some_in hm
        exact k G0 H_39 c_38.stp vs_36 (c_38.get 0 rfl) al_37
      · skip
        try dsimp only [tNext]
        refine q_if_opq (fun Q_42 kk_43 => ?_)
        refine ⟨_, rfl, _, _, rfl, rfl, ⟨by decide, by decide, by decide⟩, _, _, rfl, rfl, _, rfl, ?_⟩
        refine kk_43 _ _ ?_
        refine ite_m hm (fun hc_44 hm => ?_) (fun hc_44 hm => ?_)
        · skip
          refine q_asg_opq (fun Q_45 kk_46 => ?_)
          obtain ⟨⟨y_47, y_48⟩, hb_49, hm⟩ := bs hm
          dsimp only at hm
          refine ⟨_, rfl, _, _, rfl, rfl, ⟨by decide, by decide, by decide⟩, G0, p_1, vs_2, deck', ((10 : Int) ^ ((6 : Int)).toNat), (y_47, y_48), rfl, c0.gh, c0.hd, c0.hdg, al_5, hb_49, fun G_51 H_52 sp_53 vs_55 hs_56 al_57 => ?_⟩
          have c_54 := c0.call1 sp_53 hs_56
          refine kk_46 _ _ ?_
          refine ret_opq (fun Q_58 kk_59 => ?_)
          obtain ⟨hg_60, hm⟩ := gdp hm
          obtain ⟨⟨y_61, y_62⟩, hb_63, hm⟩ := bs hm
          dsimp only at hm
          refine ⟨_, rfl, _, _, rfl, rfl, ⟨by decide, by decide, by decide⟩, _, rfl, _, rfl, _, _, rfl, rfl, ⟨by decide, by decide, by decide⟩, _, _, rfl, rfl, hg_60, _, _, rfl, rfl, G_51, p_1, vs_55, y_48, ((many' / ((10 : Int) ^ ((6 : Int)).toNat)) + (1 : Int)), (y_61, y_62), rfl, c_54.gh, c_54.hd, c_54.hdg, al_57, hb_63, fun G_65 H_66 sp_67 vs_69 hs_70 al_71 => ?_⟩
          have c_68 := c_54.call1 sp_67 hs_70
          obtain ⟨hg_72, hm⟩ := gdp hm
          obtain ⟨hg_73, hm⟩ := gdp hm
          refine ⟨_, _, rfl, rfl, hg_72, _, _, rfl, rfl, _, rfl, _, rfl, _, _, rfl, rfl, hg_73, ?_⟩
          refine kk_59 _ _ ?_
          obtain rfl := some_in hm
          exact k G_65 H_66 c_68.stp vs_69 (c_68.get 0 rfl) al_71
        · skip
          try dsimp only [tNext]
          refine q_asgS (fun Q_74 kk_75 => ?_)
          obtain ⟨y_76, hb_77, hm⟩ := bs hm
          obtain ⟨v_78, hv_79, rv_80⟩ := at_l al_5 hb_77
          obtain rfl := (show v_78 = (.int y_76) from rv_80)
          obtain ⟨j_81, hb_82, hm⟩ := bs hm
          refine ⟨_, rfl, _, _, _, _, rfl, rfl, (SqL.of (c0.get 0 rfl)), hv_79, _, _, rfl, rfl, .inr ⟨by decide, by decide⟩, _, _, rfl, rfl, _, rfl, _, _, rfl, rfl, (by show (0 : Int) < 2147483647; decide), _, rfl, _, _, _, _, rfl, rfl, c0.hd, (by rw [A2.len al_5]; exact hb_82), ?_⟩
          obtain ⟨vs_85, hvs, al_86⟩ : ∃ vs9, vs9 = (List.set vs_2 j_81 (.int (((y_76 * (48271 : Int)) + (12345 : Int)) % (2147483647 : Int)))) ∧ AL rI G0 vs9 (List.set deck' j_81 (((y_76 * (48271 : Int)) + (12345 : Int)) % (2147483647 : Int))) := ⟨_, rfl, (A2.set j_81 al_5 rfl)⟩
          rw [← hvs]
          clear hvs
          have c_87 := c0.mut (.lst vs_85)
          generalize hh : upd H0 p_1 (.lst vs_85) = H_88 at c_87 ⊢
          clear hh
          refine kk_75 _ ?_
          refine q_asg_opq (fun Q_89 kk_90 => ?_)
          obtain ⟨y_91, hb_92, hm⟩ := bs hm
          obtain ⟨v_93, hv_94, rv_95⟩ := at_l al_86 hb_92
          obtain rfl := (show v_93 = (.int y_91) from rv_95)
          obtain ⟨y_96, hb_97, hm⟩ := bs hm
          obtain ⟨v_98, hv_99, rv_100⟩ := at_l al_86 hb_97
          obtain rfl := (show v_98 = (.int y_96) from rv_100)
          obtain ⟨hg_101, hm⟩ := gdp hm
          obtain ⟨y_102, hb_103, hm⟩ := bs hm
          obtain ⟨v_104, hv_105, rv_106⟩ := at_l al_86 hb_103
          obtain rfl := (show v_104 = (.int y_102) from rv_106)
          obtain ⟨x_107, hl_108, hm⟩ := ltp hm
          refine ⟨_, rfl, _, _, _, _, rfl, rfl, (SqL.of (c_87.get 0 rfl)), hv_94, _, rfl, _, _, _, _, rfl, rfl, (SqL.of (c_87.get 0 rfl)), hv_99, _, _, rfl, rfl, hg_101, _, rfl, _, _, _, _, rfl, rfl, (SqL.of (c_87.get 0 rfl)), hv_105, _, _, rfl, rfl, _, rfl, _, _, rfl, rfl, (by show (0 : Int) < 2147483629; decide), ?_⟩
          refine nmV (f := V.int) (P := fun v9 => Q_89 v9 _) hl_108 ?_
          refine kk_90 _ _ ?_
          refine ret_opq (fun Q_109 kk_110 => ?_)
          obtain ⟨hg_111, hm⟩ := gdp hm
          obtain ⟨hg_112, hm⟩ := gdp hm
          refine ⟨_, rfl, _, rfl, _, _, rfl, rfl, hg_111, _, rfl, _, _, rfl, rfl, (by show (0 : Int) < 2147483587; decide), _, _, rfl, rfl, ⟨by decide, by decide⟩, _, rfl, _, _, rfl, rfl, hg_112, ?_⟩
          refine kk_110 _ _ ?_
          obtain rfl := some_in hm
          exact k G0 H_88 c_87.stp vs_85 (c_87.get 0 rfl) al_86
theorem sc__law_is_integer : FnScope ["value"] ["value"] (defScope s__law_is_integer) := ⟨rfl, rfl, rfl, by decide +kernel, rfl, by decide +kernel, by decide +kernel⟩
def m__law_is_integer (value' : Int) : Option Bool :=
  some (true && (!false))
def sp__law_is_integer (K : PySem.W.Frag) : Sp := fun vs H Q _ => ∃ (G : Hp) (value' : Int) (r : Bool), vs = [(.int value')] ∧ Ex G H ∧ m__law_is_integer value' = some r ∧ ∀ (G' H' : Hp), Stp [] G G' H H' → Q (.bl r) H'
theorem ok__law_is_integer (T : Env K mg) : FnOk P w K mg base CX0 1 T.f__law_is_integer T.d__law_is_integer ["value"] (sp__law_is_integer K) := by
  refine T.F__law_is_integer.ok sc__law_is_integer (fun vs H Q E h => ?_) (fun cdv A outer s H0 vs Q E hr h => ?_)
  · obtain ⟨G0, value', r, rfl, _⟩ := h
    rfl
  · obtain ⟨G0, value', r, rfl, hG0, hm, k⟩ := h
    have hu := hr.units
    have hu65 := hu65 hr
    have c0 := Cf.start hG0
    unfold m__law_is_integer at hm
    refine ⟨_, (pss_one (ps_ret (pe_and (pe_callB (call_is (K := K) rfl) (by rfl) T.n_isinstance bt_isi (pa_cons (pv 0) (pa_cons (pe_bltn (v := .ty "int") (by rfl) T.n_int bt_int rfl) pa_nil))) (pe_one (pe_not (pe_callB (call_is (K := K) rfl) (by rfl) T.n_isinstance bt_isi (pa_cons (pv 0) (pa_cons (pe_bltn (v := .ty "bool") (by rfl) T.n_bool bt_bool rfl) pa_nil)))))))), ?_⟩
    refine ret_opq (fun Q_1 kk_2 => ?_)
    refine ⟨_, rfl, _, _, _, _, _, rfl, .ty _, ty_i, k_ii, _, rfl, ?_⟩
    refine andV_t (b := (!false)) (fun ha_5 q_4 => ?_) ?_
    · skip
      refine ⟨_, rfl, _, _, _, _, _, rfl, .ty _, ty_i, k_ib, _, rfl, ?_⟩
      exact q_4
    refine kk_2 _ _ ?_
    obtain rfl := some_in hm
    exact k G0 H0 c0.stp
theorem sc__law_same_list : FnScope ["value", "due", "k"] ["value", "due"] (defScope s__law_same_list) := ⟨rfl, rfl, rfl, by decide +kernel, rfl, by decide +kernel, by decide +kernel⟩
def m__law_same_list (value' : (List Int)) (due' : (List Int)) : Option Bool :=
  if ((!true) || (!(decide (((List.length value' : Nat) : Int) = ((List.length due' : Nat) : Int))))) then (some false) else (gd (rok ((List.length due' : Nat) : Int)) (gd (List.length (rng (0 : Int) ((List.length due' : Nat) : Int)) < BIG) ((lcm (fun (y_38 : Int) => (atI value' y_38).bind fun y_54 => ((m__law_is_integer y_54).bind fun y_59 => ((pAnd y_59 ((atI value' y_38).bind fun y_66 => ((atI due' y_38).bind fun y_71 => (some (decide (y_66 = y_71)))))).bind fun b_78 => (some b_78)))) (rng (0 : Int) ((List.length due' : Nat) : Int))).bind fun xs_28 => (some (List.all xs_28 id)))))
def sp__law_same_list (K : PySem.W.Frag) : Sp := fun vs H Q _ => ∃ (G : Hp) (a_1 : Addr) (vs_2 : List V) (value' : (List Int)) (a_5 : Addr) (vs_6 : List V) (due' : (List Int)) (r : Bool), vs = [.ref a_1, .ref a_5] ∧ Ex G H ∧ SqB [] H a_1 vs_2 ∧ AL rI G vs_2 value' ∧ SqB [] H a_5 vs_6 ∧ AL rI G vs_6 due' ∧ m__law_same_list value' due' = some r ∧ ∀ (G' H' : Hp), Stp [] G G' H H' → Q (.bl r) H'
theorem ok__law_same_list (T : Env K mg) : FnOk P w K mg base CX0 2 T.f__law_same_list T.d__law_same_list ["value", "due"] (sp__law_same_list K) := by
  refine T.F__law_same_list.ok sc__law_same_list (fun vs H Q E h => ?_) (fun cdv A outer s H0 vs Q E hr h => ?_)
  · obtain ⟨G0, a_1, vs_2, value', a_5, vs_6, due', r, rfl, _⟩ := h
    rfl
  · obtain ⟨G0, a_1, vs_2, value', a_5, vs_6, due', r, rfl, hG0, sq_3, al_4, sq_7, al_8, hm, k⟩ := h
    have hu := hr.units
    have hu65 := hu65 hr
    have c0 := Cf.start hG0
    unfold m__law_same_list at hm
    refine ⟨_, (pss_cons (ps_if (PW.pt (pw_or (pt_not (pt_val (pe_callB (call_is (K := K) rfl) (by rfl) T.n_isinstance bt_isi (pa_cons (pv 0) (pa_cons (pe_bltn (v := .ty "list") (by rfl) T.n_list bt_list rfl) pa_nil))))) (pw_or1 (pt_cmpR op_neI (pe_callB call_lenL (by rfl) T.n_len bt_len (pa_cons (pv 0) pa_nil)) (pe_callB call_lenL (by rfl) T.n_len bt_len (pa_cons (pv 1) pa_nil)) (nomark _))))) (pss_one (ps_ret pe_bl)) pss_nil)
      (pss_one (ps_ret (pe_callB (call_allB rfl) (by rfl) T.n_all bt_all (pa_cons (pe_lc (own := [("k", 2)]) (g := gName 2) (tt := tYes)  rfl sc__law_same_list.nd (pi_range1 (by rfl) T.n_range (pa_cons (pe_callB call_lenL (by rfl) T.n_len bt_len (pa_cons (pv 1) pa_nil)) pa_nil)) (blkOk_by (own := [("k", 2)]) (N := ["value", "due", "k"]) (sc := defScope s__law_same_list) (by decide +kernel)) (fun _ _ _ _ _ => (pg_name (i := 2) sc__law_same_list.nd rfl (by first | exact Or.inl rfl | exact Or.inr rfl))) (fun _ _ _ _ _ => pts_nil) (fun _ _ _ _ _ => (pe_and (pe_call (ok__law_is_integer T) (hr.mono (by decide)) (by rfl) T.g__law_is_integer T.F__law_is_integer.kp T.b__law_is_integer .nil pass0 (pa_cons (pe_ix (ix_l (K := K) rfl) (pv 0) (pv 2) (fun _ _ => rfl)) pa_nil)) (pe_one (pe_cmpR op_eqI (pe_ix (ix_l (K := K) rfl) (pv 0) (pv 2) (fun _ _ => rfl)) (pe_ix (ix_l (K := K) rfl) (pv 1) (pv 2) (fun _ _ => rfl)) (nomark _)))))) pa_nil))))), ?_⟩
    refine q_if_opq (fun Q_9 kk_10 => ?_)
    refine ⟨_, rfl, _, _, _, _, _, rfl, .ty _, (ty_l (SqL.of (sq_3.at c0))), k_ll, _, rfl, ?_⟩
    refine or_t (b := (!(decide (((List.length value' : Nat) : Int) = ((List.length due' : Nat) : Int))))) (fun ha_13 q_12 => ?_) ?_
    · skip
      refine ⟨_, rfl, _, _, (List.length value'), rfl, (sq_3.at c0), (A2.len al_4), _, rfl, _, _, (List.length due'), rfl, (sq_7.at c0), (A2.len al_8), _, _, rfl, rfl, _, rfl, ?_⟩
      exact q_12
    refine kk_10 _ _ ?_
    refine ite_m hm (fun hc_14 hm => ?_) (fun hc_14 hm => ?_)
    · skip
      refine ret_opq (fun Q_15 kk_16 => ?_)
      refine kk_16 _ _ ?_
      obtain rfl := some_in hm
      exact k G0 H0 c0.stp
    · skip
      try dsimp only [tNext]
      refine ret_opq (fun Q_17 kk_18 => ?_)
      obtain ⟨hg_19, hm⟩ := gdp hm
      obtain ⟨hg_20, hm⟩ := gdp hm
      refine ⟨_, rfl, _, _, (List.length due'), rfl, (sq_7.at c0), (A2.len al_8), _, rfl, hg_19.1, hg_19.2, fun D_21 nD_22 => ?_⟩
      have c_23 := c0.newO nD_22 (.lst [])
      obtain ⟨out_30, hb_31, hm⟩ := bs hm
      refine lc_w walk_range (rng (0 : Int) ((List.length due' : Nat) : Int)) (by rw [rng_len]; omega) (fun l_37 H_39 => ∃ (G_24 : Hp) (vs_27 : List V) (xs_28 : (List Bool)), Ex G0 G_24 ∧ Cf [] H0 G0 G_24 [(D_21, (.lst vs_27))] H_39 ∧ AL rB G_24 vs_27 xs_28 ∧ List.length xs_28 + List.length l_37 < BIG ∧ ∃ rest_33, lcm (fun (y_38 : Int) => (atI value' y_38).bind fun y_54 => ((m__law_is_integer y_54).bind fun y_59 => ((pAnd y_59 ((atI value' y_38).bind fun y_66 => ((atI due' y_38).bind fun y_71 => (some (decide (y_66 = y_71)))))).bind fun b_78 => (some b_78)))) l_37 = some rest_33 ∧ xs_28 ++ rest_33 = out_30)
        ⟨G0, [], ([] : List Bool), Ex.refl _, c_23, A2.nil, ⟨by simpa using hg_20, out_30, hb_31, rfl⟩⟩
        (fun l_37 H_39 hI => by
          obtain ⟨G_24, vs_27, xs_28, eg_25, c_26, al_29, ⟨hlen_36, rest_33, hf_34, hout_35⟩⟩ := hI
          exact True.intro)
        (fun i_41 y_38 l_37 H_39 v_42 H_45 hx_43 hI hy_44 => ?_) (fun H_39 hI => ?_)
      · obtain ⟨G_24, vs_27, xs_28, eg_25, c_26, al_29, ⟨hlen_36, rest_33, hf_34, hout_35⟩⟩ := hI
        obtain ⟨z_46, rest_47, hq_40, hf_48, ho_49⟩ := lcm_cons hf_34
        try dsimp only at hq_40
        obtain ⟨rfl, hv_51⟩ := hy_44
        obtain rfl : v_42 = .int y_38 := hv_51.trans (congrArg V.int (rng_get hx_43).symm)
        refine ⟨rfl, ?_⟩
        refine yes_q ?_
        refine opqV (fun Q_52 kk_53 => ?_)
        obtain ⟨y_54, hb_55, hq_40⟩ := bs hq_40
        obtain ⟨v_56, hv_57, rv_58⟩ := at_l (AL.mono eg_25 al_4) hb_55
        obtain rfl := (show v_56 = (.int y_54) from rv_58)
        obtain ⟨y_59, hb_60, hq_40⟩ := bs hq_40
        refine ⟨_, rfl, _, rfl, _, _, _, _, rfl, rfl, (SqL.of (sq_3.at c_26)), hv_57, G_24, y_54, y_59, rfl, c_26.gh, hb_60, fun G_61 H_62 sp_63 => ?_⟩
        have c_64 := c_26.call sp_63
        refine ⟨_, rfl, ?_⟩
        obtain ⟨b_78, hb_79, hq_40⟩ := bs hq_40
        refine andV_r hb_79 (fun ha_77 hq_65 q_76 => ?_) ?_
        · skip
          obtain ⟨y_66, hb_67, hq_65⟩ := bs hq_65
          obtain ⟨v_68, hv_69, rv_70⟩ := at_l (AL.mono (eg_25.trans sp_63.gg) al_4) hb_67
          obtain rfl := (show v_68 = (.int y_66) from rv_70)
          obtain ⟨y_71, hb_72, hq_65⟩ := bs hq_65
          obtain ⟨v_73, hv_74, rv_75⟩ := at_l (AL.mono (eg_25.trans sp_63.gg) al_8) hb_72
          obtain rfl := (show v_73 = (.int y_71) from rv_75)
          refine ⟨_, rfl, _, rfl, _, _, _, _, rfl, rfl, (SqL.of (sq_3.at c_64)), hv_69, _, rfl, _, rfl, _, _, _, _, rfl, rfl, (SqL.of (sq_7.at c_64)), hv_74, _, _, rfl, rfl, ?_⟩
          obtain rfl := some_in hq_65
          exact q_76
        refine kk_53 _ _ ?_
        refine ⟨_, c_64.hd, big_lt (by have h9 := hlen_36; have h8 := A2.len (AL.mono sp_63.gg al_29); simp only [List.length_cons] at h9; omega), ?_⟩
        obtain ⟨vs_80, hvs, al_81⟩ : ∃ vs9, vs9 = (vs_27 ++ [(.bl b_78)]) ∧ AL rB G_61 vs9 (xs_28 ++ [b_78]) := ⟨_, rfl, (A2.app (AL.mono sp_63.gg al_29) (A2.one rfl))⟩
        rw [← hvs]
        clear hvs
        have c_82 := c_64.mut (.lst vs_80)
        generalize hh : upd H_62 D_21 (.lst vs_80) = H_83 at c_82 ⊢
        clear hh
        obtain rfl := some_in hq_40
        exact ⟨G_61, vs_80, (xs_28 ++ [b_78]), (eg_25.trans sp_63.gg), c_82, al_81, ⟨by have h9 := hlen_36; simp only [List.length_append, List.length_cons, List.length_nil] at h9 ⊢; first | done | omega, rest_47, hf_48, by rw [← hout_35, ho_49]; first | done | simp⟩⟩
      obtain ⟨G_24, vs_27, xs_28, eg_25, c_26, al_29, ⟨hlen_36, rest_33, hf_34, hout_35⟩⟩ := hI
      obtain rfl := some_in hf_34
      rw [List.append_nil] at hout_35
      subst hout_35
      refine ⟨_, _, xs_28, rfl, (c_26.get 0 rfl), AL.mono c_26.gh al_29, ?_⟩
      refine kk_18 _ _ ?_
      obtain rfl := some_in hm
      exact k G_24 H_39 c_26.stp
theorem sc__law_integer : FnScope ["deck", "kind", "number", "turn"] ["deck"] (defScope s__law_integer) := ⟨rfl, rfl, rfl, by decide +kernel, rfl, by decide +kernel, by decide +kernel⟩
def m__law_integer (deck' : (List Int)) : Option (Int × List Int) :=
  (m__law_draw 8 deck' (4 : Int)).bind fun z_11 => (fun (y_8 : Int) (y_9 : List Int) => (if (decide (y_8 = (0 : Int))) then ((m__law_draw 8 y_9 (20 : Int)).bind fun z_27 => (fun (y_24 : Int) (y_25 : List Int) => (some (((1 : Int) + y_24), y_25))) z_27.1 z_27.2) else (if (decide (y_8 = (1 : Int))) then ((m__law_draw 8 y_9 ((10 : Int) ^ ((9 : Int)).toNat)).bind fun z_43 => (fun (y_40 : Int) (y_41 : List Int) => (some ((((10 : Int) ^ ((9 : Int)).toNat) - y_40), y_41))) z_43.1 z_43.2) else (if (decide (y_8 = (2 : Int))) then ((m__law_draw 8 y_9 (3 : Int)).bind fun z_59 => (fun (y_56 : Int) (y_57 : List Int) => (some (((((10 : Int) ^ ((30 : Int)).toNat) - (1 : Int)) - y_56), y_57))) z_59.1 z_59.2) else ((m__law_draw 8 y_9 (((10 : Int) ^ ((30 : Int)).toNat) - (1 : Int))).bind fun z_72 => (fun (y_69 : Int) (y_70 : List Int) => ((m__law_draw 8 y_70 (30 : Int)).bind fun z_83 => (fun (y_80 : Int) (y_81 : List Int) => (gd (rok y_80) ((lp (fun (y_100 : Int) => fun (s_103 : (Int)) => (fun (x_95 : Int) => lt ((x_95 / (10 : Int)) : Int) fun x_116 => (some (x_116))) s_103) (rng (0 : Int) y_80) (y_69)).bind fun (s_121 : (Int)) => (fun (x_95 : Int) => (some (((1 : Int) + x_95), y_81))) s_121))) z_83.1 z_83.2)) z_72.1 z_72.2))))) z_11.1 z_11.2
def sp__law_integer (K : PySem.W.Frag) : Sp := fun vs H Q _ => ∃ (G : Hp) (p_1 : Addr) (vs_2 : List V) (deck' : (List Int)) (r : (Int × List Int)), vs = [.ref p_1] ∧ Ex G H ∧ H p_1 = some (.lst vs_2) ∧ G p_1 = none ∧ AL rI G vs_2 deck' ∧ m__law_integer deck' = some r ∧ ∀ (G' H' : Hp), Stp [p_1] G G' H H' → ∀ vs8, H' p_1 = some (.lst vs8) → AL rI G' vs8 r.2 → Q (.int r.1) H'
theorem ok__law_integer (T : Env K mg) : FnOk P w K mg base CX0 10 T.f__law_integer T.d__law_integer ["deck"] (sp__law_integer K) := by
  refine T.F__law_integer.ok sc__law_integer (fun vs H Q E h => ?_) (fun cdv A outer s H0 vs Q E hr h => ?_)
  · obtain ⟨G0, p_1, vs_2, deck', r, rfl, _⟩ := h
    rfl
  · obtain ⟨G0, p_1, vs_2, deck', r, rfl, hG0, hp_3, gp_4, al_5, hm, k⟩ := h
    have hu := hr.units
    have hu65 := hu65 hr
    have c0 := Cf.start1 hG0 hp_3 gp_4
    unfold m__law_integer at hm
    refine ⟨_, (pss_cons (ps_set (i := 1) sc__law_integer.nd rfl (by first | exact Or.inl rfl | exact Or.inr rfl) (pe_call (ok__law_draw T 8) (hr.mono (by decide)) (by rfl) T.g__law_draw T.F__law_draw.kp T.b__law_draw .nil pass0 (pa_cons (pv 0) (pa_cons pe_int pa_nil))))
      (pss_cons (ps_if (pt_cmpR op_eqI (pv 1) pe_int (nomark _)) (pss_one (ps_ret (pe_op op_add pe_int (pe_call (ok__law_draw T 8) (hr.mono (by decide)) (by rfl) T.g__law_draw T.F__law_draw.kp T.b__law_draw .nil pass0 (pa_cons (pv 0) (pa_cons pe_int pa_nil)))))) pss_nil)
      (pss_cons (ps_if (pt_cmpR op_eqI (pv 1) pe_int (nomark _)) (pss_one (ps_ret (pe_op op_sub (pe_op op_pow pe_int pe_int) (pe_call (ok__law_draw T 8) (hr.mono (by decide)) (by rfl) T.g__law_draw T.F__law_draw.kp T.b__law_draw .nil pass0 (pa_cons (pv 0) (pa_cons (pe_op op_pow pe_int pe_int) pa_nil)))))) pss_nil)
      (pss_cons (ps_if (pt_cmpR op_eqI (pv 1) pe_int (nomark _)) (pss_one (ps_ret (pe_op op_sub (pe_op op_sub (pe_op op_pow pe_int pe_int) pe_int) (pe_call (ok__law_draw T 8) (hr.mono (by decide)) (by rfl) T.g__law_draw T.F__law_draw.kp T.b__law_draw .nil pass0 (pa_cons (pv 0) (pa_cons pe_int pa_nil)))))) pss_nil)
      (pss_cons (ps_set (i := 2) sc__law_integer.nd rfl (by first | exact Or.inl rfl | exact Or.inr rfl) (pe_call (ok__law_draw T 8) (hr.mono (by decide)) (by rfl) T.g__law_draw T.F__law_draw.kp T.b__law_draw .nil pass0 (pa_cons (pv 0) (pa_cons (pe_op op_sub (pe_op op_pow pe_int pe_int) pe_int) pa_nil))))
      (pss_cons (ps_for PassesOwn.never rfl (pi_range1 (by rfl) T.n_range (pa_cons (pe_call (ok__law_draw T 8) (hr.mono (by decide)) (by rfl) T.g__law_draw T.F__law_draw.kp T.b__law_draw .nil pass0 (pa_cons (pv 0) (pa_cons pe_int pa_nil))) pa_nil)) (pg_name (i := 3) sc__law_integer.nd rfl (by first | exact Or.inl rfl | exact Or.inr rfl)) (pss_one (ps_set (i := 2) sc__law_integer.nd rfl (by first | exact Or.inl rfl | exact Or.inr rfl) (pe_op op_fdiv (pv 2) pe_int))))
      (pss_one (ps_ret (pe_op op_add pe_int (pv 2)))))))))), ?_⟩
    refine q_asg_opq (fun Q_6 kk_7 => ?_)
    obtain ⟨⟨y_8, y_9⟩, hb_10, hm⟩ := bs hm
    dsimp only at hm
    refine ⟨_, rfl, G0, p_1, vs_2, deck', (4 : Int), (y_8, y_9), rfl, c0.gh, c0.hd, c0.hdg, al_5, hb_10, fun G_12 H_13 sp_14 vs_16 hs_17 al_18 => ?_⟩
    have c_15 := c0.call1 sp_14 hs_17
    refine kk_7 _ _ ?_
    refine q_if_opq (fun Q_19 kk_20 => ?_)
    refine ⟨_, rfl, _, _, rfl, rfl, _, rfl, ?_⟩
    refine kk_20 _ _ ?_
    refine ite_m hm (fun hc_21 hm => ?_) (fun hc_21 hm => ?_)
    · skip
      refine ret_opq (fun Q_22 kk_23 => ?_)
      obtain ⟨⟨y_24, y_25⟩, hb_26, hm⟩ := bs hm
      dsimp only at hm
      refine ⟨_, rfl, G_12, p_1, vs_16, y_9, (20 : Int), (y_24, y_25), rfl, c_15.gh, c_15.hd, c_15.hdg, al_18, hb_26, fun G_28 H_29 sp_30 vs_32 hs_33 al_34 => ?_⟩
      have c_31 := c_15.call1 sp_30 hs_33
      refine ⟨_, _, rfl, rfl, ?_⟩
      refine kk_23 _ _ ?_
      obtain rfl := some_in hm
      exact k G_28 H_29 c_31.stp vs_32 (c_31.get 0 rfl) al_34
    · skip
      try dsimp only [tNext]
      refine q_if_opq (fun Q_35 kk_36 => ?_)
      refine ⟨_, rfl, _, _, rfl, rfl, _, rfl, ?_⟩
      refine kk_36 _ _ ?_
      refine ite_m hm (fun hc_37 hm => ?_) (fun hc_37 hm => ?_)
      · skip
        refine ret_opq (fun Q_38 kk_39 => ?_)
        obtain ⟨⟨y_40, y_41⟩, hb_42, hm⟩ := bs hm
        dsimp only at hm
        refine ⟨_, _, rfl, rfl, ⟨by decide, by decide, by decide⟩, _, rfl, _, _, rfl, rfl, ⟨by decide, by decide, by decide⟩, G_12, p_1, vs_16, y_9, ((10 : Int) ^ ((9 : Int)).toNat), (y_40, y_41), rfl, c_15.gh, c_15.hd, c_15.hdg, al_18, hb_42, fun G_44 H_45 sp_46 vs_48 hs_49 al_50 => ?_⟩
        have c_47 := c_15.call1 sp_46 hs_49
        refine ⟨_, _, rfl, rfl, ?_⟩
        refine kk_39 _ _ ?_
        obtain rfl := some_in hm
        exact k G_44 H_45 c_47.stp vs_48 (c_47.get 0 rfl) al_50
      · skip
        try dsimp only [tNext]
        refine q_if_opq (fun Q_51 kk_52 => ?_)
        refine ⟨_, rfl, _, _, rfl, rfl, _, rfl, ?_⟩
        refine kk_52 _ _ ?_
        refine ite_m hm (fun hc_53 hm => ?_) (fun hc_53 hm => ?_)
        · skip
          refine ret_opq (fun Q_54 kk_55 => ?_)
          obtain ⟨⟨y_56, y_57⟩, hb_58, hm⟩ := bs hm
          dsimp only at hm
          refine ⟨_, _, rfl, rfl, ⟨by decide, by decide, by decide⟩, _, _, rfl, rfl, _, rfl, G_12, p_1, vs_16, y_9, (3 : Int), (y_56, y_57), rfl, c_15.gh, c_15.hd, c_15.hdg, al_18, hb_58, fun G_60 H_61 sp_62 vs_64 hs_65 al_66 => ?_⟩
          have c_63 := c_15.call1 sp_62 hs_65
          refine ⟨_, _, rfl, rfl, ?_⟩
          refine kk_55 _ _ ?_
          obtain rfl := some_in hm
          exact k G_60 H_61 c_63.stp vs_64 (c_63.get 0 rfl) al_66
        · skip
          try dsimp only [tNext]
          refine q_asg_opq (fun Q_67 kk_68 => ?_)
          obtain ⟨⟨y_69, y_70⟩, hb_71, hm⟩ := bs hm
          dsimp only at hm
          refine ⟨_, rfl, _, _, rfl, rfl, ⟨by decide, by decide, by decide⟩, _, _, rfl, rfl, G_12, p_1, vs_16, y_9, (((10 : Int) ^ ((30 : Int)).toNat) - (1 : Int)), (y_69, y_70), rfl, c_15.gh, c_15.hd, c_15.hdg, al_18, hb_71, fun G_73 H_74 sp_75 vs_77 hs_78 al_79 => ?_⟩
          have c_76 := c_15.call1 sp_75 hs_78
          refine kk_68 _ _ ?_
          obtain ⟨⟨y_80, y_81⟩, hb_82, hm⟩ := bs hm
          dsimp only at hm
          refine ⟨_, rfl, G_73, p_1, vs_77, y_70, (30 : Int), (y_80, y_81), rfl, c_76.gh, c_76.hd, c_76.hdg, al_79, hb_82, fun G_84 H_85 sp_86 vs_88 hs_89 al_90 => ?_⟩
          have c_87 := c_76.call1 sp_86 hs_89
          obtain ⟨hg_91, hm⟩ := gdp hm
          refine ⟨_, rfl, hg_91.1, hg_91.2, ?_⟩
          obtain ⟨o_97, ho_98, hm⟩ := bs hm
          refine for_w walk_range (rng (0 : Int) y_80) (by rw [rng_len]; omega) (fun l_99 σ_101 H_102 => ∃ (G_92 : Hp) (x_95 : Int) (o_96 : Option V), σ_101 = [(some (.ref p_1)), (some (.int y_8)), (some (.int x_95)), o_96] ∧ Ex G_84 G_92 ∧ Cf [p_1] H0 G0 G_92 [(p_1, (.lst vs_88))] H_102 ∧ lp (fun (y_100 : Int) => fun (s_103 : (Int)) => (fun (x_95 : Int) => lt ((x_95 / (10 : Int)) : Int) fun x_116 => (some (x_116))) s_103) l_99 (x_95) = some o_97)
            ⟨G_84, y_69, none, rfl, Ex.refl _, c_87, ho_98⟩
            (fun l_99 σ_101 H_102 hI => by
              obtain ⟨G_92, x_95, o_96, rfl, eg_93, c_94, ho_98⟩ := hI
              exact True.intro)
            (fun i_109 y_100 l_99 σ_101 H_102 v_106 H_110 hx_107 hI hy_108 => ?_) (fun σ_101 H_102 hI => ?_)
          · obtain ⟨G_92, x_95, o_96, rfl, eg_93, c_94, ho_98⟩ := hI
            obtain ⟨so_111, hf_104, hgo_105⟩ := lp_cons ho_98
            try dsimp only at hf_104
            obtain ⟨rfl, hv_112⟩ := hy_108
            obtain rfl : v_106 = .int y_100 := hv_112.trans (congrArg V.int (rng_get hx_107).symm)
            refine asg_opq (fun Q_114 kk_115 => ?_)
            obtain ⟨x_116, hl_117, hf_104⟩ := ltp hf_104
            refine ⟨_, rfl, _, _, rfl, rfl, ⟨by decide, by decide⟩, ?_⟩
            refine nmV (f := V.int) (P := fun v9 => Q_114 v9 _) hl_117 ?_
            refine kk_115 _ _ ?_
            obtain rfl := some_in hf_104
            exact ⟨G_92, x_116, (some (.int y_100)), rfl, eg_93, c_94, hgo_105⟩
          · obtain ⟨G_92, x_95, o_96, rfl, eg_93, c_94, ho_98⟩ := hI
            obtain rfl := lp_nil ho_98
            try dsimp only at hm
            try dsimp only
            refine ret_opq (fun Q_119 kk_120 => ?_)
            refine ⟨_, rfl, _, _, rfl, rfl, ?_⟩
            refine kk_120 _ _ ?_
            obtain rfl := some_in hm
            exact k G_92 H_102 c_94.stp vs_88 (c_94.get 0 rfl) (AL.mono eg_93 al_90)
theorem sc__law_text72 : FnScope ["row", "number"] ["row"] (defScope s__law_text) := ⟨rfl, rfl, rfl, by decide +kernel, rfl, by decide +kernel, by decide +kernel⟩
def m__law_text72 (row' : (List Int)) : Option Str :=
  if (decide (row' = ([] : List Int))) then (some ("." : Str)) else (gd (List.length row' < BIG) ((lcm (fun (y_34 : Int) => gd (sOk y_34) (some (sI y_34))) row').bind fun xs_24 => (gd (jOk (" " : Str) xs_24) (some (Txt.join (" " : Str) xs_24)))))
def sp__law_text72 (K : PySem.W.Frag) : Sp := fun vs H Q _ => ∃ (G : Hp) (a_1 : Addr) (vs_2 : List V) (row' : (List Int)) (r : Str), vs = [.ref a_1] ∧ Ex G H ∧ SqB [] H a_1 vs_2 ∧ AL rI G vs_2 row' ∧ m__law_text72 row' = some r ∧ ∀ (G' H' : Hp), Stp [] G G' H H' → Q (.str r) H'
theorem ok__law_text72 (T : Env K mg) : FnOk P w K mg base CX0 1 T.f__law_text T.d__law_text ["row"] (sp__law_text72 K) := by
  refine T.F__law_text.ok sc__law_text72 (fun vs H Q E h => ?_) (fun cdv A outer s H0 vs Q E hr h => ?_)
  · obtain ⟨G0, a_1, vs_2, row', r, rfl, _⟩ := h
    rfl
  · obtain ⟨G0, a_1, vs_2, row', r, rfl, hG0, sq_3, al_4, hm, k⟩ := h
    have hu := hr.units
    have hu65 := hu65 hr
    have c0 := Cf.start hG0
    unfold m__law_text72 at hm
    refine ⟨_, (pss_cons (ps_if (pt_cmpR (op_eqT hu (eqdL eqdI) (by decide)) (pv 0) (pe_lst pa_nil) (nomark _)) (pss_one (ps_ret pe_str)) pss_nil)
      (pss_one (ps_ret (pe_join pe_str (pe_lc (own := [("number", 1)]) (g := gName 1) (tt := tYes)  rfl sc__law_text72.nd (pi_list (pv 0)) (blkOk_by (own := [("number", 1)]) (N := ["row", "number"]) (sc := defScope s__law_text) (by decide +kernel)) (fun _ _ _ _ _ => (pg_name (i := 1) sc__law_text72.nd rfl (by first | exact Or.inl rfl | exact Or.inr rfl))) (fun _ _ _ _ _ => pts_nil) (fun _ _ _ _ _ => (pe_callTy call_strI (by rfl) T.n_str bt_str (pa_cons (pv 1) pa_nil)))))))), ?_⟩
    refine q_if_opq (fun Q_5 kk_6 => ?_)
    refine ⟨_, rfl, (Nat.zero_le _), fun p_7 np_8 => ?_⟩
    have c_9 := c0.newO np_8 (.lst [])
    generalize hh : upd H0 p_7 (.lst []) = H_10 at c_9 ⊢
    clear hh
    refine ⟨_, _, ⟨a_1, vs_2, rfl, (sq_3.at c_9), AL.mono c_9.gh al_4⟩, ⟨p_7, [], rfl, (c_9.get 0 rfl), AL.mono c_9.gh A2.nil⟩, (okI _), (okI _), _, rfl, ?_⟩
    refine kk_6 _ _ ?_
    refine ite_m hm (fun hc_11 hm => ?_) (fun hc_11 hm => ?_)
    · skip
      refine ret_opq (fun Q_12 kk_13 => ?_)
      refine kk_13 _ _ ?_
      obtain rfl := some_in hm
      exact k G0 H_10 c_9.stp
    · skip
      try dsimp only [tNext]
      refine ret_opq (fun Q_14 kk_15 => ?_)
      obtain ⟨hg_16, hm⟩ := gdp hm
      refine ⟨⟨_, rfl⟩, _, rfl, _, rfl, ⟨_, SqL.of (sq_3.at c_9)⟩, fun D_17 nD_18 => ?_⟩
      have c_19 := c_9.newO nD_18 (.lst [])
      obtain ⟨out_26, hb_27, hm⟩ := bs hm
      refine lc_w (walk_list (xs := vs_2)) row' (A2.len al_4) (fun l_33 H_35 => ∃ (G_20 : Hp) (vs_23 : List V) (xs_24 : (List Str)), Ex G0 G_20 ∧ Cf [] H0 G0 G_20 [(D_17, (.lst vs_23)), (p_7, (.lst []))] H_35 ∧ AL rS G_20 vs_23 xs_24 ∧ List.length xs_24 + List.length l_33 < BIG ∧ ∃ rest_29, lcm (fun (y_34 : Int) => gd (sOk y_34) (some (sI y_34))) l_33 = some rest_29 ∧ xs_24 ++ rest_29 = out_26)
        ⟨G0, [], ([] : List Str), Ex.refl _, c_19, A2.nil, ⟨by simpa using hg_16, out_26, hb_27, rfl⟩⟩
        (fun l_33 H_35 hI => by
          obtain ⟨G_20, vs_23, xs_24, eg_21, c_22, al_25, ⟨hlen_32, rest_29, hf_30, hout_31⟩⟩ := hI
          exact (SqL.of (sq_3.at c_22)))
        (fun i_37 y_34 l_33 H_35 v_38 H_41 hx_39 hI hy_40 => ?_) (fun H_35 hI => ?_)
      · obtain ⟨G_20, vs_23, xs_24, eg_21, c_22, al_25, ⟨hlen_32, rest_29, hf_30, hout_31⟩⟩ := hI
        obtain ⟨z_42, rest_43, hq_36, hf_44, ho_45⟩ := lcm_cons hf_30
        try dsimp only at hq_36
        obtain ⟨rfl, hv_47⟩ := hy_40
        obtain ⟨v_48, hv_49, rv_50⟩ := A2.get al_4 hx_39
        obtain rfl := Option.some.inj (hv_47.symm.trans hv_49)
        obtain rfl := (show v_38 = (.int y_34) from rv_50)
        refine ⟨rfl, ?_⟩
        refine yes_q ?_
        refine opqV (fun Q_51 kk_52 => ?_)
        obtain ⟨hg_53, hq_36⟩ := gdp hq_36
        refine ⟨_, rfl, _, rfl, hg_53, ?_⟩
        refine kk_52 _ _ ?_
        refine ⟨_, c_22.hd, big_lt (by have h9 := hlen_32; have h8 := A2.len al_25; simp only [List.length_cons] at h9; omega), ?_⟩
        obtain ⟨vs_54, hvs, al_55⟩ : ∃ vs9, vs9 = (vs_23 ++ [(.str (sI y_34))]) ∧ AL rS G_20 vs9 (xs_24 ++ [(sI y_34)]) := ⟨_, rfl, (A2.app al_25 (A2.one rfl))⟩
        rw [← hvs]
        clear hvs
        have c_56 := c_22.mut (.lst vs_54)
        generalize hh : upd H_41 D_17 (.lst vs_54) = H_57 at c_56 ⊢
        clear hh
        obtain rfl := some_in hq_36
        exact ⟨G_20, vs_54, (xs_24 ++ [(sI y_34)]), eg_21, c_56, al_55, ⟨by have h9 := hlen_32; simp only [List.length_append, List.length_cons, List.length_nil] at h9 ⊢; first | done | omega, rest_43, hf_44, by rw [← hout_31, ho_45]; first | done | simp⟩⟩
      obtain ⟨G_20, vs_23, xs_24, eg_21, c_22, al_25, ⟨hlen_32, rest_29, hf_30, hout_31⟩⟩ := hI
      obtain rfl := some_in hf_30
      rw [List.append_nil] at hout_31
      subst hout_31
      obtain ⟨hg_58, hm⟩ := gdp hm
      refine ⟨_, _, xs_24, rfl, rfl, (.inl (SqL.of (by rw [← al_S al_25]; exact (c_22.get 0 rfl)))), hg_58, ?_⟩
      refine kk_15 _ _ ?_
      obtain rfl := some_in hm
      exact k G_20 H_35 c_22.stp
theorem sc__law_refuses72 : FnScope ["text", "refused"] ["text"] (defScope s__law_refuses) := ⟨rfl, rfl, rfl, by decide +kernel, rfl, by decide +kernel, by decide +kernel⟩
def m__law_refuses72 (text' : Str) : Option Bool :=
  ((((m_read_colours text').bind fun z_13 => exo z_13 (fun (e_14 : Er) => gd (e_14.1 = 0) (some (true))) (fun (y_15 : (List Int)) => (some (false)))) : Option (Bool))).bind fun (s_44 : (Bool)) => (fun (x_6 : Bool) => (some x_6)) s_44
def sp__law_refuses72 (K : PySem.W.Frag) : Sp := fun vs H Q _ => ∃ (G : Hp) (text' : Str) (r : Bool), vs = [(.str text')] ∧ Ex G H ∧ m__law_refuses72 text' = some r ∧ ∀ (G' H' : Hp), Stp [] G G' H H' → Q (.bl r) H'
theorem ok__law_refuses72 (T : Env K mg) : FnOk P w K mg base CX0 3 T.f__law_refuses T.d__law_refuses ["text"] (sp__law_refuses72 K) := by
  refine T.F__law_refuses.ok sc__law_refuses72 (fun vs H Q E h => ?_) (fun cdv A outer s H0 vs Q E hr h => ?_)
  · obtain ⟨G0, text', r, rfl, _⟩ := h
    rfl
  · obtain ⟨G0, text', r, rfl, hG0, hm, k⟩ := h
    have hu := hr.units
    have hu65 := hu65 hr
    have c0 := Cf.start hG0
    unfold m__law_refuses72 at hm
    refine ⟨_, (pss_cons (ps_set (i := 1) sc__law_refuses72.nd rfl (by first | exact Or.inl rfl | exact Or.inr rfl) pe_bl)
      (Evl.pss_cut (ps_try_only rfl rfl ⟨rfl, by decide, .inl T.g_InvalidText⟩ takes0 (fun W pn xe tk po => (pss_one (ps_expr (pe_callS (ok_read_colours T) (hr.mono (by decide)) (by rfl) T.g_read_colours T.F_read_colours.kp T.b_read_colours (fun σ => passAt tk σ) (pa_cons (pv 0) pa_nil))))) (fun a oe cls d pn _ _ => (pss_one (ps_set (i := 1) sc__law_refuses72.nd rfl (by first | exact Or.inl rfl | exact Or.inr rfl) pe_bl))))
      (pss_one (ps_ret (pv 1))))), ?_⟩
    refine q_asg_opq (fun Q_1 kk_2 => ?_)
    refine kk_2 _ _ ?_
    obtain ⟨s_7, hs_8, hm⟩ := bs hm
    refine ⟨(fun σ_9 H_10 => ∃ (G_3 : Hp) (x_6 : Bool), σ_9 = [(some (.str text')), (some (.bl x_6))] ∧ Ex G0 G_3 ∧ Cf [] H0 G0 G_3 [] H_10 ∧ (x_6) = s_7), ?_, ?_⟩
    · skip
      refine drop_opq (fun Q_11 kk_12 => ?_)
      refine ⟨_, rfl, ?_⟩
      obtain ⟨z_13, hb_16, hs_8⟩ := bs hs_8
      rcases z_13 with e_14 | y_15
      · skip
        dsimp only [exo] at hs_8
        refine ⟨G0, text', (Except.error e_14), rfl, c0.gh, hb_16, (fun _ z9 => nomatch z9), fun e_24 he8 G_17 H_18 cls_19 d_20 sp_21 hc_22 hf_23 => ?_⟩
        obtain rfl := Except.error.inj he8
        have c_25 := c0.call sp_21
        have hf_26 := hf_23.up c0
        obtain ⟨hg_27, hs_8⟩ := gdp hs_8
        obtain rfl := cls_is hc_22 hg_27 T.g_InvalidText
        refine ⟨true, T.e_InvalidText, fun _ a9 na9 => ?_, fun q9 => nomatch q9⟩
        refine asg_opq (fun Q_28 kk_29 => ?_)
        refine kk_29 _ _ ?_
        obtain rfl := some_in hs_8
        exact ⟨G_17, true, rfl, sp_21.gg, c_25, rfl⟩
      dsimp only [exo] at hs_8
      refine ⟨G0, text', (Except.ok y_15), rfl, c0.gh, hb_16, fun r9 hr9 p_34 vs_35 G_30 H_31 sp_32 np_36 gp_37 hp_38 al_39 => ?_, (fun _ z9 => nomatch z9)⟩
      obtain rfl := Except.ok.inj hr9
      have c_33 := c0.callO sp_32 np_36 gp_37 hp_38
      refine kk_12 _ _ ?_
      have c_41 : Cf [] H0 G0 G_30 [] H_31 := c_33.drop
      obtain rfl := some_in hs_8
      exact ⟨G_30, false, rfl, sp_32.gg, c_41, rfl⟩
    rintro σ_9 H_10 ⟨G_3, x_6, rfl, eg_4, c_5, rfl⟩
    try dsimp only at hm
    refine ret_opq (fun Q_42 kk_43 => ?_)
    refine ⟨_, rfl, ?_⟩
    refine kk_43 _ _ ?_
    obtain rfl := some_in hm
    exact k G_3 H_10 c_5.stp
theorem sc__law_goes_on : FnScope ["deck", "back", "due", "number", "web", "place", "told"] ["deck", "back", "due"] (defScope s__law_goes_on) := ⟨rfl, rfl, rfl, by decide +kernel, rfl, by decide +kernel, by decide +kernel⟩
def m__law_goes_on (deck' : (List Int)) (back' : (List Int)) (due' : (List Int)) : Option (Bool × List Int) :=
  gd (List.length due' < BIG) ((lcm (fun (y_34 : Int) => some ([] : List Int)) due').bind fun xs_24 => ((m_show_colours back').bind fun y_67 => ((m__law_text72 due').bind fun y_73 => (if (!(decide (y_67 = y_73))) then (some (false, deck')) else ((m_check_colouring xs_24 back').bind fun y_84 => ((pOr false ((m_colour_count back').bind fun y_91 => (gd (List.length due' ≤ 4000) (some (!(decide (y_91 = ((List.length (srt due') : Nat) : Int)))))))).bind fun b_105 => (if b_105 then (some (false, deck')) else (if (decide (due' = ([] : List Int))) then (some (true, deck')) else ((m__law_draw 8 deck' ((List.length due' : Nat) : Int)).bind fun z_129 => (fun (y_126 : Int) (y_127 : List Int) => ((m_is_witness xs_24 back' (Pap.mk y_126 ([] : List Pap))).bind fun y_154 => ((pOr (!true) ((atI due' y_126).bind fun y_163 => (some (!(decide (y_154 = (decide (y_163 = (1 : Int))))))))).bind fun b_170 => (if b_170 then (some (false, y_127)) else ((m_next_colour Gv.first xs_24 back' ([y_126] : List Int)).bind fun y_193 => ((m__law_is_integer y_193).bind fun y_201 => ((pAnd y_201 ((atI due' y_126).bind fun y_208 => (some (decide (y_193 = ((1 : Int) + (b2I (decide (y_208 = (1 : Int)))))))))).bind fun b_215 => (some (b_215, y_127))))))))) z_129.1 z_129.2)))))))))
def sp__law_goes_on (K : PySem.W.Frag) : Sp := fun vs H Q _ => ∃ (G : Hp) (p_1 : Addr) (vs_2 : List V) (deck' : (List Int)) (a_6 : Addr) (vs_7 : List V) (back' : (List Int)) (a_10 : Addr) (vs_11 : List V) (due' : (List Int)) (r : (Bool × List Int)), vs = [.ref p_1, .ref a_6, .ref a_10] ∧ Ex G H ∧ H p_1 = some (.lst vs_2) ∧ G p_1 = none ∧ AL rI G vs_2 deck' ∧ SqB [p_1] H a_6 vs_7 ∧ AL rI G vs_7 back' ∧ SqB [p_1] H a_10 vs_11 ∧ AL rI G vs_11 due' ∧ m__law_goes_on deck' back' due' = some r ∧ ∀ (G' H' : Hp), Stp [p_1] G G' H H' → ∀ vs8, H' p_1 = some (.lst vs8) → AL rI G' vs8 r.2 → Q (.bl r.1) H'
theorem ok__law_goes_on (T : Env K mg) : FnOk P w K mg base CX0 205 T.f__law_goes_on T.d__law_goes_on ["deck", "back", "due"] (sp__law_goes_on K) := by
  refine T.F__law_goes_on.ok sc__law_goes_on (fun vs H Q E h => ?_) (fun cdv A outer s H0 vs Q E hr h => ?_)
  · obtain ⟨G0, p_1, vs_2, deck', a_6, vs_7, back', a_10, vs_11, due', r, rfl, _⟩ := h
    rfl
  · obtain ⟨G0, p_1, vs_2, deck', a_6, vs_7, back', a_10, vs_11, due', r, rfl, hG0, hp_3, gp_4, al_5, sq_8, al_9, sq_12, al_13, hm, k⟩ := h
    have hu := hr.units
    have hu65 := hu65 hr
    have c0 := Cf.start1 hG0 hp_3 gp_4
    unfold m__law_goes_on at hm
    refine ⟨_, (pss_cons (ps_setLc (i := 4) (own := [("number", 3)]) (g := gName 3) (tt := tYes)  rfl sc__law_goes_on.nd rfl rfl (sw_true rfl rfl rfl (by decide +kernel)) (pi_list (pv 2)) (blkOk_by (own := [("number", 3)]) (N := ["deck", "back", "due", "number", "web", "place", "told"]) (sc := defScope s__law_goes_on) (by decide +kernel)) (fun _ _ _ _ _ => (pg_name (i := 3) sc__law_goes_on.nd rfl (by first | exact Or.inl rfl | exact Or.inr rfl))) (fun _ _ _ _ _ => pts_nil) (fun _ _ _ _ _ => (pe_lst pa_nil)))
      (pss_cons (ps_if (pt_cmpR op_neS (pe_call (ok_show_colours T) (hr.mono (by decide)) (by rfl) T.g_show_colours T.F_show_colours.kp T.b_show_colours .nil pass0 (pa_cons (pv 1) pa_nil)) (pe_call (ok__law_text72 T) (hr.mono (by decide)) (by rfl) T.g__law_text T.F__law_text.kp T.b__law_text .nil pass0 (pa_cons (pv 2) pa_nil)) (nomark _)) (pss_one (ps_ret pe_bl)) pss_nil)
      (pss_cons (ps_if (PW.pt (pw_or (pt_cmpR op_notN (pe_call (ok_check_colouring T) (hr.mono (by decide)) (by rfl) T.g_check_colouring T.F_check_colouring.kp T.b_check_colouring .nil pass0 (pa_cons (pv 4) (pa_cons (pv 1) pa_nil))) pe_non (nomark _)) (pw_or1 (pt_cmpR op_neI (pe_call (ok_colour_count T) (hr.mono (by decide)) (by rfl) T.g_colour_count T.F_colour_count.kp T.b_colour_count .nil pass0 (pa_cons (pv 1) pa_nil)) (pe_callB (call_lenS (w := w) rfl) (by rfl) T.n_len bt_len (pa_cons (pe_callTy (call_setL (w := w) rfl rfl) (by rfl) T.n_set bt_set (pa_cons (pv 2) pa_nil)) pa_nil)) (nomark _))))) (pss_one (ps_ret pe_bl)) pss_nil)
      (pss_cons (ps_if (pt_cmpR (op_eqT hu (eqdL eqdI) (by decide)) (pv 2) (pe_lst pa_nil) (nomark _)) (pss_one (ps_ret pe_bl)) pss_nil)
      (pss_cons (ps_set (i := 5) sc__law_goes_on.nd rfl (by first | exact Or.inl rfl | exact Or.inr rfl) (pe_call (ok__law_draw T 8) (hr.mono (by decide)) (by rfl) T.g__law_draw T.F__law_draw.kp T.b__law_draw .nil pass0 (pa_cons (pv 0) (pa_cons (pe_callB call_lenL (by rfl) T.n_len bt_len (pa_cons (pv 2) pa_nil)) pa_nil))))
      (pss_cons (ps_set (i := 6) sc__law_goes_on.nd rfl (by first | exact Or.inl rfl | exact Or.inr rfl) (pe_call (ok_is_witness T) (hr.mono (by decide)) (by rfl) T.g_is_witness T.F_is_witness.kp T.b_is_witness .nil pass0 (pa_cons (pv 4) (pa_cons (pv 1) (pa_cons (pe_tup (pa_cons (pv 5) (pa_cons (pe_lst pa_nil) pa_nil))) pa_nil)))))
      (pss_cons (ps_if (PW.pt (pw_or (pt_not (pt_val (pe_callB (call_is (K := K) rfl) (by rfl) T.n_isinstance bt_isi (pa_cons (pv 6) (pa_cons (pe_bltn (v := .ty "bool") (by rfl) T.n_bool bt_bool rfl) pa_nil))))) (pw_or1 (pt_cmpR op_neBl (pv 6) (pe_cmpR op_eqI (pe_ix (ix_l (K := K) rfl) (pv 2) (pv 5) (fun _ _ => rfl)) pe_int (nomark _)) (nomark _))))) (pss_one (ps_ret pe_bl)) pss_nil)
      (pss_cons (ps_set (i := 6) sc__law_goes_on.nd rfl (by first | exact Or.inl rfl | exact Or.inr rfl) (pe_call (ok_next_colour T) (hr.mono (by decide)) (by rfl) T.g_next_colour T.F_next_colour.kp T.b_next_colour .nil pass0 (pa_cons (pe_makeO (T.gv.o .first T.gP_First).mko (by rfl) T.gP_First) (pa_cons (pv 4) (pa_cons (pv 1) (pa_cons (pe_lst (pa_cons (pv 5) pa_nil)) pa_nil))))))
      (pss_one (ps_ret (pe_and (pe_call (ok__law_is_integer T) (hr.mono (by decide)) (by rfl) T.g__law_is_integer T.F__law_is_integer.kp T.b__law_is_integer .nil pass0 (pa_cons (pv 6) pa_nil)) (pe_one (pe_cmpR op_eqI (pv 6) (pe_op op_add pe_int (pe_callTy call_intB (by rfl) T.n_int bt_int (pa_cons (pe_cmpR op_eqI (pe_ix (ix_l (K := K) rfl) (pv 2) (pv 5) (fun _ _ => rfl)) pe_int (nomark _)) pa_nil))) (nomark _)))))))))))))), ?_⟩
    refine q_asg_opq (fun Q_14 kk_15 => ?_)
    obtain ⟨hg_16, hm⟩ := gdp hm
    refine ⟨_, rfl, _, rfl, ⟨_, SqL.of (sq_12.at c0)⟩, fun D_17 nD_18 => ?_⟩
    have c_19 := c0.newO nD_18 (.lst [])
    obtain ⟨out_26, hb_27, hm⟩ := bs hm
    refine lc_w (walk_list (xs := vs_11)) due' (A2.len al_13) (fun l_33 H_35 => ∃ (G_20 : Hp) (vs_23 : List V) (xs_24 : (List (List Int))), Ex G0 G_20 ∧ Cf [p_1] H0 G0 G_20 [(D_17, (.lst vs_23)), (p_1, (.lst vs_2))] H_35 ∧ AL (rL rI) G_20 vs_23 xs_24 ∧ List.length xs_24 + List.length l_33 < BIG ∧ ∃ rest_29, lcm (fun (y_34 : Int) => some ([] : List Int)) l_33 = some rest_29 ∧ xs_24 ++ rest_29 = out_26)
      ⟨G0, [], ([] : List (List Int)), Ex.refl _, c_19, A2.nil, ⟨by simpa using hg_16, out_26, hb_27, rfl⟩⟩
      (fun l_33 H_35 hI => by
        obtain ⟨G_20, vs_23, xs_24, eg_21, c_22, al_25, ⟨hlen_32, rest_29, hf_30, hout_31⟩⟩ := hI
        exact (SqL.of (sq_12.at c_22)))
      (fun i_37 y_34 l_33 H_35 v_38 H_41 hx_39 hI hy_40 => ?_) (fun H_35 hI => ?_)
    · obtain ⟨G_20, vs_23, xs_24, eg_21, c_22, al_25, ⟨hlen_32, rest_29, hf_30, hout_31⟩⟩ := hI
      obtain ⟨z_42, rest_43, hq_36, hf_44, ho_45⟩ := lcm_cons hf_30
      try dsimp only at hq_36
      obtain ⟨rfl, hv_47⟩ := hy_40
      obtain ⟨v_48, hv_49, rv_50⟩ := A2.get al_13 hx_39
      obtain rfl := Option.some.inj (hv_47.symm.trans hv_49)
      obtain rfl := (show v_38 = (.int y_34) from rv_50)
      refine ⟨rfl, ?_⟩
      refine yes_q ?_
      refine opqV (fun Q_51 kk_52 => ?_)
      refine ⟨(Nat.zero_le _), fun p_53 np_54 => ?_⟩
      have c_55 := c_22.newO np_54 (.lst [])
      generalize hh : upd H_41 p_53 (.lst []) = H_56 at c_55 ⊢
      clear hh
      obtain ⟨G_60, eg_58, sq_59, c_57⟩ : ∃ G9, Ex G_20 G9 ∧ G9 p_53 = some (.lst []) ∧ Cf [p_1] H0 G0 G9 [(D_17, (.lst vs_23)), (p_1, (.lst vs_2))] H_56 := ⟨_, freeze_ex c_55, upd_same, c_55.freeze (by simp)⟩
      refine kk_52 _ _ ?_
      refine ⟨_, c_57.hd, big_lt (by have h9 := hlen_32; have h8 := A2.len (AL.mono eg_58 al_25); simp only [List.length_cons] at h9; omega), ?_⟩
      obtain ⟨vs_61, hvs, al_62⟩ : ∃ vs9, vs9 = (vs_23 ++ [(.ref p_53)]) ∧ AL (rL rI) G_60 vs9 (xs_24 ++ [([] : List Int)]) := ⟨_, rfl, (A2.app (AL.mono eg_58 al_25) (A2.one ⟨p_53, [], rfl, sq_59, (AL.mono eg_58 A2.nil)⟩))⟩
      rw [← hvs]
      clear hvs
      have c_63 := c_57.mut (.lst vs_61)
      generalize hh : upd H_56 D_17 (.lst vs_61) = H_64 at c_63 ⊢
      clear hh
      obtain rfl := some_in hq_36
      exact ⟨G_60, vs_61, (xs_24 ++ [([] : List Int)]), (eg_21.trans eg_58), c_63, al_62, ⟨by have h9 := hlen_32; simp only [List.length_append, List.length_cons, List.length_nil] at h9 ⊢; first | done | omega, rest_43, hf_44, by rw [← hout_31, ho_45]; first | done | simp⟩⟩
    obtain ⟨G_20, vs_23, xs_24, eg_21, c_22, al_25, ⟨hlen_32, rest_29, hf_30, hout_31⟩⟩ := hI
    obtain rfl := some_in hf_30
    rw [List.append_nil] at hout_31
    subst hout_31
    refine kk_15 _ _ ?_
    refine q_if_opq (fun Q_65 kk_66 => ?_)
    obtain ⟨y_67, hb_68, hm⟩ := bs hm
    refine ⟨_, rfl, G_20, a_6, vs_7, back', y_67, rfl, c_22.gh, (SqB.of (sq_8.at c_22)), (AL.mono eg_21 al_9), hb_68, fun G_69 H_70 sp_71 => ?_⟩
    have c_72 := c_22.call sp_71
    obtain ⟨y_73, hb_74, hm⟩ := bs hm
    refine ⟨_, rfl, G_69, a_10, vs_11, due', y_73, rfl, c_72.gh, (SqB.of (sq_12.at c_72)), (AL.mono (eg_21.trans sp_71.gg) al_13), hb_74, fun G_75 H_76 sp_77 => ?_⟩
    have c_78 := c_72.call sp_77
    refine ⟨_, _, rfl, rfl, _, rfl, ?_⟩
    refine kk_66 _ _ ?_
    refine ite_m hm (fun hc_79 hm => ?_) (fun hc_79 hm => ?_)
    · skip
      refine ret_opq (fun Q_80 kk_81 => ?_)
      refine kk_81 _ _ ?_
      obtain rfl := some_in hm
      exact k G_75 H_76 c_78.stp vs_2 (c_78.get 1 rfl) (AL.mono ((eg_21.trans sp_71.gg).trans sp_77.gg) al_5)
    · skip
      try dsimp only [tNext]
      refine q_if_opq (fun Q_82 kk_83 => ?_)
      obtain ⟨y_84, hb_85, hm⟩ := bs hm
      refine ⟨_, rfl, _, rfl, G_75, D_17, vs_23, xs_24, a_6, vs_7, back', y_84, rfl, c_78.gh, (SqB.of (c_78.get 0 rfl)), (AL.mono (sp_71.gg.trans sp_77.gg) al_25), (SqB.of (sq_8.at c_78)), (AL.mono ((eg_21.trans sp_71.gg).trans sp_77.gg) al_9), hb_85, fun G_86 H_87 sp_88 => ?_⟩
      have c_89 := c_78.call sp_88
      refine ⟨rfl, _, rfl, ?_⟩
      obtain ⟨b_105, hb_106, hm⟩ := bs hm
      refine or_h hb_106 (R := (fun H9 => ∃ G9, Ex G_86 G9 ∧ Cf [p_1] H0 G0 G9 [(D_17, (.lst vs_23)), (p_1, (.lst vs_2))] H9)) (fun ha_104 hq_90 q_103 => ?_) ⟨_, Ex.refl _, c_89⟩ ?_
      · skip
        obtain ⟨y_91, hb_92, hq_90⟩ := bs hq_90
        refine ⟨_, rfl, G_86, a_6, vs_7, back', y_91, rfl, c_89.gh, (SqB.of (sq_8.at c_89)), (AL.mono (((eg_21.trans sp_71.gg).trans sp_77.gg).trans sp_88.gg) al_9), hb_92, fun G_93 H_94 sp_95 => ?_⟩
        have c_96 := c_89.call sp_95
        obtain ⟨hg_97, hq_90⟩ := gdp hq_90
        refine ⟨_, rfl, _, _, due', rfl, (sq_12.at c_96), AL.mono c_96.gh (AL.mono ((((eg_21.trans sp_71.gg).trans sp_77.gg).trans sp_88.gg).trans sp_95.gg) al_13), hg_97, fun p_98 np_99 => ?_⟩
        have c_101 := c_96.junk np_99 (setL w p_98 due')
        have hs_100 : upd H_94 p_98 (setL w p_98 due') p_98 = some (setL w p_98 due') := upd_same
        generalize hh : upd H_94 p_98 (setL w p_98 due') = H_102 at c_101 hs_100 ⊢
        clear hh
        refine ⟨_, _, rfl, hs_100, _, _, rfl, rfl, _, rfl, ?_⟩
        obtain rfl := some_in hq_90
        exact q_103 _ ⟨_, sp_95.gg, c_101⟩
      rintro H_108 ⟨G_107, eg_109, c_110⟩
      refine kk_83 _ _ ?_
      refine ite_m hm (fun hc_111 hm => ?_) (fun hc_111 hm => ?_)
      · skip
        refine ret_opq (fun Q_112 kk_113 => ?_)
        refine kk_113 _ _ ?_
        obtain rfl := some_in hm
        exact k G_107 H_108 c_110.stp vs_2 (c_110.get 1 rfl) (AL.mono ((((eg_21.trans sp_71.gg).trans sp_77.gg).trans sp_88.gg).trans eg_109) al_5)
      · skip
        try dsimp only [tNext]
        refine q_if_opq (fun Q_114 kk_115 => ?_)
        refine ⟨_, rfl, (Nat.zero_le _), fun p_116 np_117 => ?_⟩
        have c_118 := c_110.newO np_117 (.lst [])
        generalize hh : upd H_108 p_116 (.lst []) = H_119 at c_118 ⊢
        clear hh
        refine ⟨_, _, ⟨a_10, vs_11, rfl, (sq_12.at c_118), AL.mono c_118.gh (AL.mono ((((eg_21.trans sp_71.gg).trans sp_77.gg).trans sp_88.gg).trans eg_109) al_13)⟩, ⟨p_116, [], rfl, (c_118.get 0 rfl), AL.mono c_118.gh A2.nil⟩, (okI _), (okI _), _, rfl, ?_⟩
        refine kk_115 _ _ ?_
        refine ite_m hm (fun hc_120 hm => ?_) (fun hc_120 hm => ?_)
        · skip
          refine ret_opq (fun Q_121 kk_122 => ?_)
          refine kk_122 _ _ ?_
          obtain rfl := some_in hm
          exact k G_107 H_119 c_118.stp vs_2 (c_118.get 2 rfl) (AL.mono ((((eg_21.trans sp_71.gg).trans sp_77.gg).trans sp_88.gg).trans eg_109) al_5)
        · skip
          try dsimp only [tNext]
          refine q_asg_opq (fun Q_123 kk_124 => ?_)
          have c_125 : Cf [p_1] H0 G0 G_107 [(p_1, (.lst vs_2)), (p_116, (.lst [])), (D_17, (.lst vs_23))] H_119 := c_118.front 2 rfl
          obtain ⟨⟨y_126, y_127⟩, hb_128, hm⟩ := bs hm
          dsimp only at hm
          refine ⟨_, rfl, _, rfl, _, _, (List.length due'), rfl, (sq_12.at c_118), (A2.len (AL.mono ((((eg_21.trans sp_71.gg).trans sp_77.gg).trans sp_88.gg).trans eg_109) al_13)), G_107, p_1, vs_2, deck', ((List.length due' : Nat) : Int), (y_126, y_127), rfl, c_125.gh, c_125.hd, c_125.hdg, (AL.mono ((((eg_21.trans sp_71.gg).trans sp_77.gg).trans sp_88.gg).trans eg_109) al_5), hb_128, fun G_130 H_131 sp_132 vs_134 hs_135 al_136 => ?_⟩
          have c_133 := c_125.call1 sp_132 hs_135
          refine kk_124 _ _ ?_
          refine q_asg_opq (fun Q_137 kk_138 => ?_)
          refine ⟨_, rfl, _, rfl, _, rfl, (Nat.zero_le _), fun p_139 np_140 => ?_⟩
          have c_141 := c_133.newO np_140 (.lst [])
          generalize hh : upd H_131 p_139 (.lst []) = H_142 at c_141 ⊢
          clear hh
          obtain ⟨G_146, eg_144, sq_145, c_143⟩ : ∃ G9, Ex G_130 G9 ∧ G9 p_139 = some (.lst []) ∧ Cf [p_1] H0 G0 G9 [(p_1, (.lst vs_134)), (p_116, (.lst [])), (D_17, (.lst vs_23))] H_142 := ⟨_, freeze_ex c_141, upd_same, c_141.freeze (by simp)⟩
          refine ⟨(by show 2 ≤ sizeLine; decide), fun t_147 nt_148 => ?_⟩
          have eg_149 : Ex G_146 (upd G_146 t_147 (.tup [.int y_126, .ref p_139])) := newF_ex c_143 nt_148 (.tup [.int y_126, .ref p_139])
          have rv_150 : rP.r (upd G_146 t_147 (.tup [.int y_126, .ref p_139])) (.ref t_147) (Pap.mk y_126 ([] : List Pap)) := PapR.mk upd_same (eg_149 _ _ sq_145) (AL.mono (ρ := rP) eg_149 (AL.mono eg_144 A2.nil))
          have c_151 := c_143.newF nt_148 (.tup [.int y_126, .ref p_139])
          generalize hh : upd G_146 t_147 (.tup [.int y_126, .ref p_139]) = G_152 at eg_149 rv_150 c_151
          clear hh
          generalize hh : upd H_142 t_147 (.tup [.int y_126, .ref p_139]) = H_153 at c_151 ⊢
          clear hh
          obtain ⟨y_154, hb_155, hm⟩ := bs hm
          refine ⟨G_152, D_17, vs_23, xs_24, a_6, vs_7, back', (.ref t_147), (Pap.mk y_126 ([] : List Pap)), y_154, rfl, c_151.gh, (SqB.of (c_151.get 2 rfl)), (AL.mono ((((((sp_71.gg.trans sp_77.gg).trans sp_88.gg).trans eg_109).trans sp_132.gg).trans eg_144).trans eg_149) al_25), (SqB.of (sq_8.at c_151)), (AL.mono (((((((eg_21.trans sp_71.gg).trans sp_77.gg).trans sp_88.gg).trans eg_109).trans sp_132.gg).trans eg_144).trans eg_149) al_9), rv_150, hb_155, fun G_156 H_157 sp_158 => ?_⟩
          have c_159 := c_151.call sp_158
          refine kk_138 _ _ ?_
          refine q_if_opq (fun Q_160 kk_161 => ?_)
          refine ⟨_, rfl, _, _, _, _, _, rfl, .ty _, ty_b, k_bb, _, rfl, ?_⟩
          obtain ⟨b_170, hb_171, hm⟩ := bs hm
          refine or_r hb_171 (fun ha_169 hq_162 q_168 => ?_) ?_
          · skip
            obtain ⟨y_163, hb_164, hq_162⟩ := bs hq_162
            obtain ⟨v_165, hv_166, rv_167⟩ := at_l (AL.mono ((((((((eg_21.trans sp_71.gg).trans sp_77.gg).trans sp_88.gg).trans eg_109).trans sp_132.gg).trans eg_144).trans eg_149).trans sp_158.gg) al_13) hb_164
            obtain rfl := (show v_165 = (.int y_163) from rv_167)
            refine ⟨_, rfl, _, rfl, _, rfl, _, _, _, _, rfl, rfl, (SqL.of (sq_12.at c_159)), hv_166, _, _, rfl, rfl, _, _, rfl, rfl, _, rfl, ?_⟩
            obtain rfl := some_in hq_162
            exact q_168
          refine kk_161 _ _ ?_
          refine ite_m hm (fun hc_172 hm => ?_) (fun hc_172 hm => ?_)
          · skip
            refine ret_opq (fun Q_173 kk_174 => ?_)
            refine kk_174 _ _ ?_
            obtain rfl := some_in hm
            exact k G_156 H_157 c_159.stp vs_134 (c_159.get 0 rfl) (AL.mono ((eg_144.trans eg_149).trans sp_158.gg) al_136)
          · skip
            try dsimp only [tNext]
            refine q_asg_opq (fun Q_175 kk_176 => ?_)
            intro x_177 dx_178 nx_179 ndx_180 nex_181
            have nx_182 : upd H_157 dx_178 (.own x_177) x_177 = none := by rw [upd_ne (Ne.symm nex_181)]; exact nx_179
            have eg_184 : Ex G_156 (upd (upd G_156 dx_178 (.own x_177)) x_177 (.ins (T.gv.C .first) dx_178 [])) := (newF_ex c_159 ndx_180 _).trans (newF_ex (c_159.newF ndx_180 _) nx_182 _)
            have rv_185 : (rG mg).r (upd (upd G_156 dx_178 (.own x_177)) x_177 (.ins (T.gv.C .first) dx_178 [])) (.ref x_177) .first := ⟨_, _, _, T.gP_First, rfl, upd_same⟩
            have c_183 := (c_159.newF ndx_180 (.own x_177)).newF nx_182 (.ins (T.gv.C .first) dx_178 [])
            generalize hh : upd (upd G_156 dx_178 (.own x_177)) x_177 (.ins (T.gv.C .first) dx_178 []) = G_186 at eg_184 rv_185 c_183
            clear hh
            generalize hh : upd (upd H_157 dx_178 (.own x_177)) x_177 (.ins (T.gv.C .first) dx_178 []) = H_187 at c_183 ⊢
            clear hh
            have al_190 : AL rI G_186 [(.int y_126)] ([y_126] : List Int) := (A2.cons rfl A2.nil)
            refine ⟨_, rfl, _, rfl, _, rfl, (by show 1 ≤ sizeLine; decide), fun p_188 np_189 => ?_⟩
            have c_191 := c_183.newO np_189 (.lst [(.int y_126)])
            generalize hh : upd H_187 p_188 (.lst [(.int y_126)]) = H_192 at c_191 ⊢
            clear hh
            obtain ⟨y_193, hb_194, hm⟩ := bs hm
            refine ⟨G_186, (.ref x_177), Gv.first, D_17, vs_23, xs_24, a_6, vs_7, back', p_188, [(.int y_126)], ([y_126] : List Int), y_193, rfl, c_191.gh, rv_185, (SqB.of (c_191.get 3 rfl)), (AL.mono ((((((((sp_71.gg.trans sp_77.gg).trans sp_88.gg).trans eg_109).trans sp_132.gg).trans eg_144).trans eg_149).trans sp_158.gg).trans eg_184) al_25), (SqB.of (sq_8.at c_191)), (AL.mono (((((((((eg_21.trans sp_71.gg).trans sp_77.gg).trans sp_88.gg).trans eg_109).trans sp_132.gg).trans eg_144).trans eg_149).trans sp_158.gg).trans eg_184) al_9), (SqB.of (c_191.get 0 rfl)), al_190, hb_194, fun G_195 H_196 sp_197 => ?_⟩
            have c_198 := c_191.call sp_197
            refine kk_176 _ _ ?_
            refine ret_opq (fun Q_199 kk_200 => ?_)
            obtain ⟨y_201, hb_202, hm⟩ := bs hm
            refine ⟨_, rfl, G_195, y_193, y_201, rfl, c_198.gh, hb_202, fun G_203 H_204 sp_205 => ?_⟩
            have c_206 := c_198.call sp_205
            refine ⟨_, rfl, ?_⟩
            obtain ⟨b_215, hb_216, hm⟩ := bs hm
            refine andV_r hb_216 (fun ha_214 hq_207 q_213 => ?_) ?_
            · skip
              obtain ⟨y_208, hb_209, hq_207⟩ := bs hq_207
              obtain ⟨v_210, hv_211, rv_212⟩ := at_l (AL.mono (((((((((((eg_21.trans sp_71.gg).trans sp_77.gg).trans sp_88.gg).trans eg_109).trans sp_132.gg).trans eg_144).trans eg_149).trans sp_158.gg).trans eg_184).trans sp_197.gg).trans sp_205.gg) al_13) hb_209
              obtain rfl := (show v_210 = (.int y_208) from rv_212)
              refine ⟨_, rfl, _, rfl, _, rfl, _, _, _, _, rfl, rfl, (SqL.of (sq_12.at c_206)), hv_211, _, _, rfl, rfl, _, rfl, _, _, rfl, rfl, _, _, rfl, rfl, ?_⟩
              obtain rfl := some_in hq_207
              exact q_213
            refine kk_200 _ _ ?_
            obtain rfl := some_in hm
            exact k G_203 H_204 c_206.stp vs_134 (c_206.get 1 rfl) (AL.mono (((((eg_144.trans eg_149).trans sp_158.gg).trans eg_184).trans sp_197.gg).trans sp_205.gg) al_136)
theorem sc_law72 : FnScope ["script", "at", "deck", "k", "row", "number", "small", "held", "told", "due", "back", "place", "great"] ["script"] (defScope s_law) := ⟨rfl, rfl, rfl, by decide +kernel, rfl, by decide +kernel, by decide +kernel⟩
def m_law72 (script' : List Int) : Option Bool :=
  gd (rok (imax (1 : Int) (imin ((List.length script' : Nat) : Int) (6 : Int)))) ((lpx (fun (y_21 : Int) => fun (s_24 : Unit) => ((m__law_deck script' y_21).bind fun y_37 => ((m__law_draw 8 y_37 (81 : Int)).bind fun z_55 => (fun (y_52 : Int) (y_53 : List Int) => (gd (rok y_52) (gd (List.length (rng (0 : Int) y_52) < BIG) ((lcs (fun (y_85 : Int) => fun (s_118 : (List Int)) => (fun (xs_75 : (List Int)) => (m__law_integer xs_75).bind fun z_105 => (fun (y_102 : Int) (y_103 : List Int) => (some (some y_102, (y_103)))) z_105.1 z_105.2) s_118) (rng (0 : Int) y_52) (y_53)).bind fun z_119 => (fun (xs_72 : List Int) (xs_75 : (List Int)) => (gd (List.length xs_72 < BIG) ((lcm (fun (y_141 : Int) => gd (0 < ((10 : Int) ^ ((9 : Int)).toNat)) (some ((1 : Int) + (y_141 % ((10 : Int) ^ ((9 : Int)).toNat))))) xs_72).bind fun xs_131 => ((m_show_colours xs_131).bind fun y_173 => ((pOr (!true) ((m__law_text72 xs_131).bind fun y_182 => ((pOr (!(decide (y_173 = y_182))) ((m__law_same_list xs_131 xs_131).bind fun y_189 => (some (!y_189)))).bind fun b_197 => (some b_197)))).bind fun b_205 => (if b_205 then (some (Out.rt false)) else ((lpx (fun (y_240 : (List Int)) => fun (s_243 : ((List Int))) => ((fun (xs_233 : (List Int)) => (m__law_text72 y_240).bind fun y_259 => ((m_read_colours y_259).bind fun z_269 => exo z_269 (fun (e_270 : Er) => none) (fun (y_271 : (List Int)) => ((m__law_same_list y_271 y_240).bind fun y_296 => (if (!y_296) then (some (Out.rt false)) else ((m__law_goes_on xs_233 y_271 y_240).bind fun z_311 => (fun (y_308 : Bool) (y_309 : List Int) => (if (!y_308) then (some (Out.rt false)) else (gd (List.length y_271 < BIG) ((m__law_text72 y_240).bind fun y_332 => ((m_read_colours y_332).bind fun z_338 => exo z_338 (fun (e_339 : Er) => none) (fun (y_340 : (List Int)) => ((m__law_same_list y_340 y_240).bind fun y_363 => (if (!y_363) then (some (Out.rt false)) else (some (Out.nx (y_309))))))))))) z_311.1 z_311.2)))))) s_243 : Option (Out ((List Int)) Bool))) ([xs_131, xs_72] : List (List Int)) (xs_75)).bind fun o_237 => Out.fin o_237 (fun (s_495 : ((List Int))) => (fun (xs_233 : (List Int)) => ((m__law_draw 8 xs_233 (((List.length xs_72 : Nat) : Int) + (1 : Int))).bind fun z_382 => (fun (y_379 : Int) (y_380 : List Int) => ((m__law_draw 8 y_380 ((9 : Int) * ((10 : Int) ^ ((30 : Int)).toNat))).bind fun z_395 => (fun (y_392 : Int) (y_393 : List Int) => (lt ((((10 : Int) ^ ((30 : Int)).toNat) + y_392) : Int) fun x_403 => ((lpx (fun (y_419 : Int) => fun (s_422 : Unit) => (gd (List.length (cutL xs_72 none (some y_379)) + List.length ([y_419] : List Int) < BIG) (gd (List.length ((cutL xs_72 none (some y_379)) ++ ([y_419] : List Int)) + List.length (cutL xs_72 (some y_379) none) < BIG) ((m__law_text72 (((cutL xs_72 none (some y_379)) ++ ([y_419] : List Int)) ++ (cutL xs_72 (some y_379) none))).bind fun y_471 => ((m__law_refuses72 y_471).bind fun y_477 => (if (!y_477) then (some (Out.rt false)) else (some (Out.nx ())))))) : Option (Out Unit Bool))) ([(0 : Int), ((10 : Int) ^ ((30 : Int)).toNat), x_403] : List Int) ()).bind fun o_416 => Out.fin o_416 (fun (s_493 : Unit) => (some (Out.nx ()))) (fun r_494 => some (Out.rt r_494))))) z_395.1 z_395.2)) z_382.1 z_382.2)) s_495) (fun r_496 => some (Out.rt r_496))))))))) z_119.1 z_119.2)))) z_55.1 z_55.2) : Option (Out Unit Bool))) (rng (0 : Int) (imax (1 : Int) (imin ((List.length script' : Nat) : Int) (6 : Int)))) ()).bind fun o_18 => Out.fin o_18 (fun (s_500 : Unit) => (some true)) (fun r_501 => some r_501))
def sp_law72 (K : PySem.W.Frag) : Sp := fun vs H Q _ => ∃ (G : Hp) (a_1 : Addr) (script' : List Int) (r : Bool), vs = [.ref a_1] ∧ Ex G H ∧ SqL K H a_1 (script'.map V.int) ∧ m_law72 script' = some r ∧ ∀ (G' H' : Hp), Stp [] G G' H H' → Q (.bl r) H'
theorem ok_law72 (T : Env K mg) : FnOk P w K mg base CX0 206 T.f_law T.d_law ["script"] (sp_law72 K) := by
  refine T.F_law.ok sc_law72 (fun vs H Q E h => ?_) (fun cdv A outer s H0 vs Q E hr h => ?_)
  · obtain ⟨G0, a_1, script', r, rfl, _⟩ := h
    rfl
  · obtain ⟨G0, a_1, script', r, rfl, hG0, sq_2, hm, k⟩ := h
    have hu := hr.units
    have hu65 := hu65 hr
    have c0 := Cf.start hG0
    unfold m_law72 at hm
    refine ⟨_, (pss_cons (ps_for PassesOwn.never rfl (pi_range1 (by rfl) T.n_range (pa_cons (pe_callB (call_maxI rfl) (by rfl) T.n_max bt_max (pa_cons pe_int (pa_cons (pe_callB (call_minI rfl) (by rfl) T.n_min bt_min (pa_cons (pe_callB (call_lenSc (K := K) rfl) (by rfl) T.n_len bt_len (pa_cons (pv 0) pa_nil)) (pa_cons pe_int pa_nil))) pa_nil))) pa_nil)) (pg_name (i := 1) sc_law72.nd rfl (by first | exact Or.inl rfl | exact Or.inr rfl)) (pss_cons (ps_set (i := 2) sc_law72.nd rfl (by first | exact Or.inl rfl | exact Or.inr rfl) (pe_call (ok__law_deck T) (hr.mono (by decide)) (by rfl) T.g__law_deck T.F__law_deck.kp T.b__law_deck .nil pass0 (pa_cons (pv 0) (pa_cons (pv 1) pa_nil))))
      (pss_cons (ps_setLc (i := 4) (own := [("k", 3)]) (g := gName 3) (tt := tYes)  rfl sc_law72.nd rfl rfl (sw_true rfl rfl rfl (by decide +kernel)) (pi_range1 (by rfl) T.n_range (pa_cons (pe_call (ok__law_draw T 8) (hr.mono (by decide)) (by rfl) T.g__law_draw T.F__law_draw.kp T.b__law_draw .nil pass0 (pa_cons (pv 2) (pa_cons pe_int pa_nil))) pa_nil)) (blkOk_by (own := [("k", 3)]) (N := ["script", "at", "deck", "k", "row", "number", "small", "held", "told", "due", "back", "place", "great"]) (sc := defScope s_law) (by decide +kernel)) (fun _ _ _ _ _ => (pg_name (i := 3) sc_law72.nd rfl (by first | exact Or.inl rfl | exact Or.inr rfl))) (fun _ _ _ _ _ => pts_nil) (fun _ _ _ _ _ => (pe_call (ok__law_integer T) (hr.mono (by decide)) (by rfl) T.g__law_integer T.F__law_integer.kp T.b__law_integer .nil pass0 (pa_cons (pv 2) pa_nil))))
      (pss_cons (ps_setLc (i := 6) (own := [("number", 5)]) (g := gName 5) (tt := tYes)  rfl sc_law72.nd rfl rfl (sw_true rfl rfl rfl (by decide +kernel)) (pi_list (pv 4)) (blkOk_by (own := [("number", 5)]) (N := ["script", "at", "deck", "k", "row", "number", "small", "held", "told", "due", "back", "place", "great"]) (sc := defScope s_law) (by decide +kernel)) (fun _ _ _ _ _ => (pg_name (i := 5) sc_law72.nd rfl (by first | exact Or.inl rfl | exact Or.inr rfl))) (fun _ _ _ _ _ => pts_nil) (fun _ _ _ _ _ => (pe_op op_add pe_int (pe_op op_mod (pe_callTy call_intI (by rfl) T.n_int bt_int (pa_cons (pv 5) pa_nil)) (pe_op op_pow pe_int pe_int)))))
      (pss_cons (ps_set (i := 7) sc_law72.nd rfl (by first | exact Or.inl rfl | exact Or.inr rfl) (pe_callTy call_listL (by rfl) T.n_list bt_list (pa_cons (pv 6) pa_nil)))
      (pss_cons (ps_set (i := 8) sc_law72.nd rfl (by first | exact Or.inl rfl | exact Or.inr rfl) (pe_call (ok_show_colours T) (hr.mono (by decide)) (by rfl) T.g_show_colours T.F_show_colours.kp T.b_show_colours .nil pass0 (pa_cons (pv 6) pa_nil)))
      (pss_cons (ps_if (PW.pt (pw_or (pt_not (pt_val (pe_callB (call_is (K := K) rfl) (by rfl) T.n_isinstance bt_isi (pa_cons (pv 8) (pa_cons (pe_bltn (v := .ty "str") (by rfl) T.n_str bt_str rfl) pa_nil))))) (pw_or (pt_cmpR op_neS (pv 8) (pe_call (ok__law_text72 T) (hr.mono (by decide)) (by rfl) T.g__law_text T.F__law_text.kp T.b__law_text .nil pass0 (pa_cons (pv 7) pa_nil)) (nomark _)) (pw_or1 (pt_not (pt_val (pe_call (ok__law_same_list T) (hr.mono (by decide)) (by rfl) T.g__law_same_list T.F__law_same_list.kp T.b__law_same_list .nil pass0 (pa_cons (pv 6) (pa_cons (pv 7) pa_nil))))))))) (pss_one (ps_ret pe_bl)) pss_nil)
      (pss_cons (ps_for PassesOwn.never rfl (pi_list (pe_lst (pa_cons (pv 7) (pa_cons (pv 4) pa_nil)))) (pg_name (i := 9) sc_law72.nd rfl (by first | exact Or.inl rfl | exact Or.inr rfl)) (pss_cons (ps_set (i := 10) sc_law72.nd rfl (by first | exact Or.inl rfl | exact Or.inr rfl) (pe_callS (ok_read_colours T) (hr.mono (by decide)) (by rfl) T.g_read_colours T.F_read_colours.kp T.b_read_colours (fun σ => passAt takes0 σ) (pa_cons (pe_call (ok__law_text72 T) (hr.mono (by decide)) (by rfl) T.g__law_text T.F__law_text.kp T.b__law_text .nil pass0 (pa_cons (pv 9) pa_nil)) pa_nil)))
      (pss_cons (ps_if (pt_not (pt_val (pe_call (ok__law_same_list T) (hr.mono (by decide)) (by rfl) T.g__law_same_list T.F__law_same_list.kp T.b__law_same_list .nil pass0 (pa_cons (pv 10) (pa_cons (pv 9) pa_nil))))) (pss_one (ps_ret pe_bl)) pss_nil)
      (pss_cons (ps_if (pt_not (pt_val (pe_call (ok__law_goes_on T) (hr.mono (by decide)) (by rfl) T.g__law_goes_on T.F__law_goes_on.kp T.b__law_goes_on .nil pass0 (pa_cons (pv 2) (pa_cons (pv 10) (pa_cons (pv 9) pa_nil)))))) (pss_one (ps_ret pe_bl)) pss_nil)
      (pss_cons (ps_expr (pe_bm PySem.F.plainAttrs_list PySem.F.slot_list_append PySem.F.type_list_append mt_append (pv 10) (pa_cons pe_int pa_nil)))
      (pss_one (ps_if (pt_not (pt_val (pe_call (ok__law_same_list T) (hr.mono (by decide)) (by rfl) T.g__law_same_list T.F__law_same_list.kp T.b__law_same_list .nil pass0 (pa_cons (pe_callS (ok_read_colours T) (hr.mono (by decide)) (by rfl) T.g_read_colours T.F_read_colours.kp T.b_read_colours (fun σ => passAt takes0 σ) (pa_cons (pe_call (ok__law_text72 T) (hr.mono (by decide)) (by rfl) T.g__law_text T.F__law_text.kp T.b__law_text .nil pass0 (pa_cons (pv 9) pa_nil)) pa_nil)) (pa_cons (pv 9) pa_nil))))) (pss_one (ps_ret pe_bl)) pss_nil)))))))
      (pss_cons (ps_set (i := 11) sc_law72.nd rfl (by first | exact Or.inl rfl | exact Or.inr rfl) (pe_call (ok__law_draw T 8) (hr.mono (by decide)) (by rfl) T.g__law_draw T.F__law_draw.kp T.b__law_draw .nil pass0 (pa_cons (pv 2) (pa_cons (pe_op op_add (pe_callB call_lenL (by rfl) T.n_len bt_len (pa_cons (pv 4) pa_nil)) pe_int) pa_nil))))
      (pss_cons (ps_set (i := 12) sc_law72.nd rfl (by first | exact Or.inl rfl | exact Or.inr rfl) (pe_op op_add (pe_op op_pow pe_int pe_int) (pe_call (ok__law_draw T 8) (hr.mono (by decide)) (by rfl) T.g__law_draw T.F__law_draw.kp T.b__law_draw .nil pass0 (pa_cons (pv 2) (pa_cons (pe_op op_mul pe_int (pe_op op_pow pe_int pe_int)) pa_nil)))))
      (pss_one (ps_for PassesOwn.never rfl (pi_list (pe_lst (pa_cons pe_int (pa_cons (pe_op op_pow pe_int pe_int) (pa_cons (pv 12) pa_nil))))) (pg_name (i := 5) sc_law72.nd rfl (by first | exact Or.inl rfl | exact Or.inr rfl)) (pss_one (ps_if (pt_not (pt_val (pe_call (ok__law_refuses72 T) (hr.mono (by decide)) (by rfl) T.g__law_refuses T.F__law_refuses.kp T.b__law_refuses .nil pass0 (pa_cons (pe_call (ok__law_text72 T) (hr.mono (by decide)) (by rfl) T.g__law_text T.F__law_text.kp T.b__law_text .nil pass0 (pa_cons (pe_op op_cat (pe_op op_cat (pe_slice (sl_l (K := K) rfl) (pv 4) po_none (po_some (pv 11))) (pe_lst (pa_cons (pv 5) pa_nil))) (pe_slice (sl_l (K := K) rfl) (pv 4) (po_some (pv 11)) po_none)) pa_nil)) pa_nil)))) (pss_one (ps_ret pe_bl)) pss_nil))))))))))))))
      (pss_one (ps_ret pe_bl))), ?_⟩
    obtain ⟨hg_3, hm⟩ := gdp hm
    refine ⟨_, rfl, _, _, rfl, (sc_at sq_2 c0), _, _, rfl, _, _, rfl, _, rfl, hg_3.1, hg_3.2, ?_⟩
    obtain ⟨o_18, ho_19, hm⟩ := bs hm
    refine for_w walk_range (rng (0 : Int) (imax (1 : Int) (imin ((List.length script' : Nat) : Int) (6 : Int)))) (by rw [rng_len]; omega) (fun l_20 σ_22 H_23 => ∃ (G_4 : Hp) (o_7 : Option V) (o_8 : Option V) (o_9 : Option V) (o_10 : Option V) (o_11 : Option V) (o_12 : Option V) (o_13 : Option V) (o_14 : Option V) (o_15 : Option V) (o_16 : Option V) (o_17 : Option V), σ_22 = [(some (.ref a_1)), o_7, o_8, none, o_9, o_10, o_11, o_12, o_13, o_14, o_15, o_16, o_17] ∧ Ex G0 G_4 ∧ Cf [] H0 G0 G_4 [] H_23 ∧ lpx (fun (y_21 : Int) => fun (s_24 : Unit) => ((m__law_deck script' y_21).bind fun y_37 => ((m__law_draw 8 y_37 (81 : Int)).bind fun z_55 => (fun (y_52 : Int) (y_53 : List Int) => (gd (rok y_52) (gd (List.length (rng (0 : Int) y_52) < BIG) ((lcs (fun (y_85 : Int) => fun (s_118 : (List Int)) => (fun (xs_75 : (List Int)) => (m__law_integer xs_75).bind fun z_105 => (fun (y_102 : Int) (y_103 : List Int) => (some (some y_102, (y_103)))) z_105.1 z_105.2) s_118) (rng (0 : Int) y_52) (y_53)).bind fun z_119 => (fun (xs_72 : List Int) (xs_75 : (List Int)) => (gd (List.length xs_72 < BIG) ((lcm (fun (y_141 : Int) => gd (0 < ((10 : Int) ^ ((9 : Int)).toNat)) (some ((1 : Int) + (y_141 % ((10 : Int) ^ ((9 : Int)).toNat))))) xs_72).bind fun xs_131 => ((m_show_colours xs_131).bind fun y_173 => ((pOr (!true) ((m__law_text72 xs_131).bind fun y_182 => ((pOr (!(decide (y_173 = y_182))) ((m__law_same_list xs_131 xs_131).bind fun y_189 => (some (!y_189)))).bind fun b_197 => (some b_197)))).bind fun b_205 => (if b_205 then (some (Out.rt false)) else ((lpx (fun (y_240 : (List Int)) => fun (s_243 : ((List Int))) => ((fun (xs_233 : (List Int)) => (m__law_text72 y_240).bind fun y_259 => ((m_read_colours y_259).bind fun z_269 => exo z_269 (fun (e_270 : Er) => none) (fun (y_271 : (List Int)) => ((m__law_same_list y_271 y_240).bind fun y_296 => (if (!y_296) then (some (Out.rt false)) else ((m__law_goes_on xs_233 y_271 y_240).bind fun z_311 => (fun (y_308 : Bool) (y_309 : List Int) => (if (!y_308) then (some (Out.rt false)) else (gd (List.length y_271 < BIG) ((m__law_text72 y_240).bind fun y_332 => ((m_read_colours y_332).bind fun z_338 => exo z_338 (fun (e_339 : Er) => none) (fun (y_340 : (List Int)) => ((m__law_same_list y_340 y_240).bind fun y_363 => (if (!y_363) then (some (Out.rt false)) else (some (Out.nx (y_309))))))))))) z_311.1 z_311.2)))))) s_243 : Option (Out ((List Int)) Bool))) ([xs_131, xs_72] : List (List Int)) (xs_75)).bind fun o_237 => Out.fin o_237 (fun (s_495 : ((List Int))) => (fun (xs_233 : (List Int)) => ((m__law_draw 8 xs_233 (((List.length xs_72 : Nat) : Int) + (1 : Int))).bind fun z_382 => (fun (y_379 : Int) (y_380 : List Int) => ((m__law_draw 8 y_380 ((9 : Int) * ((10 : Int) ^ ((30 : Int)).toNat))).bind fun z_395 => (fun (y_392 : Int) (y_393 : List Int) => (lt ((((10 : Int) ^ ((30 : Int)).toNat) + y_392) : Int) fun x_403 => ((lpx (fun (y_419 : Int) => fun (s_422 : Unit) => (gd (List.length (cutL xs_72 none (some y_379)) + List.length ([y_419] : List Int) < BIG) (gd (List.length ((cutL xs_72 none (some y_379)) ++ ([y_419] : List Int)) + List.length (cutL xs_72 (some y_379) none) < BIG) ((m__law_text72 (((cutL xs_72 none (some y_379)) ++ ([y_419] : List Int)) ++ (cutL xs_72 (some y_379) none))).bind fun y_471 => ((m__law_refuses72 y_471).bind fun y_477 => (if (!y_477) then (some (Out.rt false)) else (some (Out.nx ())))))) : Option (Out Unit Bool))) ([(0 : Int), ((10 : Int) ^ ((30 : Int)).toNat), x_403] : List Int) ()).bind fun o_416 => Out.fin o_416 (fun (s_493 : Unit) => (some (Out.nx ()))) (fun r_494 => some (Out.rt r_494))))) z_395.1 z_395.2)) z_382.1 z_382.2)) s_495) (fun r_496 => some (Out.rt r_496))))))))) z_119.1 z_119.2)))) z_55.1 z_55.2) : Option (Out Unit Bool))) l_20 () = some o_18)
      ⟨G0, none, none, none, none, none, none, none, none, none, none, none, rfl, Ex.refl _, c0, ho_19⟩
      (fun l_20 σ_22 H_23 hI => by
        obtain ⟨G_4, o_7, o_8, o_9, o_10, o_11, o_12, o_13, o_14, o_15, o_16, o_17, rfl, eg_5, c_6, ho_19⟩ := hI
        exact True.intro)
      (fun i_30 y_21 l_20 σ_22 H_23 v_27 H_31 hx_28 hI hy_29 => ?_) (fun σ_22 H_23 hI => ?_)
    · obtain ⟨G_4, o_7, o_8, o_9, o_10, o_11, o_12, o_13, o_14, o_15, o_16, o_17, rfl, eg_5, c_6, ho_19⟩ := hI
      obtain ⟨so_32, hf_25, hgo_26⟩ := lpx_cons ho_19
      try dsimp only at hf_25
      obtain ⟨rfl, hv_33⟩ := hy_29
      obtain rfl : v_27 = .int y_21 := hv_33.trans (congrArg V.int (rng_get hx_28).symm)
      refine q_asg_opq (fun Q_35 kk_36 => ?_)
      obtain ⟨y_37, hb_38, hf_25⟩ := bs hf_25
      refine ⟨_, rfl, _, rfl, G_4, a_1, script', y_21, y_37, rfl, c_6.gh, (sc_at sq_2 c_6), hb_38, fun p_43 vs_44 G_39 H_40 sp_41 np_45 gp_46 hp_47 al_48 => ?_⟩
      have c_42 := c_6.callO sp_41 np_45 gp_46 hp_47
      refine kk_36 _ _ ?_
      refine q_asg_opq (fun Q_50 kk_51 => ?_)
      obtain ⟨⟨y_52, y_53⟩, hb_54, hf_25⟩ := bs hf_25
      dsimp only at hf_25
      refine ⟨_, rfl, G_39, p_43, vs_44, y_37, (81 : Int), (y_52, y_53), rfl, c_42.gh, c_42.hd, c_42.hdg, al_48, hb_54, fun G_56 H_57 sp_58 vs_60 hs_61 al_62 => ?_⟩
      have c_59 := c_42.call1 sp_58 hs_61
      obtain ⟨hg_63, hf_25⟩ := gdp hf_25
      obtain ⟨hg_64, hf_25⟩ := gdp hf_25
      refine ⟨_, rfl, hg_63.1, hg_63.2, fun D_65 nD_66 => ?_⟩
      have c_67 := c_59.newO nD_66 (.lst [])
      obtain ⟨⟨out_77, xs_120⟩, hb_78, hf_25⟩ := bs hf_25
      dsimp only at hf_25
      refine lc_w walk_range (rng (0 : Int) y_52) (by rw [rng_len]; omega) (fun l_84 H_86 => ∃ (G_68 : Hp) (vs_71 : List V) (xs_72 : (List Int)) (vs_74 : List V) (xs_75 : (List Int)), Ex G_56 G_68 ∧ Cf [] H0 G0 G_68 [(D_65, (.lst vs_71)), (p_43, (.lst vs_74))] H_86 ∧ AL rI G_68 vs_71 xs_72 ∧ AL rI G_68 vs_74 xs_75 ∧ List.length xs_72 + List.length l_84 < BIG ∧ ∃ rest_80, lcs (fun (y_85 : Int) => fun (s_118 : (List Int)) => (fun (xs_75 : (List Int)) => (m__law_integer xs_75).bind fun z_105 => (fun (y_102 : Int) (y_103 : List Int) => (some (some y_102, (y_103)))) z_105.1 z_105.2) s_118) l_84 (xs_75) = some (rest_80, (xs_120)) ∧ xs_72 ++ rest_80 = out_77)
        ⟨G_56, [], ([] : List Int), vs_60, y_53, Ex.refl _, c_67, A2.nil, al_62, ⟨by simpa using hg_64, out_77, hb_78, rfl⟩⟩
        (fun l_84 H_86 hI => by
          obtain ⟨G_68, vs_71, xs_72, vs_74, xs_75, eg_69, c_70, al_73, al_76, ⟨hlen_83, rest_80, hf_81, hout_82⟩⟩ := hI
          exact True.intro)
        (fun i_88 y_85 l_84 H_86 v_89 H_92 hx_90 hI hy_91 => ?_) (fun H_86 hI => ?_)
      · obtain ⟨G_68, vs_71, xs_72, vs_74, xs_75, eg_69, c_70, al_73, al_76, ⟨hlen_83, rest_80, hf_81, hout_82⟩⟩ := hI
        obtain ⟨z_93, so_97, rest_94, hq_87, hf_95, ho_96⟩ := lcs_cons hf_81
        dsimp only at ho_96
        try dsimp only at hq_87
        obtain ⟨rfl, hv_98⟩ := hy_91
        obtain rfl : v_89 = .int y_85 := hv_98.trans (congrArg V.int (rng_get hx_90).symm)
        refine ⟨rfl, ?_⟩
        refine yes_q ?_
        refine opqV (fun Q_99 kk_100 => ?_)
        have c_101 : Cf [] H0 G0 G_68 [(p_43, (.lst vs_74)), (D_65, (.lst vs_71))] H_92 := c_70.front 1 rfl
        obtain ⟨⟨y_102, y_103⟩, hb_104, hq_87⟩ := bs hq_87
        dsimp only at hq_87
        refine ⟨_, rfl, G_68, p_43, vs_74, xs_75, (y_102, y_103), rfl, c_101.gh, c_101.hd, c_101.hdg, al_76, hb_104, fun G_106 H_107 sp_108 vs_110 hs_111 al_112 => ?_⟩
        have c_109 := c_101.call1 sp_108 hs_111
        refine kk_100 _ _ ?_
        have c_113 : Cf [] H0 G0 G_106 [(D_65, (.lst vs_71)), (p_43, (.lst vs_110))] H_107 := c_109.front 1 rfl
        refine ⟨_, c_113.hd, big_lt (by have h9 := hlen_83; have h8 := A2.len (AL.mono sp_108.gg al_73); simp only [List.length_cons] at h9; omega), ?_⟩
        obtain ⟨vs_114, hvs, al_115⟩ : ∃ vs9, vs9 = (vs_71 ++ [(.int y_102)]) ∧ AL rI G_106 vs9 (xs_72 ++ [y_102]) := ⟨_, rfl, (A2.app (AL.mono sp_108.gg al_73) (A2.one rfl))⟩
        rw [← hvs]
        clear hvs
        have c_116 := c_113.mut (.lst vs_114)
        generalize hh : upd H_107 D_65 (.lst vs_114) = H_117 at c_116 ⊢
        clear hh
        obtain ⟨rfl, rfl⟩ := Prod.mk.inj (some_in hq_87)
        exact ⟨G_106, vs_114, (xs_72 ++ [y_102]), vs_110, y_103, (eg_69.trans sp_108.gg), c_116, al_115, al_112, ⟨by have h9 := hlen_83; simp only [List.length_append, List.length_cons, List.length_nil] at h9 ⊢; first | done | omega, rest_94, hf_95, by rw [← hout_82, ho_96]; first | done | simp⟩⟩
      obtain ⟨G_68, vs_71, xs_72, vs_74, xs_75, eg_69, c_70, al_73, al_76, ⟨hlen_83, rest_80, hf_81, hout_82⟩⟩ := hI
      obtain ⟨rfl, rfl⟩ := Prod.mk.inj (some_in hf_81)
      rw [List.append_nil] at hout_82
      subst hout_82
      refine kk_51 _ _ ?_
      refine q_asg_opq (fun Q_121 kk_122 => ?_)
      obtain ⟨hg_123, hf_25⟩ := gdp hf_25
      refine ⟨_, rfl, _, rfl, ⟨_, SqL.of (c_70.get 0 rfl)⟩, fun D_124 nD_125 => ?_⟩
      have c_126 := c_70.newO nD_125 (.lst [])
      obtain ⟨out_133, hb_134, hf_25⟩ := bs hf_25
      refine lc_w (walk_list (xs := vs_71)) xs_72 (A2.len al_73) (fun l_140 H_142 => ∃ (G_127 : Hp) (vs_130 : List V) (xs_131 : (List Int)), Ex G_68 G_127 ∧ Cf [] H0 G0 G_127 [(D_124, (.lst vs_130)), (D_65, (.lst vs_71)), (p_43, (.lst vs_74))] H_142 ∧ AL rI G_127 vs_130 xs_131 ∧ List.length xs_131 + List.length l_140 < BIG ∧ ∃ rest_136, lcm (fun (y_141 : Int) => gd (0 < ((10 : Int) ^ ((9 : Int)).toNat)) (some ((1 : Int) + (y_141 % ((10 : Int) ^ ((9 : Int)).toNat))))) l_140 = some rest_136 ∧ xs_131 ++ rest_136 = out_133)
        ⟨G_68, [], ([] : List Int), Ex.refl _, c_126, A2.nil, ⟨by simpa using hg_123, out_133, hb_134, rfl⟩⟩
        (fun l_140 H_142 hI => by
          obtain ⟨G_127, vs_130, xs_131, eg_128, c_129, al_132, ⟨hlen_139, rest_136, hf_137, hout_138⟩⟩ := hI
          exact (SqL.of (c_129.get 1 rfl)))
        (fun i_144 y_141 l_140 H_142 v_145 H_148 hx_146 hI hy_147 => ?_) (fun H_142 hI => ?_)
      · obtain ⟨G_127, vs_130, xs_131, eg_128, c_129, al_132, ⟨hlen_139, rest_136, hf_137, hout_138⟩⟩ := hI
        obtain ⟨z_149, rest_150, hq_143, hf_151, ho_152⟩ := lcm_cons hf_137
        try dsimp only at hq_143
        obtain ⟨rfl, hv_154⟩ := hy_147
        obtain ⟨v_155, hv_156, rv_157⟩ := A2.get al_73 hx_146
        obtain rfl := Option.some.inj (hv_154.symm.trans hv_156)
        obtain rfl := (show v_145 = (.int y_141) from rv_157)
        refine ⟨rfl, ?_⟩
        refine yes_q ?_
        refine opqV (fun Q_158 kk_159 => ?_)
        obtain ⟨hg_160, hq_143⟩ := gdp hq_143
        refine ⟨_, rfl, _, rfl, _, _, rfl, rfl, ⟨by decide, by decide, by decide⟩, _, _, rfl, rfl, hg_160, _, _, rfl, rfl, ?_⟩
        refine kk_159 _ _ ?_
        refine ⟨_, c_129.hd, big_lt (by have h9 := hlen_139; have h8 := A2.len al_132; simp only [List.length_cons] at h9; omega), ?_⟩
        obtain ⟨vs_161, hvs, al_162⟩ : ∃ vs9, vs9 = (vs_130 ++ [(.int ((1 : Int) + (y_141 % ((10 : Int) ^ ((9 : Int)).toNat))))]) ∧ AL rI G_127 vs9 (xs_131 ++ [((1 : Int) + (y_141 % ((10 : Int) ^ ((9 : Int)).toNat)))]) := ⟨_, rfl, (A2.app al_132 (A2.one rfl))⟩
        rw [← hvs]
        clear hvs
        have c_163 := c_129.mut (.lst vs_161)
        generalize hh : upd H_148 D_124 (.lst vs_161) = H_164 at c_163 ⊢
        clear hh
        obtain rfl := some_in hq_143
        exact ⟨G_127, vs_161, (xs_131 ++ [((1 : Int) + (y_141 % ((10 : Int) ^ ((9 : Int)).toNat)))]), eg_128, c_163, al_162, ⟨by have h9 := hlen_139; simp only [List.length_append, List.length_cons, List.length_nil] at h9 ⊢; first | done | omega, rest_150, hf_151, by rw [← hout_138, ho_152]; first | done | simp⟩⟩
      obtain ⟨G_127, vs_130, xs_131, eg_128, c_129, al_132, ⟨hlen_139, rest_136, hf_137, hout_138⟩⟩ := hI
      obtain rfl := some_in hf_137
      rw [List.append_nil] at hout_138
      subst hout_138
      refine kk_122 _ _ ?_
      refine q_asg_opq (fun Q_165 kk_166 => ?_)
      refine ⟨_, rfl, _, _, rfl, (c_129.get 0 rfl), fun p_167 np_168 => ?_⟩
      have c_169 := c_129.newO np_168 (.lst vs_130)
      generalize hh : upd H_142 p_167 (.lst vs_130) = H_170 at c_169 ⊢
      clear hh
      refine kk_166 _ _ ?_
      refine q_asg_opq (fun Q_171 kk_172 => ?_)
      obtain ⟨y_173, hb_174, hf_25⟩ := bs hf_25
      refine ⟨_, rfl, G_127, D_124, vs_130, xs_131, y_173, rfl, c_169.gh, (SqB.of (c_169.get 1 rfl)), al_132, hb_174, fun G_175 H_176 sp_177 => ?_⟩
      have c_178 := c_169.call sp_177
      refine kk_172 _ _ ?_
      refine q_if_opq (fun Q_179 kk_180 => ?_)
      refine ⟨_, rfl, _, _, _, _, _, rfl, .ty _, ty_s, k_ss, _, rfl, ?_⟩
      obtain ⟨b_205, hb_206, hf_25⟩ := bs hf_25
      refine or_h hb_206 (R := (fun H9 => ∃ G9, Ex G_175 G9 ∧ Cf [] H0 G0 G9 [(p_167, (.lst vs_130)), (D_124, (.lst vs_130)), (D_65, (.lst vs_71)), (p_43, (.lst vs_74))] H9)) (fun ha_204 hq_181 q_203 => ?_) ⟨_, Ex.refl _, c_178⟩ ?_
      · skip
        obtain ⟨y_182, hb_183, hq_181⟩ := bs hq_181
        refine ⟨_, rfl, _, rfl, G_175, p_167, vs_130, xs_131, y_182, rfl, c_178.gh, (SqB.of (c_178.get 0 rfl)), (AL.mono sp_177.gg al_132), hb_183, fun G_184 H_185 sp_186 => ?_⟩
        have c_187 := c_178.call sp_186
        refine ⟨_, _, rfl, rfl, _, rfl, ?_⟩
        obtain ⟨b_197, hb_198, hq_181⟩ := bs hq_181
        refine or_h hb_198 (R := (fun H9 => ∃ G9, Ex G_184 G9 ∧ Cf [] H0 G0 G9 [(p_167, (.lst vs_130)), (D_124, (.lst vs_130)), (D_65, (.lst vs_71)), (p_43, (.lst vs_74))] H9)) (fun ha_196 hq_188 q_195 => ?_) ⟨_, Ex.refl _, c_187⟩ ?_
        · skip
          obtain ⟨y_189, hb_190, hq_188⟩ := bs hq_188
          refine ⟨_, rfl, _, rfl, G_184, D_124, vs_130, xs_131, p_167, vs_130, xs_131, y_189, rfl, c_187.gh, (SqB.of (c_187.get 1 rfl)), (AL.mono (sp_177.gg.trans sp_186.gg) al_132), (SqB.of (c_187.get 0 rfl)), (AL.mono (sp_177.gg.trans sp_186.gg) al_132), hb_190, fun G_191 H_192 sp_193 => ?_⟩
          have c_194 := c_187.call sp_193
          refine ⟨_, rfl, ?_⟩
          obtain rfl := some_in hq_188
          exact q_195 _ ⟨_, sp_193.gg, c_194⟩
        rintro H_200 ⟨G_199, eg_201, c_202⟩
        obtain rfl := some_in hq_181
        exact q_203 _ ⟨_, (sp_186.gg).trans eg_201, c_202⟩
      rintro H_208 ⟨G_207, eg_209, c_210⟩
      refine kk_180 _ _ ?_
      refine ite_m hf_25 (fun hc_211 hf_25 => ?_) (fun hc_211 hf_25 => ?_)
      · skip
        refine ret_opq (fun Q_212 kk_213 => ?_)
        refine kk_213 _ _ ?_
        obtain rfl := some_in hf_25
        obtain rfl := some_in hgo_26
        obtain rfl := some_in hm
        exact k G_207 H_208 c_210.stp
      · skip
        try dsimp only [tNext]
        have c_214 : Cf [] H0 G0 G_207 [(D_124, (.lst vs_130)), (p_167, (.lst vs_130)), (D_65, (.lst vs_71)), (p_43, (.lst vs_74))] H_208 := c_210.front 1 rfl
        have c_215 : Cf [] H0 G0 G_207 [(p_167, (.lst vs_130)), (D_65, (.lst vs_71)), (p_43, (.lst vs_74))] H_208 := c_214.drop
        obtain ⟨G_219, eg_217, sq_218, c_216⟩ : ∃ G9, Ex G_207 G9 ∧ G9 p_167 = some (.lst vs_130) ∧ Cf [] H0 G0 G9 [(D_65, (.lst vs_71)), (p_43, (.lst vs_74))] H_208 := ⟨_, freeze_ex c_215, upd_same, c_215.freeze (fun _ z => (nomatch z))⟩
        obtain ⟨G_223, eg_221, sq_222, c_220⟩ : ∃ G9, Ex G_219 G9 ∧ G9 D_65 = some (.lst vs_71) ∧ Cf [] H0 G0 G9 [(p_43, (.lst vs_74))] H_208 := ⟨_, freeze_ex c_216, upd_same, c_216.freeze (fun _ z => (nomatch z))⟩
        have al_226 : AL (rL rI) G_223 [(.ref p_167), (.ref D_65)] ([xs_131, xs_72] : List (List Int)) := (A2.cons ⟨p_167, vs_130, rfl, (eg_221 _ _ sq_218), (AL.mono (((sp_177.gg.trans eg_209).trans eg_217).trans eg_221) al_132)⟩ (A2.cons ⟨D_65, vs_71, rfl, sq_222, (AL.mono ((((eg_128.trans sp_177.gg).trans eg_209).trans eg_217).trans eg_221) al_73)⟩ A2.nil))
        refine ⟨_, rfl, _, rfl, (by show 2 ≤ sizeLine; decide), fun p_224 np_225 => ?_⟩
        have c_227 := c_220.newO np_225 (.lst [(.ref p_167), (.ref D_65)])
        generalize hh : upd H_208 p_224 (.lst [(.ref p_167), (.ref D_65)]) = H_228 at c_227 ⊢
        clear hh
        refine ⟨_, rfl, ⟨_, SqL.of (c_227.get 0 rfl)⟩, ?_⟩
        obtain ⟨o_237, ho_238, hf_25⟩ := bs hf_25
        refine for_w (walk_list (xs := [(.ref p_167), (.ref D_65)])) ([xs_131, xs_72] : List (List Int)) (A2.len al_226) (fun l_239 σ_241 H_242 => ∃ (G_229 : Hp) (vs_232 : List V) (xs_233 : (List Int)) (o_235 : Option V) (o_236 : Option V), σ_241 = [(some (.ref a_1)), (some (.int y_21)), (some (.ref p_43)), none, (some (.ref D_65)), o_10, (some (.ref D_124)), (some (.ref p_167)), (some (.str y_173)), o_235, o_236, o_16, o_17] ∧ Ex G_223 G_229 ∧ Cf [] H0 G0 G_229 [(p_224, (.lst [(.ref p_167), (.ref D_65)])), (p_43, (.lst vs_232))] H_242 ∧ AL rI G_229 vs_232 xs_233 ∧ lpx (fun (y_240 : (List Int)) => fun (s_243 : ((List Int))) => ((fun (xs_233 : (List Int)) => (m__law_text72 y_240).bind fun y_259 => ((m_read_colours y_259).bind fun z_269 => exo z_269 (fun (e_270 : Er) => none) (fun (y_271 : (List Int)) => ((m__law_same_list y_271 y_240).bind fun y_296 => (if (!y_296) then (some (Out.rt false)) else ((m__law_goes_on xs_233 y_271 y_240).bind fun z_311 => (fun (y_308 : Bool) (y_309 : List Int) => (if (!y_308) then (some (Out.rt false)) else (gd (List.length y_271 < BIG) ((m__law_text72 y_240).bind fun y_332 => ((m_read_colours y_332).bind fun z_338 => exo z_338 (fun (e_339 : Er) => none) (fun (y_340 : (List Int)) => ((m__law_same_list y_340 y_240).bind fun y_363 => (if (!y_363) then (some (Out.rt false)) else (some (Out.nx (y_309))))))))))) z_311.1 z_311.2)))))) s_243 : Option (Out ((List Int)) Bool))) l_239 (xs_233) = some o_237)
          ⟨G_223, vs_74, xs_75, o_14, o_15, rfl, Ex.refl _, c_227, (AL.mono ((((eg_128.trans sp_177.gg).trans eg_209).trans eg_217).trans eg_221) al_76), ho_238⟩
          (fun l_239 σ_241 H_242 hI => by
            obtain ⟨G_229, vs_232, xs_233, o_235, o_236, rfl, eg_230, c_231, al_234, ho_238⟩ := hI
            exact (SqL.of (c_231.get 0 rfl)))
          (fun i_249 y_240 l_239 σ_241 H_242 v_246 H_250 hx_247 hI hy_248 => ?_) (fun σ_241 H_242 hI => ?_)
        · obtain ⟨G_229, vs_232, xs_233, o_235, o_236, rfl, eg_230, c_231, al_234, ho_238⟩ := hI
          obtain ⟨so_251, hf_244, hgo_245⟩ := lpx_cons ho_238
          try dsimp only at hf_244
          obtain ⟨rfl, hv_252⟩ := hy_248
          obtain ⟨v_253, hv_254, rv_255⟩ := A2.get al_226 hx_247
          obtain rfl := Option.some.inj (hv_252.symm.trans hv_254)
          refine q_asg_opq (fun Q_257 kk_258 => ?_)
          obtain ⟨y_259, hb_260, hf_244⟩ := bs hf_244
          obtain ⟨a_261, vs_262, rfl, sq_263, al_264⟩ := ((rL rI).mono eg_230 rv_255)
          refine ⟨_, rfl, G_229, a_261, vs_262, y_240, y_259, rfl, c_231.gh, (SqB.of (c_231.gh _ _ sq_263)), al_264, hb_260, fun G_265 H_266 sp_267 => ?_⟩
          have c_268 := c_231.call sp_267
          obtain ⟨z_269, hb_272, hf_244⟩ := bs hf_244
          rcases z_269 with e_270 | y_271
          · skip
            dsimp only [exo] at hf_244
            refine ⟨G_265, y_259, (Except.error e_270), rfl, c_268.gh, hb_272, (fun _ z9 => nomatch z9), fun e_280 he8 G_273 H_274 cls_275 d_276 sp_277 hc_278 hf_279 => ?_⟩
            obtain rfl := Except.error.inj he8
            have c_281 := c_268.call sp_277
            have hf_282 := hf_279.up c_268
            cases hf_244
          dsimp only [exo] at hf_244
          refine ⟨G_265, y_259, (Except.ok y_271), rfl, c_268.gh, hb_272, fun r9 hr9 p_287 vs_288 G_283 H_284 sp_285 np_289 gp_290 hp_291 al_292 => ?_, (fun _ z9 => nomatch z9)⟩
          obtain rfl := Except.ok.inj hr9
          have c_286 := c_268.callO sp_285 np_289 gp_290 hp_291
          refine kk_258 _ _ ?_
          refine q_if_opq (fun Q_294 kk_295 => ?_)
          obtain ⟨y_296, hb_297, hf_244⟩ := bs hf_244
          refine ⟨_, rfl, _, rfl, G_283, p_287, vs_288, y_271, a_261, vs_262, y_240, y_296, rfl, c_286.gh, (SqB.of (c_286.get 0 rfl)), al_292, (SqB.of (c_286.gh _ _ ((sp_267.gg.trans sp_285.gg) _ _ sq_263))), (AL.mono (sp_267.gg.trans sp_285.gg) al_264), hb_297, fun G_298 H_299 sp_300 => ?_⟩
          have c_301 := c_286.call sp_300
          refine ⟨_, rfl, ?_⟩
          refine kk_295 _ _ ?_
          refine ite_m hf_244 (fun hc_302 hf_244 => ?_) (fun hc_302 hf_244 => ?_)
          · skip
            refine ret_opq (fun Q_303 kk_304 => ?_)
            refine kk_304 _ _ ?_
            obtain rfl := some_in hf_244
            obtain rfl := some_in hgo_245
            obtain rfl := some_in hf_25
            obtain rfl := some_in hgo_26
            obtain rfl := some_in hm
            exact k G_298 H_299 c_301.stp
          · skip
            try dsimp only [tNext]
            refine q_if_opq (fun Q_305 kk_306 => ?_)
            have c_307 : Cf [] H0 G0 G_298 [(p_43, (.lst vs_232)), (p_287, (.lst vs_288)), (p_224, (.lst [(.ref p_167), (.ref D_65)]))] H_299 := c_301.front 2 rfl
            obtain ⟨⟨y_308, y_309⟩, hb_310, hf_244⟩ := bs hf_244
            dsimp only at hf_244
            refine ⟨_, rfl, _, rfl, _, rfl, G_298, p_43, vs_232, xs_233, p_287, vs_288, y_271, a_261, vs_262, y_240, (y_308, y_309), rfl, c_307.gh, c_307.hd, c_307.hdg, (AL.mono ((sp_267.gg.trans sp_285.gg).trans sp_300.gg) al_234), ⟨(c_307.get 1 rfl), nin1 (c_307.ne (i := 1) (j := 0) rfl rfl (by decide))⟩, (AL.mono sp_300.gg al_292), (SqB.fix (((sp_267.gg.trans sp_285.gg).trans sp_300.gg) _ _ sq_263) c_307.gh (ng1 (c_307.ng 0 rfl))), (AL.mono ((sp_267.gg.trans sp_285.gg).trans sp_300.gg) al_264), hb_310, fun G_312 H_313 sp_314 vs_316 hs_317 al_318 => ?_⟩
            have c_315 := c_307.call1 sp_314 hs_317
            refine ⟨_, rfl, ?_⟩
            refine kk_306 _ _ ?_
            refine ite_m hf_244 (fun hc_319 hf_244 => ?_) (fun hc_319 hf_244 => ?_)
            · skip
              refine ret_opq (fun Q_320 kk_321 => ?_)
              refine kk_321 _ _ ?_
              obtain rfl := some_in hf_244
              obtain rfl := some_in hgo_245
              obtain rfl := some_in hf_25
              obtain rfl := some_in hgo_26
              obtain rfl := some_in hm
              exact k G_312 H_313 c_315.stp
            · skip
              try dsimp only [tNext]
              refine q_drop_opq (fun Q_322 kk_323 => ?_)
              obtain ⟨hg_324, hf_244⟩ := gdp hf_244
              have c_325 : Cf [] H0 G0 G_312 [(p_287, (.lst vs_288)), (p_43, (.lst vs_316)), (p_224, (.lst [(.ref p_167), (.ref D_65)]))] H_313 := c_315.front 1 rfl
              refine ⟨_, rfl, .inl ⟨rfl, _, SqL.of (c_315.get 1 rfl)⟩, _, _, _, rfl, rfl, c_325.hd, (by rw [A2.len (AL.mono (sp_300.gg.trans sp_314.gg) al_292)]; exact big_lt hg_324), ?_⟩
              obtain ⟨vs_326, hvs, al_327⟩ : ∃ vs9, vs9 = (vs_288 ++ [(.int (1 : Int))]) ∧ AL rI G_312 vs9 (y_271 ++ [(1 : Int)]) := ⟨_, rfl, (A2.app (AL.mono (sp_300.gg.trans sp_314.gg) al_292) (A2.one rfl))⟩
              rw [← hvs]
              clear hvs
              have c_328 := c_325.mut (.lst vs_326)
              generalize hh : upd H_313 p_287 (.lst vs_326) = H_329 at c_328 ⊢
              clear hh
              refine kk_323 _ _ ?_
              refine if_opq (fun Q_330 kk_331 => ?_)
              obtain ⟨y_332, hb_333, hf_244⟩ := bs hf_244
              refine ⟨_, rfl, G_312, a_261, vs_262, y_240, y_332, rfl, c_328.gh, (SqB.of (c_328.gh _ _ ((((sp_267.gg.trans sp_285.gg).trans sp_300.gg).trans sp_314.gg) _ _ sq_263))), (AL.mono (((sp_267.gg.trans sp_285.gg).trans sp_300.gg).trans sp_314.gg) al_264), hb_333, fun G_334 H_335 sp_336 => ?_⟩
              have c_337 := c_328.call sp_336
              obtain ⟨z_338, hb_341, hf_244⟩ := bs hf_244
              rcases z_338 with e_339 | y_340
              · skip
                dsimp only [exo] at hf_244
                refine ⟨G_334, y_332, (Except.error e_339), rfl, c_337.gh, hb_341, (fun _ z9 => nomatch z9), fun e_349 he8 G_342 H_343 cls_344 d_345 sp_346 hc_347 hf_348 => ?_⟩
                obtain rfl := Except.error.inj he8
                have c_350 := c_337.call sp_346
                have hf_351 := hf_348.up c_337
                cases hf_244
              dsimp only [exo] at hf_244
              refine ⟨G_334, y_332, (Except.ok y_340), rfl, c_337.gh, hb_341, fun r9 hr9 p_356 vs_357 G_352 H_353 sp_354 np_358 gp_359 hp_360 al_361 => ?_, (fun _ z9 => nomatch z9)⟩
              obtain rfl := Except.ok.inj hr9
              have c_355 := c_337.callO sp_354 np_358 gp_359 hp_360
              obtain ⟨y_363, hb_364, hf_244⟩ := bs hf_244
              refine ⟨_, rfl, G_352, p_356, vs_357, y_340, a_261, vs_262, y_240, y_363, rfl, c_355.gh, (SqB.of (c_355.get 0 rfl)), al_361, (SqB.of (c_355.gh _ _ ((((((sp_267.gg.trans sp_285.gg).trans sp_300.gg).trans sp_314.gg).trans sp_336.gg).trans sp_354.gg) _ _ sq_263))), (AL.mono (((((sp_267.gg.trans sp_285.gg).trans sp_300.gg).trans sp_314.gg).trans sp_336.gg).trans sp_354.gg) al_264), hb_364, fun G_365 H_366 sp_367 => ?_⟩
              have c_368 := c_355.call sp_367
              refine ⟨_, rfl, ?_⟩
              refine kk_331 _ _ ?_
              refine ite_m hf_244 (fun hc_369 hf_244 => ?_) (fun hc_369 hf_244 => ?_)
              · skip
                refine ret_opq (fun Q_370 kk_371 => ?_)
                refine kk_371 _ _ ?_
                obtain rfl := some_in hf_244
                obtain rfl := some_in hgo_245
                obtain rfl := some_in hf_25
                obtain rfl := some_in hgo_26
                obtain rfl := some_in hm
                exact k G_365 H_366 c_368.stp
              · skip
                have c_372 : Cf [] H0 G0 G_365 [(p_287, (.lst vs_326)), (p_43, (.lst vs_316)), (p_224, (.lst [(.ref p_167), (.ref D_65)]))] H_366 := c_368.drop
                have c_373 : Cf [] H0 G0 G_365 [(p_43, (.lst vs_316)), (p_224, (.lst [(.ref p_167), (.ref D_65)]))] H_366 := c_372.drop
                have c_374 : Cf [] H0 G0 G_365 [(p_224, (.lst [(.ref p_167), (.ref D_65)])), (p_43, (.lst vs_316))] H_366 := c_373.front 1 rfl
                obtain rfl := some_in hf_244
                exact ⟨G_365, vs_316, y_309, (some (.ref a_261)), (some (.ref p_287)), rfl, (((((((eg_230.trans sp_267.gg).trans sp_285.gg).trans sp_300.gg).trans sp_314.gg).trans sp_336.gg).trans sp_354.gg).trans sp_367.gg), c_374, (AL.mono ((sp_336.gg.trans sp_354.gg).trans sp_367.gg) al_318), hgo_245⟩
        · obtain ⟨G_229, vs_232, xs_233, o_235, o_236, rfl, eg_230, c_231, al_234, ho_238⟩ := hI
          obtain rfl := lpx_nil ho_238
          dsimp only [Out.fin] at hf_25
          try dsimp only at hf_25
          try dsimp only
          refine q_asg_opq (fun Q_376 kk_377 => ?_)
          have c_378 : Cf [] H0 G0 G_229 [(p_43, (.lst vs_232)), (p_224, (.lst [(.ref p_167), (.ref D_65)]))] H_242 := c_231.front 1 rfl
          obtain ⟨⟨y_379, y_380⟩, hb_381, hf_25⟩ := bs hf_25
          dsimp only at hf_25
          refine ⟨_, rfl, _, rfl, _, _, (List.length xs_72), rfl, (c_231.gh _ _ (eg_230 _ _ sq_222)), (A2.len (AL.mono (((((eg_128.trans sp_177.gg).trans eg_209).trans eg_217).trans eg_221).trans eg_230) al_73)), _, _, rfl, rfl, G_229, p_43, vs_232, xs_233, (((List.length xs_72 : Nat) : Int) + (1 : Int)), (y_379, y_380), rfl, c_378.gh, c_378.hd, c_378.hdg, al_234, hb_381, fun G_383 H_384 sp_385 vs_387 hs_388 al_389 => ?_⟩
          have c_386 := c_378.call1 sp_385 hs_388
          refine kk_377 _ _ ?_
          refine q_asg_opq (fun Q_390 kk_391 => ?_)
          obtain ⟨⟨y_392, y_393⟩, hb_394, hf_25⟩ := bs hf_25
          dsimp only at hf_25
          refine ⟨_, _, rfl, rfl, ⟨by decide, by decide, by decide⟩, _, rfl, _, _, rfl, rfl, ⟨by decide, by decide, by decide⟩, _, _, rfl, rfl, .inl ⟨by decide, by decide⟩, G_383, p_43, vs_387, y_380, ((9 : Int) * ((10 : Int) ^ ((30 : Int)).toNat)), (y_392, y_393), rfl, c_386.gh, c_386.hd, c_386.hdg, al_389, hb_394, fun G_396 H_397 sp_398 vs_400 hs_401 al_402 => ?_⟩
          have c_399 := c_386.call1 sp_398 hs_401
          obtain ⟨x_403, hl_404, hf_25⟩ := ltp hf_25
          refine ⟨_, _, rfl, rfl, ?_⟩
          refine nmV (f := V.int) (P := fun v9 => Q_390 v9 _) hl_404 ?_
          refine kk_391 _ _ ?_
          have c_405 : Cf [] H0 G0 G_396 [(p_224, (.lst [(.ref p_167), (.ref D_65)]))] H_397 := c_399.drop
          have c_406 : Cf [] H0 G0 G_396 [] H_397 := c_405.drop
          have al_409 : AL rI G_396 [(.int (0 : Int)), (.int ((10 : Int) ^ ((30 : Int)).toNat)), (.int x_403)] ([(0 : Int), ((10 : Int) ^ ((30 : Int)).toNat), x_403] : List Int) := (A2.cons rfl (A2.cons rfl (A2.cons rfl A2.nil)))
          refine ⟨_, _, rfl, rfl, ⟨by decide, by decide, by decide⟩, _, rfl, (by show 3 ≤ sizeLine; decide), fun p_407 np_408 => ?_⟩
          have c_410 := c_406.newO np_408 (.lst [(.int (0 : Int)), (.int ((10 : Int) ^ ((30 : Int)).toNat)), (.int x_403)])
          generalize hh : upd H_397 p_407 (.lst [(.int (0 : Int)), (.int ((10 : Int) ^ ((30 : Int)).toNat)), (.int x_403)]) = H_411 at c_410 ⊢
          clear hh
          refine ⟨_, rfl, ⟨_, SqL.of (c_410.get 0 rfl)⟩, ?_⟩
          obtain ⟨o_416, ho_417, hf_25⟩ := bs hf_25
          refine for_w (walk_list (xs := [(.int (0 : Int)), (.int ((10 : Int) ^ ((30 : Int)).toNat)), (.int x_403)])) ([(0 : Int), ((10 : Int) ^ ((30 : Int)).toNat), x_403] : List Int) (A2.len al_409) (fun l_418 σ_420 H_421 => ∃ (G_412 : Hp) (o_415 : Option V), σ_420 = [(some (.ref a_1)), (some (.int y_21)), (some (.ref p_43)), none, (some (.ref D_65)), o_415, (some (.ref D_124)), (some (.ref p_167)), (some (.str y_173)), o_235, o_236, (some (.int y_379)), (some (.int x_403))] ∧ Ex G_396 G_412 ∧ Cf [] H0 G0 G_412 [(p_407, (.lst [(.int (0 : Int)), (.int ((10 : Int) ^ ((30 : Int)).toNat)), (.int x_403)]))] H_421 ∧ lpx (fun (y_419 : Int) => fun (s_422 : Unit) => (gd (List.length (cutL xs_72 none (some y_379)) + List.length ([y_419] : List Int) < BIG) (gd (List.length ((cutL xs_72 none (some y_379)) ++ ([y_419] : List Int)) + List.length (cutL xs_72 (some y_379) none) < BIG) ((m__law_text72 (((cutL xs_72 none (some y_379)) ++ ([y_419] : List Int)) ++ (cutL xs_72 (some y_379) none))).bind fun y_471 => ((m__law_refuses72 y_471).bind fun y_477 => (if (!y_477) then (some (Out.rt false)) else (some (Out.nx ())))))) : Option (Out Unit Bool))) l_418 () = some o_416)
            ⟨G_396, o_10, rfl, Ex.refl _, c_410, ho_417⟩
            (fun l_418 σ_420 H_421 hI => by
              obtain ⟨G_412, o_415, rfl, eg_413, c_414, ho_417⟩ := hI
              exact (SqL.of (c_414.get 0 rfl)))
            (fun i_428 y_419 l_418 σ_420 H_421 v_425 H_429 hx_426 hI hy_427 => ?_) (fun σ_420 H_421 hI => ?_)
          · obtain ⟨G_412, o_415, rfl, eg_413, c_414, ho_417⟩ := hI
            obtain ⟨so_430, hf_423, hgo_424⟩ := lpx_cons ho_417
            try dsimp only at hf_423
            obtain ⟨rfl, hv_431⟩ := hy_427
            obtain ⟨v_432, hv_433, rv_434⟩ := A2.get al_409 hx_426
            obtain rfl := Option.some.inj (hv_431.symm.trans hv_433)
            obtain rfl := (show v_425 = (.int y_419) from rv_434)
            refine if_opq (fun Q_436 kk_437 => ?_)
            have al_438 := cut_al (AL.mono ((((((((eg_128.trans sp_177.gg).trans eg_209).trans eg_217).trans eg_221).trans eg_230).trans sp_385.gg).trans sp_398.gg).trans eg_413) al_73) none (some y_379)
            refine ⟨_, rfl, _, rfl, _, rfl, _, _, rfl, (SqL.of (c_414.gh _ _ ((((eg_230.trans sp_385.gg).trans sp_398.gg).trans eg_413) _ _ sq_222))), fun p_439 np_440 => ?_⟩
            have c_441 := c_414.newO np_440 (.lst (cutV vs_71 none (some y_379)))
            generalize hh : upd H_429 p_439 (.lst (cutV vs_71 none (some y_379))) = H_442 at c_441 ⊢
            clear hh
            have al_445 : AL rI G_412 [(.int y_419)] ([y_419] : List Int) := (A2.cons rfl A2.nil)
            refine ⟨_, rfl, (by show 1 ≤ sizeLine; decide), fun p_443 np_444 => ?_⟩
            have c_446 := c_441.newO np_444 (.lst [(.int y_419)])
            generalize hh : upd H_442 p_443 (.lst [(.int y_419)]) = H_447 at c_446 ⊢
            clear hh
            obtain ⟨hg_448, hf_423⟩ := gdp hf_423
            have al_449 : AL rI G_412 (cutV vs_71 none (some y_379)) (cutL xs_72 none (some y_379)) := al_438
            have al_450 : AL rI G_412 [(.int y_419)] ([y_419] : List Int) := al_445
            refine ⟨_, _, _, _, rfl, rfl, (c_446.get 1 rfl), (c_446.get 0 rfl), (by rw [al_449.len, al_450.len]; exact big_le hg_448), fun p_451 np_452 => ?_⟩
            obtain ⟨vs_453, hvs, al_454⟩ : ∃ vs9, vs9 = (cutV vs_71 none (some y_379)) ++ [(.int y_419)] ∧ AL rI G_412 vs9 ((cutL xs_72 none (some y_379)) ++ ([y_419] : List Int)) := ⟨_, rfl, al_449.app al_450⟩
            rw [← hvs]
            clear hvs
            have c_455 := c_446.newO np_452 (.lst vs_453)
            generalize hh : upd H_447 p_451 (.lst vs_453) = H_456 at c_455 ⊢
            clear hh
            have al_457 := cut_al (AL.mono ((((((((eg_128.trans sp_177.gg).trans eg_209).trans eg_217).trans eg_221).trans eg_230).trans sp_385.gg).trans sp_398.gg).trans eg_413) al_73) (some y_379) none
            refine ⟨_, rfl, _, rfl, _, rfl, _, _, rfl, (SqL.of (c_455.gh _ _ ((((eg_230.trans sp_385.gg).trans sp_398.gg).trans eg_413) _ _ sq_222))), fun p_458 np_459 => ?_⟩
            have c_460 := c_455.newO np_459 (.lst (cutV vs_71 (some y_379) none))
            generalize hh : upd H_456 p_458 (.lst (cutV vs_71 (some y_379) none)) = H_461 at c_460 ⊢
            clear hh
            obtain ⟨hg_462, hf_423⟩ := gdp hf_423
            have al_463 : AL rI G_412 vs_453 ((cutL xs_72 none (some y_379)) ++ ([y_419] : List Int)) := al_454
            have al_464 : AL rI G_412 (cutV vs_71 (some y_379) none) (cutL xs_72 (some y_379) none) := al_457
            refine ⟨_, _, _, _, rfl, rfl, (c_460.get 1 rfl), (c_460.get 0 rfl), (by rw [al_463.len, al_464.len]; exact big_le hg_462), fun p_465 np_466 => ?_⟩
            obtain ⟨vs_467, hvs, al_468⟩ : ∃ vs9, vs9 = vs_453 ++ (cutV vs_71 (some y_379) none) ∧ AL rI G_412 vs9 (((cutL xs_72 none (some y_379)) ++ ([y_419] : List Int)) ++ (cutL xs_72 (some y_379) none)) := ⟨_, rfl, al_463.app al_464⟩
            rw [← hvs]
            clear hvs
            have c_469 := c_460.newO np_466 (.lst vs_467)
            generalize hh : upd H_461 p_465 (.lst vs_467) = H_470 at c_469 ⊢
            clear hh
            obtain ⟨y_471, hb_472, hf_423⟩ := bs hf_423
            refine ⟨G_412, p_465, vs_467, (((cutL xs_72 none (some y_379)) ++ ([y_419] : List Int)) ++ (cutL xs_72 (some y_379) none)), y_471, rfl, c_469.gh, (SqB.of (c_469.get 0 rfl)), al_468, hb_472, fun G_473 H_474 sp_475 => ?_⟩
            have c_476 := c_469.call sp_475
            obtain ⟨y_477, hb_478, hf_423⟩ := bs hf_423
            refine ⟨G_473, y_471, y_477, rfl, c_476.gh, hb_478, fun G_479 H_480 sp_481 => ?_⟩
            have c_482 := c_476.call sp_481
            refine ⟨_, rfl, ?_⟩
            refine kk_437 _ _ ?_
            refine ite_m hf_423 (fun hc_483 hf_423 => ?_) (fun hc_483 hf_423 => ?_)
            · skip
              refine ret_opq (fun Q_484 kk_485 => ?_)
              refine kk_485 _ _ ?_
              obtain rfl := some_in hf_423
              obtain rfl := some_in hgo_424
              obtain rfl := some_in hf_25
              obtain rfl := some_in hgo_26
              obtain rfl := some_in hm
              exact k G_479 H_480 c_482.stp
            · skip
              have c_486 : Cf [] H0 G0 G_479 [(p_458, (.lst (cutV vs_71 (some y_379) none))), (p_451, (.lst vs_453)), (p_443, (.lst [(.int y_419)])), (p_439, (.lst (cutV vs_71 none (some y_379)))), (p_407, (.lst [(.int (0 : Int)), (.int ((10 : Int) ^ ((30 : Int)).toNat)), (.int x_403)]))] H_480 := c_482.drop
              have c_487 : Cf [] H0 G0 G_479 [(p_451, (.lst vs_453)), (p_443, (.lst [(.int y_419)])), (p_439, (.lst (cutV vs_71 none (some y_379)))), (p_407, (.lst [(.int (0 : Int)), (.int ((10 : Int) ^ ((30 : Int)).toNat)), (.int x_403)]))] H_480 := c_486.drop
              have c_488 : Cf [] H0 G0 G_479 [(p_443, (.lst [(.int y_419)])), (p_439, (.lst (cutV vs_71 none (some y_379)))), (p_407, (.lst [(.int (0 : Int)), (.int ((10 : Int) ^ ((30 : Int)).toNat)), (.int x_403)]))] H_480 := c_487.drop
              have c_489 : Cf [] H0 G0 G_479 [(p_439, (.lst (cutV vs_71 none (some y_379)))), (p_407, (.lst [(.int (0 : Int)), (.int ((10 : Int) ^ ((30 : Int)).toNat)), (.int x_403)]))] H_480 := c_488.drop
              have c_490 : Cf [] H0 G0 G_479 [(p_407, (.lst [(.int (0 : Int)), (.int ((10 : Int) ^ ((30 : Int)).toNat)), (.int x_403)]))] H_480 := c_489.drop
              obtain rfl := some_in hf_423
              exact ⟨G_479, (some (.int y_419)), rfl, ((eg_413.trans sp_475.gg).trans sp_481.gg), c_490, hgo_424⟩
          · obtain ⟨G_412, o_415, rfl, eg_413, c_414, ho_417⟩ := hI
            obtain rfl := lpx_nil ho_417
            dsimp only [Out.fin] at hf_25
            try dsimp only at hf_25
            try dsimp only
            have c_492 : Cf [] H0 G0 G_412 [] H_421 := c_414.drop
            obtain rfl := some_in hf_25
            exact ⟨G_412, (some (.int y_21)), (some (.ref p_43)), (some (.ref D_65)), o_415, (some (.ref D_124)), (some (.ref p_167)), (some (.str y_173)), o_235, o_236, (some (.int y_379)), (some (.int x_403)), rfl, ((((((((((((eg_5.trans sp_41.gg).trans sp_58.gg).trans eg_69).trans eg_128).trans sp_177.gg).trans eg_209).trans eg_217).trans eg_221).trans eg_230).trans sp_385.gg).trans sp_398.gg).trans eg_413), c_492, hgo_26⟩
    · obtain ⟨G_4, o_7, o_8, o_9, o_10, o_11, o_12, o_13, o_14, o_15, o_16, o_17, rfl, eg_5, c_6, ho_19⟩ := hI
      obtain rfl := lpx_nil ho_19
      dsimp only [Out.fin] at hm
      try dsimp only at hm
      try dsimp only
      refine ret_opq (fun Q_498 kk_499 => ?_)
      refine kk_499 _ _ ?_
      obtain rfl := some_in hm
      exact k G_4 H_23 c_6.stp
end
end Tw
namespace Tw
open PySem L2 TL
/-! ### draws -/
def Dk (d : List Int) : Prop := ∃ a b c : Int, d = [a, b, c] ∧ 0 ≤ b ∧ b < 2147483647
theorem dk_deck (script : List Int) (at9 : Int) (h0 : 0 ≤ at9) (h1 : at9 = 0 ∨ at9 < script.length) : ∃ d, m__law_deck script at9 = some d ∧ Dk d := by
  have tail : ∀ x : Int, ∃ d, (lt (((((x * (7919 : Int)) + (at9 * (104729 : Int))) + (1 : Int)) % (2147483647 : Int)) : Int) fun x_22 => (if (decide (((10 : Int) ^ ((18 : Int)).toNat) ≤ x)) then (some ([(x - ((10 : Int) ^ ((18 : Int)).toNat)), x_22, at9] : List Int)) else (some ([(0 : Int), x_22, (x % (1000000000000000003 : Int))] : List Int)))) = some d ∧ Dk d := by
    intro x
    have hb : 0 ≤ (x * 7919 + at9 * 104729 + 1) % 2147483647 ∧ (x * 7919 + at9 * 104729 + 1) % 2147483647 < 2147483647 := ⟨Int.emod_nonneg _ (by decide), Int.emod_lt_of_pos _ (by decide)⟩
    unfold lt
    split
    · exact ⟨_, rfl, _, _, _, rfl, hb⟩
    · exact ⟨_, rfl, _, _, _, rfl, hb⟩
  unfold m__law_deck
  by_cases h : at9 < (script.length : Int)
  · rw [if_pos (by simpa using h), atI_get h0 h]
    exact tail _
  · rw [if_neg (by simpa using h)]
    exact tail 0
def DB : Nat → Int
  | 0 => 10 ^ 6
  | n + 1 => 10 ^ 6 * (DB n - 1)
theorem dk_fst {d : List Int} (h : Dk d) : ∃ a b c : Int, d = [a, b, c] := by
  obtain ⟨a, b, c, e, _⟩ := h
  exact ⟨a, b, c, e⟩
theorem divw {y many : Int} (h0 : 0 < many) (h : many ≤ 10 ^ 60) : CDivW y many := by
  refine ⟨h0, ?_⟩
  refine (Nat.log2_lt (by omega)).mpr (Nat.lt_of_lt_of_le (by omega : many.natAbs < 2 ^ 200) ?_)
  exact Nat.pow_le_pow_right (by omega) (by omega)
theorem dk_draw : ∀ (n f : Nat) (d : List Int) (many : Int), n + 1 ≤ f → 0 < many → many ≤ DB n → many ≤ 10 ^ 60 → Dk d → ∃ x d', m__law_draw f d many = some (x, d') ∧ 0 ≤ x ∧ x < many ∧ Dk d' := by
  intro n
  induction n with
  | zero =>
    intro f d many hf h0 h1 h2 hd
    obtain ⟨g, rfl⟩ : ∃ g, f = g + 1 := ⟨f - 1, by omega⟩
    obtain ⟨a, b, c, rfl, hb0, hb1⟩ := hd
    have h1 : many ≤ 10 ^ 6 := h1
    rw [m__law_draw_s]
    have e0 : atI [a, b, c] (0 : Int) = some a := rfl
    have e1 : atI [a, b, c] (1 : Int) = some b := rfl
    have j0 : ixN [a, b, c].length (0 : Int) = some 0 := rfl
    have j1 : ixN [a, b, c].length (1 : Int) = some 1 := rfl
    simp only [e0, e1, j0, j1, Option.bind_some]
    by_cases ha : 0 < a
    · rw [if_pos (by simpa using ha), gd_of h0]
      simp only [lt]
      rw [gd_of (divw h0 h2)]
      exact ⟨_, _, rfl, Int.emod_nonneg _ (by omega), Int.emod_lt_of_pos _ h0, _, _, _, rfl, hb0, hb1⟩
    · rw [if_neg (by simpa using ha), if_neg (by simp; omega)]
      have q0 : 0 ≤ (b * 48271 + 12345) % 2147483647 := Int.emod_nonneg _ (by decide)
      have q1 : (b * 48271 + 12345) % 2147483647 < 2147483647 := Int.emod_lt_of_pos _ (by decide)
      generalize (b * 48271 + 12345) % 2147483647 = b' at q0 q1 ⊢
      have e2 : atI ([a, b, c].set 1 b') (1 : Int) = some b' := rfl
      have e3 : atI ([a, b, c].set 1 b') (2 : Int) = some c := rfl
      simp only [e2, e3, Option.bind_some]
      have r0 : 0 ≤ (b' * b' + c) % 2147483629 := Int.emod_nonneg _ (by decide)
      have r1 : (b' * b' + c) % 2147483629 < 2147483629 := Int.emod_lt_of_pos _ (by decide)
      rw [gd_of (.inl ⟨by omega, by omega⟩)]
      simp only [lt]
      generalize (b' * b' + c) % 2147483629 = y at r0 r1 ⊢
      rw [gd_of (.inl ⟨by omega, by omega⟩), gd_of h0]
      exact ⟨_, _, rfl, Int.emod_nonneg _ (by omega), Int.emod_lt_of_pos _ h0, _, _, _, rfl, q0, q1⟩
  | succ n ih =>
    intro f d many hf h0 h1 h2 hd
    by_cases small : many ≤ 10 ^ 6
    · have one : (1 : Int) ≤ DB n ∨ ¬ (1 : Int) ≤ DB n := Classical.em _
      by_cases hD : many ≤ DB n
      · exact ih f d many (by omega) h0 hD h2 hd
      · exfalso
        have : ∀ m, (10 ^ 6 : Int) ≤ DB m := by
          intro m
          induction m with
          | zero => exact Int.le_refl _
          | succ m im =>
            show (10 ^ 6 : Int) ≤ 10 ^ 6 * (DB m - 1)
            omega
        have := this n
        omega
    · obtain ⟨g, rfl⟩ : ∃ g, f = g + 1 := ⟨f - 1, by omega⟩
      obtain ⟨a, b, c, rfl, hb0, hb1⟩ := hd
      rw [m__law_draw_s]
      have e0 : atI [a, b, c] (0 : Int) = some a := rfl
      have j0 : ixN [a, b, c].length (0 : Int) = some 0 := rfl
      simp only [e0, j0, Option.bind_some]
      by_cases ha : 0 < a
      · rw [if_pos (by simpa using ha), gd_of h0]
        simp only [lt]
        rw [gd_of (divw h0 h2)]
        exact ⟨_, _, rfl, Int.emod_nonneg _ (by omega), Int.emod_lt_of_pos _ h0, _, _, _, rfl, hb0, hb1⟩
      · rw [if_neg (by simpa using ha), if_pos (by simp; omega)]
        have big : ∀ m, (10 ^ 6 : Int) ≤ DB m := by
          intro m
          induction m with
          | zero => exact Int.le_refl _
          | succ m im =>
            show (10 ^ 6 : Int) ≤ 10 ^ 6 * (DB m - 1)
            omega
        have hbn := big n
        have t6 : ((10 : Int) ^ ((6 : Int)).toNat) = 1000000 := by decide
        rw [t6]
        have h1 : many ≤ 10 ^ 6 * (DB n - 1) := h1
        obtain ⟨x1, d1, E1, p1, p2, k1⟩ := ih g [a, b, c] 1000000 (by omega) (by omega) (by omega) (by omega) ⟨a, b, c, rfl, hb0, hb1⟩
        have hm : many / 1000000 ≤ DB n - 1 := by omega
        obtain ⟨x2, d2, E2, p3, p4, k2⟩ := ih g d1 (many / 1000000 + 1) (by omega) (by omega) (by omega) (by omega) k1
        rw [E1]
        simp only [Option.bind_some]
        rw [gd_of (divw (by omega) (by omega)), E2]
        simp only [Option.bind_some]
        rw [gd_of (.inl ⟨by omega, by omega⟩), gd_of h0]
        exact ⟨_, _, rfl, Int.emod_nonneg _ (by omega), Int.emod_lt_of_pos _ h0, k2⟩
/-- a draw, as the laws ask it -/
theorem draw8 {d : List Int} {many : Int} (h0 : 0 < many) (h1 : many ≤ 10 ^ 40) (hd : Dk d) : ∃ x d', m__law_draw 8 d many = some (x, d') ∧ 0 ≤ x ∧ x < many ∧ Dk d' :=
  dk_draw 7 8 d many (by omega) h0 (Int.le_trans h1 (by decide +kernel)) (by omega) hd
end Tw

namespace Tw
open PySem L2 TL
/-! ### numbers, ties, webs read and shown -/
theorem rn_ok {k : Int} (h0 : 0 ≤ k) (h1 : k < 10 ^ 30) : m_read_number (sI k) = some (some k) := by
  obtain ⟨n, rfl⟩ := Int.eq_ofNat_of_zero_le h0
  have hn : n < 10 ^ 30 := by omega
  have hl := sI_len (k := 30) (by omega) hn
  obtain ⟨c, l, e⟩ : ∃ c l, tl (sI (n : Int)) = c :: l := by
    cases e : tl (sI (n : Int)) with
    | nil => exact absurd e (sI_ne h0)
    | cons c l => exact ⟨c, l, rfl⟩
  have len : (sI (n : Int)).length = l.length + 1 := by rw [len_tl, e, List.length_cons]
  have ne : decide (sI (n : Int) = ("" : Str)) = false := decide_eq_false fun z => by
    rw [z, strE] at e
    cases e
  have at0 : atI (Str.cps (sI (n : Int))).toList (0 : Int) = some c := by
    show atI (tl (sI (n : Int))) 0 = _
    rw [e]
    exact (atI_get (Int.le_refl 0) (by simp only [List.length_cons]; omega)).trans rfl
  have lead : decide ((⟨#[c]⟩ : Str) = ("0" : Str)) = true → l = [] := fun z => by
    rw [str0] at z
    have z := congrArg tl (of_decide_eq_true z)
    have z : [c] = [48] := z
    injection z with z
    rw [z, tl_sI] at e
    have := numL_zero e
    subst this
    have e : numL 0 = 48 :: l := e
    rw [numL_lt (by omega)] at e
    injection e with _ e
    exact e.symm
  have loop : lpx (fun (y_33 : Nat) => fun (s_36 : Unit) => (if (!(decide (y_33 ∈ (Str.cps ("0123456789" : Str)).toList))) then (some (Out.rt none)) else (some (Out.nx ())) : Option (Out Unit (Option Int)))) (Str.cps (sI (n : Int))).toList () = some (.nx ()) := by
    obtain ⟨u, hu, _⟩ := lpx_all (I := fun _ : Unit => True) (l := (Str.cps (sI (n : Int))).toList) (s := ()) (f := fun (y_33 : Nat) => fun (s_36 : Unit) => (if (!(decide (y_33 ∈ (Str.cps ("0123456789" : Str)).toList))) then (some (Out.rt none)) else (some (Out.nx ())) : Option (Out Unit (Option Int)))) trivial fun c hc _ _ => by
      refine ⟨(), ?_, trivial⟩
      have := dig_mem (sI_dig h0 c hc)
      rw [if_neg (by simp [this])]
    exact hu
  unfold m_read_number
  rw [ne, gd_of (by have := bigE; omega), decide_eq_false (p := (30 : Int) < ((Str.length (sI (n : Int)) : Nat) : Int)) (by omega), gd_of (by have := bigE; omega), at0]
  simp only [Option.bind_some]
  have second : pAnd (decide ((⟨#[c]⟩ : Str) = ("0" : Str))) (gd (Str.length (sI (n : Int)) ≤ BIG) (some (decide ((1 : Int) < ((Str.length (sI (n : Int)) : Nat) : Int))))) = some false := by
    unfold pAnd
    cases z : decide ((⟨#[c]⟩ : Str) = ("0" : Str)) with
    | false => rfl
    | true =>
      rw [gd_of (by have := bigE; omega), decide_eq_false (by
        have := lead z
        rw [len, this]
        simp)]
      rfl
  rw [second]
  show (pOr false (some false)).bind _ = _
  show (lpx _ (Str.cps (sI (n : Int))).toList ()).bind _ = _
  rw [loop]
  show (iOk (sI (n : Int))).bind _ = _
  rw [iOk_sI hn]
  rfl
end Tw

namespace Tw
open PySem L2 TL
/-! ### lists compared -/
theorem all_rng {f : Int → Option Bool} {p : Nat → Bool} {n : Nat} (h : ∀ i : Nat, i < n → f (i : Int) = some (p i)) : (lcm f (rng (0 : Int) (n : Int))).bind (fun xs => some (List.all xs id)) = some ((List.range n).all p) := by
  have e : rng (0 : Int) (n : Int) = (List.range n).map fun i : Nat => (i : Int) := by
    unfold rng
    rw [show ((n : Int) - 0).toNat = n by omega]
    exact List.map_congr_left fun i _ => by omega
  have key : ∀ l : List Nat, (∀ i ∈ l, i < n) → lcm f (l.map fun i : Nat => (i : Int)) = some (l.map p) := by
    intro l
    induction l with
    | nil => exact fun _ => rfl
    | cons a l ih =>
      intro hl
      rw [List.map_cons, List.map_cons]
      unfold lcm
      rw [h a (hl a List.mem_cons_self), ih fun i hi => hl i (List.mem_cons_of_mem _ hi)]
      rfl
  rw [e, key _ fun i hi => List.mem_range.mp hi]
  show some (List.all ((List.range n).map p) id) = _
  rw [List.all_map]
  rfl
theorem all_eq {α : Type} [DecidableEq α] {v d : List α} (l : v.length = d.length) {p : Nat → Bool} (hp : ∀ i (h : i < d.length), p i = decide (v[i]'(by omega) = d[i])) : (List.range d.length).all p = decide (v = d) := by
  by_cases e : v = d
  · subst e
    rw [decide_eq_true rfl, List.all_eq_true]
    intro i hi
    rw [hp i (List.mem_range.mp hi)]
    simp
  · rw [decide_eq_false e]
    cases q : (List.range d.length).all p with
    | false => rfl
    | true =>
      exfalso
      apply e
      rw [List.all_eq_true] at q
      refine List.ext_getElem l fun i h1 h2 => ?_
      have := q i (List.mem_range.mpr h2)
      rw [hp i h2] at this
      exact of_decide_eq_true this
theorem sl_ok {v d : List Int} (l : d.length < 1000000) : m__law_same_list v d = some (decide (v = d)) := by
  unfold m__law_same_list
  by_cases e : v.length = d.length
  · rw [if_neg (by simp [e]), gd_of (rok_small (by omega) (by omega)), gd_of (by have := bigE; rw [rng_len]; omega)]
    rw [all_rng (p := fun i => decide (v[i]? = d[i]?))]
    · rw [all_eq e]
      intro i hi
      rw [List.getElem?_eq_getElem hi, List.getElem?_eq_getElem (by omega : i < v.length)]
      simp
    · intro i hi
      have h1 : atI v (i : Int) = some v[i] := by rw [atI_get (by omega) (by omega)]; simp
      have h2 : atI d (i : Int) = some d[i] := by rw [atI_get (by omega) (by omega)]; simp
      rw [h1, h2, List.getElem?_eq_getElem hi, List.getElem?_eq_getElem (by omega : i < v.length)]
      simp [m__law_is_integer, pAnd]
  · have n : v ≠ d := fun z => e (by rw [z])
    rw [if_pos (by simp; omega), decide_eq_false n]
end Tw

namespace Tw
open PySem L2 TL
theorem yes_draw {d : List Int} {many : Int} (h0 : 0 < many) (h1 : many ≤ 10 ^ 40) (hd : Dk d) : Yes (m__law_draw 8 d many) fun r => 0 ≤ r.1 ∧ r.1 < many ∧ Dk r.2 := by
  obtain ⟨x, d', e, a, b, c⟩ := draw8 h0 h1 hd
  exact ⟨(x, d'), e, a, b, c⟩
theorem yes_deck {script : List Int} {at9 : Int} (h0 : 0 ≤ at9) (h1 : at9 = 0 ∨ at9 < script.length) : Yes (m__law_deck script at9) Dk := by
  obtain ⟨d, e, k⟩ := dk_deck script at9 h0 h1
  exact ⟨d, e, k⟩
theorem value_snoc (cs : List Nat) (c : Nat) : NumText.digitsVal (cs ++ [c]) = NumText.digitsVal cs * 10 + (c - 48) := by
  unfold NumText.digitsVal
  rw [List.foldl_append]
  rfl
theorem value_lt : ∀ (n : Nat) (cs : List Nat), cs.length = n → NumText.AllDigits cs → NumText.digitsVal cs < 10 ^ n
  | 0, cs, h, _ => by
    have : cs = [] := List.length_eq_zero_iff.mp h
    subst this
    decide
  | n + 1, cs, h, d => by
    rcases List.eq_nil_or_concat cs with e | ⟨ds, c, e⟩
    · rw [e] at h
      cases h
    · rw [List.concat_eq_append] at e
      subst e
      rw [List.length_append, List.length_cons, List.length_nil] at h
      have ih := value_lt n ds (by omega) fun x hx => d x (List.mem_append_left _ hx)
      have hc := d c (by simp)
      rw [value_snoc, Nat.pow_succ]
      omega
/-- a number of more than 30 digits is not read -/
theorem rn_great {k : Int} (h0 : 10 ^ 30 ≤ k) (h1 : k < 10 ^ 40) : m_read_number (sI k) = some none := by
  obtain ⟨n, rfl⟩ := Int.eq_ofNat_of_zero_le (by omega : 0 ≤ k)
  have l40 := sI_len (k := 40) (n := n) (by omega) (by omega)
  have big : 30 < (sI (n : Int)).length := by
    refine Nat.lt_of_not_le fun q => ?_
    have v := value_lt _ (numL n) rfl (numL_digits n)
    rw [numL_val] at v
    have : n < 10 ^ 30 := Nat.lt_of_lt_of_le v (Nat.pow_le_pow_right (by omega) (by rw [len_tl, tl_sI] at q; exact q))
    omega
  unfold m_read_number
  have ne : decide (sI (n : Int) = ("" : Str)) = false := decide_eq_false fun z => by
    rw [z] at big
    exact absurd big (by decide)
  have gw : Str.length (sI (n : Int)) ≤ BIG := by have := bigE; omega
  rw [ne]
  simp only [gd_of gw]
  rw [decide_eq_true (p := (30 : Int) < ((Str.length (sI (n : Int)) : Nat) : Int)) (by omega)]
  rfl
def txC (row : List Int) : Str := if row = [] then ("." : Str) else Txt.join (" " : Str) (row.map sI)
theorem jC {row : List Int} (b : ∀ k ∈ row, 0 ≤ k ∧ k < 10 ^ 40) (l : row.length ≤ 1000) : jOk (" " : Str) (row.map sI) := jOk_of (k := 40) (n := 1000) (by decide +kernel) (fun y hy => by
  obtain ⟨k, hk, q⟩ := List.mem_map.mp hy
  rw [← q]
  exact sI_le (by omega) (b k hk).1 (b k hk).2) (by rw [List.length_map]; exact l) (by omega)
theorem show_ok {row : List Int} (b : ∀ k ∈ row, 0 ≤ k ∧ k < 10 ^ 40) (l : row.length ≤ 1000) : m_show_colours row = some (txC row) := by
  unfold m_show_colours txC
  by_cases e : row = []
  · rw [if_pos (by simpa using e), if_pos e]
  · rw [if_neg (by simpa using e), if_neg e, gd_of (by have := bigE; omega), lcm_ok (g := sI) fun x hx => gd_of (sOk_small (b x hx).1 (b x hx).2)]
    simp only [Option.bind_some]
    rw [gd_of (jC b l)]
theorem text_ok {row : List Int} (b : ∀ k ∈ row, 0 ≤ k ∧ k < 10 ^ 40) (l : row.length ≤ 1000) : m__law_text72 row = some (txC row) := show_ok b l
/-- reading: goes on while all is well -/
theorem rc_loop : ∀ (row xs : List Int), (∀ k ∈ row, 0 ≤ k ∧ k < 10 ^ 40) → (xs ++ row).length < BIG →
    lpx (fun (y_35 : Str) => fun (s_38 : ((List Int))) => ((fun (xs_28 : (List Int)) => (m_read_number y_35).bind fun y_54 => (oel y_54 (if true then (some (Out.rt (Except.error ((0, 0) : Er)))) else none) (fun (y_63 : Int) => if (false || (decide (y_63 = (0 : Int)))) then (some (Out.rt (Except.error ((0, 0) : Er)))) else (gd (List.length xs_28 < BIG) (some (Out.nx ((xs_28 ++ [y_63])))))))) s_38 : Option (Out ((List Int)) (Except Er (List Int))))) (row.map sI) xs =
      some (if row.all (fun k => decide (1 ≤ k ∧ k < 10 ^ 30)) = true then .nx (xs ++ row) else .rt (Except.error (0, 0)))
  | [], xs, _, _ => by rw [List.append_nil]; rfl
  | k :: row, xs, b, l => by
    have hk := b k List.mem_cons_self
    have lx : xs.length < BIG := by
      rw [List.length_append, List.length_cons] at l
      omega
    rw [List.map_cons, List.all_cons]
    unfold lpx
    dsimp only
    by_cases great : 10 ^ 30 ≤ k
    · rw [rn_great great hk.2, decide_eq_false (p := 1 ≤ k ∧ k < 10 ^ 30) (by omega), Bool.false_and]
      rfl
    · rw [rn_ok hk.1 (by omega)]
      dsimp only [Option.bind_some, oel]
      by_cases z : k = 0
      · subst z
        rfl
      · rw [decide_eq_false z, decide_eq_true (p := 1 ≤ k ∧ k < 10 ^ 30) (by omega), Bool.true_and]
        show (gd (List.length xs < BIG) _).bind _ = _
        rw [gd_of lx]
        have e : xs ++ k :: row = xs ++ [k] ++ row := by simp
        rw [e] at l ⊢
        exact rc_loop row (xs ++ [k]) (fun j hj => b j (List.mem_cons_of_mem _ hj)) l
theorem read_ok {row : List Int} (b : ∀ k ∈ row, 0 ≤ k ∧ k < 10 ^ 40) (l : row.length ≤ 1000) : m_read_colours (txC row) = some (if row.all (fun k => decide (1 ≤ k ∧ k < 10 ^ 30)) = true then Except.ok row else Except.error (0, 0)) := by
  unfold m_read_colours txC
  rw [if_neg (by decide)]
  by_cases e : row = []
  · subst e
    rw [if_pos rfl, if_pos (by decide)]
    rfl
  · rw [if_neg e]
    have free : ∀ y ∈ row.map sI, 32 ∉ tl y := fun y hy => by
      obtain ⟨k, hk, q⟩ := List.mem_map.mp hy
      rw [← q]
      intro z
      have := sI_dig (b k hk).1 32 z
      omega
    have ne : decide (Txt.join (" " : Str) (row.map sI) = ("." : Str)) = false := decide_eq_false fun z => by
      have : (46 : Nat) ∈ tl (Txt.join (" " : Str) (row.map sI)) := by rw [z, strDot]; simp
      rcases join_mem this with h | ⟨y, hy, h⟩
      · rw [strSp] at h
        simp at h
      · obtain ⟨k, hk, q⟩ := List.mem_map.mp hy
        rw [← q] at h
        have := sI_dig (b k hk).1 46 h
        omega
    have len : (Txt.join (" " : Str) (row.map sI)).length ≤ 1000 * (40 + 1) := join_len (" " : Str) (by decide +kernel) (fun y hy => by
      obtain ⟨k, hk, q⟩ := List.mem_map.mp hy
      rw [← q]
      exact sI_le (by omega) (b k hk).1 (b k hk).2) (by rw [List.length_map]; exact l)
    rw [ne, if_neg Bool.false_ne_true, gd_of (by have := bigE; omega), split_back strSp (by omega) (fun z => e (List.map_eq_nil_iff.mp z)) free, rc_loop row [] b (by have := bigE; simp only [List.nil_append]; omega)]
    cases row.all (fun k => decide (1 ≤ k ∧ k < 10 ^ 30)) <;> rfl
/-! ### a colouring of things without ties -/
def Good (row : List Int) : Prop := row.length ≤ 80 ∧ ∀ k ∈ row, 1 ≤ k ∧ k < 10 ^ 30
theorem Good.b {row : List Int} (h : Good row) : ∀ k ∈ row, 0 ≤ k ∧ k < 10 ^ 40 := fun k hk => by have := h.2 k hk; omega
theorem Good.all {row : List Int} (h : Good row) : row.all (fun k => decide (1 ≤ k ∧ k < 10 ^ 30)) = true := List.all_eq_true.mpr fun k hk => decide_eq_true (h.2 k hk)
theorem nil_ties (n : Int) : m_are_ties [] n = some true := rfl
theorem nil_web (row : List Int) : m_check_web (row.map fun _ => ([] : List Int)) = some () := by
  have iw : m_is_web (row.map fun _ => ([] : List Int)) = some true := by
    refine Yes.so ?_
    unfold m_is_web
    rw [if_neg (by decide)]
    refine .lpxu (fun x hx => ?_) (.val rfl)
    have e : x.2 = [] := by
      have := (List.of_mem_zip hx).2
      obtain ⟨_, _, e⟩ := List.mem_map.mp this
      exact e.symm
    dsimp only
    rw [e]
    exact .bindS (nil_ties _) (.val rfl)
  unfold m_check_web
  rw [iw]
  rfl
theorem cc_ok {row : List Int} (h : Good row) : m_check_colouring (row.map fun _ => ([] : List Int)) row = some () := by
  refine Yes.so ?_
  unfold m_check_colouring
  refine .bindS (nil_web row) (.lpxu (fun x hx => ?_) ?_)
  · have zz := List.of_mem_zip hx
    have e : x.2 = [] := by
      obtain ⟨_, _, e⟩ := List.mem_map.mp zz.2
      exact e.symm
    obtain ⟨p0, p1⟩ := rng_mem.mp zz.1
    rw [List.length_map] at p1
    dsimp only
    rw [e]
    refine .ite (fun z => absurd (of_decide_eq_true z) (by omega)) fun _ => .bindS (atI_get p0 p1) (.bindS rfl (.ite (fun z => ?_) fun _ => .lpxu (fun _ z => nomatch z) (.val rfl)))
    have g := h.2 _ (List.getElem_mem (by omega : x.1.toNat < row.length))
    rw [Bool.or_eq_true] at z
    rcases z with z | z
    · cases z
    · have := of_decide_eq_true z
      omega
  · exact .ite (fun z => absurd (of_decide_eq_true z) (by rw [List.length_map]; omega)) fun _ => .val rfl
theorem free_ok (c : Int) : m_least_free [c] = some (if c = 1 then 2 else 1) := by
  unfold m_least_free
  by_cases e : c = 1
  · subst e
    rw [show (100000 : Nat) = 99998 + 1 + 1 from rfl]
    rfl
  · rw [if_neg e, show (100000 : Nat) = 99999 + 1 from rfl]
    unfold wh
    have : decide ((1 : Int) ∈ [c]) = false := decide_eq_false fun z => e (List.mem_singleton.mp z).symm
    dsimp only
    rw [this]
    rfl
theorem goes_ok {d row : List Int} (hd : Dk d) (h : Good row) : Yes (m__law_goes_on d row row) fun r => r.1 = true ∧ Dk r.2 := by
  unfold m__law_goes_on
  have l := h.1
  refine .gd (by have := bigE; omega) (.lcmg (fun _ => ([] : List Int)) (fun _ _ => rfl) (.bindS (show_ok h.b (by omega)) (.bindS (text_ok h.b (by omega)) (.ite (fun z => ?_) fun _ => .bindS (cc_ok h) ?_))))
  · rw [decide_eq_true rfl] at z
    cases z
  have cnt : (pOr false ((m_colour_count row).bind fun y_91 => (gd (List.length row ≤ 4000) (some (!(decide (y_91 = ((List.length (srt row) : Nat) : Int)))))))) = some false := by
    unfold m_colour_count
    rw [gd_of (by omega)]
    show (gd (List.length row ≤ 4000) _) = _
    rw [gd_of (by omega), decide_eq_true rfl]
    rfl
  refine .bindS cnt (.ite (fun z => nomatch z) fun _ => .ite (fun _ => .val ⟨rfl, hd⟩) fun ne => ?_)
  have pos : 0 < row.length := List.length_pos_iff.mpr fun z => by rw [decide_eq_true z] at ne; cases ne
  refine (yes_draw (by omega) (by omega) hd).bind fun z1 h1 => ?_
  obtain ⟨p, d1⟩ := z1
  obtain ⟨p0, p1, k1⟩ := h1
  dsimp only at p0 p1 k1 ⊢
  have at0 := atI_get p0 p1
  have gc := h.2 _ (List.getElem_mem (by omega : p.toNat < row.length))
  generalize row[p.toNat]'(by omega) = c at at0 gc
  have wit : m_is_witness (row.map fun _ => ([] : List Int)) row (Pap.mk p []) = some (decide (c = 1)) := by
    unfold m_is_witness
    rw [cc_ok h]
    simp only [Option.bind_some]
    rw [show (200 : Nat) = 199 + 1 from rfl, m_is_right_s, if_neg (by decide)]
    have th : m_is_thing p (row.map fun _ => ([] : List Int)) = some true := by
      unfold m_is_thing
      show (some true).bind _ = _
      simp only [Option.bind_some]
      rw [decide_eq_true (p := (0 : Int) ≤ p) p0, decide_eq_true (p := p < _) (by rw [List.length_map]; exact p1)]
      rfl
    show ((m_is_thing p _).bind _).bind _ = _
    rw [th]
    show (((pOr (!true) ((pOr (!true) ((atI row p).bind _)).bind _)).bind _)).bind _ = _
    rw [at0]
    by_cases e : c = 1
    · subst e
      rfl
    · have : (decide (((List.length (Pap.ch (Pap.mk p [])) : Nat) : Int) = c - 1)) = false := decide_eq_false (by show ¬ ((0 : Int) = c - 1); omega)
      simp only [Option.bind_some, this, decide_eq_false e]
      rfl
  have nxt : m_next_colour Gv.first (row.map fun _ => ([] : List Int)) row [p] = some (if c = 1 then 2 else 1) := by
    unfold m_next_colour
    rw [cc_ok h]
    simp only [Option.bind_some]
    have tt : m_are_ties [p] ((List.length (row.map fun _ => ([] : List Int)) : Nat) : Int) = some true := by
      unfold m_are_ties
      rw [if_neg (by decide)]
      dsimp only [lt]
      unfold lpx
      dsimp only [m_is_integer, Option.bind_some]
      rw [if_neg (by rw [List.length_map]; simp; omega)]
      rfl
    rw [tt]
    simp only [Option.bind_some]
    rw [if_neg (by decide), if_pos (by decide)]
    show (m_First_pick row [p]).bind _ = _
    unfold m_First_pick
    rw [gd_of (by have := bigE; simp only [List.length_cons, List.length_nil]; omega)]
    unfold lcm
    rw [at0]
    show ((m_least_free [c]).bind _).bind _ = _
    rw [free_ok]
    rfl
  refine .bindS wit (.bindS (a := false) ?_ (.ite (fun z => nomatch z) fun _ => .bindS nxt (.bindS rfl (.bindS (a := true) ?_ (.val ⟨rfl, k1⟩)))))
  · rw [at0]
    show (some (!(decide (decide (c = 1) = decide (c = 1))))) = _
    rw [decide_eq_true rfl]
    rfl
  · show pAnd true ((atI row p).bind _) = _
    rw [at0]
    by_cases e : c = 1
    · subst e
      rfl
    · simp only [Option.bind_some, if_neg e, decide_eq_false e]
      rfl
theorem integer_ok {d : List Int} (hd : Dk d) : Yes (m__law_integer d) fun r => (1 ≤ r.1 ∧ r.1 < 10 ^ 30) ∧ Dk r.2 := by
  unfold m__law_integer
  have t9 : ((10 : Int) ^ ((9 : Int)).toNat) = 1000000000 := by decide
  have t30 : ((10 : Int) ^ ((30 : Int)).toNat) = 10 ^ 30 := rfl
  rw [t9, t30]
  refine (yes_draw (by omega) (by omega) hd).bind fun z1 h1 => .ite (fun _ => ?_) fun _ => .ite (fun _ => ?_) fun _ => .ite (fun _ => ?_) fun _ => ?_
  · exact (yes_draw (by omega) (by omega) h1.2.2).bind fun z h => .val ⟨⟨by dsimp only; omega, by dsimp only; omega⟩, h.2.2⟩
  · exact (yes_draw (by omega) (by omega) h1.2.2).bind fun z h => .val ⟨⟨by dsimp only; omega, by dsimp only; omega⟩, h.2.2⟩
  · exact (yes_draw (by omega) (by omega) h1.2.2).bind fun z h => .val ⟨⟨by dsimp only; omega, by dsimp only; omega⟩, h.2.2⟩
  · refine (yes_draw (by omega) (by omega) h1.2.2).bind fun z h => (yes_draw (by omega) (by omega) h.2.2).bind fun y g => .gd (rok_small g.1 (by omega)) ?_
    refine .lp0 (fun _ x => 0 ≤ x ∧ x < 10 ^ 30 - 1) g.1 ⟨h.1, h.2.1⟩ (fun i _ _ x hx => .lt (.val ⟨by omega, by omega⟩)) fun x hx => .val ⟨⟨by dsimp only; omega, by dsimp only; omega⟩, g.2.2⟩
theorem refuse_ok {row : List Int} (b : ∀ k ∈ row, 0 ≤ k ∧ k < 10 ^ 40) (l : row.length ≤ 1000) (bad : ∃ k ∈ row, ¬ (1 ≤ k ∧ k < 10 ^ 30)) : m__law_refuses72 (txC row) = some true := by
  unfold m__law_refuses72
  have no : row.all (fun k => decide (1 ≤ k ∧ k < 10 ^ 30)) = false := by
    cases q : row.all (fun k => decide (1 ≤ k ∧ k < 10 ^ 30)) with
    | false => rfl
    | true =>
      obtain ⟨k, hk, n⟩ := bad
      exact absurd (of_decide_eq_true (List.all_eq_true.mp q k hk)) n
  rw [read_ok b l, no]
  rfl
theorem law72_ok (script : List Int) : m_law72 script = some true := by
  refine Yes.so ?_
  unfold m_law72
  have n1 : 1 ≤ imax 1 (imin ((List.length script : Nat) : Int) 6) ∧ imax 1 (imin ((List.length script : Nat) : Int) 6) ≤ 6 ∧ (imax 1 (imin ((List.length script : Nat) : Int) 6) = 1 ∨ imax 1 (imin ((List.length script : Nat) : Int) 6) ≤ script.length) := by
    unfold imax imin
    split <;> split <;> omega
  generalize imax 1 (imin ((List.length script : Nat) : Int) 6) = n at n1 ⊢
  refine .gd (rok_small (by omega) (by omega)) (.lpxu (fun at9 hat => ?_) (.val rfl))
  obtain ⟨p0, p1⟩ := rng_mem.mp hat
  refine (yes_deck p0 (by omega)).bind fun d0 k0 => (yes_draw (by omega) (by omega) k0).bind fun z1 h1 => ?_
  refine .gd (rok_small h1.1 (by omega)) (.gd (by have := bigE; rw [rng_len]; omega) ?_)
  refine .lcsall Dk (fun k => 1 ≤ k ∧ k < 10 ^ 30) h1.2.2 (fun x _ s hs => ?_) fun row s lr pr hs => ?_
  · exact (integer_ok hs).bind fun z h => .val ⟨⟨_, rfl, h.1⟩, h.2⟩
  · dsimp only
    rw [rng_len] at lr
    have gr : Good row := ⟨by omega, pr⟩
    have t9 : ((10 : Int) ^ ((9 : Int)).toNat) = 1000000000 := by decide
    rw [t9]
    refine .gd (by have := bigE; omega) (.lcmg (fun y => 1 + y % 1000000000) (fun x _ => gd_of (by omega)) ?_)
    have gs : Good (row.map fun y => 1 + y % 1000000000) := ⟨by rw [List.length_map]; exact gr.1, fun k hk => by
      obtain ⟨y, _, e⟩ := List.mem_map.mp hk
      omega⟩
    generalize row.map (fun y => 1 + y % 1000000000) = small at gs ⊢
    have ls := gs.1
    refine .bindS (show_ok gs.b (by omega)) (.bindS (a := false) ?_ (.ite (fun z => nomatch z) fun _ => ?_))
    · rw [text_ok gs.b (by omega), sl_ok (by omega)]
      simp only [Option.bind_some, decide_true]
      rfl
    refine .lpxl (fun s => Dk s) hs (fun due hdue s hs => ?_) fun s hs => ?_
    · have gd9 : Good due := by
        simp only [List.mem_cons, List.not_mem_nil, or_false] at hdue
        rcases hdue with e | e
        · rw [e]
          exact gs
        · rw [e]
          exact gr
      have ld := gd9.1
      have rd : m_read_colours (txC due) = some (Except.ok due) := by rw [read_ok gd9.b (by omega), gd9.all]; rfl
      have same : m__law_same_list due due = some true := by rw [sl_ok (by omega), decide_eq_true rfl]
      refine .bindS (text_ok gd9.b (by omega)) (.bindS rd (.bindS same (.ite (fun z => nomatch z) fun _ => (goes_ok hs gd9).bind fun z h => ?_)))
      rw [h.1]
      exact .ite (fun z => nomatch z) fun _ => .gd (by have := bigE; omega) (.bindS (text_ok gd9.b (by omega)) (.bindS rd (.bindS same (.ite (fun z => nomatch z) fun _ => .val ⟨_, rfl, h.2⟩))))
    · have lr2 := gr.1
      have t30 : ((10 : Int) ^ ((30 : Int)).toNat) = 10 ^ 30 := rfl
      rw [t30]
      refine (yes_draw (by omega) (by omega) hs).bind fun z1 h1 => (yes_draw (by omega) (by omega) h1.2.2).bind fun z2 h2 => .lt (.lpxu (fun k hk => ?_) (.val rfl))
      have kb : (0 ≤ k ∧ k < 10 ^ 40) ∧ ¬ (1 ≤ k ∧ k < 10 ^ 30) := by
        simp only [List.mem_cons, List.not_mem_nil, or_false] at hk
        rcases hk with e | e | e <;> omega
      have c1 := cutL_to (xs := row) h1.1 (by omega : z1.1 ≤ row.length)
      have c2 := cutL_from (xs := row) h1.1 (by omega : z1.1 ≤ row.length)
      have tot : (cutL row none (some z1.1) ++ [k] ++ cutL row (some z1.1) none).length ≤ 1000 := by
        rw [c1, c2]
        simp only [List.length_append, List.length_take, List.length_drop, List.length_cons, List.length_nil]
        omega
      have tb : ∀ j ∈ cutL row none (some z1.1) ++ [k] ++ cutL row (some z1.1) none, 0 ≤ j ∧ j < 10 ^ 40 := fun j hj => by
        rw [c1, c2] at hj
        rcases List.mem_append.mp hj with hj | hj
        · rcases List.mem_append.mp hj with hj | hj
          · exact gr.b j (List.mem_of_mem_take hj)
          · rw [List.mem_singleton.mp hj]
            exact kb.1
        · exact gr.b j (List.mem_of_mem_drop hj)
      refine .gd ?_ (.gd ?_ (.bindS (text_ok tb tot) (.bindS (refuse_ok tb tot ⟨k, by simp, kb.2⟩) (.val rfl))))
      · have := bigE
        rw [c1]
        simp only [List.length_take, List.length_cons, List.length_nil]
        omega
      · have := bigE
        rw [c1, c2]
        simp only [List.length_append, List.length_take, List.length_drop, List.length_cons, List.length_nil]
        omega
end Tw

namespace Tw
open PySem L2
theorem all_mk {l : PySem.W.OpenLaw} {w : World} {K : PySem.W.Frag} {h : Heap} {mg : Str → Option Value} {fa : Addr} (X : K.In h) (G : h.Ns mainGlobals mg) (hfa : mg "law" = some (.ref fa)) {t_MOST_DIGITS t_DIGITS : Tok}
    {C_First : Addr}
    {C_Other : Addr}
    {C_InvalidText : Addr}
    {f_is_integer : Addr} {od_is_integer an_is_integer : Option Addr} {sl_is_integer : Array (Option Value)} {oc_is_integer kV_is_integer dc_is_integer pm_is_integer cd_is_integer ct_is_integer : Value}
    {f_are_ties : Addr} {od_are_ties an_are_ties : Option Addr} {sl_are_ties : Array (Option Value)} {oc_are_ties kV_are_ties dc_are_ties pm_are_ties cd_are_ties ct_are_ties : Value}
    {f_is_web : Addr} {od_is_web an_is_web : Option Addr} {sl_is_web : Array (Option Value)} {oc_is_web kV_is_web dc_is_web pm_is_web cd_is_web ct_is_web : Value}
    {f_check_web : Addr} {od_check_web an_check_web : Option Addr} {sl_check_web : Array (Option Value)} {oc_check_web kV_check_web dc_check_web pm_check_web cd_check_web ct_check_web : Value}
    {f_is_thing : Addr} {od_is_thing an_is_thing : Option Addr} {sl_is_thing : Array (Option Value)} {oc_is_thing kV_is_thing dc_is_thing pm_is_thing cd_is_thing ct_is_thing : Value}
    {f_check_colouring : Addr} {od_check_colouring an_check_colouring : Option Addr} {sl_check_colouring : Array (Option Value)} {oc_check_colouring kV_check_colouring dc_check_colouring pm_check_colouring cd_check_colouring ct_check_colouring : Value}
    {f_colour_count : Addr} {od_colour_count an_colour_count : Option Addr} {sl_colour_count : Array (Option Value)} {oc_colour_count kV_colour_count dc_colour_count pm_colour_count cd_colour_count ct_colour_count : Value}
    {f_read_number : Addr} {od_read_number an_read_number : Option Addr} {sl_read_number : Array (Option Value)} {oc_read_number kV_read_number dc_read_number pm_read_number cd_read_number ct_read_number : Value}
    {f_show_colours : Addr} {od_show_colours an_show_colours : Option Addr} {sl_show_colours : Array (Option Value)} {oc_show_colours kV_show_colours dc_show_colours pm_show_colours cd_show_colours ct_show_colours : Value}
    {f_read_colours : Addr} {od_read_colours an_read_colours : Option Addr} {sl_read_colours : Array (Option Value)} {oc_read_colours kV_read_colours dc_read_colours pm_read_colours cd_read_colours ct_read_colours : Value}
    {f_least_free : Addr} {od_least_free an_least_free : Option Addr} {sl_least_free : Array (Option Value)} {oc_least_free kV_least_free dc_least_free pm_least_free cd_least_free ct_least_free : Value}
    {f_First_pick : Addr} {od_First_pick an_First_pick : Option Addr} {sl_First_pick : Array (Option Value)} {oc_First_pick kV_First_pick dc_First_pick pm_First_pick cd_First_pick ct_First_pick : Value}
    {f_next_colour : Addr} {od_next_colour an_next_colour : Option Addr} {sl_next_colour : Array (Option Value)} {oc_next_colour kV_next_colour dc_next_colour pm_next_colour cd_next_colour ct_next_colour : Value}
    {f_is_right : Addr} {od_is_right an_is_right : Option Addr} {sl_is_right : Array (Option Value)} {oc_is_right kV_is_right dc_is_right pm_is_right cd_is_right ct_is_right : Value}
    {f_is_witness : Addr} {od_is_witness an_is_witness : Option Addr} {sl_is_witness : Array (Option Value)} {oc_is_witness kV_is_witness dc_is_witness pm_is_witness cd_is_witness ct_is_witness : Value}
    {f__law_deck : Addr} {od__law_deck an__law_deck : Option Addr} {sl__law_deck : Array (Option Value)} {oc__law_deck kV__law_deck dc__law_deck pm__law_deck cd__law_deck ct__law_deck : Value}
    {f__law_draw : Addr} {od__law_draw an__law_draw : Option Addr} {sl__law_draw : Array (Option Value)} {oc__law_draw kV__law_draw dc__law_draw pm__law_draw cd__law_draw ct__law_draw : Value}
    {f__law_is_integer : Addr} {od__law_is_integer an__law_is_integer : Option Addr} {sl__law_is_integer : Array (Option Value)} {oc__law_is_integer kV__law_is_integer dc__law_is_integer pm__law_is_integer cd__law_is_integer ct__law_is_integer : Value}
    {f__law_same_list : Addr} {od__law_same_list an__law_same_list : Option Addr} {sl__law_same_list : Array (Option Value)} {oc__law_same_list kV__law_same_list dc__law_same_list pm__law_same_list cd__law_same_list ct__law_same_list : Value}
    {f__law_integer : Addr} {od__law_integer an__law_integer : Option Addr} {sl__law_integer : Array (Option Value)} {oc__law_integer kV__law_integer dc__law_integer pm__law_integer cd__law_integer ct__law_integer : Value}
    {f__law_text : Addr} {od__law_text an__law_text : Option Addr} {sl__law_text : Array (Option Value)} {oc__law_text kV__law_text dc__law_text pm__law_text cd__law_text ct__law_text : Value}
    {f__law_refuses : Addr} {od__law_refuses an__law_refuses : Option Addr} {sl__law_refuses : Array (Option Value)} {oc__law_refuses kV__law_refuses dc__law_refuses pm__law_refuses cd__law_refuses ct__law_refuses : Value}
    {f__law_goes_on : Addr} {od__law_goes_on an__law_goes_on : Option Addr} {sl__law_goes_on : Array (Option Value)} {oc__law_goes_on kV__law_goes_on dc__law_goes_on pm__law_goes_on cd__law_goes_on ct__law_goes_on : Value}
    {f_law : Addr} {od_law an_law : Option Addr} {sl_law : Array (Option Value)} {oc_law kV_law dc_law pm_law cd_law ct_law : Value}
    (z_MOST_DIGITS : PySem.W.nsIn K mainGlobals "MOST_DIGITS" = some (some (Value.int (30 : Int) t_MOST_DIGITS)))
    (z_DIGITS : PySem.W.nsIn K mainGlobals "DIGITS" = some (some (Value.str ("0123456789" : Str) t_DIGITS)))
    (n_int : PySem.W.nsIn K mainGlobals "int" = some none)
    (n_isinstance : PySem.W.nsIn K mainGlobals "isinstance" = some none)
    (n_bool : PySem.W.nsIn K mainGlobals "bool" = some none)
    (n_list : PySem.W.nsIn K mainGlobals "list" = some none)
    (n_enumerate : PySem.W.nsIn K mainGlobals "enumerate" = some none)
    (n_len : PySem.W.nsIn K mainGlobals "len" = some none)
    (n_set : PySem.W.nsIn K mainGlobals "set" = some none)
    (n_str : PySem.W.nsIn K mainGlobals "str" = some none)
    (n_tuple : PySem.W.nsIn K mainGlobals "tuple" = some none)
    (n_range : PySem.W.nsIn K mainGlobals "range" = some none)
    (n_all : PySem.W.nsIn K mainGlobals "all" = some none)
    (n_min : PySem.W.nsIn K mainGlobals "min" = some none)
    (n_max : PySem.W.nsIn K mainGlobals "max" = some none)
    (aG_First : PySem.W.nsIn K mainGlobals "First" = some (some (.ref C_First)))
    (mG_First : PySem.W.makesIn K C_First = true)
    (iG_First : PySem.W.findIn K (.ref C_First) "__init__" = some (some (.builtin "object.__init__")))
    (oG_First : PySem.W.mroIn K C_First (.type "object") = some true)
    (kG_First : PySem.W.keepIn K (.ref C_First) = true)
    (pG_First : PySem.W.plainGet K C_First Str.empty = true)
    (hG_First : PySem.W.hasDictIn K C_First = true)
    (vG_First : PySem.W.plainOver K C_First = true)
    (wG_First : PySem.W.findIn K (.ref C_First) "__setattr__" = some (some (.builtin "object.__setattr__")))
    (cG_First : PySem.W.findIn K (.ref C_First) "__class__" = some (some (.builtin "object.__class__")))
    (zG_Busy : PySem.W.nsIn K mainGlobals "Busy" = some none)
    (zG_Rare : PySem.W.nsIn K mainGlobals "Rare" = some none)
    (aG_Other : PySem.W.nsIn K mainGlobals "Other" = some (some (.ref C_Other)))
    (mG_Other : PySem.W.makesIn K C_Other = true)
    (iG_Other : PySem.W.findIn K (.ref C_Other) "__init__" = some (some (.builtin "object.__init__")))
    (oG_Other : PySem.W.mroIn K C_Other (.type "object") = some true)
    (kG_Other : PySem.W.keepIn K (.ref C_Other) = true)
    (pG_Other : PySem.W.plainGet K C_Other Str.empty = true)
    (hG_Other : PySem.W.hasDictIn K C_Other = true)
    (vG_Other : PySem.W.plainOver K C_Other = true)
    (wG_Other : PySem.W.findIn K (.ref C_Other) "__setattr__" = some (some (.builtin "object.__setattr__")))
    (cG_Other : PySem.W.findIn K (.ref C_Other) "__class__" = some (some (.builtin "object.__class__")))
    (lG_Other : PySem.W.isClsIn K C_Other = true)
    (tG_Other : PySem.W.typeIn K (.ref C_Other) = some (.type "type"))
    (sG_First : PySem.W.subIn K (.ref C_First) (.ref C_Other) = some false)
    (sG_Other : PySem.W.subIn K (.ref C_Other) (.ref C_Other) = some true)
    (nG : PySem.W.specialIn K (.builtin "object.__class__") "__get__" = some (some (.builtin "getset_descriptor.__get__")))
    (tG : PySem.W.takesIn K (.builtin "object.__class__") = some true)
    (a_InvalidText : PySem.W.nsIn K mainGlobals "InvalidText" = some (some (.ref C_InvalidText)))
    (x_InvalidText : PySem.W.excIn K C_InvalidText [.type "ValueError", .type "Exception", .type "BaseException", .type "object"] "ValueError.__new__" = true)
    (k_InvalidText : PySem.W.keepIn K (.ref C_InvalidText) = true)
    (b_InvalidText : PySem.W.subIn K (.ref C_InvalidText) (.type "BaseException") = some true)
    (t_InvalidText : PySem.W.typeIn K (.ref C_InvalidText) = some (.type "type"))
    (i_InvalidText : PySem.W.isClsIn K C_InvalidText = true)
    (s_InvalidText : PySem.W.subIn K (.ref C_InvalidText) (.ref C_InvalidText) = some true)
    (a_is_integer : PySem.W.nsIn K mainGlobals "is_integer" = some (some (.ref f_is_integer)))
    (l_is_integer : K.lookup f_is_integer = some ⟨oc_is_integer, od_is_integer, .func (PySem.W.fnOf "is_integer" "is_integer" (defArgs s_is_integer) (defBody s_is_integer) (defScope s_is_integer) .none kV_is_integer dc_is_integer pm_is_integer an_is_integer cd_is_integer ct_is_integer), sl_is_integer⟩)
    (c_is_integer : PySem.W.codeIn K cd_is_integer "is_integer" = true)
    (k_is_integer : PySem.W.keepIn K (.ref f_is_integer) = true)
    (a_are_ties : PySem.W.nsIn K mainGlobals "are_ties" = some (some (.ref f_are_ties)))
    (l_are_ties : K.lookup f_are_ties = some ⟨oc_are_ties, od_are_ties, .func (PySem.W.fnOf "are_ties" "are_ties" (defArgs s_are_ties) (defBody s_are_ties) (defScope s_are_ties) .none kV_are_ties dc_are_ties pm_are_ties an_are_ties cd_are_ties ct_are_ties), sl_are_ties⟩)
    (c_are_ties : PySem.W.codeIn K cd_are_ties "are_ties" = true)
    (k_are_ties : PySem.W.keepIn K (.ref f_are_ties) = true)
    (a_is_web : PySem.W.nsIn K mainGlobals "is_web" = some (some (.ref f_is_web)))
    (l_is_web : K.lookup f_is_web = some ⟨oc_is_web, od_is_web, .func (PySem.W.fnOf "is_web" "is_web" (defArgs s_is_web) (defBody s_is_web) (defScope s_is_web) .none kV_is_web dc_is_web pm_is_web an_is_web cd_is_web ct_is_web), sl_is_web⟩)
    (c_is_web : PySem.W.codeIn K cd_is_web "is_web" = true)
    (k_is_web : PySem.W.keepIn K (.ref f_is_web) = true)
    (a_check_web : PySem.W.nsIn K mainGlobals "check_web" = some (some (.ref f_check_web)))
    (l_check_web : K.lookup f_check_web = some ⟨oc_check_web, od_check_web, .func (PySem.W.fnOf "check_web" "check_web" (defArgs s_check_web) (defBody s_check_web) (defScope s_check_web) .none kV_check_web dc_check_web pm_check_web an_check_web cd_check_web ct_check_web), sl_check_web⟩)
    (c_check_web : PySem.W.codeIn K cd_check_web "check_web" = true)
    (k_check_web : PySem.W.keepIn K (.ref f_check_web) = true)
    (a_is_thing : PySem.W.nsIn K mainGlobals "is_thing" = some (some (.ref f_is_thing)))
    (l_is_thing : K.lookup f_is_thing = some ⟨oc_is_thing, od_is_thing, .func (PySem.W.fnOf "is_thing" "is_thing" (defArgs s_is_thing) (defBody s_is_thing) (defScope s_is_thing) .none kV_is_thing dc_is_thing pm_is_thing an_is_thing cd_is_thing ct_is_thing), sl_is_thing⟩)
    (c_is_thing : PySem.W.codeIn K cd_is_thing "is_thing" = true)
    (k_is_thing : PySem.W.keepIn K (.ref f_is_thing) = true)
    (a_check_colouring : PySem.W.nsIn K mainGlobals "check_colouring" = some (some (.ref f_check_colouring)))
    (l_check_colouring : K.lookup f_check_colouring = some ⟨oc_check_colouring, od_check_colouring, .func (PySem.W.fnOf "check_colouring" "check_colouring" (defArgs s_check_colouring) (defBody s_check_colouring) (defScope s_check_colouring) .none kV_check_colouring dc_check_colouring pm_check_colouring an_check_colouring cd_check_colouring ct_check_colouring), sl_check_colouring⟩)
    (c_check_colouring : PySem.W.codeIn K cd_check_colouring "check_colouring" = true)
    (k_check_colouring : PySem.W.keepIn K (.ref f_check_colouring) = true)
    (a_colour_count : PySem.W.nsIn K mainGlobals "colour_count" = some (some (.ref f_colour_count)))
    (l_colour_count : K.lookup f_colour_count = some ⟨oc_colour_count, od_colour_count, .func (PySem.W.fnOf "colour_count" "colour_count" (defArgs s_colour_count) (defBody s_colour_count) (defScope s_colour_count) .none kV_colour_count dc_colour_count pm_colour_count an_colour_count cd_colour_count ct_colour_count), sl_colour_count⟩)
    (c_colour_count : PySem.W.codeIn K cd_colour_count "colour_count" = true)
    (k_colour_count : PySem.W.keepIn K (.ref f_colour_count) = true)
    (a_read_number : PySem.W.nsIn K mainGlobals "read_number" = some (some (.ref f_read_number)))
    (l_read_number : K.lookup f_read_number = some ⟨oc_read_number, od_read_number, .func (PySem.W.fnOf "read_number" "read_number" (defArgs s_read_number) (defBody s_read_number) (defScope s_read_number) .none kV_read_number dc_read_number pm_read_number an_read_number cd_read_number ct_read_number), sl_read_number⟩)
    (c_read_number : PySem.W.codeIn K cd_read_number "read_number" = true)
    (k_read_number : PySem.W.keepIn K (.ref f_read_number) = true)
    (a_show_colours : PySem.W.nsIn K mainGlobals "show_colours" = some (some (.ref f_show_colours)))
    (l_show_colours : K.lookup f_show_colours = some ⟨oc_show_colours, od_show_colours, .func (PySem.W.fnOf "show_colours" "show_colours" (defArgs s_show_colours) (defBody s_show_colours) (defScope s_show_colours) .none kV_show_colours dc_show_colours pm_show_colours an_show_colours cd_show_colours ct_show_colours), sl_show_colours⟩)
    (c_show_colours : PySem.W.codeIn K cd_show_colours "show_colours" = true)
    (k_show_colours : PySem.W.keepIn K (.ref f_show_colours) = true)
    (a_read_colours : PySem.W.nsIn K mainGlobals "read_colours" = some (some (.ref f_read_colours)))
    (l_read_colours : K.lookup f_read_colours = some ⟨oc_read_colours, od_read_colours, .func (PySem.W.fnOf "read_colours" "read_colours" (defArgs s_read_colours) (defBody s_read_colours) (defScope s_read_colours) .none kV_read_colours dc_read_colours pm_read_colours an_read_colours cd_read_colours ct_read_colours), sl_read_colours⟩)
    (c_read_colours : PySem.W.codeIn K cd_read_colours "read_colours" = true)
    (k_read_colours : PySem.W.keepIn K (.ref f_read_colours) = true)
    (a_least_free : PySem.W.nsIn K mainGlobals "least_free" = some (some (.ref f_least_free)))
    (l_least_free : K.lookup f_least_free = some ⟨oc_least_free, od_least_free, .func (PySem.W.fnOf "least_free" "least_free" (defArgs s_least_free) (defBody s_least_free) (defScope s_least_free) .none kV_least_free dc_least_free pm_least_free an_least_free cd_least_free ct_least_free), sl_least_free⟩)
    (c_least_free : PySem.W.codeIn K cd_least_free "least_free" = true)
    (k_least_free : PySem.W.keepIn K (.ref f_least_free) = true)
    (qG_First_pick : PySem.W.findIn K (.ref C_First) "pick" = some (some (.ref f_First_pick)))
    (fG_First_pick : PySem.W.isFn K (.ref f_First_pick) = true)
    (l_First_pick : K.lookup f_First_pick = some ⟨oc_First_pick, od_First_pick, .func (PySem.W.fnOf "pick" "First.pick" (defArgs s_First_pick) (defBody s_First_pick) (defScope s_First_pick) .none kV_First_pick dc_First_pick pm_First_pick an_First_pick cd_First_pick ct_First_pick), sl_First_pick⟩)
    (c_First_pick : PySem.W.codeIn K cd_First_pick "First.pick" = true)
    (k_First_pick : PySem.W.keepIn K (.ref f_First_pick) = true)
    (a_next_colour : PySem.W.nsIn K mainGlobals "next_colour" = some (some (.ref f_next_colour)))
    (l_next_colour : K.lookup f_next_colour = some ⟨oc_next_colour, od_next_colour, .func (PySem.W.fnOf "next_colour" "next_colour" (defArgs s_next_colour) (defBody s_next_colour) (defScope s_next_colour) .none kV_next_colour dc_next_colour pm_next_colour an_next_colour cd_next_colour ct_next_colour), sl_next_colour⟩)
    (c_next_colour : PySem.W.codeIn K cd_next_colour "next_colour" = true)
    (k_next_colour : PySem.W.keepIn K (.ref f_next_colour) = true)
    (a_is_right : PySem.W.nsIn K mainGlobals "is_right" = some (some (.ref f_is_right)))
    (l_is_right : K.lookup f_is_right = some ⟨oc_is_right, od_is_right, .func (PySem.W.fnOf "is_right" "is_right" (defArgs s_is_right) (defBody s_is_right) (defScope s_is_right) .none kV_is_right dc_is_right pm_is_right an_is_right cd_is_right ct_is_right), sl_is_right⟩)
    (c_is_right : PySem.W.codeIn K cd_is_right "is_right" = true)
    (k_is_right : PySem.W.keepIn K (.ref f_is_right) = true)
    (a_is_witness : PySem.W.nsIn K mainGlobals "is_witness" = some (some (.ref f_is_witness)))
    (l_is_witness : K.lookup f_is_witness = some ⟨oc_is_witness, od_is_witness, .func (PySem.W.fnOf "is_witness" "is_witness" (defArgs s_is_witness) (defBody s_is_witness) (defScope s_is_witness) .none kV_is_witness dc_is_witness pm_is_witness an_is_witness cd_is_witness ct_is_witness), sl_is_witness⟩)
    (c_is_witness : PySem.W.codeIn K cd_is_witness "is_witness" = true)
    (k_is_witness : PySem.W.keepIn K (.ref f_is_witness) = true)
    (a__law_deck : PySem.W.nsIn K mainGlobals "_law_deck" = some (some (.ref f__law_deck)))
    (l__law_deck : K.lookup f__law_deck = some ⟨oc__law_deck, od__law_deck, .func (PySem.W.fnOf "_law_deck" "_law_deck" (defArgs s__law_deck) (defBody s__law_deck) (defScope s__law_deck) .none kV__law_deck dc__law_deck pm__law_deck an__law_deck cd__law_deck ct__law_deck), sl__law_deck⟩)
    (c__law_deck : PySem.W.codeIn K cd__law_deck "_law_deck" = true)
    (k__law_deck : PySem.W.keepIn K (.ref f__law_deck) = true)
    (a__law_draw : PySem.W.nsIn K mainGlobals "_law_draw" = some (some (.ref f__law_draw)))
    (l__law_draw : K.lookup f__law_draw = some ⟨oc__law_draw, od__law_draw, .func (PySem.W.fnOf "_law_draw" "_law_draw" (defArgs s__law_draw) (defBody s__law_draw) (defScope s__law_draw) .none kV__law_draw dc__law_draw pm__law_draw an__law_draw cd__law_draw ct__law_draw), sl__law_draw⟩)
    (c__law_draw : PySem.W.codeIn K cd__law_draw "_law_draw" = true)
    (k__law_draw : PySem.W.keepIn K (.ref f__law_draw) = true)
    (a__law_is_integer : PySem.W.nsIn K mainGlobals "_law_is_integer" = some (some (.ref f__law_is_integer)))
    (l__law_is_integer : K.lookup f__law_is_integer = some ⟨oc__law_is_integer, od__law_is_integer, .func (PySem.W.fnOf "_law_is_integer" "_law_is_integer" (defArgs s__law_is_integer) (defBody s__law_is_integer) (defScope s__law_is_integer) .none kV__law_is_integer dc__law_is_integer pm__law_is_integer an__law_is_integer cd__law_is_integer ct__law_is_integer), sl__law_is_integer⟩)
    (c__law_is_integer : PySem.W.codeIn K cd__law_is_integer "_law_is_integer" = true)
    (k__law_is_integer : PySem.W.keepIn K (.ref f__law_is_integer) = true)
    (a__law_same_list : PySem.W.nsIn K mainGlobals "_law_same_list" = some (some (.ref f__law_same_list)))
    (l__law_same_list : K.lookup f__law_same_list = some ⟨oc__law_same_list, od__law_same_list, .func (PySem.W.fnOf "_law_same_list" "_law_same_list" (defArgs s__law_same_list) (defBody s__law_same_list) (defScope s__law_same_list) .none kV__law_same_list dc__law_same_list pm__law_same_list an__law_same_list cd__law_same_list ct__law_same_list), sl__law_same_list⟩)
    (c__law_same_list : PySem.W.codeIn K cd__law_same_list "_law_same_list" = true)
    (k__law_same_list : PySem.W.keepIn K (.ref f__law_same_list) = true)
    (a__law_integer : PySem.W.nsIn K mainGlobals "_law_integer" = some (some (.ref f__law_integer)))
    (l__law_integer : K.lookup f__law_integer = some ⟨oc__law_integer, od__law_integer, .func (PySem.W.fnOf "_law_integer" "_law_integer" (defArgs s__law_integer) (defBody s__law_integer) (defScope s__law_integer) .none kV__law_integer dc__law_integer pm__law_integer an__law_integer cd__law_integer ct__law_integer), sl__law_integer⟩)
    (c__law_integer : PySem.W.codeIn K cd__law_integer "_law_integer" = true)
    (k__law_integer : PySem.W.keepIn K (.ref f__law_integer) = true)
    (a__law_text : PySem.W.nsIn K mainGlobals "_law_text" = some (some (.ref f__law_text)))
    (l__law_text : K.lookup f__law_text = some ⟨oc__law_text, od__law_text, .func (PySem.W.fnOf "_law_text" "_law_text" (defArgs s__law_text) (defBody s__law_text) (defScope s__law_text) .none kV__law_text dc__law_text pm__law_text an__law_text cd__law_text ct__law_text), sl__law_text⟩)
    (c__law_text : PySem.W.codeIn K cd__law_text "_law_text" = true)
    (k__law_text : PySem.W.keepIn K (.ref f__law_text) = true)
    (a__law_refuses : PySem.W.nsIn K mainGlobals "_law_refuses" = some (some (.ref f__law_refuses)))
    (l__law_refuses : K.lookup f__law_refuses = some ⟨oc__law_refuses, od__law_refuses, .func (PySem.W.fnOf "_law_refuses" "_law_refuses" (defArgs s__law_refuses) (defBody s__law_refuses) (defScope s__law_refuses) .none kV__law_refuses dc__law_refuses pm__law_refuses an__law_refuses cd__law_refuses ct__law_refuses), sl__law_refuses⟩)
    (c__law_refuses : PySem.W.codeIn K cd__law_refuses "_law_refuses" = true)
    (k__law_refuses : PySem.W.keepIn K (.ref f__law_refuses) = true)
    (a__law_goes_on : PySem.W.nsIn K mainGlobals "_law_goes_on" = some (some (.ref f__law_goes_on)))
    (l__law_goes_on : K.lookup f__law_goes_on = some ⟨oc__law_goes_on, od__law_goes_on, .func (PySem.W.fnOf "_law_goes_on" "_law_goes_on" (defArgs s__law_goes_on) (defBody s__law_goes_on) (defScope s__law_goes_on) .none kV__law_goes_on dc__law_goes_on pm__law_goes_on an__law_goes_on cd__law_goes_on ct__law_goes_on), sl__law_goes_on⟩)
    (c__law_goes_on : PySem.W.codeIn K cd__law_goes_on "_law_goes_on" = true)
    (k__law_goes_on : PySem.W.keepIn K (.ref f__law_goes_on) = true)
    (a_law : PySem.W.nsIn K mainGlobals "law" = some (some (.ref f_law)))
    (l_law : K.lookup f_law = some ⟨oc_law, od_law, .func (PySem.W.fnOf "law" "law" (defArgs s_law) (defBody s_law) (defScope s_law) .none kV_law dc_law pm_law an_law cd_law ct_law), sl_law⟩)
    (c_law : PySem.W.codeIn K cd_law "law" = true)
    (k_law : PySem.W.keepIn K (.ref f_law) = true) :
    ∃ fd : FuncData, (∀ (s : Shared) (v : Value), BindsTo s fd ⟨[v], []⟩ [("script", v)]) ∧ ∀ base : Heap, K.In base → base.Ns mainGlobals mg → FnOk l.prog w K mg base CX0 206 fa fd ["script"] (sp_law72 K) := by
  have e := hfa.symm.trans (PySem.W.mg_of X G a_law)
  have e2 : f_law = fa := by
    cases e
    rfl
  subst e2
  have F_is_integer := fun_mk (st := s_is_integer) l_is_integer c_is_integer k_is_integer
  have F_are_ties := fun_mk (st := s_are_ties) l_are_ties c_are_ties k_are_ties
  have F_is_web := fun_mk (st := s_is_web) l_is_web c_is_web k_is_web
  have F_check_web := fun_mk (st := s_check_web) l_check_web c_check_web k_check_web
  have F_is_thing := fun_mk (st := s_is_thing) l_is_thing c_is_thing k_is_thing
  have F_check_colouring := fun_mk (st := s_check_colouring) l_check_colouring c_check_colouring k_check_colouring
  have F_colour_count := fun_mk (st := s_colour_count) l_colour_count c_colour_count k_colour_count
  have F_read_number := fun_mk (st := s_read_number) l_read_number c_read_number k_read_number
  have F_show_colours := fun_mk (st := s_show_colours) l_show_colours c_show_colours k_show_colours
  have F_read_colours := fun_mk (st := s_read_colours) l_read_colours c_read_colours k_read_colours
  have F_least_free := fun_mk (st := s_least_free) l_least_free c_least_free k_least_free
  have F_First_pick := fun_mk (st := s_First_pick) l_First_pick c_First_pick k_First_pick
  have F_next_colour := fun_mk (st := s_next_colour) l_next_colour c_next_colour k_next_colour
  have F_is_right := fun_mk (st := s_is_right) l_is_right c_is_right k_is_right
  have F_is_witness := fun_mk (st := s_is_witness) l_is_witness c_is_witness k_is_witness
  have F__law_deck := fun_mk (st := s__law_deck) l__law_deck c__law_deck k__law_deck
  have F__law_draw := fun_mk (st := s__law_draw) l__law_draw c__law_draw k__law_draw
  have F__law_is_integer := fun_mk (st := s__law_is_integer) l__law_is_integer c__law_is_integer k__law_is_integer
  have F__law_same_list := fun_mk (st := s__law_same_list) l__law_same_list c__law_same_list k__law_same_list
  have F__law_integer := fun_mk (st := s__law_integer) l__law_integer c__law_integer k__law_integer
  have F__law_text := fun_mk (st := s__law_text) l__law_text c__law_text k__law_text
  have F__law_refuses := fun_mk (st := s__law_refuses) l__law_refuses c__law_refuses k__law_refuses
  have F__law_goes_on := fun_mk (st := s__law_goes_on) l__law_goes_on c__law_goes_on k__law_goes_on
  have F_law := fun_mk (st := s_law) l_law c_law k_law
  let T : Env K mg := {
    gv := { C := (fun r => match r with | .first => C_First | .busy => f_law | .rare => f_law | .other => C_Other), g := (fun r => match r with | .first => .inl (PySem.W.mg_of X G aG_First) | .busy => .inr (PySem.W.mg_none_of X G zG_Busy) | .rare => .inr (PySem.W.mg_none_of X G zG_Rare) | .other => .inl (PySem.W.mg_of X G aG_Other)), o := (fun r => match r with | .first => fun _ => ⟨⟨mG_First, iG_First, oG_First, kG_First⟩, ⟨pG_First, hG_First, vG_First, wG_First⟩, cG_First⟩ | .busy => fun q => absurd ((PySem.W.mg_none_of X G zG_Busy).symm.trans q) (by simp) | .rare => fun q => absurd ((PySem.W.mg_none_of X G zG_Rare).symm.trans q) (by simp) | .other => fun _ => ⟨⟨mG_Other, iG_Other, oG_Other, kG_Other⟩, ⟨pG_Other, hG_Other, vG_Other, wG_Other⟩, cG_Other⟩), kit := (fun r => match r with | .first => fun _ => kit9 sG_First lG_Other tG_Other sG_Other | .busy => fun q => absurd ((PySem.W.mg_none_of X G zG_Busy).symm.trans q) (by simp) | .rare => fun q => absurd ((PySem.W.mg_none_of X G zG_Rare).symm.trans q) (by simp) | .other => fun _ => kit9 sG_Other lG_Other tG_Other sG_Other), hn := nG, tk := tG }
    gP_First := PySem.W.mg_of X G aG_First
    gP_Other := PySem.W.mg_of X G aG_Other
    h_First_pick := ⟨qG_First_pick, fG_First_pick, k_First_pick⟩
    C_InvalidText := C_InvalidText
    g_InvalidText := PySem.W.mg_of X G a_InvalidText
    x_InvalidText := x_InvalidText
    k_InvalidText := k_InvalidText
    b_InvalidText := b_InvalidText
    t_InvalidText := t_InvalidText
    e_InvalidText := exm9 b_InvalidText i_InvalidText t_InvalidText s_InvalidText
    f_is_integer := f_is_integer
    d_is_integer := _
    F_is_integer := F_is_integer
    g_is_integer := PySem.W.mg_of X G a_is_integer
    b_is_integer := F_is_integer.binds (ps := ["value"]) fun _ _ _ _ _ _ us hl => match us, hl with | [_], _ => rfl
    f_are_ties := f_are_ties
    d_are_ties := _
    F_are_ties := F_are_ties
    g_are_ties := PySem.W.mg_of X G a_are_ties
    b_are_ties := F_are_ties.binds (ps := ["value", "size"]) fun _ _ _ _ _ _ us hl => match us, hl with | [_, _], _ => rfl
    f_is_web := f_is_web
    d_is_web := _
    F_is_web := F_is_web
    g_is_web := PySem.W.mg_of X G a_is_web
    b_is_web := F_is_web.binds (ps := ["value"]) fun _ _ _ _ _ _ us hl => match us, hl with | [_], _ => rfl
    f_check_web := f_check_web
    d_check_web := _
    F_check_web := F_check_web
    g_check_web := PySem.W.mg_of X G a_check_web
    b_check_web := F_check_web.binds (ps := ["web"]) fun _ _ _ _ _ _ us hl => match us, hl with | [_], _ => rfl
    f_is_thing := f_is_thing
    d_is_thing := _
    F_is_thing := F_is_thing
    g_is_thing := PySem.W.mg_of X G a_is_thing
    b_is_thing := F_is_thing.binds (ps := ["value", "web"]) fun _ _ _ _ _ _ us hl => match us, hl with | [_, _], _ => rfl
    f_check_colouring := f_check_colouring
    d_check_colouring := _
    F_check_colouring := F_check_colouring
    g_check_colouring := PySem.W.mg_of X G a_check_colouring
    b_check_colouring := F_check_colouring.binds (ps := ["web", "colours"]) fun _ _ _ _ _ _ us hl => match us, hl with | [_, _], _ => rfl
    f_colour_count := f_colour_count
    d_colour_count := _
    F_colour_count := F_colour_count
    g_colour_count := PySem.W.mg_of X G a_colour_count
    b_colour_count := F_colour_count.binds (ps := ["colours"]) fun _ _ _ _ _ _ us hl => match us, hl with | [_], _ => rfl
    f_read_number := f_read_number
    d_read_number := _
    F_read_number := F_read_number
    g_read_number := PySem.W.mg_of X G a_read_number
    b_read_number := F_read_number.binds (ps := ["word"]) fun _ _ _ _ _ _ us hl => match us, hl with | [_], _ => rfl
    f_show_colours := f_show_colours
    d_show_colours := _
    F_show_colours := F_show_colours
    g_show_colours := PySem.W.mg_of X G a_show_colours
    b_show_colours := F_show_colours.binds (ps := ["colours"]) fun _ _ _ _ _ _ us hl => match us, hl with | [_], _ => rfl
    f_read_colours := f_read_colours
    d_read_colours := _
    F_read_colours := F_read_colours
    g_read_colours := PySem.W.mg_of X G a_read_colours
    b_read_colours := F_read_colours.binds (ps := ["text"]) fun _ _ _ _ _ _ us hl => match us, hl with | [_], _ => rfl
    f_least_free := f_least_free
    d_least_free := _
    F_least_free := F_least_free
    g_least_free := PySem.W.mg_of X G a_least_free
    b_least_free := F_least_free.binds (ps := ["taken"]) fun _ _ _ _ _ _ us hl => match us, hl with | [_], _ => rfl
    f_First_pick := f_First_pick
    d_First_pick := _
    F_First_pick := F_First_pick
    b_First_pick := F_First_pick.binds (ps := ["self", "colours", "ties"]) fun _ _ _ _ _ _ us hl => match us, hl with | [_, _, _], _ => rfl
    f_next_colour := f_next_colour
    d_next_colour := _
    F_next_colour := F_next_colour
    g_next_colour := PySem.W.mg_of X G a_next_colour
    b_next_colour := F_next_colour.binds (ps := ["giver", "web", "colours", "ties"]) fun _ _ _ _ _ _ us hl => match us, hl with | [_, _, _, _], _ => rfl
    f_is_right := f_is_right
    d_is_right := _
    F_is_right := F_is_right
    g_is_right := PySem.W.mg_of X G a_is_right
    b_is_right := F_is_right.binds (ps := ["web", "colours", "paper"]) fun _ _ _ _ _ _ us hl => match us, hl with | [_, _, _], _ => rfl
    f_is_witness := f_is_witness
    d_is_witness := _
    F_is_witness := F_is_witness
    g_is_witness := PySem.W.mg_of X G a_is_witness
    b_is_witness := F_is_witness.binds (ps := ["web", "colours", "paper"]) fun _ _ _ _ _ _ us hl => match us, hl with | [_, _, _], _ => rfl
    f__law_deck := f__law_deck
    d__law_deck := _
    F__law_deck := F__law_deck
    g__law_deck := PySem.W.mg_of X G a__law_deck
    b__law_deck := F__law_deck.binds (ps := ["script", "at"]) fun _ _ _ _ _ _ us hl => match us, hl with | [_, _], _ => rfl
    f__law_draw := f__law_draw
    d__law_draw := _
    F__law_draw := F__law_draw
    g__law_draw := PySem.W.mg_of X G a__law_draw
    b__law_draw := F__law_draw.binds (ps := ["deck", "many"]) fun _ _ _ _ _ _ us hl => match us, hl with | [_, _], _ => rfl
    f__law_is_integer := f__law_is_integer
    d__law_is_integer := _
    F__law_is_integer := F__law_is_integer
    g__law_is_integer := PySem.W.mg_of X G a__law_is_integer
    b__law_is_integer := F__law_is_integer.binds (ps := ["value"]) fun _ _ _ _ _ _ us hl => match us, hl with | [_], _ => rfl
    f__law_same_list := f__law_same_list
    d__law_same_list := _
    F__law_same_list := F__law_same_list
    g__law_same_list := PySem.W.mg_of X G a__law_same_list
    b__law_same_list := F__law_same_list.binds (ps := ["value", "due"]) fun _ _ _ _ _ _ us hl => match us, hl with | [_, _], _ => rfl
    f__law_integer := f__law_integer
    d__law_integer := _
    F__law_integer := F__law_integer
    g__law_integer := PySem.W.mg_of X G a__law_integer
    b__law_integer := F__law_integer.binds (ps := ["deck"]) fun _ _ _ _ _ _ us hl => match us, hl with | [_], _ => rfl
    f__law_text := f__law_text
    d__law_text := _
    F__law_text := F__law_text
    g__law_text := PySem.W.mg_of X G a__law_text
    b__law_text := F__law_text.binds (ps := ["row"]) fun _ _ _ _ _ _ us hl => match us, hl with | [_], _ => rfl
    f__law_refuses := f__law_refuses
    d__law_refuses := _
    F__law_refuses := F__law_refuses
    g__law_refuses := PySem.W.mg_of X G a__law_refuses
    b__law_refuses := F__law_refuses.binds (ps := ["text"]) fun _ _ _ _ _ _ us hl => match us, hl with | [_], _ => rfl
    f__law_goes_on := f__law_goes_on
    d__law_goes_on := _
    F__law_goes_on := F__law_goes_on
    g__law_goes_on := PySem.W.mg_of X G a__law_goes_on
    b__law_goes_on := F__law_goes_on.binds (ps := ["deck", "back", "due"]) fun _ _ _ _ _ _ us hl => match us, hl with | [_, _, _], _ => rfl
    f_law := f_law
    d_law := _
    F_law := F_law
    g_law := PySem.W.mg_of X G a_law
    b_law := F_law.binds (ps := ["script"]) fun _ _ _ _ _ _ us hl => match us, hl with | [_], _ => rfl
    t_MOST_DIGITS := t_MOST_DIGITS
    z_MOST_DIGITS := PySem.W.mg_of X G z_MOST_DIGITS
    t_DIGITS := t_DIGITS
    z_DIGITS := PySem.W.mg_of X G z_DIGITS
    n_int := PySem.W.mg_none_of X G n_int
    n_isinstance := PySem.W.mg_none_of X G n_isinstance
    n_bool := PySem.W.mg_none_of X G n_bool
    n_list := PySem.W.mg_none_of X G n_list
    n_enumerate := PySem.W.mg_none_of X G n_enumerate
    n_len := PySem.W.mg_none_of X G n_len
    n_set := PySem.W.mg_none_of X G n_set
    n_str := PySem.W.mg_none_of X G n_str
    n_tuple := PySem.W.mg_none_of X G n_tuple
    n_range := PySem.W.mg_none_of X G n_range
    n_all := PySem.W.mg_none_of X G n_all
    n_min := PySem.W.mg_none_of X G n_min
    n_max := PySem.W.mg_none_of X G n_max }
  exact ⟨PySem.W.fnOf "law" "law" (defArgs s_law) (defBody s_law) (defScope s_law) .none kV_law dc_law pm_law an_law cd_law ct_law, fun s v => .of_eq rfl, fun base _ _ => ok_law72 T⟩
theorem walkT {l : PySem.W.OpenLaw} {q : Program} {loose : List Str} {XP : (Str → Option Value) → Heap → Prop} {YP : World → Heap → Prop} {d : DefRec} {K : Params → PySem.W.Frag} (hn : l.most = some 63) (hdf : d.params.defaults = [])
    (hY : ∀ (w : World) (h : Heap), YP w h → (K w.params).In h) (F : ∀ (w : World) (mg : Str → Option Value) (fa : Addr) (h : Heap), (K w.params).In h → h.Ns mainGlobals mg → mg d.name = some (.ref fa) →
      ∃ fd : FuncData, (∀ (s : Shared) (u : Value), BindsTo s fd ⟨[u], []⟩ [("script", u)]) ∧ ∀ base : Heap, (K w.params).In base → base.Ns mainGlobals mg → FnOk l.prog w (K w.params) mg base CX0 206 fa fd ["script"] (sp_law72 (K w.params))) :
    PySem.W.WalkO q loose XP YP l.row.toRowW d [] (fun f vs => PySem.call f vs) :=
  L2.walk_of (n := 63) (k := 206) (x := "script") (CX := fun _ => CX0) (sp := fun w => sp_law72 (K w.params)) hn (by decide) hdf ⟨rfl, by decide, by decide⟩ hY F (fun _ H a ns _ _ hS => ⟨H, a, ns, true, rfl, Ex.refl _, hS, law72_ok ns, fun _ _ _ => rfl⟩) fun _ _ _ _ _ z => z
end Tw

open PySem PySem.W PyProof.Rows in
set_option maxRecDepth 100000 in
set_option maxHeartbeats 0 in
theorem PySem.Challenge.cw_tintonce_k72_texts_of_colours_holds : PySem.Challenge.rw_tintonce_k72_texts_of_colours.Holds := by
  w_on; o_law; k_head; (case hw => w_witness2)
  k_fill
  refine Tw.walkT (l := PySem.Challenge.rw_tintonce_k72_texts_of_colours) rfl rfl (fun w h Y => PySem.W.kIn_of Y) ?F
  case F =>
    intro w mg fa h KX G hmg
    refine' Tw.all_mk KX G hmg ?z_MOST_DIGITS ?z_DIGITS ?n_int ?n_isinstance ?n_bool ?n_list ?n_enumerate ?n_len ?n_set ?n_str ?n_tuple ?n_range ?n_all ?n_min ?n_max ?aG_First ?mG_First ?iG_First ?oG_First ?kG_First ?pG_First ?hG_First ?vG_First ?wG_First ?cG_First ?zG_Busy ?zG_Rare ?aG_Other ?mG_Other ?iG_Other ?oG_Other ?kG_Other ?pG_Other ?hG_Other ?vG_Other ?wG_Other ?cG_Other ?lG_Other ?tG_Other ?sG_First ?sG_Other ?nG ?tG ?a_InvalidText ?x_InvalidText ?k_InvalidText ?b_InvalidText ?t_InvalidText ?i_InvalidText ?s_InvalidText ?a_is_integer ?l_is_integer ?c_is_integer ?k_is_integer ?a_are_ties ?l_are_ties ?c_are_ties ?k_are_ties ?a_is_web ?l_is_web ?c_is_web ?k_is_web ?a_check_web ?l_check_web ?c_check_web ?k_check_web ?a_is_thing ?l_is_thing ?c_is_thing ?k_is_thing ?a_check_colouring ?l_check_colouring ?c_check_colouring ?k_check_colouring ?a_colour_count ?l_colour_count ?c_colour_count ?k_colour_count ?a_read_number ?l_read_number ?c_read_number ?k_read_number ?a_show_colours ?l_show_colours ?c_show_colours ?k_show_colours ?a_read_colours ?l_read_colours ?c_read_colours ?k_read_colours ?a_least_free ?l_least_free ?c_least_free ?k_least_free ?qG_First_pick ?fG_First_pick ?l_First_pick ?c_First_pick ?k_First_pick ?a_next_colour ?l_next_colour ?c_next_colour ?k_next_colour ?a_is_right ?l_is_right ?c_is_right ?k_is_right ?a_is_witness ?l_is_witness ?c_is_witness ?k_is_witness ?a__law_deck ?l__law_deck ?c__law_deck ?k__law_deck ?a__law_draw ?l__law_draw ?c__law_draw ?k__law_draw ?a__law_is_integer ?l__law_is_integer ?c__law_is_integer ?k__law_is_integer ?a__law_same_list ?l__law_same_list ?c__law_same_list ?k__law_same_list ?a__law_integer ?l__law_integer ?c__law_integer ?k__law_integer ?a__law_text ?l__law_text ?c__law_text ?k__law_text ?a__law_refuses ?l__law_refuses ?c__law_refuses ?k__law_refuses ?a__law_goes_on ?l__law_goes_on ?c__law_goes_on ?k__law_goes_on ?a_law ?l_law ?c_law ?k_law
    (case z_MOST_DIGITS => k_is)
    (case z_DIGITS => k_is)
    (case n_int => k_is)
    (case n_isinstance => k_is)
    (case n_bool => k_is)
    (case n_list => k_is)
    (case n_enumerate => k_is)
    (case n_len => k_is)
    (case n_set => k_is)
    (case n_str => k_is)
    (case n_tuple => k_is)
    (case n_range => k_is)
    (case n_all => k_is)
    (case n_min => k_is)
    (case n_max => k_is)
    (case aG_First => k_is)
    (case mG_First => k_is)
    (case iG_First => k_is)
    (case oG_First => k_is)
    (case kG_First => k_is)
    (case pG_First => k_is)
    (case hG_First => k_is)
    (case vG_First => k_is)
    (case wG_First => k_is)
    (case cG_First => k_is)
    (case zG_Busy => k_is)
    (case zG_Rare => k_is)
    (case aG_Other => k_is)
    (case mG_Other => k_is)
    (case iG_Other => k_is)
    (case oG_Other => k_is)
    (case kG_Other => k_is)
    (case pG_Other => k_is)
    (case hG_Other => k_is)
    (case vG_Other => k_is)
    (case wG_Other => k_is)
    (case cG_Other => k_is)
    (case lG_Other => k_is)
    (case tG_Other => k_is)
    (case sG_First => k_is)
    (case sG_Other => k_is)
    (case nG => k_is)
    (case tG => k_is)
    (case a_InvalidText => k_is)
    (case x_InvalidText => k_exc)
    (case k_InvalidText => k_is)
    (case b_InvalidText => k_is)
    (case t_InvalidText => k_is)
    (case i_InvalidText => k_is)
    (case s_InvalidText => first | rfl | k_is)
    (case a_is_integer => k_is)
    (case l_is_integer => k_is)
    (case c_is_integer => k_is)
    (case k_is_integer => k_is)
    (case a_are_ties => k_is)
    (case l_are_ties => k_is)
    (case c_are_ties => k_is)
    (case k_are_ties => k_is)
    (case a_is_web => k_is)
    (case l_is_web => k_is)
    (case c_is_web => k_is)
    (case k_is_web => k_is)
    (case a_check_web => k_is)
    (case l_check_web => k_is)
    (case c_check_web => k_is)
    (case k_check_web => k_is)
    (case a_is_thing => k_is)
    (case l_is_thing => k_is)
    (case c_is_thing => k_is)
    (case k_is_thing => k_is)
    (case a_check_colouring => k_is)
    (case l_check_colouring => k_is)
    (case c_check_colouring => k_is)
    (case k_check_colouring => k_is)
    (case a_colour_count => k_is)
    (case l_colour_count => k_is)
    (case c_colour_count => k_is)
    (case k_colour_count => k_is)
    (case a_read_number => k_is)
    (case l_read_number => k_is)
    (case c_read_number => k_is)
    (case k_read_number => k_is)
    (case a_show_colours => k_is)
    (case l_show_colours => k_is)
    (case c_show_colours => k_is)
    (case k_show_colours => k_is)
    (case a_read_colours => k_is)
    (case l_read_colours => k_is)
    (case c_read_colours => k_is)
    (case k_read_colours => k_is)
    (case a_least_free => k_is)
    (case l_least_free => k_is)
    (case c_least_free => k_is)
    (case k_least_free => k_is)
    (case qG_First_pick => k_is)
    (case fG_First_pick => k_is)
    (case l_First_pick => k_is)
    (case c_First_pick => k_is)
    (case k_First_pick => k_is)
    (case a_next_colour => k_is)
    (case l_next_colour => k_is)
    (case c_next_colour => k_is)
    (case k_next_colour => k_is)
    (case a_is_right => k_is)
    (case l_is_right => k_is)
    (case c_is_right => k_is)
    (case k_is_right => k_is)
    (case a_is_witness => k_is)
    (case l_is_witness => k_is)
    (case c_is_witness => k_is)
    (case k_is_witness => k_is)
    (case a__law_deck => k_is)
    (case l__law_deck => k_is)
    (case c__law_deck => k_is)
    (case k__law_deck => k_is)
    (case a__law_draw => k_is)
    (case l__law_draw => k_is)
    (case c__law_draw => k_is)
    (case k__law_draw => k_is)
    (case a__law_is_integer => k_is)
    (case l__law_is_integer => k_is)
    (case c__law_is_integer => k_is)
    (case k__law_is_integer => k_is)
    (case a__law_same_list => k_is)
    (case l__law_same_list => k_is)
    (case c__law_same_list => k_is)
    (case k__law_same_list => k_is)
    (case a__law_integer => k_is)
    (case l__law_integer => k_is)
    (case c__law_integer => k_is)
    (case k__law_integer => k_is)
    (case a__law_text => k_is)
    (case l__law_text => k_is)
    (case c__law_text => k_is)
    (case k__law_text => k_is)
    (case a__law_refuses => k_is)
    (case l__law_refuses => k_is)
    (case c__law_refuses => k_is)
    (case k__law_refuses => k_is)
    (case a__law_goes_on => k_is)
    (case l__law_goes_on => k_is)
    (case c__law_goes_on => k_is)
    (case k__law_goes_on => k_is)
    (case a_law => k_is)
    (case l_law => k_is)
    (case c_law => k_is)
    (case k_law => k_is)
