import PyProof.Rows.All
import HandS.Deep
import HandS.Evl
import HandS.Exc
import HandS.ExcOwn
import HandS.ForExc
import HandS.ForMost
import HandS.IsInst
import HandS.SetFor
import HandS.SetIn
import HandS.SortInts
import HandS.Strs
import HandS.Text
import HandS.TryOnly
import HandS.Walk
import HandS.Wide
import HandS.WordsExc
import OpenK.AllK
import PyProof.MinMaxWalk
import PyProof.WalkInts
import Wide.All
import Wide.FinOn
import PySem.Challenge.RW_tintonce_k74_whole_each_text_is_the_one
set_option Elab.async false
set_option linter.all false
set_option maxRecDepth 100000
set_option maxHeartbeats 4000000
/-! Tw: typed readings. A heap H, the part G of it that never changes any more, the mutable roots M. -/
namespace Tw
open PySem L2

/-! ### extension of heaps -/
def Ex (H H' : Hp) : Prop := ∀ a o, H a = some o → H' a = some o
theorem Ex.refl (H : Hp) : Ex H H := fun _ _ h => h
theorem Ex.trans {H H1 H2 : Hp} (a : Ex H H1) (b : Ex H1 H2) : Ex H H2 := fun x o h => b x o (a x o h)
theorem Ex.new {H : Hp} {p : Addr} {o : HO} (h : H p = none) : Ex H (upd H p o) := fun a u e => by
  rw [upd_ne (ne_of_none e h)]
  exact e
theorem Ex.free {H H' : Hp} {p : Addr} (e : Ex H H') (h : H' p = none) : H p = none := by
  cases h1 : H p with
  | none => rfl
  | some o =>
    rw [e p o h1] at h
    cases h
theorem ex_rd {H H' : Hp} {a : Addr} {u : HO} (e : Ex H H') (h : Rd H a u) : Rd H' a u := by
  rcases h with h | ⟨o, h⟩
  · exact Or.inl (e a _ h)
  · exact Or.inr ⟨o, e a _ h⟩
theorem ex_l {K : PySem.W.Frag} {H H' : Hp} {a : Addr} {xs : List V} (e : Ex H H') (h : SqL K H a xs) : SqL K H' a xs := by
  rcases h with h | h
  · exact Or.inl (ex_rd e h)
  · exact Or.inr h
theorem ex_t {K : PySem.W.Frag} {H H' : Hp} {a : Addr} {xs : List V} (e : Ex H H') (h : SqT K H a xs) : SqT K H' a xs := by
  rcases h with h | h
  · exact Or.inl (ex_rd e h)
  · exact Or.inr h

/-! ### lists item by item -/
inductive A2 {α β : Type} (F : α → β → Prop) : List α → List β → Prop where
  | nil : A2 F [] []
  | cons {x y xs ys} (h : F x y) (t : A2 F xs ys) : A2 F (x :: xs) (y :: ys)
section
variable {α β : Type} {F F' : α → β → Prop}
theorem A2.len : ∀ {xs : List α} {ys : List β}, A2 F xs ys → xs.length = ys.length
  | _, _, .nil => rfl
  | _, _, .cons _ t => by rw [List.length_cons, List.length_cons, t.len]
theorem A2.imp (f : ∀ x y, F x y → F' x y) : ∀ {xs : List α} {ys : List β}, A2 F xs ys → A2 F' xs ys
  | _, _, .nil => .nil
  | _, _, .cons h t => .cons (f _ _ h) (t.imp f)
theorem A2.get : ∀ {xs : List α} {ys : List β} {i : Nat} {y : β}, A2 F xs ys → ys[i]? = some y → ∃ x, xs[i]? = some x ∧ F x y
  | _, _, i, _, .nil, e => by simp at e
  | _, _, 0, _, .cons h _, e => by
    simp only [List.getElem?_cons_zero, Option.some.injEq] at e
    subst e
    exact ⟨_, rfl, h⟩
  | _, _, i + 1, _, .cons _ t, e => by
    obtain ⟨x, h1, h2⟩ := A2.get t (by simpa using e)
    exact ⟨x, by simpa using h1, h2⟩
theorem A2.get' : ∀ {xs : List α} {ys : List β} {i : Nat} {x : α}, A2 F xs ys → xs[i]? = some x → ∃ y, ys[i]? = some y ∧ F x y
  | _, _, i, _, .nil, e => by simp at e
  | _, _, 0, _, .cons h _, e => by
    simp only [List.getElem?_cons_zero, Option.some.injEq] at e
    subst e
    exact ⟨_, rfl, h⟩
  | _, _, i + 1, _, .cons _ t, e => by
    obtain ⟨x, h1, h2⟩ := A2.get' t (by simpa using e)
    exact ⟨x, by simpa using h1, h2⟩
theorem A2.app : ∀ {xs xs' : List α} {ys ys' : List β}, A2 F xs ys → A2 F xs' ys' → A2 F (xs ++ xs') (ys ++ ys')
  | _, _, _, _, .nil, h => h
  | _, _, _, _, .cons h t, h' => .cons h (t.app h')
theorem A2.one {x : α} {y : β} (h : F x y) : A2 F [x] [y] := .cons h .nil
theorem A2.take : ∀ {xs : List α} {ys : List β} (n : Nat), A2 F xs ys → A2 F (xs.take n) (ys.take n)
  | _, _, 0, _ => .nil
  | _, _, _ + 1, .nil => .nil
  | _, _, n + 1, .cons h t => .cons h (t.take n)
theorem A2.drop : ∀ {xs : List α} {ys : List β} (n : Nat), A2 F xs ys → A2 F (xs.drop n) (ys.drop n)
  | _, _, 0, h => h
  | _, _, _ + 1, .nil => .nil
  | _, _, n + 1, .cons _ t => A2.drop n t
theorem A2.set : ∀ {xs : List α} {ys : List β} (n : Nat) {x : α} {y : β}, A2 F xs ys → F x y → A2 F (xs.set n x) (ys.set n y)
  | _, _, _, _, _, .nil, _ => .nil
  | _, _, 0, _, _, .cons _ t, h => .cons h t
  | _, _, n + 1, _, _, .cons h' t, h => .cons h' (t.set n h)
theorem A2.rev : ∀ {xs : List α} {ys : List β}, A2 F xs ys → A2 F xs.reverse ys.reverse
  | _, _, .nil => .nil
  | _, _, .cons h t => by
    rw [List.reverse_cons, List.reverse_cons]
    exact t.rev.app (.one h)
theorem A2.map {γ : Type} {f : β → α} (g : γ → β) (h : ∀ c, F (f (g c)) (g c)) : ∀ cs : List γ, A2 F (cs.map fun c => f (g c)) (cs.map g)
  | [] => .nil
  | c :: cs => .cons (h c) (A2.map g h cs)
theorem A2.mapL {f : β → α} (h : ∀ c, F (f c) c) : ∀ cs : List β, A2 F (cs.map f) cs
  | [] => .nil
  | c :: cs => .cons (h c) (A2.mapL h cs)
theorem A2.eqmap {f : β → α} (h : ∀ x c, F x c → x = f c) : ∀ {xs : List α} {cs : List β}, A2 F xs cs → xs = cs.map f
  | _, _, .nil => rfl
  | _, _, .cons e t => by rw [List.map_cons, h _ _ e, t.eqmap h]
theorem A2.all {p : α → Bool} (h : ∀ x c, F x c → p x = true) : ∀ {xs : List α} {cs : List β}, A2 F xs cs → xs.all p = true
  | _, _, .nil => rfl
  | _, _, .cons e t => by rw [List.all_cons, h _ _ e, t.all h]; rfl
theorem A2.rep {x : α} {y : β} (h : F x y) : ∀ n, A2 F (List.replicate n x) (List.replicate n y)
  | 0 => .nil
  | n + 1 => by
    rw [List.replicate_succ, List.replicate_succ]
    exact .cons h (A2.rep h n)
end

/-! ### how a value shows a datum -/
structure Rep (α : Type) where
  r : Hp → V → α → Prop
  mono : ∀ {G G' v x}, Ex G G' → r G v x → r G' v x
def rI : Rep Int := ⟨fun _ v x => v = .int x, fun _ h => h⟩
def rB : Rep Bool := ⟨fun _ v x => v = .bl x, fun _ h => h⟩
def rS : Rep Str := ⟨fun _ v x => v = .str x, fun _ h => h⟩
def rN : Rep Unit := ⟨fun _ v _ => v = .non, fun _ h => h⟩
def rO {α : Type} (ρ : Rep α) : Rep (Option α) := ⟨fun G v x => match x with | none => v = .non | some y => ρ.r G v y, fun {G G' v x} e h => by
  cases x with
  | none => exact h
  | some y => exact ρ.mono e h⟩
abbrev AL {α : Type} (ρ : Rep α) (G : Hp) : List V → List α → Prop := A2 (ρ.r G)
theorem AL.mono {α : Type} {ρ : Rep α} {G G' : Hp} {vs : List V} {xs : List α} (e : Ex G G') (h : AL ρ G vs xs) : AL ρ G' vs xs := A2.imp (fun _ _ => ρ.mono e) h
def rL {α : Type} (ρ : Rep α) : Rep (List α) := ⟨fun G v xs => ∃ a vs, v = .ref a ∧ G a = some (.lst vs) ∧ AL ρ G vs xs, fun e ⟨a, vs, h1, h2, h3⟩ => ⟨a, vs, h1, e a _ h2, h3.mono e⟩⟩
def rT2 {α β : Type} (ρ : Rep α) (τ : Rep β) : Rep (α × β) := ⟨fun G v x => ∃ a v1 v2, v = .ref a ∧ G a = some (.tup [v1, v2]) ∧ ρ.r G v1 x.1 ∧ τ.r G v2 x.2,
  fun e ⟨a, v1, v2, h1, h2, h3, h4⟩ => ⟨a, v1, v2, h1, e a _ h2, ρ.mono e h3, τ.mono e h4⟩⟩
def rT3 {α β γ : Type} (ρ : Rep α) (τ : Rep β) (υ : Rep γ) : Rep (α × β × γ) := ⟨fun G v x => ∃ a v1 v2 v3, v = .ref a ∧ G a = some (.tup [v1, v2, v3]) ∧ ρ.r G v1 x.1 ∧ τ.r G v2 x.2.1 ∧ υ.r G v3 x.2.2,
  fun e ⟨a, v1, v2, v3, h1, h2, h3, h4, h5⟩ => ⟨a, v1, v2, v3, h1, e a _ h2, ρ.mono e h3, τ.mono e h4, υ.mono e h5⟩⟩
theorem al_I {G : Hp} {vs : List V} {xs : List Int} (h : AL rI G vs xs) : vs = xs.map V.int := A2.eqmap (fun _ _ e => e) h
theorem al_S {G : Hp} {vs : List V} {xs : List Str} (h : AL rS G vs xs) : vs = xs.map V.str := A2.eqmap (fun _ _ e => e) h
theorem al_B {G : Hp} {vs : List V} {xs : List Bool} (h : AL rB G vs xs) : vs = xs.map V.bl := A2.eqmap (fun _ _ e => e) h
theorem la_I (G : Hp) (xs : List Int) : AL rI G (xs.map V.int) xs := A2.mapL (f := V.int) (fun _ => rfl) xs
theorem la_S (G : Hp) (xs : List Str) : AL rS G (xs.map V.str) xs := A2.mapL (f := V.str) (fun _ => rfl) xs
theorem la_B (G : Hp) (xs : List Bool) : AL rB G (xs.map V.bl) xs := A2.mapL (f := V.bl) (fun _ => rfl) xs

/-! ### the state of a body: Bs borrowed roots, H0 G0 at the entry, G fixed, M the mutable roots -/
abbrev MM := List (Addr × HO)
structure Cf (Bs : List Addr) (H0 G0 G : Hp) (M : MM) (H : Hp) : Prop where
  ex0 : ∀ a o, a ∉ Bs → H0 a = some o → H a = some o
  bh : ∀ b ∈ Bs, H b ≠ none
  g0 : Ex G0 G
  fr : ∀ a, H0 a ≠ none → G a = G0 a
  gh : Ex G H
  own : ∀ x ∈ M, H x.1 = some x.2 ∧ G x.1 = none ∧ (H0 x.1 = none ∨ x.1 ∈ Bs)
  nd : (M.map Prod.fst).Nodup
/-- what a call does -/
structure Stp (Bs : List Addr) (G G' H H' : Hp) : Prop where
  ex : ∀ a o, a ∉ Bs → H a = some o → H' a = some o
  gg : Ex G G'
  fr : ∀ a, H a ≠ none → G' a = G a
  gh : Ex G' H'
section
variable {Bs : List Addr} {H0 G0 G G' H H' : Hp} {M M' : MM} {p q : Addr} {o o' : HO} {k : Nat}
theorem Cf.start (h : Ex G0 H0) : Cf [] H0 G0 G0 [] H0 := ⟨fun _ _ _ e => e, fun _ z => (nomatch z), Ex.refl _, fun _ _ => rfl, h, fun _ z => (nomatch z), List.nodup_nil⟩
theorem Cf.start1 (h : Ex G0 H0) (hp : H0 p = some o) (g : G0 p = none) : Cf [p] H0 G0 G0 [(p, o)] H0 := by
  refine ⟨fun _ _ _ e => e, fun b z => ?_, Ex.refl _, fun _ _ => rfl, h, fun x z => ?_, by simp⟩
  · have e : b = p := by simpa using z
    rw [e, hp]
    exact fun z => nomatch z
  · have e : x = (p, o) := by simpa using z
    subst e
    exact ⟨hp, g, .inr (by simp)⟩
theorem Cf.start2 (h : Ex G0 H0) (hp : H0 p = some o) (g : G0 p = none) (hq : H0 q = some o') (gq : G0 q = none) (ne : p ≠ q) : Cf [p, q] H0 G0 G0 [(p, o), (q, o')] H0 := by
  refine ⟨fun _ _ _ e => e, fun b z => ?_, Ex.refl _, fun _ _ => rfl, h, fun x z => ?_, by simp [ne]⟩
  · simp only [List.mem_cons, List.not_mem_nil, or_false] at z
    rcases z with e | e
    · rw [e, hp]
      exact fun z => nomatch z
    · rw [e, hq]
      exact fun z => nomatch z
  · simp only [List.mem_cons, List.not_mem_nil, or_false] at z
    rcases z with e | e
    · subst e
      exact ⟨hp, g, .inr (by simp)⟩
    · subst e
      exact ⟨hq, gq, .inr (by simp)⟩
theorem Cf.h0 (c : Cf Bs H0 G0 G M H) (hp : H p = none) : H0 p = none ∧ p ∉ Bs := by
  have nb : p ∉ Bs := fun z => c.bh p z hp
  refine ⟨?_, nb⟩
  cases e : H0 p with
  | none => rfl
  | some u =>
    rw [c.ex0 p u nb e] at hp
    cases hp
theorem Cf.notM (c : Cf Bs H0 G0 G M H) (hp : H p = none) : p ∉ M.map Prod.fst := fun z => by
  obtain ⟨x, hx, e⟩ := List.mem_map.mp z
  rw [← e, (c.own x hx).1] at hp
  cases hp
/-- an object that is not to be looked at again -/
theorem Cf.junk (c : Cf Bs H0 G0 G M H) (hp : H p = none) (o : HO) : Cf Bs H0 G0 G M (upd H p o) := by
  have key : ∀ a u, H a = some u → upd H p o a = some u := Ex.new hp
  refine ⟨fun a u n e => key a u (c.ex0 a u n e), fun b hb => ?_, c.g0, c.fr, fun a u e => key a u (c.gh a u e), fun x hx => ?_, c.nd⟩
  · cases e : H b with
    | none => exact absurd e (c.bh b hb)
    | some u =>
      rw [key b u e]
      exact fun z => nomatch z
  · obtain ⟨h1, h2, h3⟩ := c.own x hx
    exact ⟨key _ _ h1, h2, h3⟩
/-- a new mutable object -/
theorem Cf.newO (c : Cf Bs H0 G0 G M H) (hp : H p = none) (o : HO) : Cf Bs H0 G0 G ((p, o) :: M) (upd H p o) := by
  have j := c.junk hp o
  refine ⟨j.ex0, j.bh, j.g0, j.fr, j.gh, fun x hx => ?_, ?_⟩
  · rcases List.mem_cons.mp hx with e | hx
    · subst e
      exact ⟨upd_same, c.gh.free hp, .inl (c.h0 hp).1⟩
    · exact j.own x hx
  · rw [List.map_cons, List.nodup_cons]
    exact ⟨c.notM hp, c.nd⟩
/-- a new object that will not change -/
theorem Cf.newF (c : Cf Bs H0 G0 G M H) (hp : H p = none) (o : HO) : Cf Bs H0 G0 (upd G p o) M (upd H p o) := by
  have j := c.junk hp o
  have gp := c.gh.free hp
  have ex : Ex G (upd G p o) := Ex.new gp
  refine ⟨j.ex0, j.bh, c.g0.trans ex, fun a ha => ?_, fun a u e => ?_, fun x hx => ?_, c.nd⟩
  · have ne : a ≠ p := fun z => ha (by rw [z]; exact (c.h0 hp).1)
    rw [upd_ne ne]
    exact c.fr a ha
  · by_cases ne : a = p
    · subst ne
      rw [upd_same] at e ⊢
      exact e
    · rw [upd_ne ne] at e ⊢
      exact c.gh a u e
  · obtain ⟨h1, h2, h3⟩ := j.own x hx
    have ne : x.1 ≠ p := fun z => by
      rw [← z, (c.own x hx).1] at hp
      cases hp
    exact ⟨h1, by rw [upd_ne ne]; exact h2, h3⟩
theorem newF_ex (c : Cf Bs H0 G0 G M H) (hp : H p = none) (o : HO) : Ex G (upd G p o) := Ex.new (c.gh.free hp)
theorem Cf.get (c : Cf Bs H0 G0 G M H) (k : Nat) (h : M[k]? = some (p, o)) : H p = some o := (c.own _ (List.mem_of_getElem? h)).1
theorem Cf.ng (c : Cf Bs H0 G0 G M H) (k : Nat) (h : M[k]? = some (p, o)) : G p = none := (c.own _ (List.mem_of_getElem? h)).2.1
theorem Cf.hd (c : Cf Bs H0 G0 G ((p, o) :: M) H) : H p = some o := c.get 0 rfl
theorem Cf.hdg (c : Cf Bs H0 G0 G ((p, o) :: M) H) : G p = none := c.ng 0 rfl
/-- roots that are named differ -/
theorem Cf.ne (c : Cf Bs H0 G0 G M H) {i j : Nat} (h : M[i]? = some (p, o)) (h' : M[j]? = some (q, o')) (ij : i ≠ j) : p ≠ q := fun e => by
  have h1 : (M.map Prod.fst)[i]? = some p := by rw [List.getElem?_map, h]; rfl
  have h2 : (M.map Prod.fst)[j]? = some p := by rw [List.getElem?_map, h', e]; rfl
  obtain ⟨a1, a2⟩ := List.getElem?_eq_some_iff.mp h1
  obtain ⟨b1, b2⟩ := List.getElem?_eq_some_iff.mp h2
  exact ij ((List.getElem_inj c.nd).mp (a2.trans b2.symm))
theorem Cf.perm (c : Cf Bs H0 G0 G M H) (h : M.Perm M') : Cf Bs H0 G0 G M' H :=
  ⟨c.ex0, c.bh, c.g0, c.fr, c.gh, fun x hx => c.own x (h.mem_iff.mpr hx), (h.map Prod.fst).nodup_iff.mp c.nd⟩
theorem perm_at {α : Type} : ∀ (M : List α) (k : Nat) (x : α), M[k]? = some x → M.Perm (x :: M.eraseIdx k)
  | [], _, _, h => by simp at h
  | y :: M, 0, x, h => by
    simp only [List.getElem?_cons_zero, Option.some.injEq] at h
    subst h
    exact .refl _
  | y :: M, k + 1, x, h => by
    have ih := perm_at M k x (by simpa using h)
    rw [List.eraseIdx_cons_succ]
    exact (ih.cons y).trans (List.Perm.swap x y _)
/-- the k-th to the front -/
theorem Cf.front (c : Cf Bs H0 G0 G M H) (k : Nat) {x : Addr × HO} (h : M[k]? = some x) : Cf Bs H0 G0 G (x :: M.eraseIdx k) H := c.perm (perm_at M k x h)
theorem Cf.drop (c : Cf Bs H0 G0 G ((p, o) :: M) H) : Cf Bs H0 G0 G M H :=
  ⟨c.ex0, c.bh, c.g0, c.fr, c.gh, fun x hx => c.own x (List.mem_cons_of_mem _ hx), (List.nodup_cons.mp c.nd).2⟩
/-- the first root is changed -/
theorem Cf.mut (c : Cf Bs H0 G0 G ((p, o) :: M) H) (o' : HO) : Cf Bs H0 G0 G ((p, o') :: M) (upd H p o') := by
  obtain ⟨h1, h2, h3⟩ := c.own (p, o) List.mem_cons_self
  have nd := List.nodup_cons.mp c.nd
  refine ⟨fun a u n e => ?_, fun b hb => ?_, c.g0, c.fr, fun a u e => ?_, fun x hx => ?_, c.nd⟩
  · have ne : a ≠ p := fun z => by
      subst z
      rcases h3 with h3 | h3
      · have h3 : H0 a = none := h3
        rw [h3] at e
        cases e
      · exact n h3
    rw [upd_ne ne]
    exact c.ex0 a u n e
  · by_cases ne : b = p
    · rw [ne, upd_same]
      exact fun z => nomatch z
    · rw [upd_ne ne]
      exact c.bh b hb
  · have ne : a ≠ p := fun z => by
      subst z
      have h2 : G a = none := h2
      rw [h2] at e
      cases e
    rw [upd_ne ne]
    exact c.gh a u e
  · rcases List.mem_cons.mp hx with e | hx
    · subst e
      exact ⟨upd_same, h2, h3⟩
    · obtain ⟨g1, g2, g3⟩ := c.own x (List.mem_cons_of_mem _ hx)
      have ne : x.1 ≠ p := fun z => nd.1 (List.mem_map.mpr ⟨x, hx, z⟩)
      exact ⟨by rw [upd_ne ne]; exact g1, g2, g3⟩
/-- the first root will not change any more -/
theorem Cf.freeze (c : Cf Bs H0 G0 G ((p, o) :: M) H) (hb : ∀ b ∈ Bs, b ∈ M.map Prod.fst) : Cf Bs H0 G0 (upd G p o) M H := by
  obtain ⟨h1, h2, h3⟩ := c.own (p, o) List.mem_cons_self
  have nd := List.nodup_cons.mp c.nd
  have nb : p ∉ Bs := fun z => nd.1 (hb p z)
  have hn : H0 p = none := h3.resolve_right nb
  refine ⟨c.ex0, c.bh, c.g0.trans (Ex.new h2), fun a ha => ?_, fun a u e => ?_, fun x hx => ?_, nd.2⟩
  · have ne : a ≠ p := fun z => ha (by rw [z]; exact hn)
    rw [upd_ne ne]
    exact c.fr a ha
  · by_cases ne : a = p
    · subst ne
      rw [upd_same] at e
      rw [← e]
      exact h1
    · rw [upd_ne ne] at e
      exact c.gh a u e
  · obtain ⟨g1, g2, g3⟩ := c.own x (List.mem_cons_of_mem _ hx)
    have ne : x.1 ≠ p := fun z => nd.1 (List.mem_map.mpr ⟨x, hx, z⟩)
    exact ⟨g1, by rw [upd_ne ne]; exact g2, g3⟩
theorem freeze_ex (c : Cf Bs H0 G0 G ((p, o) :: M) H) : Ex G (upd G p o) := Ex.new c.hdg
/-- behind a call that changes none of ours -/
theorem Cf.call (c : Cf Bs H0 G0 G M H) (s : Stp [] G G' H H') : Cf Bs H0 G0 G' M H' := by
  have ex : Ex H H' := fun a o e => s.ex a o (by simp) e
  refine ⟨fun a o n e => ex a o (c.ex0 a o n e), fun b hb => ?_, c.g0.trans s.gg, fun a ha => ?_, s.gh, fun x hx => ?_, c.nd⟩
  · cases e : H b with
    | none => exact absurd e (c.bh b hb)
    | some u =>
      rw [ex b u e]
      exact fun z => nomatch z
  · have hh : H a ≠ none := by
      by_cases hb : a ∈ Bs
      · exact c.bh a hb
      · cases e : H0 a with
        | none => exact absurd e ha
        | some u =>
          rw [c.ex0 a u hb e]
          exact fun z => nomatch z
    rw [s.fr a hh]
    exact c.fr a ha
  · obtain ⟨h1, h2, h3⟩ := c.own x hx
    refine ⟨ex _ _ h1, ?_, h3⟩
    rw [s.fr x.1 (by rw [h1]; exact fun z => nomatch z)]
    exact h2
/-- behind a call that may read all of it and hands back a plain value -/
theorem Cf.callH (c : Cf Bs H0 G0 G M H) {Ga Gb : Hp} (s : Stp [] Ga Gb H H') : Cf Bs H0 G0 G M H' := by
  have ex : Ex H H' := fun a o e => s.ex a o (by simp) e
  refine ⟨fun a o n e => ex a o (c.ex0 a o n e), fun b hb => ?_, c.g0, c.fr, c.gh.trans ex, fun x hx => ?_, c.nd⟩
  · cases e : H b with
    | none => exact absurd e (c.bh b hb)
    | some u =>
      rw [ex b u e]
      exact fun z => nomatch z
  · obtain ⟨h1, h2, h3⟩ := c.own x hx
    exact ⟨ex _ _ h1, h2, h3⟩
/-- .. and gives out a new root -/
theorem Cf.callO (c : Cf Bs H0 G0 G M H) (s : Stp [] G G' H H') (hp : H p = none) (gp : G' p = none) (ho : H' p = some o) : Cf Bs H0 G0 G' ((p, o) :: M) H' := by
  have c' := c.call s
  refine ⟨c'.ex0, c'.bh, c'.g0, c'.fr, c'.gh, fun x hx => ?_, ?_⟩
  · rcases List.mem_cons.mp hx with e | hx
    · subst e
      exact ⟨ho, gp, .inl (c.h0 hp).1⟩
    · exact c'.own x hx
  · rw [List.map_cons, List.nodup_cons]
    exact ⟨c.notM hp, c.nd⟩
/-- behind a call that changes the first root -/
theorem Cf.call1 (c : Cf Bs H0 G0 G ((p, o) :: M) H) (s : Stp [p] G G' H H') (ho : H' p = some o') : Cf Bs H0 G0 G' ((p, o') :: M) H' := by
  obtain ⟨h1, h2, h3⟩ := c.own (p, o) List.mem_cons_self
  have nd := List.nodup_cons.mp c.nd
  have ex : ∀ a u, a ≠ p → H a = some u → H' a = some u := fun a u n e => s.ex a u (by simpa using n) e
  refine ⟨fun a u n e => ?_, fun b hb => ?_, c.g0.trans s.gg, fun a ha => ?_, s.gh, fun x hx => ?_, c.nd⟩
  · have ne : a ≠ p := fun z => by
      subst z
      rcases h3 with h3 | h3
      · have h3 : H0 a = none := h3
        rw [h3] at e
        cases e
      · exact n h3
    exact ex a u ne (c.ex0 a u n e)
  · by_cases ne : b = p
    · rw [ne, ho]
      exact fun z => nomatch z
    · cases e : H b with
      | none => exact absurd e (c.bh b hb)
      | some u =>
        rw [ex b u ne e]
        exact fun z => nomatch z
  · have hh : H a ≠ none := by
      by_cases hb : a ∈ Bs
      · exact c.bh a hb
      · cases e : H0 a with
        | none => exact absurd e ha
        | some u =>
          rw [c.ex0 a u hb e]
          exact fun z => nomatch z
    rw [s.fr a hh]
    exact c.fr a ha
  · rcases List.mem_cons.mp hx with e | hx
    · subst e
      refine ⟨ho, ?_, h3⟩
      have h1 : H p = some o := h1
      show G' p = none
      rw [s.fr p (by rw [h1]; exact fun z => nomatch z)]
      exact h2
    · obtain ⟨g1, g2, g3⟩ := c.own x (List.mem_cons_of_mem _ hx)
      have ne : x.1 ≠ p := fun z => nd.1 (List.mem_map.mpr ⟨x, hx, z⟩)
      refine ⟨ex _ _ ne g1, ?_, g3⟩
      rw [s.fr x.1 (by rw [g1]; exact fun z => nomatch z)]
      exact g2
theorem Cf.callO1 (c : Cf Bs H0 G0 G ((p, o) :: M) H) (s : Stp [p] G G' H H') (ho : H' p = some o') {o2 : HO} (hq : H q = none) (gq : G' q = none) (hq' : H' q = some o2) : Cf Bs H0 G0 G' ((q, o2) :: (p, o') :: M) H' := by
  have c' := c.call1 s ho
  refine ⟨c'.ex0, c'.bh, c'.g0, c'.fr, c'.gh, fun x hx => ?_, ?_⟩
  · rcases List.mem_cons.mp hx with e | hx
    · subst e
      exact ⟨hq', gq, .inl (c.h0 hq).1⟩
    · exact c'.own x hx
  · rw [List.map_cons, List.nodup_cons]
    exact ⟨c.notM hq, c'.nd⟩
/-- the whole body is a step -/
theorem Cf.stp (c : Cf Bs H0 G0 G M H) : Stp Bs G0 G H0 H := ⟨c.ex0, c.g0, c.fr, c.gh⟩
theorem Cf.hdn (c : Cf Bs H0 G0 G ((p, o) :: M) H) (hb : ∀ b ∈ Bs, b ∈ M.map Prod.fst) : H0 p = none := by
  have nd := List.nodup_cons.mp c.nd
  exact (c.own (p, o) List.mem_cons_self).2.2.resolve_right fun z => nd.1 (hb p z)
end
/-- a list that is read: its root may not be among the borrowed -/
def SqB (Bs : List Addr) (H : Hp) (a : Addr) (vs : List V) : Prop := H a = some (.lst vs) ∧ a ∉ Bs
theorem SqB.at {Bs : List Addr} {H0 G0 G H : Hp} {M : MM} {a : Addr} {vs : List V} (h : SqB Bs H0 a vs) (c : Cf Bs H0 G0 G M H) : H a = some (.lst vs) := c.ex0 a _ h.2 h.1
theorem SqB.of {H : Hp} {a : Addr} {vs : List V} (h : H a = some (.lst vs)) : SqB [] H a vs := ⟨h, by simp⟩
theorem SqB.fix {Bs : List Addr} {G H : Hp} {a : Addr} {vs : List V} (h : G a = some (.lst vs)) (e : Ex G H) (n : ∀ b ∈ Bs, G b = none) : SqB Bs H a vs := ⟨e a _ h, fun z => by
  have gz := n a z
  rw [h] at gz
  cases gz⟩
theorem ng1 {G : Hp} {p : Addr} (h : G p = none) : ∀ b ∈ [p], G b = none := fun b z => by
  have e : b = p := by simpa using z
  rw [e]
  exact h
theorem nin1 {a p : Addr} (h : a ≠ p) : a ∉ [p] := by simpa using h
end Tw

/-! Tw2: mirrors (partial functions over plain data) and what joins them with readings. -/
namespace Tw
open PySem L2

/-! ### words of mirrors -/
/-- go on only if c -/
def gd {α : Type} (c : Prop) [Decidable c] (r : Option α) : Option α := if c then r else none
/-- a name for a value -/
def lt {α β : Type} (e : α) (f : α → Option β) : Option β := f e
theorem bs {α β : Type} {x : Option α} {f : α → Option β} {b : β} (h : x.bind f = some b) : ∃ a, x = some a ∧ f a = some b := Option.bind_eq_some_iff.mp h
theorem gdp {α : Type} {c : Prop} [Decidable c] {r : Option α} {b : α} (h : gd c r = some b) : c ∧ r = some b := by
  unfold gd at h
  by_cases hc : c
  · rw [if_pos hc] at h
    exact ⟨hc, h⟩
  · rw [if_neg hc] at h
    cases h
theorem ltp {α β : Type} {e : α} {f : α → Option β} {b : β} (h : lt e f = some b) : ∃ x, e = x ∧ f x = some b := ⟨e, rfl, h⟩
theorem gd_of {α : Type} {c : Prop} [Decidable c] {r : Option α} (h : c) : gd c r = r := if_pos h
theorem some_in {α : Type} {a b : α} (h : some a = some b) : a = b := Option.some.inj h
/-- by None and some -/
def oel {α β : Type} (o : Option α) (a : β) (f : α → β) : β := match o with
  | none => a
  | some x => f x
/-- a loop without break or return -/
def lp {α S : Type} (f : α → S → Option S) : List α → S → Option S
  | [], s => some s
  | x :: l, s => (f x s).bind (lp f l)
theorem lp_cons {α S : Type} {f : α → S → Option S} {x : α} {l : List α} {s o : S} (h : lp f (x :: l) s = some o) : ∃ s', f x s = some s' ∧ lp f l s' = some o := bs h
theorem lp_nil {α S : Type} {f : α → S → Option S} {s o : S} (h : lp f [] s = some o) : s = o := Option.some.inj h
inductive Out (S R : Type) where
  | nx (s : S) | br (s : S) | rt (r : R)
def Out.go {S R : Type} (o : Out S R) (f : S → Option (Out S R)) : Option (Out S R) :=
  match o with
  | .nx s => f s
  | .br s => some (.nx s)
  | .rt r => some (.rt r)
def Out.fin {S R β : Type} (o : Out S R) (f : S → Option β) (g : R → Option β) : Option β :=
  match o with
  | .nx s => f s
  | .br s => f s
  | .rt r => g r
def lpx {α S R : Type} (f : α → S → Option (Out S R)) : List α → S → Option (Out S R)
  | [], s => some (.nx s)
  | x :: l, s => (f x s).bind fun o => o.go (lpx f l)
theorem lpx_cons {α S R : Type} {f : α → S → Option (Out S R)} {x : α} {l : List α} {s : S} {o : Out S R} (h : lpx f (x :: l) s = some o) : ∃ o', f x s = some o' ∧ o'.go (lpx f l) = some o := bs h
theorem lpx_nil {α S R : Type} {f : α → S → Option (Out S R)} {s : S} {o : Out S R} (h : lpx f [] s = some o) : Out.nx s = o := Option.some.inj h
/-- a while, at most n turns -/
def wh {S R : Type} (c : S → Option Bool) (f : S → Option (Out S R)) : Nat → S → Option (Out S R)
  | 0, _ => none
  | n + 1, s => (c s).bind fun b => if b = true then (f s).bind fun o => o.go (wh c f n) else some (.nx s)
theorem wh_pos {S R : Type} {c : S → Option Bool} {f : S → Option (Out S R)} {n : Nat} {s : S} {o : Out S R} (h : wh c f n s = some o) :
    ∃ m b, n = m + 1 ∧ c s = some b ∧ (if b = true then (f s).bind fun o => o.go (wh c f m) else some (.nx s)) = some o := by
  cases n with
  | zero => cases h
  | succ m =>
    obtain ⟨b, hb, h⟩ := bs h
    exact ⟨m, b, rfl, hb, h⟩
/-- comprehensions -/
def lcm {α β : Type} (f : α → Option β) : List α → Option (List β)
  | [] => some []
  | x :: l => (f x).bind fun y => (lcm f l).bind fun r => some (y :: r)
theorem lcm_cons {α β : Type} {f : α → Option β} {x : α} {l : List α} {o : List β} (h : lcm f (x :: l) = some o) : ∃ y r, f x = some y ∧ lcm f l = some r ∧ o = y :: r := by
  obtain ⟨y, hy, h⟩ := bs h
  obtain ⟨r, hr, h⟩ := bs h
  exact ⟨y, r, hy, hr, (Option.some.inj h).symm⟩
def lcf {α β : Type} (f : α → Option (Option β)) : List α → Option (List β)
  | [] => some []
  | x :: l => (f x).bind fun y => (lcf f l).bind fun r => some (match y with | some z => z :: r | none => r)
theorem lcf_cons {α β : Type} {f : α → Option (Option β)} {x : α} {l : List α} {o : List β} (h : lcf f (x :: l) = some o) : ∃ y r, f x = some y ∧ lcf f l = some r ∧ o = (match y with | some z => z :: r | none => r) := by
  obtain ⟨y, hy, h⟩ := bs h
  obtain ⟨r, hr, h⟩ := bs h
  exact ⟨y, r, hy, hr, (Option.some.inj h).symm⟩
/-- .. that change something on their way -/
def lcs {α β S : Type} (f : α → S → Option (Option β × S)) : List α → S → Option (List β × S)
  | [], s => some ([], s)
  | x :: l, s => (f x s).bind fun y => (lcs f l y.2).bind fun r => some (match y.1 with | some z => z :: r.1 | none => r.1, r.2)
theorem lcs_cons {α β S : Type} {f : α → S → Option (Option β × S)} {x : α} {l : List α} {s : S} {o : List β × S} (h : lcs f (x :: l) s = some o) :
    ∃ y s' r, f x s = some (y, s') ∧ lcs f l s' = some (r, o.2) ∧ o.1 = (match y with | some z => z :: r | none => r) := by
  obtain ⟨⟨y, s'⟩, hy, h⟩ := bs h
  obtain ⟨⟨r, s''⟩, hr, h⟩ := bs h
  have e := Option.some.inj h
  subst e
  exact ⟨y, s', r, hy, hr, rfl⟩
/-- a range -/
def rng (lo hi : Int) : List Int := (List.range (hi - lo).toNat).map fun i : Nat => lo + (i : Int)
theorem rng_len (lo hi : Int) : (rng lo hi).length = (hi - lo).toNat := by unfold rng; rw [List.length_map, List.length_range]
theorem rng_get {lo hi : Int} {i : Nat} {x : Int} (h : (rng lo hi)[i]? = some x) : x = lo + (i : Int) := by
  unfold rng at h
  rw [List.getElem?_map] at h
  cases e : (List.range (hi - lo).toNat)[i]? with
  | none => rw [e] at h; cases h
  | some j =>
    rw [e] at h
    have hj : j = i := by
      obtain ⟨h1, h2⟩ := List.getElem?_eq_some_iff.mp e
      rw [List.getElem_range] at h2
      exact h2.symm
    rw [hj] at h
    exact (Option.some.inj h).symm
def enm {α : Type} (xs : List α) : List (Int × α) := (rng 0 xs.length).zip xs
theorem enm_len {α : Type} (xs : List α) : (enm xs).length = xs.length := by
  unfold enm
  rw [List.length_zip, rng_len]
  omega
theorem enm_get {α : Type} {xs : List α} {i : Nat} {x : Int × α} (h : (enm xs)[i]? = some x) : x.1 = (i : Int) ∧ xs[i]? = some x.2 := by
  unfold enm at h
  rw [List.getElem?_zip_eq_some] at h
  exact ⟨by have := rng_get h.1; omega, h.2⟩
/-- may be used as a range's end -/
def rok (n : Int) : Prop := -(2 ^ 62) ≤ n ∧ n < 2 ^ 62
instance (n : Int) : Decidable (rok n) := inferInstanceAs (Decidable (_ ∧ _))
abbrev BIG : Nat := 16777216
theorem big_lt {n : Nat} (h : n < BIG) : n < sizeLine := by rw [sizeLine_eq]; exact h
theorem big_le {n : Nat} (h : n < BIG) : n ≤ sizeLine := Nat.le_of_lt (big_lt h)
theorem le_big {n : Nat} (h : n ≤ BIG) : n ≤ sizeLine := by rw [sizeLine_eq]; exact h

/-! ### tests -/
theorem ite_m {b : Bool} {α : Type} {x y : Option α} {r : α} {P Q : Prop} (hm : (if b = true then x else y) = some r) (h1 : b = true → x = some r → P) (h2 : b = false → y = some r → Q) : if b = true then P else Q := by
  cases b with
  | true =>
    rw [if_pos rfl] at hm ⊢
    exact h1 rfl hm
  | false =>
    rw [if_neg Bool.false_ne_true] at hm ⊢
    exact h2 rfl hm
theorem ite_b {b : Bool} {P Q : Prop} (h1 : b = true → P) (h2 : b = false → Q) : if b = true then P else Q := by
  cases b with
  | true => rw [if_pos rfl]; exact h1 rfl
  | false => rw [if_neg Bool.false_ne_true]; exact h2 rfl
theorem cas {b : Bool} {α : Type} {x y : Option α} {r : α} {P : Prop} (hm : (if b = true then x else y) = some r) (h1 : b = true → x = some r → P) (h2 : b = false → y = some r → P) : P := by
  cases b with
  | true =>
    rw [if_pos rfl] at hm
    exact h1 rfl hm
  | false =>
    rw [if_neg Bool.false_ne_true] at hm
    exact h2 rfl hm
/-- a and b, the second one asked only behind a true first: c is what the second one gives -/
def pAnd (a : Bool) (b : Option Bool) : Option Bool := if a = true then b else some false
def pOr (a : Bool) (b : Option Bool) : Option Bool := if a = true then some true else b
theorem and_r {a b : Bool} {u : Prop} {Q : Bool → Hp → Prop} {H : Hp} {mb : Option Bool} (hb : pAnd a mb = some b) (h : a = true → mb = some b → Q b H → u) (k : Q b H) : if a = true then u else Q false H := by
  cases a with
  | true =>
    rw [if_pos rfl]
    exact h rfl hb k
  | false =>
    rw [if_neg Bool.false_ne_true]
    have e : false = b := Option.some.inj hb
    rw [e]
    exact k
theorem or_r {a b : Bool} {u : Prop} {Q : Bool → Hp → Prop} {H : Hp} {mb : Option Bool} (hb : pOr a mb = some b) (h : a = false → mb = some b → Q b H → u) (k : Q b H) : if a = true then Q true H else u := by
  cases a with
  | false =>
    rw [if_neg Bool.false_ne_true]
    exact h rfl hb k
  | true =>
    rw [if_pos rfl]
    have e : true = b := Option.some.inj hb
    rw [e]
    exact k
theorem and_t {a b : Bool} {u : Prop} {Q : Bool → Hp → Prop} {H : Hp} (h : a = true → Q b H → u) (k : Q (a && b) H) : if a = true then u else Q false H := by
  cases a with
  | true =>
    rw [if_pos rfl]
    exact h rfl (by simpa using k)
  | false =>
    rw [if_neg Bool.false_ne_true]
    exact k
theorem or_t {a b : Bool} {u : Prop} {Q : Bool → Hp → Prop} {H : Hp} (h : a = false → Q b H → u) (k : Q (a || b) H) : if a = true then Q true H else u := by
  cases a with
  | false =>
    rw [if_neg Bool.false_ne_true]
    exact h rfl (by simpa using k)
  | true =>
    rw [if_pos rfl]
    exact k
/-- .. as values -/
theorem andV_t {a b : Bool} {u : Prop} {Q : V → Hp → Prop} {H : Hp} (h : a = true → Q (.bl b) H → u) (k : Q (.bl (a && b)) H) : if a = true then u else Q (.bl false) H := and_t (Q := fun b H => Q (.bl b) H) h k
theorem orV_t {a b : Bool} {u : Prop} {Q : V → Hp → Prop} {H : Hp} (h : a = false → Q (.bl b) H → u) (k : Q (.bl (a || b)) H) : if a = true then Q (.bl true) H else u := or_t (Q := fun b H => Q (.bl b) H) h k
theorem andV_r {a b : Bool} {u : Prop} {Q : V → Hp → Prop} {H : Hp} {mb : Option Bool} (hb : pAnd a mb = some b) (h : a = true → mb = some b → Q (.bl b) H → u) (k : Q (.bl b) H) : if a = true then u else Q (.bl false) H := and_r (Q := fun b H => Q (.bl b) H) hb h k
theorem orV_r {a b : Bool} {u : Prop} {Q : V → Hp → Prop} {H : Hp} {mb : Option Bool} (hb : pOr a mb = some b) (h : a = false → mb = some b → Q (.bl b) H → u) (k : Q (.bl b) H) : if a = true then Q (.bl true) H else u := or_r (Q := fun b H => Q (.bl b) H) hb h k
/-- .. where the second part changes the heap -/
theorem and_h {a b : Bool} {u : Prop} {Q : Bool → Hp → Prop} {H : Hp} {mb : Option Bool} {R : Hp → Prop} (hb : pAnd a mb = some b) (h : a = true → mb = some b → (∀ H', R H' → Q b H') → u) (h0 : R H) (k : ∀ H', R H' → Q b H') : if a = true then u else Q false H := by
  cases a with
  | true =>
    rw [if_pos rfl]
    exact h rfl hb k
  | false =>
    rw [if_neg Bool.false_ne_true]
    have e : false = b := Option.some.inj hb
    rw [e]
    exact k H h0
theorem or_h {a b : Bool} {u : Prop} {Q : Bool → Hp → Prop} {H : Hp} {mb : Option Bool} {R : Hp → Prop} (hb : pOr a mb = some b) (h : a = false → mb = some b → (∀ H', R H' → Q b H') → u) (h0 : R H) (k : ∀ H', R H' → Q b H') : if a = true then Q true H else u := by
  cases a with
  | false =>
    rw [if_neg Bool.false_ne_true]
    exact h rfl hb k
  | true =>
    rw [if_pos rfl]
    have e : true = b := Option.some.inj hb
    rw [e]
    exact k H h0
theorem andV_h {a b : Bool} {u : Prop} {Q : V → Hp → Prop} {H : Hp} {mb : Option Bool} {R : Hp → Prop} (hb : pAnd a mb = some b) (h : a = true → mb = some b → (∀ H', R H' → Q (.bl b) H') → u) (h0 : R H) (k : ∀ H', R H' → Q (.bl b) H') : if a = true then u else Q (.bl false) H := and_h (Q := fun b H => Q (.bl b) H) hb h h0 k
theorem orV_h {a b : Bool} {u : Prop} {Q : V → Hp → Prop} {H : Hp} {mb : Option Bool} {R : Hp → Prop} (hb : pOr a mb = some b) (h : a = false → mb = some b → (∀ H', R H' → Q (.bl b) H') → u) (h0 : R H) (k : ∀ H', R H' → Q (.bl b) H') : if a = true then Q (.bl true) H else u := or_h (Q := fun b H => Q (.bl b) H) hb h h0 k
theorem or_s {a : Bool} {u : Prop} {Q : Bool → Hp → Prop} {H : Hp} (h : a = true) (k : Q true H) : if a = true then Q true H else u := by rw [if_pos h]; exact k
theorem and_s {a : Bool} {u : Prop} {Q : Bool → Hp → Prop} {H : Hp} (h : a = false) (k : Q false H) : if a = true then u else Q false H := by rw [if_neg (by rw [h]; exact Bool.false_ne_true)]; exact k
theorem orV_s {a : Bool} {u : Prop} {Q : V → Hp → Prop} {H : Hp} (h : a = true) (k : Q (.bl true) H) : if a = true then Q (.bl true) H else u := by rw [if_pos h]; exact k
theorem andV_s {a : Bool} {u : Prop} {Q : V → Hp → Prop} {H : Hp} (h : a = false) (k : Q (.bl false) H) : if a = true then u else Q (.bl false) H := by rw [if_neg (by rw [h]; exact Bool.false_ne_true)]; exact k
theorem ite_yes {b : Bool} {P Q : Prop} (h : b = true) (p : P) : if b = true then P else Q := by rw [if_pos h]; exact p
theorem ite_no {b : Bool} {P Q : Prop} (h : b = false) (q : Q) : if b = true then P else Q := by rw [if_neg (by rw [h]; exact Bool.false_ne_true)]; exact q
theorem if_yes {b : Bool} {α : Type} {x y r : α} (h : b = true) (hm : (if b = true then x else y) = r) : x = r := by rw [if_pos h] at hm; exact hm
theorem if_no {b : Bool} {α : Type} {x y r : α} (h : b = false) (hm : (if b = true then x else y) = r) : y = r := by rw [if_neg (by rw [h]; exact Bool.false_ne_true)] at hm; exact hm
theorem pw_never {X : Cx} {e : Expr} : PW X e fun _ _ _ => False := ⟨fun _ _ _ _ _ _ _ h => h.elim⟩
/-! what is wanted behind is hidden by a letter -/
theorem if_opq {c : TT} {t u : TS} {D : Ends} {σ : St} {H : Hp} (h : ∀ Q9 : Bool → Hp → Prop, (∀ b H, (if b = true then t D σ H else u D σ H) → Q9 b H) → c σ H Q9) : tIfS c t u D σ H := h _ fun _ _ z => z
theorem q_if_opq {c : TT} {t u w : TS} {D : Ends} {σ : St} {H : Hp} (h : ∀ Q9 : Bool → Hp → Prop, (∀ b H, (if b = true then t { D with nx := w D } σ H else u { D with nx := w D } σ H) → Q9 b H) → c σ H Q9) : tSeq (tIfS c t u) w D σ H := h _ fun _ _ z => z
theorem opqT {c : TT} {σ : St} {H : Hp} {Q : Bool → Hp → Prop} (h : ∀ Q9 : Bool → Hp → Prop, (∀ b H, Q b H → Q9 b H) → c σ H Q9) : c σ H Q := h Q fun _ _ z => z
theorem opqV {c : TE} {σ : St} {H : Hp} {Q : VK} (h : ∀ Q9 : VK, (∀ v H, Q v H → Q9 v H) → c σ H Q9) : c σ H Q := h Q fun _ _ z => z
theorem ret_opq {te : TE} {D : Ends} {σ : St} {H : Hp} (h : ∀ Q9 : VK, (∀ v H, D.rt v H → Q9 v H) → te σ H Q9) : tRet te D σ H := h _ fun _ _ z => z
theorem q_ret_opq {te : TE} {w : TS} {D : Ends} {σ : St} {H : Hp} (h : ∀ Q9 : VK, (∀ v H, D.rt v H → Q9 v H) → te σ H Q9) : tSeq (tRet te) w D σ H := h _ fun _ _ z => z
theorem asg_opq {te : TE} {i : Nat} {D : Ends} {σ : St} {H : Hp} (h : ∀ Q9 : VK, (∀ v H, D.nx (σ.set i (some v)) H → Q9 v H) → te σ H Q9) : tAsg te (gName i) D σ H := h _ fun _ _ z => z
theorem q_asg_opq {te : TE} {i : Nat} {w : TS} {D : Ends} {σ : St} {H : Hp} (h : ∀ Q9 : VK, (∀ v H, w D (σ.set i (some v)) H → Q9 v H) → te σ H Q9) : tSeq (tAsg te (gName i)) w D σ H := h _ fun _ _ z => z
theorem drop_opq {te : TE} {D : Ends} {σ : St} {H : Hp} (h : ∀ Q9 : VK, (∀ v H, D.nx σ H → Q9 v H) → te σ H Q9) : tDrop te D σ H := h _ fun _ _ z => z
theorem q_drop_opq {te : TE} {w : TS} {D : Ends} {σ : St} {H : Hp} (h : ∀ Q9 : VK, (∀ v H, w D σ H → Q9 v H) → te σ H Q9) : tSeq (tDrop te) w D σ H := h _ fun _ _ z => z
theorem q_aug {i : Nat} {te : TE} {ti : TIp} {w : TS} {D : Ends} {σ : St} {H : Hp} (h : ∀ Q9 : VK, (∀ v H, w D (σ.set i (some v)) H → Q9 v H) → ∃ x, σ[i]? = some (some x) ∧ te σ H fun y H1 => ti x y H1 Q9) : tSeq (tAug i te ti) w D σ H := h _ fun _ _ z => z
theorem s_aug' {i : Nat} {te : TE} {ti : TIp} {D : Ends} {σ : St} {H : Hp} (h : ∀ Q9 : VK, (∀ v H, D.nx (σ.set i (some v)) H → Q9 v H) → ∃ x, σ[i]? = some (some x) ∧ te σ H fun y H1 => ti x y H1 Q9) : tAug i te ti D σ H := h _ fun _ _ z => z
theorem q_asgS {te to ti : TE} {ts : TSet} {w : TS} {D : Ends} {σ : St} {H : Hp} (h : ∀ Q9 : Hp → Prop, (∀ H, w D σ H → Q9 H) → te σ H fun x H1 => to σ H1 fun o H2 => ti σ H2 fun i H3 => ts o i x H3 Q9) : tSeq (tAsg te (gSub to ti ts)) w D σ H := h _ fun _ z => z
theorem s_asgS {te to ti : TE} {ts : TSet} {D : Ends} {σ : St} {H : Hp} (h : ∀ Q9 : Hp → Prop, (∀ H, D.nx σ H → Q9 H) → te σ H fun x H1 => to σ H1 fun o H2 => ti σ H2 fun i H3 => ts o i x H3 Q9) : tAsg te (gSub to ti ts) D σ H := h _ fun _ z => z
theorem yes_q {σ : St} {H : Hp} {P R : Hp → Prop} (h : P H) : tYes σ H (fun b H3 => if b = true then P H3 else R H3) := by
  show if true = true then P H else R H
  rw [if_pos rfl]
  exact h
/-- a name for the value that is stored -/
theorem nmI {x y : Int} {σ : St} {i : Nat} {H : Hp} {P : St → Hp → Prop} (e : x = y) (h : P (σ.set i (some (.int y))) H) : P (σ.set i (some (.int x))) H := by rw [e]; exact h
theorem nmV {α : Type} {f : α → V} {x y : α} {P : V → Prop} (e : x = y) (h : P (f y)) : P (f x) := by rw [e]; exact h

/-! ### loops -/
theorem for_w {α : Type} {J : It} {n : Nat} {Gd : Hp → Prop} {Y : Nat → Hp → V → Hp → Prop} (w : Walk J n Gd Y) (xs : List α) (hn : n = xs.length) {g : TG} {tb : TS} {D : Ends} {σ : St} {H : Hp} (I : List α → St → Hp → Prop)
    (h0 : I xs σ H) (hG : ∀ l σ H, I l σ H → Gd H)
    (hs : ∀ (i : Nat) x l σ H v H', xs[i]? = some x → I (x :: l) σ H → Y i H v H' → g v σ H' fun σ2 H2 => tb { D with nx := I l, ct := I l, bk := D.nx } σ2 H2) (hd : ∀ σ H, I [] σ H → D.nx σ H) :
    ∃ W : Nat → Nat → St → Hp → Prop, (∃ m, W 0 m σ H) ∧ ∀ i m σ H, W i m σ H →
      (J.stop i H ∧ D.nx σ H) ∨ (J.go i H ∧ ∃ N : St → Hp → Prop, (∀ σ' H', N σ' H' → ∃ m', m' < m ∧ W (i + 1) m' σ' H') ∧ ∀ x H', J.yld i H x H' → g x σ H' fun σ2 H2 => tb { D with nx := N, ct := N, bk := D.nx } σ2 H2) := by
  refine for_it w (fun i σ H => I (xs.drop i) σ H) h0 (fun i σ H _ h => hG _ σ H h) (fun i v σ H H' hi h y => ?_) (fun σ H h => ?_)
  · have hi' : i < xs.length := by omega
    have e : xs.drop i = xs[i] :: xs.drop (i + 1) := List.drop_eq_getElem_cons hi'
    have h : I (xs.drop i) σ H := h
    rw [e] at h
    exact hs i xs[i] (xs.drop (i + 1)) σ H v H' (List.getElem?_eq_getElem hi') h y
  · have e : xs.drop n = [] := List.drop_eq_nil_of_le (by omega)
    have h : I (xs.drop n) σ H := h
    rw [e] at h
    exact hd σ H h
/-- .. with break: k says what is wanted behind the loop -/
theorem for_wx {α : Type} {J : It} {n : Nat} {Gd : Hp → Prop} {Y : Nat → Hp → V → Hp → Prop} (w : Walk J n Gd Y) (xs : List α) (hn : n = xs.length) {g : TG} {tb : TS} {D : Ends} {σ : St} {H : Hp} (I : List α → St → Hp → Prop) (Mid : St → Hp → Prop)
    (k : ∀ σ H, Mid σ H → D.nx σ H) (h0 : I xs σ H) (hG : ∀ l σ H, I l σ H → Gd H)
    (hs : (∀ σ H, Mid σ H → D.nx σ H) → ∀ (i : Nat) x l σ H v H', xs[i]? = some x → I (x :: l) σ H → Y i H v H' → g v σ H' fun σ2 H2 => tb { D with nx := I l, ct := I l, bk := D.nx } σ2 H2) (hd : ∀ σ H, I [] σ H → Mid σ H) :
    ∃ W : Nat → Nat → St → Hp → Prop, (∃ m, W 0 m σ H) ∧ ∀ i m σ H, W i m σ H →
      (J.stop i H ∧ D.nx σ H) ∨ (J.go i H ∧ ∃ N : St → Hp → Prop, (∀ σ' H', N σ' H' → ∃ m', m' < m ∧ W (i + 1) m' σ' H') ∧ ∀ x H', J.yld i H x H' → g x σ H' fun σ2 H2 => tb { D with nx := N, ct := N, bk := D.nx } σ2 H2) :=
  for_w w xs hn I h0 hG (hs k) fun σ H h => k σ H (hd σ H h)
/-- a while whose first test is asked at once; n is the fuel -/
theorem wh_wx {c : TT} {tb : TS} {D : Ends} {σ : St} {H : Hp} (I : Nat → St → Hp → Prop) (Mid : St → Hp → Prop) (k : ∀ σ H, Mid σ H → D.nx σ H) (n : Nat) (h0 : I n σ H)
    (hs : (∀ σ H, Mid σ H → D.nx σ H) → ∀ n σ H, I n σ H → ∃ m, n = m + 1 ∧ c σ H fun b H1 => if b = true then (∃ N : St → Hp → Prop, (∀ σ' H', N σ' H' → ∃ m', m' < n ∧ I m' σ' H') ∧ tb { D with nx := N, ct := N, bk := D.nx } σ H1) else D.nx σ H1) : tWhile c tb D σ H :=
  ⟨I, ⟨n, h0⟩, fun n σ H h => by
    obtain ⟨m, _, h⟩ := hs k n σ H h
    exact h⟩
theorem wh_n {I : Nat → St → Hp → Prop} {m : Nat} {P : (St → Hp → Prop) → Prop} (h : P (I m)) : ∃ N : St → Hp → Prop, (∀ σ' H', N σ' H' → ∃ m', m' < m + 1 ∧ I m' σ' H') ∧ P N := ⟨I m, fun _ _ q => ⟨m, Nat.lt_succ_self _, q⟩, h⟩
theorem lc_w {α : Type} {J : It} {n : Nat} {Gd : Hp → Prop} {Y : Nat → Hp → V → Hp → Prop} (w : Walk J n Gd Y) (xs : List α) (hn : n = xs.length) {g : TG} {tt : TT} {te : TE} {vs : List Nat} {σ : St} {H1 : Hp} {D : Addr} {Qd : Hp → Prop} (I : List α → Hp → Prop)
    (h0 : I xs (upd H1 D (.lst []))) (hG : ∀ l H, I l H → Gd H)
    (hs : ∀ (i : Nat) x l H v H', xs[i]? = some x → I (x :: l) H → Y i H v H' → g v (wipe σ vs) H' fun σ2 H2 => wipe σ2 vs = wipe σ vs ∧ tt σ2 H2 fun b H3 =>
      if b = true then te σ2 H3 fun y H4 => ∃ acc, H4 D = some (.lst acc) ∧ acc.length < sizeLine ∧ I l (upd H4 D (.lst (acc ++ [y]))) else I l H3) (hd : ∀ H, I [] H → Qd H) :
    ∃ W : Nat → Nat → Hp → Prop, (∃ m, W 0 m (upd H1 D (.lst []))) ∧ ∀ i m H, W i m H →
      (J.stop i H ∧ Qd H) ∨ (J.go i H ∧ ∃ Nx : Hp → Prop, (∀ H', Nx H' → ∃ m', m' < m ∧ W (i + 1) m' H') ∧ ∀ x H', J.yld i H x H' → g x (wipe σ vs) H' fun σ2 H2 => wipe σ2 vs = wipe σ vs ∧ tt σ2 H2 fun b H3 =>
        if b = true then te σ2 H3 fun y H4 => ∃ acc, H4 D = some (.lst acc) ∧ acc.length < sizeLine ∧ Nx (upd H4 D (.lst (acc ++ [y]))) else Nx H3) := by
  refine lc_it w (fun i H => I (xs.drop i) H) h0 (fun i H _ h => hG _ H h) (fun i v H H' hi h y => ?_) (fun H h => ?_)
  · have hi' : i < xs.length := by omega
    have e : xs.drop i = xs[i] :: xs.drop (i + 1) := List.drop_eq_getElem_cons hi'
    have h : I (xs.drop i) H := h
    rw [e] at h
    exact hs i xs[i] (xs.drop (i + 1)) H v H' (List.getElem?_eq_getElem hi') h y
  · have e : xs.drop n = [] := List.drop_eq_nil_of_le (by omega)
    have h : I (xs.drop n) H := h
    rw [e] at h
    exact hd H h

/-- no item is None -/
def allS {α : Type} : List (Option α) → Option (List α)
  | [] => some []
  | none :: _ => none
  | some x :: l => (allS l).bind fun r => some (x :: r)
theorem al_allS {α : Type} {ρ : Rep α} {G : Hp} : ∀ {vs : List V} {xs : List (Option α)} {ys : List α}, AL (rO ρ) G vs xs → allS xs = some ys → AL ρ G vs ys
  | _, _, _, .nil, h => by
    obtain rfl := some_in h
    exact .nil
  | _, _, _, .cons (y := none) _ _, h => by cases h
  | _, _, _, .cons (y := some x) hx t, h => by
    obtain ⟨r, hr, h⟩ := bs h
    obtain rfl := some_in h
    exact .cons hx (al_allS t hr)

/-! ### kinds -/
section
variable {K : PySem.W.Frag} {H : Hp} {Q : VK}
theorem kit_of_ty {a b : String} {r : Bool} (h : kitB a b = some r) : PySem.W.kitOne K (.type a) (.type b) = some r := kit_ty h
theorem k_ii : PySem.W.kitOne K (.type "int") (.type "int") = some true := kit_ty (by decide +kernel)
theorem k_ib : PySem.W.kitOne K (.type "int") (.type "bool") = some false := kit_ty (by decide +kernel)
theorem k_is : PySem.W.kitOne K (.type "int") (.type "str") = some false := kit_ty (by decide +kernel)
theorem k_il : PySem.W.kitOne K (.type "int") (.type "list") = some false := kit_ty (by decide +kernel)
theorem k_it : PySem.W.kitOne K (.type "int") (.type "tuple") = some false := kit_ty (by decide +kernel)
theorem k_bi : PySem.W.kitOne K (.type "bool") (.type "int") = some true := kit_ty (by decide +kernel)
theorem k_bb : PySem.W.kitOne K (.type "bool") (.type "bool") = some true := kit_ty (by decide +kernel)
theorem k_bs : PySem.W.kitOne K (.type "bool") (.type "str") = some false := kit_ty (by decide +kernel)
theorem k_bl : PySem.W.kitOne K (.type "bool") (.type "list") = some false := kit_ty (by decide +kernel)
theorem k_si : PySem.W.kitOne K (.type "str") (.type "int") = some false := kit_ty (by decide +kernel)
theorem k_sb : PySem.W.kitOne K (.type "str") (.type "bool") = some false := kit_ty (by decide +kernel)
theorem k_ss : PySem.W.kitOne K (.type "str") (.type "str") = some true := kit_ty (by decide +kernel)
theorem k_sl : PySem.W.kitOne K (.type "str") (.type "list") = some false := kit_ty (by decide +kernel)
theorem k_st : PySem.W.kitOne K (.type "str") (.type "tuple") = some false := kit_ty (by decide +kernel)
theorem k_ni : PySem.W.kitOne K (.type "NoneType") (.type "int") = some false := kit_ty (by decide +kernel)
theorem k_nb : PySem.W.kitOne K (.type "NoneType") (.type "bool") = some false := kit_ty (by decide +kernel)
theorem k_ns : PySem.W.kitOne K (.type "NoneType") (.type "str") = some false := kit_ty (by decide +kernel)
theorem k_nl : PySem.W.kitOne K (.type "NoneType") (.type "list") = some false := kit_ty (by decide +kernel)
theorem k_nt : PySem.W.kitOne K (.type "NoneType") (.type "tuple") = some false := kit_ty (by decide +kernel)
theorem k_li : PySem.W.kitOne K (.type "list") (.type "int") = some false := kit_ty (by decide +kernel)
theorem k_lb : PySem.W.kitOne K (.type "list") (.type "bool") = some false := kit_ty (by decide +kernel)
theorem k_ls : PySem.W.kitOne K (.type "list") (.type "str") = some false := kit_ty (by decide +kernel)
theorem k_ll : PySem.W.kitOne K (.type "list") (.type "list") = some true := kit_ty (by decide +kernel)
theorem k_lt : PySem.W.kitOne K (.type "list") (.type "tuple") = some false := kit_ty (by decide +kernel)
theorem k_ti : PySem.W.kitOne K (.type "tuple") (.type "int") = some false := kit_ty (by decide +kernel)
theorem k_tb : PySem.W.kitOne K (.type "tuple") (.type "bool") = some false := kit_ty (by decide +kernel)
theorem k_ts : PySem.W.kitOne K (.type "tuple") (.type "str") = some false := kit_ty (by decide +kernel)
theorem k_tl : PySem.W.kitOne K (.type "tuple") (.type "list") = some false := kit_ty (by decide +kernel)
theorem k_tt : PySem.W.kitOne K (.type "tuple") (.type "tuple") = some true := kit_ty (by decide +kernel)
theorem isi {x : V} {T : String} {t : Value} {b : Bool} (ty : TyX K H x t) (k : PySem.W.kitOne K t (.type T) = some b) (q : Q (.bl b) H) : rIsi K [x, .ty T] H Q := ⟨x, .ty T, t, .type T, b, rfl, .ty T, ty, k, q⟩
theorem ty_i {i : Int} : TyX K H (.int i) (.type "int") := .base (.int i)
theorem ty_b {i : Bool} : TyX K H (.bl i) (.type "bool") := .base (.bl i)
theorem ty_s {i : Str} : TyX K H (.str i) (.type "str") := .base (.str i)
theorem ty_n : TyX K H .non (.type "NoneType") := .base .non
theorem ty_l {a : Addr} {vs : List V} (h : SqL K H a vs) : TyX K H (.ref a) (.type "list") := by
  rcases h with (h | ⟨o, h⟩) | ⟨o, its, n, h, c, _⟩
  · exact .base (.lst h)
  · exact .base (.frz h)
  · exact .kList h c
theorem ty_t {a : Addr} {vs : List V} (h : SqT K H a vs) : TyX K H (.ref a) (.type "tuple") := by
  rcases h with (h | ⟨o, h⟩) | ⟨o, its, n, h, c, _⟩
  · exact .base (.tup h)
  · exact .fTuple h
  · exact .kTuple h c
end

/-! ### lists by place, membership, equality -/
theorem ixN_len {n : Nat} {i : Int} {j : Nat} (h : ixN n i = some j) : j < n := by
  unfold ixN at h
  split at h
  · split at h
    · injection h with h; omega
    · cases h
  · split at h
    · injection h with h; omega
    · cases h
theorem at_l {α : Type} {ρ : Rep α} {G : Hp} {vs : List V} {xs : List α} {i : Int} {y : α} (h : AL ρ G vs xs) (e : atI xs i = some y) : ∃ v, atI vs i = some v ∧ ρ.r G v y := by
  unfold atI at e ⊢
  rw [h.len]
  obtain ⟨j, hj, e⟩ := Option.bind_eq_some_iff.mp e
  obtain ⟨v, hv, r⟩ := A2.get h e
  exact ⟨v, by rw [hj]; exact hv, r⟩
theorem atI_I {xs : List Int} {i y : Int} (e : atI xs i = some y) : atI (xs.map V.int) i = some (.int y) := by
  obtain ⟨v, h, r⟩ := at_l (la_I (fun _ => none) xs) e
  have r : v = .int y := r
  rw [← r]
  exact h
theorem flat_I (xs : List Int) : (xs.map V.int).all flatV = true := by
  rw [List.all_map]
  exact List.all_eq_true.mpr fun _ _ => rfl
theorem flat_S (xs : List Str) : (xs.map V.str).all flatV = true := by
  rw [List.all_map]
  exact List.all_eq_true.mpr fun _ _ => rfl
end Tw

/-! Tw3: rules by plain data. -/
namespace Tw
open PySem L2

/-! ### names of the built-ins -/
theorem bt_len : bootBuiltins "len" = some (.builtin "len") := by decide +kernel
theorem bt_isi : bootBuiltins "isinstance" = some (.builtin "isinstance") := by decide +kernel
theorem bt_int : bootBuiltins "int" = some (.type "int") := by decide +kernel
theorem bt_str : bootBuiltins "str" = some (.type "str") := by decide +kernel
theorem bt_bool : bootBuiltins "bool" = some (.type "bool") := by decide +kernel
theorem bt_list : bootBuiltins "list" = some (.type "list") := by decide +kernel
theorem bt_tuple : bootBuiltins "tuple" = some (.type "tuple") := by decide +kernel
theorem bt_max : bootBuiltins "max" = some (.builtin "max") := by decide +kernel
theorem bt_min : bootBuiltins "min" = some (.builtin "min") := by decide +kernel
theorem bt_all : bootBuiltins "all" = some (.builtin "all") := by decide +kernel
theorem bt_abs : bootBuiltins "abs" = some (.builtin "abs") := by decide +kernel
theorem bt_sorted : bootBuiltins "sorted" = some (.builtin "sorted") := by decide +kernel

/-! ### data that can be compared -/
structure Eqd {α : Type} (ρ : Rep α) where
  d : α → PyData
  h : ∀ (K : PySem.W.Frag) {H v x}, ρ.r H v x → Dp K H v (d x)
  ok : α → Bool
  sh : ∀ x, ok x = true → (d x).canLay0 = true
  dp : Nat
  dl : ∀ x, (d x).depth ≤ dp
  inj : ∀ x y, PyData.eqv (d x) (d y) = true ↔ x = y
theorem Eqd.shaped {α : Type} {ρ : Rep α} (e : Eqd ρ) (hd : e.dp ≤ 60) (x : α) (o : e.ok x = true) : SeqAt.shaped (e.d x) = true := by
  unfold SeqAt.shaped
  rw [e.sh x o, Bool.true_and]
  exact decide_eq_true (Nat.le_trans (e.dl x) (by omega))
theorem Eqd.eq {α : Type} [DecidableEq α] {ρ : Rep α} (e : Eqd ρ) (x y : α) : PyData.eqv (e.d x) (e.d y) = decide (x = y) := by
  by_cases h : x = y
  · rw [decide_eq_true h]
    exact (e.inj x y).mpr h
  · rw [decide_eq_false h]
    cases q : PyData.eqv (e.d x) (e.d y) with
    | false => rfl
    | true => exact absurd ((e.inj x y).mp q) h
theorem eqv_ii (i j : Int) : PyData.eqv (.int i) (.int j) = (i == j) := by simp [PyData.eqv]
theorem eqv_ll (x y : List PyData) : PyData.eqv (.list x) (.list y) = PyData.eqvAll x y := by simp [PyData.eqv]
def eqdI : Eqd rI where
  d := .int
  h := fun K {H v x} e => by
    have e : v = .int x := e
    rw [e]
    exact .int x
  ok := fun _ => true
  sh := fun _ _ => by simp [PyData.canLay0]
  dp := 0
  dl := fun _ => by simp [PyData.depth]
  inj := fun x y => by simp [eqv_ii]
theorem eqv_ss (i j : Str) : PyData.eqv (.str i) (.str j) = (i == j) := by simp [PyData.eqv]
def eqdS : Eqd rS where
  d := .str
  h := fun K {H v x} e => by
    have e : v = .str x := e
    rw [e]
    exact .str x
  ok := fun x => PyData.strOk x
  sh := fun _ o => by rw [PyData.canLay0]; exact o
  dp := 0
  dl := fun _ => by simp [PyData.depth]
  inj := fun x y => by simp [eqv_ss]
theorem eqv_bb (i j : Bool) : PyData.eqv (.bool i) (.bool j) = (i == j) := by simp [PyData.eqv]
def eqdB : Eqd rB where
  d := .bool
  h := fun K {H v x} e => by
    have e : v = .bl x := e
    rw [e]
    exact .bl x
  ok := fun _ => true
  sh := fun _ _ => by simp [PyData.canLay0]
  dp := 0
  dl := fun _ => by simp [PyData.depth]
  inj := fun x y => by simp [eqv_bb]
theorem dpAll_of {α : Type} {ρ : Rep α} (e : Eqd ρ) (K : PySem.W.Frag) {H : Hp} : ∀ {vs : List V} {xs : List α}, AL ρ H vs xs → DpAll K H vs (xs.map e.d)
  | _, _, .nil => .nil
  | _, _, .cons h t => .cons (e.h K h) (dpAll_of e K t)
theorem lay_all {α : Type} {ρ : Rep α} (e : Eqd ρ) : ∀ xs : List α, xs.all e.ok = true → PyData.canLayAll0 (xs.map e.d) = true
  | [], _ => by simp [PyData.canLayAll0]
  | x :: xs, o => by
    rw [List.all_cons, Bool.and_eq_true] at o
    rw [List.map_cons, PyData.canLayAll0, e.sh x o.1, lay_all e xs o.2]
    rfl
theorem dep_all {α : Type} {ρ : Rep α} (e : Eqd ρ) : ∀ xs : List α, PyData.depthAll (xs.map e.d) ≤ e.dp
  | [] => by simp [PyData.depthAll]
  | x :: xs => by
    rw [List.map_cons, PyData.depthAll]
    exact Nat.max_le.mpr ⟨e.dl x, dep_all e xs⟩
theorem eqv_all {α : Type} {ρ : Rep α} (e : Eqd ρ) : ∀ xs ys : List α, PyData.eqvAll (xs.map e.d) (ys.map e.d) = true ↔ xs = ys
  | [], [] => by simp [PyData.eqvAll]
  | [], y :: ys => by simp [PyData.eqvAll]
  | x :: xs, [] => by simp [PyData.eqvAll]
  | x :: xs, y :: ys => by
    rw [List.map_cons, List.map_cons, PyData.eqvAll, Bool.and_eq_true, e.inj, eqv_all e xs ys, List.cons.injEq]
def eqdL {α : Type} {ρ : Rep α} (e : Eqd ρ) : Eqd (rL ρ) where
  d := fun xs => .list (xs.map e.d)
  h := fun K {H v xs} ⟨a, vs, hv, hs, hal⟩ => by
    rw [hv]
    exact .lst (SqL.of hs) (dpAll_of e K hal)
  ok := fun xs => xs.all e.ok
  sh := fun xs o => by
    rw [PyData.canLay0]
    exact lay_all e xs o
  dp := e.dp + 1
  dl := fun xs => by
    rw [PyData.depth]
    have := dep_all e xs
    omega
  inj := fun x y => by rw [eqv_ll, eqv_all e]
section
variable {X : Cx} {α : Type} [DecidableEq α] {ρ : Rep α}
theorem okI (xs : List Int) : (eqdL eqdI).ok xs = true := List.all_eq_true.mpr fun _ _ => rfl
theorem okLI (xs : List (List Int)) : (eqdL (eqdL eqdI)).ok xs = true := List.all_eq_true.mpr fun x _ => okI x
theorem okLLI (xs : List (List (List Int))) : (eqdL (eqdL (eqdL eqdI))).ok xs = true := List.all_eq_true.mpr fun x _ => okLI x
def rEqT {ρ : Rep α} (e : Eqd ρ) : R2 := fun x y H Q => ∃ a b : α, ρ.r H x a ∧ ρ.r H y b ∧ e.ok a = true ∧ e.ok b = true ∧ Q (.bl (decide (a = b))) H
def rNeT {ρ : Rep α} (e : Eqd ρ) : R2 := fun x y H Q => ∃ a b : α, ρ.r H x a ∧ ρ.r H y b ∧ e.ok a = true ∧ e.ok b = true ∧ Q (.bl (!decide (a = b))) H
theorem op_eqT (hu : X.A.units + 64 < cLine) (e : Eqd ρ) (hd : e.dp ≤ 60) : OpR X (compareOp .Eq) (rEqT e) := fun pins s σ H x y v u Q I rx ry h => by
  obtain ⟨a, b, ha, hb, oa, ob, q⟩ := h
  exact op_eqD hu pins s σ H x y v u Q I rx ry ⟨e.d a, e.d b, e.h _ ha, e.h _ hb, e.shaped hd a oa, e.shaped hd b ob, by rw [e.eq]; exact q⟩
theorem op_neT (hu : X.A.units + 64 < cLine) (e : Eqd ρ) (hd : e.dp ≤ 60) : OpR X (compareOp .NotEq) (rNeT e) := fun pins s σ H x y v u Q I rx ry h => by
  obtain ⟨a, b, ha, hb, oa, ob, q⟩ := h
  exact op_neD hu pins s σ H x y v u Q I rx ry ⟨e.d a, e.d b, e.h _ ha, e.h _ hb, e.shaped hd a oa, e.shaped hd b ob, by rw [e.eq]; exact q⟩
/-- x in xs, by data -/
def rInT {ρ : Rep α} (e : Eqd ρ) : R2 := fun x y H Q => ∃ (a : α) (b : List α), ρ.r H x a ∧ (rL ρ).r H y b ∧ e.ok a = true ∧ b.all e.ok = true ∧ Q (.bl (decide (a ∈ b))) H
def rNinT {ρ : Rep α} (e : Eqd ρ) : R2 := fun x y H Q => ∃ (a : α) (b : List α), ρ.r H x a ∧ (rL ρ).r H y b ∧ e.ok a = true ∧ b.all e.ok = true ∧ Q (.bl (!decide (a ∈ b))) H
theorem any_mem (e : Eqd ρ) (a : α) (b : List α) : ((b.map e.d).any fun z => PyData.eqv z (e.d a)) = decide (a ∈ b) := by
  induction b with
  | nil => simp
  | cons c b ih =>
    rw [List.map_cons, List.any_cons, ih, e.eq, ← Bool.decide_or]
    congr 1
    rw [List.mem_cons]
    exact propext ⟨fun h => h.elim (fun h => .inl h.symm) .inr, fun h => h.elim (fun h => .inl h.symm) .inr⟩
theorem op_inT (hu : X.A.units + 65 < cLine) (e : Eqd ρ) (hd : e.dp ≤ 50) : OpR X (compareOp .In) (rInT e) := fun pins s σ H x y v u Q I rx ry h => by
  obtain ⟨a, b, ha, hb, oa, ob, q⟩ := h
  refine op_inD hu pins s σ H x y v u Q I rx ry ⟨e.d a, b.map e.d, e.h _ ha, (eqdL e).h _ hb, e.shaped (by omega) a oa, (eqdL e).shaped (show e.dp + 1 ≤ 60 by omega) b ob, ?_⟩
  rw [any_mem]
  exact q
theorem op_ninT (hu : X.A.units + 65 < cLine) (e : Eqd ρ) (hd : e.dp ≤ 50) : OpR X (compareOp .NotIn) (rNinT e) := fun pins s σ H x y v u Q I rx ry h => by
  obtain ⟨a, b, ha, hb, oa, ob, q⟩ := h
  refine op_notInD hu pins s σ H x y v u Q I rx ry ⟨e.d a, b.map e.d, e.h _ ha, (eqdL e).h _ hb, e.shaped (by omega) a oa, (eqdL e).shaped (show e.dp + 1 ≤ 60 by omega) b ob, ?_⟩
  rw [any_mem]
  exact q
end
theorem hu65 {k : Nat} {A : Around} (hr : Room k A) : A.units + 65 < cLine := by have := hr.un; omega

/-! ### flat things -/
section
variable {X : Cx}
def rEqS : R2 := fun x y H Q => ∃ a b : Str, x = .str a ∧ y = .str b ∧ Q (.bl (decide (a = b))) H
def rNeS : R2 := fun x y H Q => ∃ a b : Str, x = .str a ∧ y = .str b ∧ Q (.bl (!decide (a = b))) H
theorem dec_str (a b : Str) : decide (V.str a = V.str b) = decide (a = b) := by
  by_cases h : a = b
  · rw [h, decide_eq_true rfl, decide_eq_true rfl]
  · rw [decide_eq_false h, decide_eq_false fun z => h (V.str.inj z)]
theorem op_eqS : OpR X (compareOp .Eq) rEqS := fun pins s σ H x y v u Q I rx ry h => by
  obtain ⟨a, b, rfl, rfl, q⟩ := h
  exact op_eq pins s σ H _ _ v u Q I rx ry ⟨rfl, by rw [dec_str]; exact q⟩
theorem op_neS : OpR X (compareOp .NotEq) rNeS := fun pins s σ H x y v u Q I rx ry h => by
  obtain ⟨a, b, rfl, rfl, q⟩ := h
  exact op_ne pins s σ H _ _ v u Q I rx ry ⟨rfl, by rw [dec_str]; exact q⟩
theorem dec_bl (a b : Bool) : decide (V.bl a = V.bl b) = decide (a = b) := by cases a <;> cases b <;> rfl
def rEqBl : R2 := fun x y H Q => ∃ a b : Bool, x = .bl a ∧ y = .bl b ∧ Q (.bl (decide (a = b))) H
def rNeBl : R2 := fun x y H Q => ∃ a b : Bool, x = .bl a ∧ y = .bl b ∧ Q (.bl (!decide (a = b))) H
theorem op_eqBl : OpR X (compareOp .Eq) rEqBl := fun pins s σ H x y v u Q I rx ry h => by
  obtain ⟨a, b, rfl, rfl, q⟩ := h
  exact op_eq pins s σ H _ _ v u Q I rx ry ⟨rfl, by rw [dec_bl]; exact q⟩
theorem op_neBl : OpR X (compareOp .NotEq) rNeBl := fun pins s σ H x y v u Q I rx ry h => by
  obtain ⟨a, b, rfl, rfl, q⟩ := h
  exact op_ne pins s σ H _ _ v u Q I rx ry ⟨rfl, by rw [dec_bl]; exact q⟩
def rEqI : R2 := rI0 fun i j => .bl (decide (i = j))
def rNeI : R2 := rI0 fun i j => .bl (!decide (i = j))
theorem dec_int (a b : Int) : decide (V.int a = V.int b) = decide (a = b) := by
  by_cases h : a = b
  · rw [h, decide_eq_true rfl, decide_eq_true rfl]
  · rw [decide_eq_false h, decide_eq_false fun z => h (V.int.inj z)]
theorem op_eqI : OpR X (compareOp .Eq) rEqI := fun pins s σ H x y v u Q I rx ry h => by
  obtain ⟨a, b, rfl, rfl, q⟩ := h
  exact op_eq pins s σ H _ _ v u Q I rx ry ⟨rfl, by rw [dec_int]; exact q⟩
theorem op_neI : OpR X (compareOp .NotEq) rNeI := fun pins s σ H x y v u Q I rx ry h => by
  obtain ⟨a, b, rfl, rfl, q⟩ := h
  exact op_ne pins s σ H _ _ v u Q I rx ry ⟨rfl, by rw [dec_int]; exact q⟩
/-- an int, a text in a list of such -/
theorem inV_I (x : Int) (xs : List Int) : inV (.int x) (xs.map V.int) = decide (x ∈ xs) := by
  unfold inV
  induction xs with
  | nil => simp
  | cons y ys ih =>
    rw [List.map_cons, List.any_cons, ih]
    show ((y == x) || decide (x ∈ ys)) = _
    by_cases h : x = y
    · subst h; simp
    · have h2 : (y == x) = false := by simpa using fun z : y = x => h z.symm
      rw [h2, Bool.false_or]
      congr 1
      simp [h]
theorem inV_S (x : Str) (xs : List Str) : inV (.str x) (xs.map V.str) = decide (x ∈ xs) := by
  unfold inV
  induction xs with
  | nil => simp
  | cons y ys ih =>
    rw [List.map_cons, List.any_cons, ih]
    show ((y == x) || decide (x ∈ ys)) = _
    by_cases h : x = y
    · subst h; simp
    · have h2 : (y == x) = false := by simpa using fun z : y = x => h z.symm
      rw [h2, Bool.false_or]
      congr 1
      simp [h]
def rInI : R2 := fun x y H Q => ∃ (i : Int) (a : Addr) (vs : List V) (xs : List Int), x = .int i ∧ y = .ref a ∧ H a = some (.lst vs) ∧ AL rI H vs xs ∧ Q (.bl (decide (i ∈ xs))) H
def rNinI : R2 := fun x y H Q => ∃ (i : Int) (a : Addr) (vs : List V) (xs : List Int), x = .int i ∧ y = .ref a ∧ H a = some (.lst vs) ∧ AL rI H vs xs ∧ Q (.bl (!decide (i ∈ xs))) H
theorem op_inI : OpR X (compareOp .In) rInI := fun pins s σ H x y v u Q I rx ry h => by
  obtain ⟨i, a, vs, xs, rfl, rfl, h, hal, q⟩ := h
  rw [al_I hal] at h
  exact op_in_seq pins s σ H _ _ v u Q I rx ry ⟨a, _, rfl, .inl (SqL.of h), rfl, flat_I xs, by rw [inV_I]; exact q⟩
theorem op_ninI : OpR X (compareOp .NotIn) rNinI := fun pins s σ H x y v u Q I rx ry h => by
  obtain ⟨i, a, vs, xs, rfl, rfl, h, hal, q⟩ := h
  rw [al_I hal] at h
  exact op_notIn_seq pins s σ H _ _ v u Q I rx ry ⟨a, _, rfl, .inl (SqL.of h), rfl, flat_I xs, by rw [inV_I]; exact q⟩
def rInSl : R2 := fun x y H Q => ∃ (i : Str) (a : Addr) (vs : List V) (xs : List Str), x = .str i ∧ y = .ref a ∧ H a = some (.lst vs) ∧ AL rS H vs xs ∧ Q (.bl (decide (i ∈ xs))) H
def rNinSl : R2 := fun x y H Q => ∃ (i : Str) (a : Addr) (vs : List V) (xs : List Str), x = .str i ∧ y = .ref a ∧ H a = some (.lst vs) ∧ AL rS H vs xs ∧ Q (.bl (!decide (i ∈ xs))) H
theorem op_inSl : OpR X (compareOp .In) rInSl := fun pins s σ H x y v u Q I rx ry h => by
  obtain ⟨i, a, vs, xs, rfl, rfl, h, hal, q⟩ := h
  rw [al_S hal] at h
  exact op_in_seq pins s σ H _ _ v u Q I rx ry ⟨a, _, rfl, .inl (SqL.of h), rfl, flat_S xs, by rw [inV_S]; exact q⟩
theorem op_ninSl : OpR X (compareOp .NotIn) rNinSl := fun pins s σ H x y v u Q I rx ry h => by
  obtain ⟨i, a, vs, xs, rfl, rfl, h, hal, q⟩ := h
  rw [al_S hal] at h
  exact op_notIn_seq pins s σ H _ _ v u Q I rx ry ⟨a, _, rfl, .inl (SqL.of h), rfl, flat_S xs, by rw [inV_S]; exact q⟩
/-- calls -/
def rLenL : List V → Hp → VK → Prop := fun xs H Q => ∃ (p : Addr) (vs : List V) (n : Nat), xs = [.ref p] ∧ H p = some (.lst vs) ∧ vs.length = n ∧ Q (.int (n : Int)) H
theorem call_lenL : CallR X (.builtin "len") rLenL := fun pins s σ H xs us Q I r h => by
  obtain ⟨p, vs, n, rfl, h, rfl, q⟩ := h
  exact call_len_seq pins s σ H _ us Q I r ⟨p, vs, rfl, .inl (SqL.of h), q⟩
def rLenSc (K : PySem.W.Frag) : List V → Hp → VK → Prop := fun xs H Q => ∃ (p : Addr) (ns : List Int), xs = [.ref p] ∧ SqL K H p (ns.map V.int) ∧ Q (.int ((ns.length : Nat) : Int)) H
theorem call_lenSc' : CallR X (.builtin "len") (rLenSc X.K) := fun pins s σ H xs us Q I r h => by
  obtain ⟨p, ns, rfl, h, q⟩ := h
  exact call_len_seq pins s σ H _ us Q I r ⟨p, _, rfl, .inl h, by rw [List.length_map]; exact q⟩
theorem call_lenSc {K : PySem.W.Frag} (h : X.K = K) : CallR X (.builtin "len") (rLenSc K) := by rw [← h]; exact call_lenSc'
theorem ix_l {K : PySem.W.Frag} (h : X.K = K) : IxR X (rIxL K) := by rw [← h]; exact ix_list
theorem sl_l {K : PySem.W.Frag} (h : X.K = K) : SlR X (rSlL K) := by rw [← h]; exact sl_list
theorem call_is {K : PySem.W.Frag} (h : X.K = K) : CallR X (.builtin "isinstance") (rIsi K) := by rw [← h]; exact call_isi
def rIntI : List V → Hp → VK → Prop := fun xs H Q => ∃ i, xs = [.int i] ∧ Q (.int i) H
theorem call_intI : CallR X (.type "int") rIntI := fun pins s σ H xs us Q I r h => by
  obtain ⟨i, rfl, q⟩ := h
  exact call_int1 pins s σ H _ us Q I r (.inl ⟨i, rfl, q⟩)
def b2I (b : Bool) : Int := if b then 1 else 0
def rIntB : List V → Hp → VK → Prop := fun xs H Q => ∃ i, xs = [.bl i] ∧ Q (.int (b2I i)) H
theorem call_intB : CallR X (.type "int") rIntB := fun pins s σ H xs us Q I r h => by
  obtain ⟨i, rfl, q⟩ := h
  exact call_int1 pins s σ H _ us Q I r (.inr ⟨i, rfl, q⟩)
/-- str(i) -/
def sI (i : Int) : Str := toString i
def sOk (i : Int) : Prop := i.natAbs.log2 < 1920
instance (i : Int) : Decidable (sOk i) := inferInstanceAs (Decidable (_ < _))
def rStrI : List V → Hp → VK → Prop := fun xs H Q => ∃ i, xs = [.int i] ∧ sOk i ∧ Q (.str (sI i)) H
theorem call_strI : CallR X (.type "str") rStrI := call_str_int
instance (a b : Int) : Decidable (CMul a b) := inferInstanceAs (Decidable (_ ∨ _))
instance (a b : Int) : Decidable (CDivW a b) := inferInstanceAs (Decidable (_ ∧ _))
instance (a b : Int) : Decidable (CPow a b) := inferInstanceAs (Decidable (_ ∧ _))
theorem sc_at {K : PySem.W.Frag} {H0 G0 G H : Hp} {M : MM} {a : Addr} {vs : List V} (h : SqL K H0 a vs) (c : Cf [] H0 G0 G M H) : SqL K H a vs := ex_l (fun a o e => c.ex0 a o (by simp) e) h
def jOk (a : Str) (ys : List Str) : Prop := (ys.map (·.length)).sum + ys.length * a.length ≤ 16777216
instance (a : Str) (ys : List Str) : Decidable (jOk a ys) := inferInstanceAs (Decidable (_ ≤ _))
def imax (a b : Int) : Int := if b > a then b else a
def imin (a b : Int) : Int := if b < a then b else a
def rMax2 : List V → Hp → VK → Prop := fun xs H Q => ∃ i j, xs = [.int i, .int j] ∧ Q (.int (imax i j)) H
theorem call_maxI (hc : X.calm = true) : CallR X (.builtin "max") rMax2 := call_max2 hc
def rMin2 : List V → Hp → VK → Prop := fun xs H Q => ∃ i j, xs = [.int i, .int j] ∧ Q (.int (imin i j)) H
theorem call_minI (hc : X.calm = true) : CallR X (.builtin "min") rMin2 := call_min2 hc
def rAllB : List V → Hp → VK → Prop := fun xs H Q => ∃ (p : Addr) (vs : List V) (bs : List Bool), xs = [.ref p] ∧ H p = some (.lst vs) ∧ AL rB H vs bs ∧ Q (.bl (bs.all id)) H
theorem call_allB (hc : X.calm = true) : CallR X (.builtin "all") rAllB := fun pins s σ H xs us Q I r h => by
  obtain ⟨p, vs, bs, rfl, h, hal, q⟩ := h
  rw [al_B hal] at h
  exact cr_all hc pins s σ H _ us Q I r ⟨p, bs, rfl, SqL.of h, q⟩
def rListL : List V → Hp → VK → Prop := fun xs H Q => ∃ p vs, xs = [.ref p] ∧ H p = some (.lst vs) ∧ ∀ l, H l = none → Q (.ref l) (upd H l (.lst vs))
theorem call_listL : CallR X (.type "list") rListL := fun pins s σ H xs us Q I r h => by
  obtain ⟨p, vs, rfl, h, q⟩ := h
  exact call_list_of pins s σ H _ us Q I r ⟨p, vs, rfl, .inl (SqL.of h), q⟩
/-- int(text) -/
def iOk (z : Str) : Option Int := if z.length ≤ 640 then PySem.intText? z else none
def rIntS : List V → Hp → VK → Prop := fun xs H Q => ∃ a n, xs = [.str a] ∧ iOk a = some n ∧ Q (.int n) H
theorem call_intS : CallR X (.type "int") rIntS := fun pins s σ H xs us Q I r h => by
  obtain ⟨a, n, rfl, h, q⟩ := h
  unfold iOk at h
  by_cases hz : a.length ≤ 640
  · rw [if_pos hz] at h
    exact call_int_str pins s σ H _ us Q I r ⟨a, n, rfl, h, hz, q⟩
  · rw [if_neg hz] at h
    cases h
end
/-! ### slices -/
def cutL {α : Type} (xs : List α) (lo hi : Option Int) : List α := (xs.drop (HT.sIx xs.length 0 lo)).take (HT.sIx xs.length xs.length hi - HT.sIx xs.length 0 lo)
theorem cut_al {α : Type} {ρ : Rep α} {G : Hp} {vs : List V} {xs : List α} (h : AL ρ G vs xs) (lo hi : Option Int) : AL ρ G (cutV vs lo hi) (cutL xs lo hi) := by
  unfold cutV cutL
  rw [h.len]
  exact A2.take _ (A2.drop _ h)
end Tw

/-! Tw4: sets of ints made of a list, any number of members up to 4,000; sorted. -/
namespace Tw
open PySem PySem.Spec PyProof.Rows L2

/-! ### the strictly ascending list of the members -/
def ins (x : Int) : List Int → List Int
  | [] => [x]
  | y :: l => if x < y then x :: y :: l else if x = y then y :: l else y :: ins x l
def srt (l : List Int) : List Int := l.foldr ins []
theorem ins_mem (x k : Int) : ∀ l, k ∈ ins x l ↔ k = x ∨ k ∈ l
  | [] => by simp [ins]
  | y :: l => by
    unfold ins
    split
    · simp
    · split
      · rename_i h
        subst h
        simp
      · simp only [List.mem_cons, ins_mem x k l]
        constructor
        · rintro (h | h | h)
          · exact .inr (.inl h)
          · exact .inl h
          · exact .inr (.inr h)
        · rintro (h | h | h)
          · exact .inr (.inl h)
          · exact .inl h
          · exact .inr (.inr h)
theorem ins_up (x : Int) : ∀ {l : List Int}, l.Pairwise (· < ·) → (ins x l).Pairwise (· < ·)
  | [], _ => List.pairwise_singleton _ _
  | y :: l, h => by
    obtain ⟨h1, h2⟩ := List.pairwise_cons.mp h
    unfold ins
    split
    · rename_i c
      refine List.pairwise_cons.mpr ⟨fun z hz => ?_, h⟩
      rcases List.mem_cons.mp hz with e | hz
      · omega
      · have := h1 z hz
        omega
    · split
      · exact h
      · refine List.pairwise_cons.mpr ⟨fun z hz => ?_, ins_up x h2⟩
        rcases (ins_mem x z l).mp hz with e | hz
        · omega
        · exact h1 z hz
theorem srt_mem (k : Int) : ∀ l, k ∈ srt l ↔ k ∈ l
  | [] => by simp [srt]
  | x :: l => by
    show k ∈ ins x (srt l) ↔ _
    rw [ins_mem, srt_mem k l, List.mem_cons]
theorem srt_up : ∀ l, (srt l).Pairwise (· < ·)
  | [] => List.Pairwise.nil
  | x :: l => ins_up x (srt_up l)
theorem ins_len (x : Int) : ∀ l, (ins x l).length ≤ l.length + 1
  | [] => Nat.le_refl _
  | y :: l => by
    unfold ins
    split
    · exact Nat.le_refl _
    · split
      · exact Nat.le_succ _
      · have := ins_len x l
        simp only [List.length_cons]
        omega
theorem srt_len : ∀ l, (srt l).length ≤ l.length
  | [] => Nat.le_refl _
  | x :: l => by
    have h1 := ins_len x (srt l)
    have h2 := srt_len l
    show (ins x (srt l)).length ≤ l.length + 1
    omega
theorem up_nd {l : List Int} (h : l.Pairwise (· < ·)) : l.Nodup := h.imp fun {a b} q e => by omega
/-- two strictly ascending lists with the same members are one -/
theorem up_uniq : ∀ {l m : List Int}, l.Pairwise (· < ·) → m.Pairwise (· < ·) → (∀ k, k ∈ l ↔ k ∈ m) → l = m
  | [], [], _, _, _ => rfl
  | [], y :: m, _, _, e => absurd ((e y).mpr List.mem_cons_self) (by simp)
  | x :: l, [], _, _, e => absurd ((e x).mp List.mem_cons_self) (by simp)
  | x :: l, y :: m, h, g, e => by
    obtain ⟨h1, h2⟩ := List.pairwise_cons.mp h
    obtain ⟨g1, g2⟩ := List.pairwise_cons.mp g
    have exy : x = y := by
      rcases List.mem_cons.mp ((e x).mp List.mem_cons_self) with a | a
      · exact a
      · rcases List.mem_cons.mp ((e y).mpr List.mem_cons_self) with b | b
        · exact b.symm
        · have := h1 y b
          have := g1 x a
          omega
    subst exy
    congr 1
    refine up_uniq h2 g2 fun k => ⟨fun hk => ?_, fun hk => ?_⟩
    · rcases List.mem_cons.mp ((e k).mp (List.mem_cons_of_mem _ hk)) with a | a
      · have := h1 k hk
        omega
      · exact a
    · rcases List.mem_cons.mp ((e k).mpr (List.mem_cons_of_mem _ hk)) with a | a
      · have := g1 k hk
        omega
      · exact a
theorem nd_len {l m : List Int} (h : l.Nodup) (g : m.Nodup) (e : ∀ k, k ∈ l ↔ k ∈ m) : l.length = m.length :=
  ((List.perm_ext_iff_of_nodup h g).mpr e).length_eq
/-- the ascending list, doubles kept -/
def insD (x : Int) : List Int → List Int
  | [] => [x]
  | y :: l => if x ≤ y then x :: y :: l else y :: insD x l
def srtD (l : List Int) : List Int := l.foldr insD []
theorem insD_perm (x : Int) : ∀ l, (insD x l).Perm (x :: l)
  | [] => .refl _
  | y :: l => by
    unfold insD
    split
    · exact .refl _
    · exact ((insD_perm x l).cons y).trans (List.Perm.swap x y l)
theorem srtD_perm : ∀ l, (srtD l).Perm l
  | [] => .refl _
  | x :: l => (insD_perm x (srtD l)).trans ((srtD_perm l).cons x)
theorem insD_up (x : Int) : ∀ {l : List Int}, l.Pairwise (· ≤ ·) → (insD x l).Pairwise (· ≤ ·)
  | [], _ => List.pairwise_singleton _ _
  | y :: l, h => by
    obtain ⟨h1, h2⟩ := List.pairwise_cons.mp h
    unfold insD
    split
    · rename_i c
      refine List.pairwise_cons.mpr ⟨fun z hz => ?_, h⟩
      rcases List.mem_cons.mp hz with e | hz
      · omega
      · have := h1 z hz
        omega
    · refine List.pairwise_cons.mpr ⟨fun z hz => ?_, insD_up x h2⟩
      rcases List.mem_cons.mp ((insD_perm x l).mem_iff.mp hz) with e | hz
      · omega
      · exact h1 z hz
theorem srtD_up : ∀ l, (srtD l).Pairwise (· ≤ ·)
  | [] => List.Pairwise.nil
  | x :: l => insD_up x (srtD_up l)
theorem upD_uniq {l m : List Int} (h : l.Pairwise (· ≤ ·)) (g : m.Pairwise (· ≤ ·)) (p : l.Perm m) : l = m :=
  p.eq_of_pairwise (fun a b _ _ h1 h2 => by omega) h g

/-! ### set(xs), a list of ints -/
abbrev nso (w : World) : Obj := { cls := .type "set", dict := none, data := .set #[] 0 (.fresh 0 0 (!w.params.followText "set-order")) }
section
variable {P : Program} {w : World} {A : Around} {E : Value → Shared → Prop} {s : Shared}
/-- a set made of a list of ints; the number of members comes with it -/
theorem set_of_ints {l : Addr} {us : Array Value} (ns : List Int) {Q : Value → Shared → Prop} (nh : A.handled = none) (hl : s.heap.IsList l us) (hi : IntsAre us.toList ns) (fw : ns.length + 1 < scanBound)
    (k : ∀ (hp : Heap) (tk c : Nat), SetR w hp s.heap.objs.size (fun j => decide (j ∈ ns)) c → (∀ b o, s.heap.get? b = some o → hp.get? b = some o) → Q (.ref s.heap.objs.size) { s with heap := hp, toks := tk }) :
    wpAny (model P w) A (call (.type "set") [.ref l]) Q E s := by
  have hus : us.size = ns.length := by
    have e := IntsAre.length hi
    rwa [Array.length_toList] at e
  obtain ⟨mro1, mro2, mro⟩ := PySem.F.called_set.mro
  have made := PySem.F.called_set.made
  have subT := PySem.F.called_set.sub
  have notT := PySem.F.called_set.notType
  have canC := PySem.F.called_set.canCreate
  have tc1 := PySem.F.typeCall_set_1 (.ref l)
  refine wpAny_call (codeAny_of_tree (?_ : wpAny _ _ (callAny (.type "set") _) _ _ _))
  refine wpAny_pure ⟨Code.quiet_builtin _ (by decide +kernel), ?_⟩
  refine codeAny_builtin PySem.F.entry_type_call ?_
  rw [Around.under_plain (weight_type_call_type "set" [.ref l] ([] : List (Str × Value))) rfl]
  repeat (any_goals (first | assumption | wp_step))
  refine codeAny_mono (L2.code_set_led1 (.ref l) (E := E) (Q₁ := fun v t => v = .ref s.heap.objs.size ∧ t = { s with heap := s.heap.push (nso w) }) ⟨rfl, rfl⟩) fun r1 t1 g1 => ?_
  rcases r1 with _ | fl
  · exact g1
  cases fl
  case ret v =>
    obtain ⟨rfl, rfl⟩ := g1
    have at0 : (s.heap.push (nso w)).get? s.heap.objs.size = some (nso w) := Heap.get?_push_size _ rfl
    have ty0 : Shared.TypeIs { s with heap := s.heap.push (nso w) } (.ref s.heap.objs.size) "set" := ⟨_, at0, rfl⟩
    have look := PySem.F.called_set.init.lookup
    have bnd := PySem.F.called_set.init.bind (.ref s.heap.objs.size)
    repeat (any_goals (first | assumption | wp_step))
    refine codeAny_mono (codeAny_call_builtin (R := wants (fun v t => v = .none ∧ ∃ hp tk c, t = { s with heap := hp, toks := tk } ∧ SetR w hp s.heap.objs.size (fun j => decide (j ∈ ns)) c ∧ (∀ b o, s.heap.get? b = some o → hp.get? b = some o)) E)
      PySem.F.called_set.init.plain PySem.F.entry_set_init (check_set_init_1 ty0 ?_)) fun r2 t2 g2 => ?_
    · obtain ⟨⟨kl, dc, da, sl⟩, got, isl, ep, dat⟩ := hl
      simp only at isl dat
      subst isl
      subst dat
      have got1 : (s.heap.push (nso w)).get? l = some { cls := .type "list", dict := dc, data := .seq us ep, slots := sl } := Heap.get?_push_of_some _ got
      have hl1 : (s.heap.push (nso w)).IsList l us := ⟨_, got1, rfl, ep, rfl⟩
      have f1 := PySem.F.sub_list_set
      have f2 := PySem.F.sub_list_frozenset
      have f3 : (Value.type "list" == Value.type "dict") = false := by decide +kernel
      have lt0 : l < s.heap.objs.size := Heap.lt_size got
      unfold Builtin.«set.__init__» noKeywords Builtin.Frozenset.updateFrom
      generalize hIt : pyIter = It
      wp_walk
      subst hIt
      refine wpAny_pyIter_list hl1 (wpAny_bind (wpAny_runValue ?_))
      have nh3 : A.in1.in1.in1.handled = none := by simp [nh]
      have zz : (s.heap.push (nso w)).objs.size = s.heap.objs.size + 1 := Heap.size_push ..
      have ne1 : l ≠ (s.heap.push (nso w)).objs.size := by
        rw [zz]
        exact Nat.ne_of_lt (Nat.lt_succ_of_lt lt0)
      have nin : s.heap.objs.size ∉ [(s.heap.push (nso w)).objs.size, l] := by
        rw [zz, List.mem_cons, List.mem_singleton]
        rintro (e | e)
        · exact absurd e (Nat.ne_of_lt (Nat.lt_succ_self _))
        · exact absurd e.symm (Nat.ne_of_lt lt0)
      have item : ∀ (i : Nat) (v : Value), us[i]? = some v → ∃ n t, ns[i]? = some n ∧ v = .int n t := fun i v hv => by
        have q : i < ns.length := by
          rw [← hus]
          exact (Array.getElem?_eq_some_iff.mp hv).1
        obtain ⟨t, e⟩ := IntsAre.int_at hi i v (by rw [Array.getElem?_toList]; exact hv)
        refine ⟨ns[i], t, List.getElem?_eq_getElem q, e.trans ?_⟩
        rw [List.getD_eq_getElem?_getD, List.getElem?_eq_getElem q] <;> rfl
      refine L2.set_update_ints ((Walks.list nh3 _ l ne1 us).toS) s.heap.objs.size nin ns hus fw item (us.size - 0) 0 _ (by omega) (Nat.zero_le _) ⟨⟨_, Heap.get?_push_size _ rfl, rfl, rfl⟩, hl1.push _⟩
        ⟨0, Nat.le_refl 0, L2.setR_new_at (Heap.get?_push_of_some _ at0)⟩ fun t c mv hc sr => ?_
      obtain ⟨hp, gs, dr, tk, os⟩ := t
      obtain rfl : gs = s.gens := mv.gens
      obtain rfl : dr = s.drawn := mv.drawn
      obtain rfl : os = s.os := mv.os
      show wpAny _ _ _ _ _ _
      refine wpAny_pure ?_
      show wpAny (model P w) _ (ret Value.none) _ _ _
      refine wpAny_pure ⟨rfl, hp, tk, c, rfl, sr, fun b o e => ?_⟩
      have blt : b < s.heap.objs.size := Heap.lt_size e
      refine mv.heap b o (fun z => ?_) (Heap.get?_push_of_some _ (Heap.get?_push_of_some _ e))
      rw [zz, List.mem_cons, List.mem_singleton] at z
      rcases z with z | z
      · exact absurd z (Nat.ne_of_lt blt)
      · exact absurd z (Nat.ne_of_lt (Nat.lt_succ_of_lt blt))
    · rcases r2 with _ | fl2
      · exact g2
      cases fl2
      case ret v2 =>
        obtain ⟨rfl, hp, tk, c, rfl, sr, kp⟩ := g2
        repeat (any_goals (first | assumption | wp_step))
        exact k _ _ _ sr kp
      all_goals exact g2.elim
  all_goals exact g1.elim

/-- the members of a set, sorted, any number of them -/
theorem sort_of_set {a : Addr} {S : Int → Bool} {n : Nat} {Q : Value → Shared → Prop} (R : SetR w s.heap a S n) (nh : A.handled = none)
    (k : ∀ t p (us : Array Value) (e : Nat) (ns : List Int), (∀ b o, s.heap.get? b = some o → t.heap.get? b = some o) → t.gens = s.gens → t.os = s.os → s.heap.objs.size ≤ p →
      t.heap.get? p = some (seqObj "list" us e) → IntsAre us.toList ns → ns.Pairwise (· < ·) → (∀ k, k ∈ ns ↔ S k = true) → Q (.ref p) t) :
    wpAny (model P w) A (call (.builtin "sorted") [.ref a]) Q E s := by
  obtain ⟨ob, es, ep, tb, got, ⟨isS, _⟩, dat, good, nd, mem, room, fits, _, rs, led⟩ := R
  refine Calls.call_function_entry kind_sorted plain_sorted entry_sorted (args_sorted1 _) ?_
  unfold Builtin.«sorted»
  refine wpAny_bind (m := checkCount "sorted" 1 1 _) (wpAny_pure (wpAny_bind (L2.collect_set (A := A.in1) nh ⟨ob, got, isS, dat⟩ fits room rs led fun t vs kp hz eg eo pm => ?_)))
  have few : vs.length ≤ sizeLine := by
    rw [pm.length_eq, List.length_map, Array.length_toList]
    exact fits_of_scanBound room
  have hI := L2.ints_of vs fun v hv => by
    obtain ⟨e, he, q⟩ := List.mem_map.mp (pm.mem_iff.mp hv)
    obtain ⟨i, tk, h1, _⟩ := good e he
    exact ⟨i, tk, q.symm.trans h1⟩
  have pk : (vs.map Builtin.Re.reRawOf).Perm (es.toList.map L2.keyOf) := by
    have q := pm.map Builtin.Re.reRawOf
    rwa [List.map_map] at q
  refine wpAny_bind (wpAny_newList ?_ few)
  have at1 : (t.heap.push (seqObj "list" vs.toArray 0)).get? t.heap.objs.size = some (seqObj "list" vs.toArray 0) := Heap.get?_push_size _ rfl
  refine wpAny_bind (wpAny_holding (wpAny_call_entry slot_list_sort ⟨_, at1, rfl⟩ entry_list_sort (SrtO.list_sort_ord SrtO.swo_int at1 few (fun h2 => SrtO.ints_sortable hI h2) fun out h1 h2 => ⟨.none, rfl, ?_⟩) (args_list_sort _)))
  obtain ⟨g1, g2, g3⟩ := SrtO.ints_out hI h1 h2
  obtain ⟨e2, at2⟩ := sortedHeap_at (vs := vs) (out := out.toArray) at1
  have pn := g2.trans pk
  have g1' : IntsAre out.toArray.toList (out.map SrtO.iv) := g1
  refine wpAny_pure ⟨_, rfl, k _ t.heap.objs.size out.toArray e2 _ (fun b u e => ?_) eg eo hz at2 g1' (L2.lt_of_le_nodup _ g3 (pn.nodup_iff.mpr nd)) (fun i => by rw [pn.mem_iff, ← mem i])⟩
  have q := kp b u e
  have lt1 := Heap.lt_size q
  show (sortedHeap (t.heap.push (seqObj "list" vs.toArray 0)) t.heap.objs.size vs out.toArray).get? b = _
  rw [sortedHeap_old (Nat.ne_of_lt lt1) (by rw [size_push']; exact Nat.lt_succ_of_lt lt1)]
  exact Heap.get?_push_of_some _ q
theorem set_num {a : Addr} {ns : List Int} {c : Nat} {hp : Heap} (R : SetR w hp a (fun j => decide (j ∈ ns)) c) : c = (srt ns).length := by
  obtain ⟨ob, es, ep, tb, got, _, dat, good, nd, mem, room, fits, num, _⟩ := R
  rw [← num, ← Array.length_toList, ← List.length_map (f := L2.keyOf)]
  refine nd_len nd (up_nd (srt_up ns)) fun k => ?_
  rw [← mem k, srt_mem, decide_eq_true_eq]
end

/-! ### rules -/
section
variable {X : Cx}
def setL (w : World) (a : Addr) (ns : List Int) : HO := SetO w a (fun j => decide (j ∈ ns)) (srt ns).length
def rSetL (w : World) : List V → Hp → VK → Prop := fun xs H Q => ∃ (p : Addr) (vs : List V) (ns : List Int), xs = [.ref p] ∧ H p = some (.lst vs) ∧ AL rI H vs ns ∧ ns.length ≤ 4000 ∧ ∀ a, H a = none → Q (.ref a) (upd H a (setL w a ns))
theorem call_setL' (hc : X.calm = true) : CallR X (.type "set") (rSetL X.w) := fun pins s σ H xs us Q I r h => by
  obtain ⟨p, vs, ns, rfl, h, al, few, q⟩ := h
  rw [al_I al] at h
  obtain ⟨its, rv, pl, hz⟩ := I.list (SqL.of h)
  rw [Vals.ref1 r]
  have hI : IntsAre its.toArray.toList ns := rv.ints
  refine set_of_ints ns (I.ok.hd hc) pl.isList hI (by unfold scanBound; omega) fun hp tk c sr kp => ?_
  rw [set_num sr] at sr
  exact ⟨.ref _, upd H s.heap.objs.size (setL X.w s.heap.objs.size ns), I.laid (t' := tk) kp (Nat.le_refl _) (setO_new sr), rfl, q _ (I.hok.fresh (Nat.le_refl _))⟩
theorem call_setL {w : World} (hw : X.w = w) (hc : X.calm = true) : CallR X (.type "set") (rSetL w) := by
  subst hw
  exact call_setL' hc
def rSortS (w : World) : List V → Hp → VK → Prop := fun xs H Q => ∃ (a : Addr) (ns : List Int), xs = [.ref a] ∧ H a = some (setL w a ns) ∧ ∀ p, H p = none → Q (.ref p) (upd H p (.lst ((srt ns).map V.int)))
theorem call_sortS' (hc : X.calm = true) : CallR X (.builtin "sorted") (rSortS X.w) := fun pins s σ H xs us Q I r h => by
  obtain ⟨a, ns, rfl, ha, q⟩ := h
  have sr := setO_get I ha
  rw [Vals.ref1 r]
  refine sort_of_set sr (I.ok.hd hc) fun t p us e out kp eg eo hp at2 hI up mem => ?_
  obtain rfl : out = srt ns := up_uniq up (srt_up ns) fun k => by rw [mem k, srt_mem, decide_eq_true_eq]
  have few : ((srt ns).map V.int).length ≤ sizeLine := by
    obtain ⟨ob, es, ep, tb, got, _, dat, good, nd, mem', room, fits, num, _⟩ := sr
    rw [List.length_map, ← num]
    exact fits_of_scanBound room
  have hn : H p = none := I.hok.fresh hp
  have J : Inv X pins σ (upd H p (.lst ((srt ns).map V.int))) t :=
    I.call' (ch := []) eo (Un.laid kp hp hn) (I.hok.laid kp hp ⟨few, us.toList, e, vals_of_ints hI, by simpa using at2⟩) (by rw [eg]; exact I.bare) (fun _ z => nomatch z)
  exact ⟨.ref p, _, J, rfl, q p hn⟩
theorem call_sortS {w : World} (hw : X.w = w) (hc : X.calm = true) : CallR X (.builtin "sorted") (rSortS w) := by
  subst hw
  exact call_sortS' hc
def rLenS (w : World) : List V → Hp → VK → Prop := fun xs H Q => ∃ (a : Addr) (ns : List Int), xs = [.ref a] ∧ H a = some (setL w a ns) ∧ Q (.int (((srt ns).length : Nat) : Int)) H
theorem call_lenS' : CallR X (.builtin "len") (rLenS X.w) := fun pins s σ H xs us Q I r h => by
  obtain ⟨a, ns, rfl, ha, q⟩ := h
  obtain ⟨ob, es, ep, tb, got, isS, dat, good, nd, mem, room, fits, num, _⟩ := setO_get I ha
  rw [Vals.ref1 r]
  refine call_len_set got isS dat fits (by unfold scanBound at room; omega) ⟨.int (((srt ns).length : Nat) : Int), H, I.tok _, ⟨_, by rw [num]⟩, q⟩
theorem call_lenS {w : World} (hw : X.w = w) : CallR X (.builtin "len") (rLenS w) := by
  subst hw
  exact call_lenS'
def rSortL : List V → Hp → VK → Prop := fun xs H Q => ∃ (p : Addr) (vs : List V) (ns : List Int), xs = [.ref p] ∧ H p = some (.lst vs) ∧ AL rI H vs ns ∧ ∀ a, H a = none → Q (.ref a) (upd H a (.lst ((srtD ns).map V.int)))
theorem call_sortL : CallR X (.builtin "sorted") rSortL := fun pins s σ H xs us Q I r h => by
  obtain ⟨p, vs, ns, rfl, h, al, q⟩ := h
  rw [al_I al] at h
  refine cr_sortedI pins s σ H _ us Q I r ⟨p, ns, rfl, SqL.of h, fun out a pm up hn => ?_⟩
  rw [upD_uniq up (srtD_up ns) (pm.trans (srtD_perm ns).symm)]
  exact q a hn
theorem bt_set : bootBuiltins "set" = some (.type "set") := by decide +kernel
end
end Tw

/-! Tw5: lists of rows that change; fresh rows. -/
namespace Tw
open PySem L2

/-! ### a list whose rows are looked after one by one -/
def rw9 : List Addr → List (List Int) → MM
  | a :: as, x :: xs => (a, .lst (x.map V.int)) :: rw9 as xs
  | _, _ => []
theorem rw9_get : ∀ {as : List Addr} {xs : List (List Int)} {k : Nat} {a : Addr} {x : List Int}, as[k]? = some a → xs[k]? = some x → (rw9 as xs)[k]? = some (a, .lst (x.map V.int))
  | [], _, _, _, _, h, _ => by simp at h
  | _ :: _, [], _, _, _, _, h => by simp at h
  | a :: as, x :: xs, 0, _, _, h, g => by
    simp only [List.getElem?_cons_zero, Option.some.injEq] at h g
    rw [← h, ← g]
    rfl
  | a :: as, x :: xs, k + 1, _, _, h, g => by
    show (rw9 as xs)[k]? = _
    exact rw9_get (by simpa using h) (by simpa using g)
theorem rw9_set : ∀ {as : List Addr} {xs : List (List Int)} {k : Nat} {a : Addr} (x : List Int), as[k]? = some a → (rw9 as xs).set k (a, .lst (x.map V.int)) = rw9 as (xs.set k x)
  | [], _, _, _, _, h => by simp at h
  | _ :: _, [], _, _, _, _ => by simp [rw9]
  | a :: as, x :: xs, 0, _, _, h => by
    simp only [List.getElem?_cons_zero, Option.some.injEq] at h
    rw [← h]
    rfl
  | a :: as, x :: xs, k + 1, _, y, h => by
    show (a, HO.lst (x.map V.int)) :: (rw9 as xs).set k _ = (a, HO.lst (x.map V.int)) :: rw9 as (xs.set k y)
    rw [rw9_set y (by simpa using h)]
theorem rw9_app : ∀ {as : List Addr} {xs : List (List Int)} (a : Addr) (x : List Int), as.length = xs.length → rw9 (as ++ [a]) (xs ++ [x]) = rw9 as xs ++ [(a, .lst (x.map V.int))]
  | [], [], _, _, _ => rfl
  | [], _ :: _, _, _, h => by simp at h
  | _ :: _, [], _, _, h => by simp at h
  | b :: as, y :: xs, a, x, h => by
    show (b, HO.lst (y.map V.int)) :: rw9 (as ++ [a]) (xs ++ [x]) = (b, HO.lst (y.map V.int)) :: (rw9 as xs ++ _)
    rw [rw9_app a x (by simpa using h)]
theorem rw9_fst : ∀ {as : List Addr} {xs : List (List Int)}, as.length = xs.length → (rw9 as xs).map Prod.fst = as
  | [], [], _ => rfl
  | [], _ :: _, h => by simp at h
  | _ :: _, [], h => by simp at h
  | b :: as, y :: xs, h => by
    show b :: (rw9 as xs).map Prod.fst = b :: as
    rw [rw9_fst (by simpa using h)]
section
variable {Bs : List Addr} {H0 G0 G G' H H' : Hp} {M P : MM} {p q a : Addr} {o o' : HO} {k : Nat} {as : List Addr} {xs : List (List Int)}
theorem Cf.sub (c : Cf Bs H0 G0 G (P ++ M) H) : Cf Bs H0 G0 G P H :=
  ⟨c.ex0, c.bh, c.g0, c.fr, c.gh, fun x hx => c.own x (List.mem_append_left _ hx), by
    have h := c.nd
    rw [List.map_append] at h
    exact (List.nodup_append.mp h).1⟩
theorem Cf.mutAt (c : Cf Bs H0 G0 G M H) (h : M[k]? = some (a, o)) (o' : HO) : Cf Bs H0 G0 G (M.set k (a, o')) (upd H a o') := by
  have c1 := (c.front k h).mut o'
  refine c1.perm ?_
  have hk : k < M.length := (List.getElem?_eq_some_iff.mp h).1
  have h2 : (M.set k (a, o'))[k]? = some (a, o') := by simp [hk]
  have p2 := perm_at (M.set k (a, o')) k (a, o') h2
  have e : (M.set k (a, o')).eraseIdx k = M.eraseIdx k := by
    rw [List.eraseIdx_set_eq]
  rw [e] at p2
  exact p2.symm
theorem Cf.rowget (c : Cf Bs H0 G0 G (P ++ rw9 as xs) H) {x : List Int} (ha : as[k]? = some a) (hx : xs[k]? = some x) : H a = some (.lst (x.map V.int)) :=
  c.get (P.length + k) (by rw [List.getElem?_append_right (by omega), Nat.add_sub_cancel_left]; exact rw9_get ha hx)
theorem Cf.rowset (c : Cf Bs H0 G0 G (P ++ rw9 as xs) H) {x : List Int} (ha : as[k]? = some a) (hx : xs[k]? = some x) (y : List Int) : Cf Bs H0 G0 G (P ++ rw9 as (xs.set k y)) (upd H a (.lst (y.map V.int))) := by
  have c1 := c.mutAt (k := P.length + k) (a := a) (o := .lst (x.map V.int)) (by rw [List.getElem?_append_right (by omega), Nat.add_sub_cancel_left]; exact rw9_get ha hx) (.lst (y.map V.int))
  rw [List.set_append_right _ _ (by omega), Nat.add_sub_cancel_left, rw9_set y ha] at c1
  exact c1
theorem Cf.rowpush {x : List Int} (c : Cf Bs H0 G0 G ((q, .lst (x.map V.int)) :: (P ++ rw9 as xs)) H) (hl : as.length = xs.length) : Cf Bs H0 G0 G (P ++ rw9 (as ++ [q]) (xs ++ [x])) H := by
  refine c.perm ?_
  rw [rw9_app q x hl, ← List.append_assoc]
  exact (List.perm_append_singleton _ _).symm
theorem Cf.rowsnew (c : Cf Bs H0 G0 G P H) : Cf Bs H0 G0 G (P ++ rw9 [] []) H := by
  show Cf Bs H0 G0 G (P ++ []) H
  rw [List.append_nil]
  exact c
/-- all rows are fixed -/
theorem Cf.rowsfix (hb : ∀ b ∈ Bs, b ∈ P.map Prod.fst) : ∀ {as : List Addr} {xs : List (List Int)} {G : Hp}, as.length = xs.length → Cf Bs H0 G0 G (P ++ rw9 as xs) H → ∃ G9, Ex G G9 ∧ AL (rL rI) G9 (as.map V.ref) xs ∧ Cf Bs H0 G0 G9 P H
  | [], [], G, _, c => ⟨G, Ex.refl _, .nil, by
    have c : Cf Bs H0 G0 G (P ++ []) H := c
    rwa [List.append_nil] at c⟩
  | [], _ :: _, _, h, _ => by simp at h
  | _ :: _, [], _, h, _ => by simp at h
  | b :: as, y :: xs, G, hl, c => by
    have c1 : Cf Bs H0 G0 G ((b, .lst (y.map V.int)) :: (P ++ rw9 as xs)) H := c.perm (List.perm_middle)
    have c2 := c1.freeze fun b hb' => by
      rw [List.map_append]
      exact List.mem_append_left _ (hb b hb')
    have e1 := freeze_ex c1
    obtain ⟨G9, e2, al, c3⟩ := Cf.rowsfix hb (by simpa using hl) c2
    exact ⟨G9, e1.trans e2, .cons ⟨b, _, rfl, e2 _ _ upd_same, la_I _ _⟩ al, c3⟩
/-- the rows as they are in the heap -/
theorem rows_al (P : MM) : ∀ {as : List Addr} {xs : List (List Int)} , as.length = xs.length → (∀ x ∈ rw9 as xs, H x.1 = some x.2) → AL (rL rI) H (as.map V.ref) xs
  | [], [], _, _ => .nil
  | [], _ :: _, h, _ => by simp at h
  | _ :: _, [], h, _ => by simp at h
  | b :: as, y :: xs, hl, h => .cons ⟨b, _, rfl, h (b, .lst (y.map V.int)) List.mem_cons_self, la_I _ _⟩ (rows_al P (by simpa using hl) fun x hx => h x (List.mem_cons_of_mem _ hx))
theorem Cf.rowsal (c : Cf Bs H0 G0 G (P ++ rw9 as xs) H) (hl : as.length = xs.length) : AL (rL rI) H (as.map V.ref) xs :=
  rows_al P hl fun x hx => (c.own x (List.mem_append_right _ hx)).1

/-! ### fresh rows -/
def Fr9 (H : Hp) (vs : List V) : Prop := vs.Pairwise (fun x y => ∀ a, x = V.ref a → y ≠ V.ref a) ∧ ∀ a, V.ref a ∈ vs → H a = none
theorem Fr9.nil : Fr9 H [] := ⟨List.Pairwise.nil, fun _ h => nomatch h⟩
theorem Fr9.snoc {vs : List V} {v : V} {ys : List (Option (List Int))} (f : Fr9 H0 vs) (c : Cf Bs H0 G0 G M H) (al : AL (rO (rL rI)) G vs ys) (h : ∀ a, v = V.ref a → H a = none) : Fr9 H0 (vs ++ [v]) := by
  have live : ∀ {vs : List V} {ys : List (Option (List Int))}, AL (rO (rL rI)) G vs ys → ∀ a, V.ref a ∈ vs → H a ≠ none := by
    intro vs ys al
    induction al with
    | nil => exact fun _ h => nomatch h
    | cons hx t ih =>
      rename_i x y _ _
      intro a ha
      rcases List.mem_cons.mp ha with e | ha
      · cases y with
        | none =>
          have hx : x = .non := hx
          rw [hx] at e
          cases e
        | some y =>
          obtain ⟨b, ws, e2, g, _⟩ := hx
          rw [e2] at e
          cases e
          rw [c.gh _ _ g]
          exact fun z => nomatch z
      · exact ih a ha
  refine ⟨List.pairwise_append.mpr ⟨f.1, List.pairwise_singleton _ _, fun x hx y hy a e1 e2 => ?_⟩, fun a ha => ?_⟩
  · rw [List.mem_singleton.mp hy] at e2
    subst e1
    exact live al a hx (h a e2)
  · rcases List.mem_append.mp ha with ha | ha
    · exact f.2 a ha
    · exact (c.h0 (h a (List.mem_singleton.mp ha).symm)).1
theorem al_refs : ∀ {vs : List V} {xs : List (List Int)}, AL (rL rI) G vs xs → ∃ as : List Addr, vs = as.map V.ref ∧ as.length = xs.length ∧ ∀ x ∈ rw9 as xs, G x.1 = some x.2
  | _, _, .nil => ⟨[], rfl, rfl, fun _ h => nomatch h⟩
  | _, _, .cons ⟨a, ws, e, g, h⟩ t => by
    obtain ⟨as, e2, l2, k⟩ := al_refs t
    subst e
    subst e2
    rw [al_I h] at g
    refine ⟨a :: as, rfl, by rw [List.length_cons, List.length_cons, l2], fun x hx => ?_⟩
    rcases List.mem_cons.mp hx with e | hx
    · rw [e]
      exact g
    · exact k x hx
/-- behind a call that gives out a list of fresh rows: they are ours -/
theorem Cf.callM (c : Cf Bs H0 G0 G M H) (s : Stp [] G G' H H') {vs : List V} (hp : H p = none) (gp : G' p = none) (ho : H' p = some (.lst vs)) (al : AL (rL rI) G' vs xs) (f : Fr9 H vs) :
    ∃ G9 as, vs = as.map V.ref ∧ as.length = xs.length ∧ Ex G G9 ∧ Cf Bs H0 G0 G9 ((p, .lst (as.map V.ref)) :: M ++ rw9 as xs) H' := by
  obtain ⟨as, e, l, rows⟩ := al_refs al
  subst e
  have c1 := c.callO s hp gp ho
  have fst := rw9_fst l
  have new : ∀ a ∈ as, H a = none := fun a ha => f.2 a (List.mem_map.mpr ⟨a, ha, rfl⟩)
  have nG : ∀ a ∈ as, G a = none := fun a ha => c.gh.free (new a ha)
  have nd : as.Nodup := (List.pairwise_map.mp f.1).imp fun {x y} h e => h x rfl (by rw [e])
  classical
  refine ⟨fun a => if a ∈ as then none else G' a, as, rfl, l, fun a u e => ?_, ?_⟩
  · have : a ∉ as := fun z => by rw [nG a z] at e; cases e
    show (if a ∈ as then none else G' a) = some u
    rw [if_neg this]
    exact s.gg a u e
  · refine ⟨c1.ex0, c1.bh, fun a u e => ?_, fun a ha => ?_, fun a u e => ?_, fun x hx => ?_, ?_⟩
    · have : a ∉ as := fun z => by
        have := c.g0 a u e
        rw [nG a z] at this
        cases this
      show (if a ∈ as then none else G' a) = some u
      rw [if_neg this]
      exact c1.g0 a u e
    · have : a ∉ as := fun z => ha (c.h0 (new a z)).1
      show (if a ∈ as then none else G' a) = _
      rw [if_neg this]
      exact c1.fr a ha
    · have e : (if a ∈ as then none else G' a) = some u := e
      by_cases z : a ∈ as
      · rw [if_pos z] at e
        cases e
      · rw [if_neg z] at e
        exact c1.gh a u e
    · rcases List.mem_append.mp hx with hx | hx
      · obtain ⟨h1, h2, h3⟩ := c1.own x hx
        refine ⟨h1, ?_, h3⟩
        show (if x.1 ∈ as then none else G' x.1) = none
        by_cases z : x.1 ∈ as
        · rw [if_pos z]
        · rw [if_neg z]
          exact h2
      · have z : x.1 ∈ as := by
          rw [← fst]
          exact List.mem_map.mpr ⟨x, hx, rfl⟩
        refine ⟨s.gh _ _ (rows x hx), ?_, .inl (c.h0 (new _ z)).1⟩
        show (if x.1 ∈ as then none else G' x.1) = none
        rw [if_pos z]
    · rw [List.map_append, fst, List.nodup_append]
      refine ⟨c1.nd, nd, fun x hx y hy e => ?_⟩
      subst e
      rcases List.mem_cons.mp hx with e | hx
      · have h1 : ∃ x9 ∈ rw9 as xs, x9.1 = x := by
          rw [← fst] at hy
          obtain ⟨x9, h, e9⟩ := List.mem_map.mp hy
          exact ⟨x9, h, e9⟩
        obtain ⟨x9, h9, e9⟩ := h1
        have := rows x9 h9
        rw [e9, e, gp] at this
        cases this
      · obtain ⟨x9, h9, e9⟩ := List.mem_map.mp hx
        have := (c.own x9 h9).1
        rw [e9, new x hy] at this
        cases this
end
theorem at_ref {as : List Addr} {xs : List (List Int)} {i : Int} {x : List Int} (hl : as.length = xs.length) (h : atI xs i = some x) : ∃ k a, ixN xs.length i = some k ∧ as[k]? = some a ∧ xs[k]? = some x ∧ atI (as.map V.ref) i = some (.ref a) := by
  unfold atI at h
  obtain ⟨k, hk, h⟩ := Option.bind_eq_some_iff.mp h
  have lt : k < xs.length := ixN_len hk
  have lt2 : k < as.length := by omega
  refine ⟨k, as[k], hk, List.getElem?_eq_getElem lt2, h, ?_⟩
  unfold atI
  rw [List.length_map, hl, hk]
  show (as.map V.ref)[k]? = _
  rw [List.getElem?_map, List.getElem?_eq_getElem lt2]
  rfl
/-- a row is changed, by its place -/
def setI {α : Type} (xs : List α) (i : Int) (y : α) : List α := match ixN xs.length i with
  | some k => xs.set k y
  | none => xs
theorem setI_of {α : Type} {xs : List α} {i : Int} {y : α} {k : Nat} (h : ixN xs.length i = some k) : setI xs i y = xs.set k y := by
  unfold setI
  rw [h]
end Tw

/-! Tw6: plain facts about the words of mirrors. -/
namespace Tw
open PySem L2

theorem bigE : BIG = 16777216 := rfl
theorem lcm_ok {α β : Type} {f : α → Option β} {g : α → β} : ∀ {l : List α}, (∀ x ∈ l, f x = some (g x)) → lcm f l = some (l.map g)
  | [], _ => rfl
  | x :: l, h => by
    show (f x).bind _ = _
    rw [h x List.mem_cons_self, lcm_ok fun y hy => h y (List.mem_cons_of_mem _ hy)]
    rfl
theorem lcf_ok {α β : Type} {f : α → Option (Option β)} {p : α → Bool} {g : α → β} : ∀ {l : List α}, (∀ x ∈ l, f x = some (if p x = true then some (g x) else none)) → lcf f l = some ((l.filter p).map g)
  | [], _ => rfl
  | x :: l, h => by
    show (f x).bind _ = _
    rw [h x List.mem_cons_self, lcf_ok fun y hy => h y (List.mem_cons_of_mem _ hy)]
    cases e : p x with
    | true => simp [e]
    | false => simp [e]
theorem lcs_sub {α S : Type} {f : α → S → Option (Option α × S)} {I : S → Prop} : ∀ {l : List α} {s : S}, I s → (∀ x ∈ l, ∀ s, I s → ∃ (b : Bool) (s' : S), f x s = some (if b = true then some x else none, s') ∧ I s') → ∃ r s', lcs f l s = some (r, s') ∧ I s' ∧ r.Sublist l
  | [], s, i, _ => ⟨[], s, rfl, i, .slnil⟩
  | x :: l, s, i, h => by
    obtain ⟨b, s1, e, i1⟩ := h x List.mem_cons_self s i
    obtain ⟨r, s2, e2, i2, q⟩ := lcs_sub i1 fun y hy => h y (List.mem_cons_of_mem _ hy)
    cases b with
    | true =>
      refine ⟨x :: r, s2, ?_, i2, q.cons₂ x⟩
      show (f x s).bind _ = _
      rw [e]
      show (lcs f l s1).bind _ = _
      rw [e2]
      rfl
    | false =>
      refine ⟨r, s2, ?_, i2, q.cons x⟩
      show (f x s).bind _ = _
      rw [e]
      show (lcs f l s1).bind _ = _
      rw [e2]
      rfl
theorem lcs_all {α β S : Type} {f : α → S → Option (Option β × S)} {I : S → Prop} {P : β → Prop} : ∀ {l : List α} {s : S}, I s → (∀ x ∈ l, ∀ s, I s → ∃ (y : β) (s' : S), f x s = some (some y, s') ∧ I s' ∧ P y) → ∃ r s', lcs f l s = some (r, s') ∧ I s' ∧ r.length = l.length ∧ ∀ y ∈ r, P y
  | [], s, i, _ => ⟨[], s, rfl, i, rfl, fun _ z => nomatch z⟩
  | x :: l, s, i, h => by
    obtain ⟨y, s1, e, i1, p⟩ := h x List.mem_cons_self s i
    obtain ⟨r, s2, e2, i2, q, all⟩ := lcs_all i1 fun y hy => h y (List.mem_cons_of_mem _ hy)
    refine ⟨y :: r, s2, ?_, i2, by simp [q], fun z hz => ?_⟩
    · show (f x s).bind _ = _
      rw [e]
      show (lcs f l s1).bind _ = _
      rw [e2]
      rfl
    · rcases List.mem_cons.mp hz with e | hz
      · rw [e]
        exact p
      · exact all z hz
/-! ranges -/
theorem rng_nil {lo hi : Int} (h : hi ≤ lo) : rng lo hi = [] := by
  unfold rng
  rw [show (hi - lo).toNat = 0 by omega]
  rfl
theorem rng_cons {lo hi : Int} (h : lo < hi) : rng lo hi = lo :: rng (lo + 1) hi := by
  unfold rng
  obtain ⟨n, hn⟩ : ∃ n, (hi - lo).toNat = n + 1 := ⟨(hi - lo).toNat - 1, by omega⟩
  rw [hn, show (hi - (lo + 1)).toNat = n by omega, List.range_succ_eq_map, List.map_cons, List.map_map]
  congr 1
  · simp
  · refine List.map_congr_left fun i _ => ?_
    show lo + ((i + 1 : Nat) : Int) = lo + 1 + (i : Int)
    omega
theorem rng_mem {lo hi x : Int} : x ∈ rng lo hi ↔ lo ≤ x ∧ x < hi := by
  unfold rng
  rw [List.mem_map]
  constructor
  · rintro ⟨i, hi', e⟩
    rw [List.mem_range] at hi'
    omega
  · intro h
    exact ⟨(x - lo).toNat, by rw [List.mem_range]; omega, by omega⟩
theorem rng_up (lo hi : Int) : (rng lo hi).Pairwise (· < ·) := by
  unfold rng
  rw [List.pairwise_map]
  exact List.pairwise_lt_range.imp fun {a b} h => by omega
theorem lp_rng {S : Type} {f : Int → S → Option S} {I : Int → S → Prop} {hi : Int} : ∀ (n : Nat) (lo : Int) (s : S), hi - lo = n → I lo s → (∀ i, lo ≤ i → i < hi → ∀ s, I i s → ∃ s', f i s = some s' ∧ I (i + 1) s') → ∃ s', lp f (rng lo hi) s = some s' ∧ I hi s'
  | 0, lo, s, e, i, _ => ⟨s, by rw [rng_nil (by omega)]; rfl, by rw [show hi = lo by omega]; exact i⟩
  | n + 1, lo, s, e, i, h => by
    obtain ⟨s1, e1, i1⟩ := h lo (Int.le_refl _) (by omega) s i
    obtain ⟨s2, e2, i2⟩ := lp_rng n (lo + 1) s1 (by omega) i1 fun j h1 h2 => h j (by omega) h2
    refine ⟨s2, ?_, i2⟩
    rw [rng_cons (by omega)]
    show (f lo s).bind _ = _
    rw [e1]
    exact e2
/-- .. from 0 to a number that may be below -/
theorem lp_rng0 {S : Type} {f : Int → S → Option S} {I : Int → S → Prop} {n : Int} (h0 : 0 ≤ n) {s : S} (i : I 0 s) (h : ∀ i, 0 ≤ i → i < n → ∀ s, I i s → ∃ s', f i s = some s' ∧ I (i + 1) s') : ∃ s', lp f (rng 0 n) s = some s' ∧ I n s' :=
  lp_rng n.toNat 0 s (by omega) i h
theorem lpx_all {α S R : Type} {f : α → S → Option (Out S R)} {I : S → Prop} : ∀ {l : List α} {s : S}, I s → (∀ x ∈ l, ∀ s, I s → ∃ s', f x s = some (.nx s') ∧ I s') → ∃ s', lpx f l s = some (.nx s') ∧ I s'
  | [], s, i, _ => ⟨s, rfl, i⟩
  | x :: l, s, i, h => by
    obtain ⟨s1, e, i1⟩ := h x List.mem_cons_self s i
    obtain ⟨s2, e2, i2⟩ := lpx_all i1 fun y hy => h y (List.mem_cons_of_mem _ hy)
    refine ⟨s2, ?_, i2⟩
    show (f x s).bind _ = _
    rw [e]
    exact e2
/-! enumerate -/
def enF {α : Type} : Int → List α → List (Int × α)
  | _, [] => []
  | k, x :: l => (k, x) :: enF (k + 1) l
theorem zip_enF {α : Type} : ∀ (xs : List α) (k : Int), (rng k (k + xs.length)).zip xs = enF k xs
  | [], k => by rw [List.zip_nil_right]; rfl
  | x :: l, k => by
    rw [rng_cons (by simp only [List.length_cons]; omega), List.zip_cons_cons]
    show (k, x) :: _ = (k, x) :: enF (k + 1) l
    rw [← zip_enF l (k + 1)]
    congr 3
    simp only [List.length_cons]
    omega
theorem enm_eq {α : Type} (xs : List α) : enm xs = enF 0 xs := by
  rw [← zip_enF xs 0]
  unfold enm
  rw [show (0 : Int) + (xs.length : Int) = (xs.length : Int) by omega]
/-! places -/
theorem atI_nat {α : Type} {xs : List α} {i : Int} (h0 : 0 ≤ i) (h1 : i < xs.length) : atI xs i = xs[i.toNat]? := by
  unfold atI ixN
  rw [if_pos h0, if_pos h1]
  rfl
theorem atI_get {α : Type} {xs : List α} {i : Int} (h0 : 0 ≤ i) (h1 : i < xs.length) : atI xs i = some (xs[i.toNat]'(by omega)) := by
  rw [atI_nat h0 h1]
  exact List.getElem?_eq_getElem (by omega)
theorem ixN_nat {n : Nat} {i : Int} (h0 : 0 ≤ i) (h1 : i < n) : ixN n i = some i.toNat := by
  unfold ixN
  rw [if_pos h0, if_pos h1]
theorem atI_last {α : Type} {xs : List α} {x : α} : atI (xs ++ [x]) (-(1 : Int)) = some x := by
  unfold atI ixN
  rw [if_neg (by omega), if_pos (by simp only [List.length_append, List.length_cons, List.length_nil]; omega)]
  show (xs ++ [x])[(-(1 : Int) + ((xs ++ [x]).length : Int)).toNat]? = _
  rw [show (-(1 : Int) + ((xs ++ [x]).length : Int)).toNat = xs.length by simp only [List.length_append, List.length_cons, List.length_nil]; omega]
  simp
theorem setI_get {α : Type} {xs : List α} {i : Int} {y : α} (h0 : 0 ≤ i) (h1 : i < xs.length) : setI xs i y = xs.set i.toNat y := setI_of (ixN_nat h0 h1)
theorem cutL_to {α : Type} {xs : List α} {i : Int} (h0 : 0 ≤ i) (h1 : i ≤ xs.length) : cutL xs none (some i) = xs.take i.toNat := by
  unfold cutL
  show (xs.drop 0).take ((if i < 0 then _ else min i.toNat xs.length) - 0) = _
  rw [if_neg (by omega), List.drop_zero, Nat.sub_zero, Nat.min_eq_left (by omega)]
theorem cutL_from {α : Type} {xs : List α} {i : Int} (h0 : 0 ≤ i) (h1 : i ≤ xs.length) : cutL xs (some i) none = xs.drop i.toNat := by
  unfold cutL
  show (xs.drop (if i < 0 then _ else min i.toNat xs.length)).take (xs.length - (if i < 0 then _ else min i.toNat xs.length)) = _
  rw [if_neg (by omega), Nat.min_eq_left (by omega)]
  exact List.take_of_length_le (by rw [List.length_drop]; omega)
theorem allS_some {α : Type} : ∀ xs : List α, allS (xs.map some) = some xs
  | [] => rfl
  | x :: l => by
    show (allS (l.map some)).bind _ = _
    rw [allS_some l]
    rfl
theorem rok_small {n : Int} (h0 : 0 ≤ n) (h1 : n < 1000000) : rok n := by
  unfold rok
  omega
end Tw
namespace Tw
open PySem L2
/-! ### an answer is there, and such -/
def Yes {α : Type} (x : Option α) (Q : α → Prop) : Prop := ∃ r, x = some r ∧ Q r
section
variable {α β S R : Type} {Q : β → Prop}
theorem Yes.so {x : Option β} {b : β} (h : Yes x fun r => r = b) : x = some b := by
  obtain ⟨r, e, q⟩ := h
  rw [e, q]
theorem Yes.val {b : β} (h : Q b) : Yes (some b) Q := ⟨b, rfl, h⟩
theorem Yes.bind {x : Option α} {f : α → Option β} {P : α → Prop} (h : Yes x P) (k : ∀ a, P a → Yes (f a) Q) : Yes (x.bind f) Q := by
  obtain ⟨a, e, p⟩ := h
  rw [e]
  exact k a p
theorem Yes.bindS {x : Option α} {f : α → Option β} {a : α} (h : x = some a) (k : Yes (f a) Q) : Yes (x.bind f) Q := by
  rw [h]
  exact k
theorem Yes.gd {c : Prop} [Decidable c] {r : Option β} (h : c) (k : Yes r Q) : Yes (gd c r) Q := by
  rw [gd_of h]
  exact k
theorem Yes.lt {e : α} {f : α → Option β} (k : Yes (f e) Q) : Yes (lt e f) Q := k
theorem Yes.ite {b : Bool} {x y : Option β} (h1 : b = true → Yes x Q) (h2 : b = false → Yes y Q) : Yes (if b = true then x else y) Q := by
  cases b with
  | true => exact h1 rfl
  | false => exact h2 rfl
theorem Yes.imp {P : β → Prop} {x : Option β} (h : Yes x P) (k : ∀ b, P b → Q b) : Yes x Q := by
  obtain ⟨a, e, p⟩ := h
  exact ⟨a, e, k a p⟩
theorem Yes.lp0 {f : Int → S → Option S} {n : Int} {s : S} {g : S → Option β} (I : Int → S → Prop) (h0 : 0 ≤ n) (i : I 0 s) (h : ∀ i, 0 ≤ i → i < n → ∀ s, I i s → Yes (f i s) (I (i + 1))) (k : ∀ s, I n s → Yes (g s) Q) : Yes ((lp f (rng 0 n) s).bind g) Q := by
  obtain ⟨s', e, i'⟩ := lp_rng0 h0 i h
  rw [e]
  exact k s' i'
theorem Yes.lpl {f : α → S → Option S} {l : List α} {s : S} {g : S → Option β} (I : S → Prop) (i : I s) (h : ∀ x ∈ l, ∀ s, I s → Yes (f x s) I) (k : ∀ s, I s → Yes (g s) Q) : Yes ((lp f l s).bind g) Q := by
  have all : ∀ (l : List α) (s : S), I s → (∀ x ∈ l, ∀ s, I s → Yes (f x s) I) → ∃ s', lp f l s = some s' ∧ I s' := by
    intro l
    induction l with
    | nil => exact fun s i _ => ⟨s, rfl, i⟩
    | cons x l ih =>
      intro s i h
      obtain ⟨s1, e1, i1⟩ := h x List.mem_cons_self s i
      obtain ⟨s2, e2, i2⟩ := ih s1 i1 fun y hy => h y (List.mem_cons_of_mem _ hy)
      refine ⟨s2, ?_, i2⟩
      show (f x s).bind _ = _
      rw [e1]
      exact e2
  obtain ⟨s', e, i'⟩ := all l s i h
  rw [e]
  exact k s' i'
theorem Yes.lpxl {f : α → S → Option (Out S R)} {l : List α} {s : S} {g : Out S R → Option β} (I : S → Prop) (i : I s) (h : ∀ x ∈ l, ∀ s, I s → Yes (f x s) fun o => ∃ s', o = .nx s' ∧ I s') (k : ∀ s, I s → Yes (g (.nx s)) Q) : Yes ((lpx f l s).bind g) Q := by
  obtain ⟨s', e, i'⟩ := lpx_all (f := f) (I := I) i fun x hx s hs => by
    obtain ⟨o, e, s', eo, i'⟩ := h x hx s hs
    exact ⟨s', by rw [e, eo], i'⟩
  rw [e]
  exact k s' i'
theorem Yes.lpxu {f : α → Unit → Option (Out Unit R)} {l : List α} {s : Unit} {g : Out Unit R → Option β} (h : ∀ x ∈ l, Yes (f x ()) fun o => o = .nx ()) (k : Yes (g (.nx ())) Q) : Yes ((lpx f l s).bind g) Q :=
  Yes.lpxl (fun _ => True) trivial (fun x hx s _ => (h x hx).imp fun o e => ⟨(), e, trivial⟩) fun _ _ => k
theorem Yes.lcmg {γ : Type} {f : α → Option γ} (g : α → γ) {l : List α} {k : List γ → Option β} (h : ∀ x ∈ l, f x = some (g x)) (q : Yes (k (l.map g)) Q) : Yes ((lcm f l).bind k) Q := by
  rw [lcm_ok h]
  exact q
theorem Yes.lcm {γ : Type} {f : α → Option γ} {P : γ → Prop} {l : List α} {k : List γ → Option β} (h : ∀ x ∈ l, Yes (f x) P) (q : ∀ r : List γ, r.length = l.length → (∀ y ∈ r, P y) → Yes (k r) Q) : Yes ((lcm f l).bind k) Q := by
  have all : ∀ l : List α, (∀ x ∈ l, Yes (f x) P) → ∃ r : List γ, Tw.lcm f l = some r ∧ r.length = l.length ∧ ∀ y ∈ r, P y := by
    intro l
    induction l with
    | nil => exact fun _ => ⟨[], rfl, rfl, fun _ z => nomatch z⟩
    | cons x l ih =>
      intro h
      obtain ⟨y, e, p⟩ := h x List.mem_cons_self
      obtain ⟨r, e2, l2, a2⟩ := ih fun z hz => h z (List.mem_cons_of_mem _ hz)
      refine ⟨y :: r, ?_, by simp [l2], fun z hz => ?_⟩
      · show (f x).bind _ = _
        rw [e]
        show (Tw.lcm f l).bind _ = _
        rw [e2]
        rfl
      · rcases List.mem_cons.mp hz with c | hz
        · rw [c]
          exact p
        · exact a2 z hz
  obtain ⟨r, e, l2, a2⟩ := all l h
  rw [e]
  exact q r l2 a2
theorem Yes.lcfg {γ : Type} {f : α → Option (Option γ)} (p : α → Bool) (g : α → γ) {l : List α} {k : List γ → Option β} (h : ∀ x ∈ l, f x = some (if p x = true then some (g x) else none)) (q : Yes (k ((l.filter p).map g)) Q) : Yes ((lcf f l).bind k) Q := by
  rw [lcf_ok h]
  exact q
theorem Yes.lcsub {f : α → S → Option (Option α × S)} (I : S → Prop) {l : List α} {s : S} {k : List α × S → Option β} (i : I s) (h : ∀ x ∈ l, ∀ s, I s → Yes (f x s) fun o => (o.1 = some x ∨ o.1 = none) ∧ I o.2) (q : ∀ r s, r.Sublist l → I s → Yes (k (r, s)) Q) : Yes ((lcs f l s).bind k) Q := by
  obtain ⟨r, s', e, i', sub⟩ := lcs_sub (f := f) i fun x hx s hs => by
    obtain ⟨⟨o1, o2⟩, e, c, i2⟩ := h x hx s hs
    rcases c with c | c
    · exact ⟨true, o2, by rw [e]; exact congrArg some (Prod.ext c rfl), i2⟩
    · exact ⟨false, o2, by rw [e]; exact congrArg some (Prod.ext c rfl), i2⟩
  rw [e]
  exact q r s' sub i'
theorem Yes.lcsall {γ : Type} {f : α → S → Option (Option γ × S)} (I : S → Prop) (P : γ → Prop) {l : List α} {s : S} {k : List γ × S → Option β} (i : I s) (h : ∀ x ∈ l, ∀ s, I s → Yes (f x s) fun o => (∃ y, o.1 = some y ∧ P y) ∧ I o.2) (q : ∀ r s, r.length = l.length → (∀ y ∈ r, P y) → I s → Yes (k (r, s)) Q) : Yes ((lcs f l s).bind k) Q := by
  obtain ⟨r, s', e, i', l', a'⟩ := lcs_all (f := f) (P := P) i fun x hx s hs => by
    obtain ⟨⟨o1, o2⟩, e, ⟨y, ey, p⟩, i2⟩ := h x hx s hs
    exact ⟨y, o2, by rw [e]; exact congrArg some (Prod.ext ey rfl), i2, p⟩
  rw [e]
  exact q r s' l' a' i'
end
end Tw

/-! Tw7: plain facts about texts of numbers. -/
namespace Tw
open PySem L2 TL

theorem tl_sI (n : Nat) : tl (sI (n : Int)) = numL n := tl_num n
theorem str0 : ("0" : Str) = ⟨#[48]⟩ := by decide +kernel
theorem strC : tl ("," : Str) = 44 :: [] := by decide +kernel
theorem strSp : tl (" " : Str) = 32 :: [] := by decide +kernel
theorem strMi : tl ("-" : Str) = [45] := by decide +kernel
theorem strDot : tl ("." : Str) = [46] := by decide +kernel
theorem strDg : (Str.cps ("0123456789" : Str)).toList = [48, 49, 50, 51, 52, 53, 54, 55, 56, 57] := by decide +kernel
theorem strE : tl ("" : Str) = [] := by decide +kernel
theorem numL_zero : ∀ {n : Nat} {r : List Nat}, numL n = 48 :: r → n = 0 := by
  intro n
  induction n using Nat.strongRecOn with
  | _ n ih =>
    intro r h
    by_cases hn : n < 10
    · rw [numL_lt hn] at h
      injection h with h1 h2
      omega
    · rw [numL_step (by omega)] at h
      obtain ⟨c, l, e⟩ : ∃ c l, numL (n / 10) = c :: l := by
        cases e : numL (n / 10) with
        | nil => exact absurd e (numL_ne _)
        | cons c l => exact ⟨c, l, rfl⟩
      rw [e] at h
      injection h with h1 h2
      rw [h1] at e
      have := ih (n / 10) (by omega) e
      omega
theorem dig_mem {c : Nat} (h : 48 ≤ c ∧ c ≤ 57) : c ∈ (Str.cps ("0123456789" : Str)).toList := by
  rw [strDg]
  have : c = 48 ∨ c = 49 ∨ c = 50 ∨ c = 51 ∨ c = 52 ∨ c = 53 ∨ c = 54 ∨ c = 55 ∨ c = 56 ∨ c = 57 := by omega
  simpa using this
theorem sI_len {n : Nat} {k : Nat} (hk : 0 < k) (h : n < 10 ^ k) : (sI (n : Int)).length ≤ k := by
  rw [len_tl, tl_sI]
  exact numL_len hk h
theorem iOk_sI {n : Nat} (h : n < 10 ^ 30) : iOk (sI (n : Int)) = some (n : Int) := by
  have l := sI_len (k := 30) (by omega) h
  unfold iOk
  rw [if_pos (by omega)]
  exact int_num (by have := numL_len (k := 30) (by omega) h; omega)
theorem sI_inj {m n : Nat} (h : sI (m : Int) = sI (n : Int)) : m = n := numL_inj (by rw [← tl_sI, ← tl_sI, h])
theorem sOk_nat {n : Nat} (h : n < 2 ^ 1900) : sOk (n : Int) := by
  show ((n : Int).natAbs).log2 < 1920
  rw [Int.natAbs_natCast]
  by_cases z : n = 0
  · subst z
    decide
  · exact (Nat.log2_lt z).mpr (Nat.lt_of_lt_of_le h (Nat.pow_le_pow_right (by omega) (by omega)))
theorem sOk_small {i : Int} (h0 : 0 ≤ i) (h1 : i < 10 ^ 40) : sOk i := by
  obtain ⟨n, rfl⟩ := Int.eq_ofNat_of_zero_le h0
  refine sOk_nat (Nat.lt_of_lt_of_le (by omega : n < 10 ^ 40) ?_)
  exact Nat.le_trans (by decide : 10 ^ 40 ≤ 2 ^ 150) (Nat.pow_le_pow_right (by omega) (by omega))
theorem sum_le {k : Nat} : ∀ {l : List Nat}, (∀ x ∈ l, x ≤ k) → l.sum ≤ l.length * k
  | [], _ => by simp
  | x :: l, h => by
    have h1 := h x List.mem_cons_self
    have h2 := sum_le fun y hy => h y (List.mem_cons_of_mem _ hy)
    rw [List.sum_cons, List.length_cons, Nat.succ_mul]
    omega
theorem jOk_of {a : Str} {ys : List Str} {k n : Nat} (ha : a.length ≤ 1) (hy : ∀ y ∈ ys, y.length ≤ k) (hn : ys.length ≤ n) (h : n * (k + 1) ≤ 16777216) : jOk a ys := by
  have h1 : (ys.map (·.length)).sum ≤ ys.length * k := by
    have := sum_le (k := k) (l := ys.map (·.length)) fun x hx => by
      obtain ⟨y, hy', e⟩ := List.mem_map.mp hx
      rw [← e]
      exact hy y hy'
    rwa [List.length_map] at this
  have h2 : ys.length * a.length ≤ ys.length * 1 := Nat.mul_le_mul_left _ ha
  have h3 : ys.length * (k + 1) ≤ n * (k + 1) := Nat.mul_le_mul_right _ hn
  have h4 : ys.length * (k + 1) = ys.length * k + ys.length := Nat.mul_succ _ _
  show (ys.map (·.length)).sum + ys.length * a.length ≤ 16777216
  omega
theorem join_len (a : Str) (ha : a.length ≤ 1) {ys : List Str} {k n : Nat} (hy : ∀ y ∈ ys, y.length ≤ k) (hn : ys.length ≤ n) : (Txt.join a ys).length ≤ n * (k + 1) := by
  rw [join_eq]
  have h0 := StrLaws.join_length_le a ys
  have h1 : (ys.map (·.length)).sum ≤ ys.length * k := by
    have := sum_le (k := k) (l := ys.map (·.length)) fun x hx => by
      obtain ⟨y, hy', e⟩ := List.mem_map.mp hx
      rw [← e]
      exact hy y hy'
    rwa [List.length_map] at this
  have h2 : ys.length * a.length ≤ ys.length * 1 := Nat.mul_le_mul_left _ ha
  have h3 : ys.length * (k + 1) ≤ n * (k + 1) := Nat.mul_le_mul_right _ hn
  have h4 : ys.length * (k + 1) = ys.length * k + ys.length := Nat.mul_succ _ _
  omega
/-- the signs of a joined text -/
theorem joinL_mem {S : List Nat} {c : Nat} : ∀ {ps : List (List Nat)}, c ∈ joinL S ps → c ∈ S ∨ ∃ p ∈ ps, c ∈ p
  | [], h => by cases h
  | [p], h => .inr ⟨p, List.mem_cons_self, h⟩
  | p :: q :: r, h => by
    have h : c ∈ p ++ (S ++ joinL S (q :: r)) := h
    rcases List.mem_append.mp h with h | h
    · exact .inr ⟨p, List.mem_cons_self, h⟩
    · rcases List.mem_append.mp h with h | h
      · exact .inl h
      · rcases joinL_mem h with h | ⟨z, hz, h⟩
        · exact .inl h
        · exact .inr ⟨z, List.mem_cons_of_mem _ hz, h⟩
theorem join_mem {a : Str} {ys : List Str} {c : Nat} (h : c ∈ tl (Txt.join a ys)) : c ∈ tl a ∨ ∃ y ∈ ys, c ∈ tl y := by
  rw [join_eq, tl_join] at h
  rcases joinL_mem h with h | ⟨p, hp, h⟩
  · exact .inl h
  · obtain ⟨y, hy, e⟩ := List.mem_map.mp hp
    rw [← e] at h
    exact .inr ⟨y, hy, h⟩
theorem ok256 {a : Str} {s : Nat} (h : tl a = [s]) (hs : s < 256) : a.cps.all (· < 256) = true := by
  rw [← Array.all_toList]
  show (tl a).all _ = true
  rw [h]
  simp [hs]
theorem split_back {a : Str} {s : Nat} (h : tl a = s :: []) (hs : s < 256) {ys : List Str} (ne : ys ≠ []) (hy : ∀ y ∈ ys, s ∉ tl y) : Txt.split (Txt.join a ys) a = ys := split_join h (ok256 h hs) ne hy

/-! ### the texts of webs -/
def tsT (ties : List Int) : Str := if ties = [] then ("-" : Str) else Txt.join ("," : Str) (ties.map sI)
def txW (web : List (List Int)) : Str := if web = [] then ("." : Str) else Txt.join (" " : Str) (web.map tsT)
def UpTo (n : Int) (row : List Int) : Prop := row.Pairwise (· < ·) ∧ ∀ k ∈ row, 0 ≤ k ∧ k < n
theorem UpTo.mono {n m : Int} {row : List Int} (h : UpTo n row) (l : n ≤ m) : UpTo m row := ⟨h.1, fun k hk => ⟨(h.2 k hk).1, by have := (h.2 k hk).2; omega⟩⟩
theorem sI_dig {k : Int} (h0 : 0 ≤ k) : ∀ c ∈ tl (sI k), 48 ≤ c ∧ c ≤ 57 := by
  obtain ⟨n, rfl⟩ := Int.eq_ofNat_of_zero_le h0
  rw [tl_sI]
  exact numL_digits n
theorem sI_ne {k : Int} (h0 : 0 ≤ k) : tl (sI k) ≠ [] := by
  obtain ⟨n, rfl⟩ := Int.eq_ofNat_of_zero_le h0
  rw [tl_sI]
  exact numL_ne n
theorem sI_le {k : Int} {m : Nat} (hm : 0 < m) (h0 : 0 ≤ k) (h1 : k < 10 ^ m) : (sI k).length ≤ m := by
  obtain ⟨n, rfl⟩ := Int.eq_ofNat_of_zero_le h0
  refine sI_len hm ?_
  have e : ((10 : Int) ^ m) = ((10 ^ m : Nat) : Int) := by simp
  rw [e] at h1
  exact Int.ofNat_lt.mp h1
theorem tsT_sign {row : List Int} (h : ∀ k ∈ row, 0 ≤ k) {c : Nat} (hc : c ∈ tl (tsT row)) : c = 44 ∨ c = 45 ∨ (48 ≤ c ∧ c ≤ 57) := by
  unfold tsT at hc
  split at hc
  · rw [strMi] at hc
    simp at hc
    exact .inr (.inl hc)
  · rcases join_mem hc with h1 | ⟨y, hy, h1⟩
    · rw [strC] at h1
      simp at h1
      exact .inl h1
    · obtain ⟨k, hk, e⟩ := List.mem_map.mp hy
      rw [← e] at h1
      exact .inr (.inr (sI_dig (h k hk) c h1))
theorem tsT_len {row : List Int} (h : ∀ k ∈ row, 0 ≤ k ∧ k < 1000) (l : row.length ≤ 1000) : (tsT row).length ≤ 4000 := by
  unfold tsT
  split
  · decide +kernel
  · have := join_len ("," : Str) (by decide +kernel) (ys := row.map sI) (k := 3) (n := 1000) (fun y hy => by
      obtain ⟨k, hk, e⟩ := List.mem_map.mp hy
      rw [← e]
      have := h k hk
      exact sI_le (m := 3) (by omega) this.1 (by omega)) (by rw [List.length_map]; exact l)
    omega
end Tw

/-! Tw8: errors; values by two ways. -/
namespace Tw
open PySem L2

/-- an error: its class by a number, its field -/
abbrev Er := Nat × Int
def ern : Nat → Str
  | 0 => "InvalidText"
  | 1 => "InvalidCommand"
  | 2 => "NotReady"
  | 3 => "InvalidThing"
  | 4 => "NothingToUndo"
  | 5 => "NotTwoSided"
  | 6 => "InvalidColouring"
  | 7 => "NoParting"
  | _ => ""
/-- by error and value -/
def exo {ε α β : Type} (z : Except ε α) (f : ε → β) (g : α → β) : β := match z with
  | .error e => f e
  | .ok y => g y
/-- the error's own dict -/
def efr (e : Er) (d : Option Addr) (H H' : Hp) : Prop :=
  if e.1 = 5 ∨ e.1 = 6 then ∃ dd, d = some dd ∧ H dd = none ∧ H' dd = some (.xd [(("thing" : Str), V.int e.2)]) else d = none
theorem efr_plain {e : Er} {H H' : Hp} (h : ¬ (e.1 = 5 ∨ e.1 = 6)) : efr e none H H' := by
  unfold efr
  rw [if_neg h]
theorem efr.up {Bs : List Addr} {H0 G0 G H H' : Hp} {M : MM} {e : Er} {d : Option Addr} (h : efr e d H H') (c : Cf Bs H0 G0 G M H) : efr e d H0 H' := by
  unfold efr at h ⊢
  split at h
  · rename_i q
    rw [if_pos q]
    obtain ⟨dd, h1, h2, h3⟩ := h
    exact ⟨dd, h1, (c.h0 h2).1, h3⟩
  · rename_i q
    rw [if_neg q]
    exact h
theorem cls_is {mg : Str → Option Value} {e : Er} {cls : Value} {C : Addr} {i : Nat} (hc : mg (ern e.1) = some cls) (hg : e.1 = i) (g : mg (ern i) = some (.ref C)) : cls = .ref C := by
  rw [hg, g] at hc
  exact (Option.some.inj hc).symm
theorem pe_never {X : Cx} {e : Expr} : PE X e fun _ _ _ => False := ⟨fun _ _ _ _ _ _ h => h.elim⟩
/-- a value by two ways, named behind them -/
theorem if_join {c : Bool} {ta tb : TE} {σ : St} {H : Hp} {Q : VK} (R : VK) (h : ∀ Q9 : VK, (∀ v H, R v H → Q9 v H) → if c = true then ta σ H Q9 else tb σ H Q9) (k : ∀ v H, R v H → Q v H) : if c = true then ta σ H Q else tb σ H Q := h Q k
end Tw
namespace Tw
open PySem PySem.Spec PyProof.Rows L2
/-! ### the least, the greatest of a list of ints -/
def lmin : List Int → Option Int
  | [] => none
  | x :: l => some (l.foldl (fun m y => if y < m then y else m) x)
def lmax : List Int → Option Int
  | [] => none
  | x :: l => some (l.foldl (fun m y => if y > m then y else m) x)
theorem int_items : ∀ {us : List Value} {ns : List Int}, IntsAre us ns → ∃ xs : List (Int × Tok), us = xs.map (fun p => Value.int p.1 p.2) ∧ xs.map (·.1) = ns
  | _, _, .nil => ⟨[], rfl, rfl⟩
  | _, _, .cons n t h => by
    obtain ⟨xs, e1, e2⟩ := int_items h
    exact ⟨(n, t) :: xs, by rw [e1]; rfl, by rw [List.map_cons, e2]⟩
theorem best_fold (better : Int → Int → Bool) (xs : Array (Int × Tok)) (x : Int × Tok) (l : List (Int × Tok)) (e : xs.toList = x :: l) : ∀ k, k ≤ l.length →
    ∃ h : argBest (fun i j => better (numAt xs i) (numAt xs j)) k < xs.size, (xs[argBest (fun i j => better (numAt xs i) (numAt xs j)) k]).1 = (l.take k).foldl (fun m y => if better y.1 m = true then y.1 else m) x.1 := by
  have sz : xs.size = l.length + 1 := by rw [← Array.length_toList, e, List.length_cons]
  have num : ∀ i (h : i < xs.size), numAt xs i = xs[i].1 := fun i h => by simp [numAt, h]
  have at0 : ∀ i (h : i < l.length), xs[i + 1]'(by omega) = l[i] := fun i h => by
    have h1 : xs.toList[i + 1]? = some l[i] := by
      rw [e, List.getElem?_cons_succ, List.getElem?_eq_getElem h]
    rw [Array.getElem?_toList] at h1
    exact (Array.getElem?_eq_some_iff.mp h1).2
  intro k
  induction k with
  | zero =>
    intro _
    refine ⟨by show 0 < xs.size; omega, ?_⟩
    show (xs[0]'(by omega)).1 = x.1
    have h1 : xs.toList[0]? = some x := by rw [e]; rfl
    rw [Array.getElem?_toList] at h1
    rw [(Array.getElem?_eq_some_iff.mp h1).2]
  | succ k ih =>
    intro hk
    obtain ⟨h, q⟩ := ih (by omega)
    have hl : k < l.length := hk
    have tk : (l.take (k + 1)) = l.take k ++ [l[k]] := by rw [List.take_add_one, List.getElem?_eq_getElem hl]; rfl
    have now : better (numAt xs (k + 1)) (numAt xs (argBest (fun i j => better (numAt xs i) (numAt xs j)) k)) = better l[k].1 ((l.take k).foldl (fun m y => if better y.1 m = true then y.1 else m) x.1) := by
      rw [num (k + 1) (by omega), num _ h, q, at0 k hl]
    have step : argBest (fun i j => better (numAt xs i) (numAt xs j)) (k + 1) = if better l[k].1 ((l.take k).foldl (fun m y => if better y.1 m = true then y.1 else m) x.1) = true then k + 1 else argBest (fun i j => better (numAt xs i) (numAt xs j)) k := by
      rw [← now]
      rfl
    rw [tk, List.foldl_append]
    simp only [List.foldl_cons, List.foldl_nil]
    by_cases b : better l[k].1 ((l.take k).foldl (fun m y => if better y.1 m = true then y.1 else m) x.1) = true
    · rw [if_pos b] at step
      simp only [step]
      refine ⟨by omega, ?_⟩
      rw [if_pos b, at0 k hl]
    · rw [if_neg b] at step
      simp only [step]
      refine ⟨h, ?_⟩
      rw [if_neg b, q]
theorem fold_map (better : Int → Int → Bool) : ∀ (l : List (Int × Tok)) (m : Int), l.foldl (fun m y => if better y.1 m = true then y.1 else m) m = (l.map (·.1)).foldl (fun m y => if better y m = true then y else m) m
  | [], _ => rfl
  | p :: l, m => fold_map better l _
section
variable {X : Cx}
def rLmin : List V → Hp → VK → Prop := fun xs H Q => ∃ (p : Addr) (vs : List V) (ns : List Int) (m : Int), xs = [.ref p] ∧ H p = some (.lst vs) ∧ AL rI H vs ns ∧ lmin ns = some m ∧ Q (.int m) H
def rLmax : List V → Hp → VK → Prop := fun xs H Q => ∃ (p : Addr) (vs : List V) (ns : List Int) (m : Int), xs = [.ref p] ∧ H p = some (.lst vs) ∧ AL rI H vs ns ∧ lmax ns = some m ∧ Q (.int m) H
theorem best_val (better : Int → Int → Bool) {xs : List (Int × Tok)} {x : Int} {l : List Int} (e : xs.map (·.1) = x :: l) {v : Value} (h : (intItems xs.toArray)[argBest (fun i j => better (numAt xs.toArray i) (numAt xs.toArray j)) (xs.toArray.size - 1)]? = some v) :
    ∃ t, v = .int (l.foldl (fun m y => if better y m = true then y else m) x) t := by
  cases xs with
  | nil => cases e
  | cons p ps =>
    rw [List.map_cons] at e
    injection e with e1 e2
    obtain ⟨hb, q⟩ := best_fold better (p :: ps).toArray p ps rfl ps.length (Nat.le_refl _)
    have hz : (p :: ps).toArray.size - 1 = ps.length := by simp
    rw [hz] at h
    simp only [intItems, Array.getElem?_map, Option.map_eq_some_iff] at h
    obtain ⟨y, hy, rfl⟩ := h
    refine ⟨y.2, ?_⟩
    have ey := (Array.getElem?_eq_some_iff.mp hy).2
    rw [← ey, q, List.take_length, fold_map, e2, e1]
theorem call_lmin (hc : X.calm = true) : CallR X (.builtin "min") rLmin := fun pins s σ H xs us Q I r h => by
  obtain ⟨p, vs, ns, m, rfl, h, al, hm, q⟩ := h
  rw [al_I al] at h
  obtain ⟨its, rv, pl, hz⟩ := I.list (SqL.of h)
  rw [Vals.ref1 r]
  obtain ⟨xs, e1, e2⟩ := int_items rv.ints
  cases ns with
  | nil => cases hm
  | cons x l =>
    have hl : s.heap.IsList p (intItems xs.toArray) := by
      have e3 : intItems xs.toArray = its.toArray := by
        rw [e1]
        simp [intItems]
      rw [e3]
      exact pl.isList
    refine min_intList (I.ok.hd hc) hl (by rw [List.size_toArray, ← List.length_map (f := (·.1)), e2]; exact Nat.succ_pos _) fun v h' tk hv kp => ?_
    obtain ⟨t, rfl⟩ := best_val (fun a b => decide (a < b)) e2 hv
    obtain rfl := some_in hm
    refine ⟨_, H, I.kept kp, ?_, q⟩
    exact ⟨t, by simp only [decide_eq_true_eq]⟩
theorem call_lmax (hc : X.calm = true) : CallR X (.builtin "max") rLmax := fun pins s σ H xs us Q I r h => by
  obtain ⟨p, vs, ns, m, rfl, h, al, hm, q⟩ := h
  rw [al_I al] at h
  obtain ⟨its, rv, pl, hz⟩ := I.list (SqL.of h)
  rw [Vals.ref1 r]
  obtain ⟨xs, e1, e2⟩ := int_items rv.ints
  cases ns with
  | nil => cases hm
  | cons x l =>
    have hl : s.heap.IsList p (intItems xs.toArray) := by
      have e3 : intItems xs.toArray = its.toArray := by
        rw [e1]
        simp [intItems]
      rw [e3]
      exact pl.isList
    refine max_intList (I.ok.hd hc) hl (by rw [List.size_toArray, ← List.length_map (f := (·.1)), e2]; exact Nat.succ_pos _) fun v h' tk hv kp => ?_
    obtain ⟨t, rfl⟩ := best_val (fun a b => decide (a > b)) e2 hv
    obtain rfl := some_in hm
    refine ⟨_, H, I.kept kp, ?_, q⟩
    exact ⟨t, by simp only [decide_eq_true_eq]⟩
end
end Tw
namespace Tw
open PySem L2
/-- an error of a class is what its own name catches -/
theorem exm9 {K : PySem.W.Frag} {S : Addr} (sub : PySem.W.subIn K (.ref S) (.type "BaseException") = some true) (cl : PySem.W.isClsIn K S = true) (ty : PySem.W.typeIn K (.ref S) = some (.type "type")) (self : PySem.W.subIn K (.ref S) (.ref S) = some true) : PySem.W.exmOne K (.ref S) (.ref S) = some true := by
  have cl2 : (PySem.W.clsIn K S).isSome = true := cl
  unfold PySem.W.exmOne PySem.W.kitCls
  simp [sub, cl2, ty, self]
end Tw

namespace Tw
open PySem L2
def topS (i : Nat) : Stmt := PySem.Challenge.pw_tintonce_k74_whole_each_text_is_the_one.main.body.getD i (.Pass ⟨0, 0, 0, 0⟩)
abbrev s_is_integer : Stmt := topS 4
abbrev s_are_ties : Stmt := topS 5
abbrev s_is_web : Stmt := topS 6
abbrev s_read_number : Stmt := topS 10
abbrev s_read_ties : Stmt := topS 11
abbrev s_show_ties : Stmt := topS 12
abbrev s_show_web : Stmt := topS 13
abbrev s_show_colours : Stmt := topS 14
abbrev s_read_web : Stmt := topS 15
abbrev s_read_colours : Stmt := topS 16
abbrev s__law_deck : Stmt := topS 18
abbrev s__law_draw : Stmt := topS 19
abbrev s__law_is_integer : Stmt := topS 20
abbrev s__law_same_list : Stmt := topS 21
abbrev s__law_same_rows : Stmt := topS 22
abbrev s__law_text : Stmt := topS 24
abbrev s__law_small_web : Stmt := topS 23
abbrev s__law_number : Stmt := topS 25
abbrev s__law_due_web : Stmt := topS 26
abbrev s__law_due_colours : Stmt := topS 27
abbrev s__law_is_read : Stmt := topS 28
abbrev s__law_char : Stmt := topS 29
abbrev s__law_changed : Stmt := topS 30
abbrev s_law : Stmt := topS 31
structure Env (K : PySem.W.Frag) (mg : Str → Option Value) where
  n_int : mg "int" = none
  n_isinstance : mg "isinstance" = none
  n_bool : mg "bool" = none
  n_list : mg "list" = none
  n_enumerate : mg "enumerate" = none
  n_len : mg "len" = none
  n_str : mg "str" = none
  n_range : mg "range" = none
  n_all : mg "all" = none
  n_set : mg "set" = none
  n_sorted : mg "sorted" = none
  n_min : mg "min" = none
  n_max : mg "max" = none
  C_InvalidText : Addr
  g_InvalidText : mg "InvalidText" = some (.ref C_InvalidText)
  x_InvalidText : PySem.W.excIn K C_InvalidText [.type "ValueError", .type "Exception", .type "BaseException", .type "object"] "ValueError.__new__" = true
  k_InvalidText : PySem.W.keepIn K (.ref C_InvalidText) = true
  b_InvalidText : PySem.W.subIn K (.ref C_InvalidText) (.type "BaseException") = some true
  t_InvalidText : PySem.W.typeIn K (.ref C_InvalidText) = some (.type "type")
  e_InvalidText : PySem.W.exmOne K (.ref C_InvalidText) (.ref C_InvalidText) = some true
  t_MOST_DIGITS : Tok
  z_MOST_DIGITS : mg "MOST_DIGITS" = some (Value.int (30 : Int) t_MOST_DIGITS)
  t_DIGITS : Tok
  z_DIGITS : mg "DIGITS" = some (Value.str ("0123456789" : Str) t_DIGITS)
  f_is_integer : Addr
  d_is_integer : FuncData
  F_is_integer : Fun K "is_integer" "is_integer" s_is_integer f_is_integer d_is_integer
  g_is_integer : mg "is_integer" = some (.ref f_is_integer)
  b_is_integer : Binds K d_is_integer ["value"] []
  f_are_ties : Addr
  d_are_ties : FuncData
  F_are_ties : Fun K "are_ties" "are_ties" s_are_ties f_are_ties d_are_ties
  g_are_ties : mg "are_ties" = some (.ref f_are_ties)
  b_are_ties : Binds K d_are_ties ["value", "size"] []
  f_is_web : Addr
  d_is_web : FuncData
  F_is_web : Fun K "is_web" "is_web" s_is_web f_is_web d_is_web
  g_is_web : mg "is_web" = some (.ref f_is_web)
  b_is_web : Binds K d_is_web ["value"] []
  f_read_number : Addr
  d_read_number : FuncData
  F_read_number : Fun K "read_number" "read_number" s_read_number f_read_number d_read_number
  g_read_number : mg "read_number" = some (.ref f_read_number)
  b_read_number : Binds K d_read_number ["word"] []
  f_read_ties : Addr
  d_read_ties : FuncData
  F_read_ties : Fun K "read_ties" "read_ties" s_read_ties f_read_ties d_read_ties
  g_read_ties : mg "read_ties" = some (.ref f_read_ties)
  b_read_ties : Binds K d_read_ties ["word"] []
  f_show_ties : Addr
  d_show_ties : FuncData
  F_show_ties : Fun K "show_ties" "show_ties" s_show_ties f_show_ties d_show_ties
  g_show_ties : mg "show_ties" = some (.ref f_show_ties)
  b_show_ties : Binds K d_show_ties ["ties"] []
  f_show_web : Addr
  d_show_web : FuncData
  F_show_web : Fun K "show_web" "show_web" s_show_web f_show_web d_show_web
  g_show_web : mg "show_web" = some (.ref f_show_web)
  b_show_web : Binds K d_show_web ["web"] []
  f_show_colours : Addr
  d_show_colours : FuncData
  F_show_colours : Fun K "show_colours" "show_colours" s_show_colours f_show_colours d_show_colours
  g_show_colours : mg "show_colours" = some (.ref f_show_colours)
  b_show_colours : Binds K d_show_colours ["colours"] []
  f_read_web : Addr
  d_read_web : FuncData
  F_read_web : Fun K "read_web" "read_web" s_read_web f_read_web d_read_web
  g_read_web : mg "read_web" = some (.ref f_read_web)
  b_read_web : Binds K d_read_web ["text"] []
  f_read_colours : Addr
  d_read_colours : FuncData
  F_read_colours : Fun K "read_colours" "read_colours" s_read_colours f_read_colours d_read_colours
  g_read_colours : mg "read_colours" = some (.ref f_read_colours)
  b_read_colours : Binds K d_read_colours ["text"] []
  f__law_deck : Addr
  d__law_deck : FuncData
  F__law_deck : Fun K "_law_deck" "_law_deck" s__law_deck f__law_deck d__law_deck
  g__law_deck : mg "_law_deck" = some (.ref f__law_deck)
  b__law_deck : Binds K d__law_deck ["script", "at"] []
  f__law_draw : Addr
  d__law_draw : FuncData
  F__law_draw : Fun K "_law_draw" "_law_draw" s__law_draw f__law_draw d__law_draw
  g__law_draw : mg "_law_draw" = some (.ref f__law_draw)
  b__law_draw : Binds K d__law_draw ["deck", "many"] []
  f__law_is_integer : Addr
  d__law_is_integer : FuncData
  F__law_is_integer : Fun K "_law_is_integer" "_law_is_integer" s__law_is_integer f__law_is_integer d__law_is_integer
  g__law_is_integer : mg "_law_is_integer" = some (.ref f__law_is_integer)
  b__law_is_integer : Binds K d__law_is_integer ["value"] []
  f__law_same_list : Addr
  d__law_same_list : FuncData
  F__law_same_list : Fun K "_law_same_list" "_law_same_list" s__law_same_list f__law_same_list d__law_same_list
  g__law_same_list : mg "_law_same_list" = some (.ref f__law_same_list)
  b__law_same_list : Binds K d__law_same_list ["value", "due"] []
  f__law_same_rows : Addr
  d__law_same_rows : FuncData
  F__law_same_rows : Fun K "_law_same_rows" "_law_same_rows" s__law_same_rows f__law_same_rows d__law_same_rows
  g__law_same_rows : mg "_law_same_rows" = some (.ref f__law_same_rows)
  b__law_same_rows : Binds K d__law_same_rows ["value", "due"] []
  f__law_text : Addr
  d__law_text : FuncData
  F__law_text : Fun K "_law_text" "_law_text" s__law_text f__law_text d__law_text
  g__law_text : mg "_law_text" = some (.ref f__law_text)
  b__law_text : Binds K d__law_text ["web"] []
  f__law_small_web : Addr
  d__law_small_web : FuncData
  F__law_small_web : Fun K "_law_small_web" "_law_small_web" s__law_small_web f__law_small_web d__law_small_web
  g__law_small_web : mg "_law_small_web" = some (.ref f__law_small_web)
  b__law_small_web : Binds K d__law_small_web ["deck", "most"] []
  f__law_number : Addr
  d__law_number : FuncData
  F__law_number : Fun K "_law_number" "_law_number" s__law_number f__law_number d__law_number
  g__law_number : mg "_law_number" = some (.ref f__law_number)
  b__law_number : Binds K d__law_number ["word"] []
  f__law_due_web : Addr
  d__law_due_web : FuncData
  F__law_due_web : Fun K "_law_due_web" "_law_due_web" s__law_due_web f__law_due_web d__law_due_web
  g__law_due_web : mg "_law_due_web" = some (.ref f__law_due_web)
  b__law_due_web : Binds K d__law_due_web ["text"] []
  f__law_due_colours : Addr
  d__law_due_colours : FuncData
  F__law_due_colours : Fun K "_law_due_colours" "_law_due_colours" s__law_due_colours f__law_due_colours d__law_due_colours
  g__law_due_colours : mg "_law_due_colours" = some (.ref f__law_due_colours)
  b__law_due_colours : Binds K d__law_due_colours ["text"] []
  f__law_is_read : Addr
  d__law_is_read : FuncData
  F__law_is_read : Fun K "_law_is_read" "_law_is_read" s__law_is_read f__law_is_read d__law_is_read
  g__law_is_read : mg "_law_is_read" = some (.ref f__law_is_read)
  b__law_is_read : Binds K d__law_is_read ["kind", "text"] []
  f__law_char : Addr
  d__law_char : FuncData
  F__law_char : Fun K "_law_char" "_law_char" s__law_char f__law_char d__law_char
  g__law_char : mg "_law_char" = some (.ref f__law_char)
  b__law_char : Binds K d__law_char ["deck"] []
  f__law_changed : Addr
  d__law_changed : FuncData
  F__law_changed : Fun K "_law_changed" "_law_changed" s__law_changed f__law_changed d__law_changed
  g__law_changed : mg "_law_changed" = some (.ref f__law_changed)
  b__law_changed : Binds K d__law_changed ["deck", "text"] []
  f_law : Addr
  d_law : FuncData
  F_law : Fun K "law" "law" s_law f_law d_law
  g_law : mg "law" = some (.ref f_law)
  b_law : Binds K d_law ["script"] []
section
variable {P : Program} {w : World} {K : PySem.W.Frag} {mg : Str → Option Value} {base : Heap}
theorem sc_is_integer : FnScope ["value"] ["value"] (defScope s_is_integer) := ⟨rfl, rfl, rfl, by decide +kernel, rfl, by decide +kernel, by decide +kernel⟩
def m_is_integer (value' : Int) : Option Bool :=
  some (true && (!false))
def sp_is_integer (K : PySem.W.Frag) : Sp := fun vs H Q _ => ∃ (G : Hp) (value' : Int) (r : Bool), vs = [(.int value')] ∧ Ex G H ∧ m_is_integer value' = some r ∧ ∀ (G' H' : Hp), Stp [] G G' H H' → Q (.bl r) H'
theorem ok_is_integer (T : Env K mg) : FnOk P w K mg base CX0 1 T.f_is_integer T.d_is_integer ["value"] (sp_is_integer K) := by
  refine T.F_is_integer.ok sc_is_integer (fun vs H Q E h => ?_) (fun cdv A outer s H0 vs Q E hr h => ?_)
  · obtain ⟨G0, value', r, rfl, _⟩ := h
    rfl
  · obtain ⟨G0, value', r, rfl, hG0, hm, k⟩ := h
    have hu := hr.units
    have hu65 := hu65 hr
    have c0 := Cf.start hG0
    unfold m_is_integer at hm
    refine ⟨_, (pss_one (ps_ret (pe_and (pe_callB (call_is (K := K) rfl) (by rfl) T.n_isinstance bt_isi (pa_cons (pv 0) (pa_cons (pe_bltn (v := .ty "int") (by rfl) T.n_int bt_int rfl) pa_nil))) (pe_one (pe_not (pe_callB (call_is (K := K) rfl) (by rfl) T.n_isinstance bt_isi (pa_cons (pv 0) (pa_cons (pe_bltn (v := .ty "bool") (by rfl) T.n_bool bt_bool rfl) pa_nil)))))))), ?_⟩
    refine ret_opq (fun Q_1 kk_2 => ?_)
    refine ⟨_, rfl, _, _, _, _, _, rfl, .ty _, ty_i, k_ii, _, rfl, ?_⟩
    refine andV_t (b := (!false)) (fun ha_5 q_4 => ?_) ?_
    · skip
      refine ⟨_, rfl, _, _, _, _, _, rfl, .ty _, ty_i, k_ib, _, rfl, ?_⟩
      exact q_4
    refine kk_2 _ _ ?_
    obtain rfl := some_in hm
    exact k G0 H0 c0.stp
theorem sc_are_ties : FnScope ["value", "size", "before", "thing"] ["value", "size"] (defScope s_are_ties) := ⟨rfl, rfl, rfl, by decide +kernel, rfl, by decide +kernel, by decide +kernel⟩
def m_are_ties (value' : (List Int)) (size' : Int) : Option Bool :=
  if (!true) then none else (lt ((-(1 : Int)) : Int) fun x_10 => ((lpx (fun (y_20 : Int) => fun (s_23 : (Int)) => ((fun (x_15 : Int) => (m_is_integer y_20).bind fun y_39 => (if ((!y_39) || ((decide (y_20 ≤ x_15)) || (decide (size' ≤ y_20)))) then (some (Out.rt false)) else (some (Out.nx (y_20))))) s_23 : Option (Out (Int) Bool))) value' (x_10)).bind fun o_17 => Out.fin o_17 (fun (s_59 : (Int)) => (fun (x_15 : Int) => (some true)) s_59) (fun r_60 => some r_60)))
def sp_are_ties (K : PySem.W.Frag) : Sp := fun vs H Q _ => ∃ (G : Hp) (a_1 : Addr) (vs_2 : List V) (value' : (List Int)) (size' : Int) (r : Bool), vs = [.ref a_1, (.int size')] ∧ Ex G H ∧ SqB [] H a_1 vs_2 ∧ AL rI G vs_2 value' ∧ m_are_ties value' size' = some r ∧ ∀ (G' H' : Hp), Stp [] G G' H H' → Q (.bl r) H'
theorem ok_are_ties (T : Env K mg) : FnOk P w K mg base CX0 2 T.f_are_ties T.d_are_ties ["value", "size"] (sp_are_ties K) := by
  refine T.F_are_ties.ok sc_are_ties (fun vs H Q E h => ?_) (fun cdv A outer s H0 vs Q E hr h => ?_)
  · obtain ⟨G0, a_1, vs_2, value', size', r, rfl, _⟩ := h
    rfl
  · obtain ⟨G0, a_1, vs_2, value', size', r, rfl, hG0, sq_3, al_4, hm, k⟩ := h
    have hu := hr.units
    have hu65 := hu65 hr
    have c0 := Cf.start hG0
    unfold m_are_ties at hm
    refine ⟨_, (pss_cons (ps_if (pt_not (pt_val (pe_callB (call_is (K := K) rfl) (by rfl) T.n_isinstance bt_isi (pa_cons (pv 0) (pa_cons (pe_bltn (v := .ty "list") (by rfl) T.n_list bt_list rfl) pa_nil))))) pss_never pss_nil)
      (pss_cons (ps_set (i := 2) sc_are_ties.nd rfl (by first | exact Or.inl rfl | exact Or.inr rfl) (pe_un un_neg pe_int))
      (pss_cons (ps_for PassesOwn.never rfl (pi_list (pv 0)) (pg_name (i := 3) sc_are_ties.nd rfl (by first | exact Or.inl rfl | exact Or.inr rfl)) (pss_cons (ps_if (PW.pt (pw_or (pt_not (pt_val (pe_call (ok_is_integer T) (hr.mono (by decide)) (by rfl) T.g_is_integer T.F_is_integer.kp T.b_is_integer .nil pass0 (pa_cons (pv 3) pa_nil)))) (pw_or (pt_cmpR op_le (pv 3) (pv 2) (nomark _)) (pw_or1 (pt_cmpR op_ge (pv 3) (pv 1) (nomark _)))))) (pss_one (ps_ret pe_bl)) pss_nil)
      (pss_one (ps_set (i := 2) sc_are_ties.nd rfl (by first | exact Or.inl rfl | exact Or.inr rfl) (pv 3)))))
      (pss_one (ps_ret pe_bl))))), ?_⟩
    refine q_if_opq (fun Q_5 kk_6 => ?_)
    refine ⟨_, rfl, _, _, _, _, _, rfl, .ty _, (ty_l (SqL.of (sq_3.at c0))), k_ll, _, rfl, ?_⟩
    refine kk_6 _ _ ?_
    refine ite_no (by first | decide | rfl) ?_
    have hm := if_no (by decide) hm
    try dsimp only [tNext]
    refine q_asg_opq (fun Q_8 kk_9 => ?_)
    obtain ⟨x_10, hl_11, hm⟩ := ltp hm
    refine ⟨_, rfl, ?_⟩
    refine nmV (f := V.int) (P := fun v9 => Q_8 v9 _) hl_11 ?_
    refine kk_9 _ _ ?_
    refine ⟨_, rfl, _, rfl, ⟨_, SqL.of (sq_3.at c0)⟩, ?_⟩
    obtain ⟨o_17, ho_18, hm⟩ := bs hm
    refine for_w (walk_list (xs := vs_2)) value' (A2.len al_4) (fun l_19 σ_21 H_22 => ∃ (G_12 : Hp) (x_15 : Int) (o_16 : Option V), σ_21 = [(some (.ref a_1)), (some (.int size')), (some (.int x_15)), o_16] ∧ Ex G0 G_12 ∧ Cf [] H0 G0 G_12 [] H_22 ∧ lpx (fun (y_20 : Int) => fun (s_23 : (Int)) => ((fun (x_15 : Int) => (m_is_integer y_20).bind fun y_39 => (if ((!y_39) || ((decide (y_20 ≤ x_15)) || (decide (size' ≤ y_20)))) then (some (Out.rt false)) else (some (Out.nx (y_20))))) s_23 : Option (Out (Int) Bool))) l_19 (x_15) = some o_17)
      ⟨G0, x_10, none, rfl, Ex.refl _, c0, ho_18⟩
      (fun l_19 σ_21 H_22 hI => by
        obtain ⟨G_12, x_15, o_16, rfl, eg_13, c_14, ho_18⟩ := hI
        exact (SqL.of (sq_3.at c_14)))
      (fun i_29 y_20 l_19 σ_21 H_22 v_26 H_30 hx_27 hI hy_28 => ?_) (fun σ_21 H_22 hI => ?_)
    · obtain ⟨G_12, x_15, o_16, rfl, eg_13, c_14, ho_18⟩ := hI
      obtain ⟨so_31, hf_24, hgo_25⟩ := lpx_cons ho_18
      try dsimp only at hf_24
      obtain ⟨rfl, hv_32⟩ := hy_28
      obtain ⟨v_33, hv_34, rv_35⟩ := A2.get al_4 hx_27
      obtain rfl := Option.some.inj (hv_32.symm.trans hv_34)
      obtain rfl := (show v_26 = (.int y_20) from rv_35)
      refine q_if_opq (fun Q_37 kk_38 => ?_)
      obtain ⟨y_39, hb_40, hf_24⟩ := bs hf_24
      refine ⟨_, rfl, G_12, y_20, y_39, rfl, c_14.gh, hb_40, fun G_41 H_42 sp_43 => ?_⟩
      have c_44 := c_14.call sp_43
      refine ⟨_, rfl, ?_⟩
      refine or_t (b := ((decide (y_20 ≤ x_15)) || (decide (size' ≤ y_20)))) (fun ha_50 q_49 => ?_) ?_
      · skip
        refine ⟨_, rfl, _, rfl, _, _, rfl, rfl, _, rfl, ?_⟩
        refine or_t (b := (decide (size' ≤ y_20))) (fun ha_48 q_47 => ?_) ?_
        · skip
          refine ⟨_, rfl, _, rfl, _, _, rfl, rfl, _, rfl, ?_⟩
          exact q_47
        exact q_49
      refine kk_38 _ _ ?_
      refine ite_m hf_24 (fun hc_51 hf_24 => ?_) (fun hc_51 hf_24 => ?_)
      · skip
        refine ret_opq (fun Q_52 kk_53 => ?_)
        refine kk_53 _ _ ?_
        obtain rfl := some_in hf_24
        obtain rfl := some_in hgo_25
        obtain rfl := some_in hm
        exact k G_41 H_42 c_44.stp
      · skip
        try dsimp only [tNext]
        refine asg_opq (fun Q_54 kk_55 => ?_)
        refine ⟨_, rfl, ?_⟩
        refine kk_55 _ _ ?_
        obtain rfl := some_in hf_24
        exact ⟨G_41, y_20, (some (.int y_20)), rfl, (eg_13.trans sp_43.gg), c_44, hgo_25⟩
    · obtain ⟨G_12, x_15, o_16, rfl, eg_13, c_14, ho_18⟩ := hI
      obtain rfl := lpx_nil ho_18
      dsimp only [Out.fin] at hm
      try dsimp only at hm
      try dsimp only
      refine ret_opq (fun Q_57 kk_58 => ?_)
      refine kk_58 _ _ ?_
      obtain rfl := some_in hm
      exact k G_12 H_22 c_14.stp
theorem sc_are_ties_o : FnScope ["value", "size", "before", "thing"] ["value", "size"] (defScope s_are_ties) := ⟨rfl, rfl, rfl, by decide +kernel, rfl, by decide +kernel, by decide +kernel⟩
def m_are_ties_o (value' : (Option (List Int))) (size' : Int) : Option Bool :=
  oel value' (if (!false) then (some false) else none) (fun (y_3 : (List Int)) => if (!true) then none else (lt ((-(1 : Int)) : Int) fun x_19 => ((lpx (fun (y_29 : Int) => fun (s_32 : (Int)) => ((fun (x_24 : Int) => (m_is_integer y_29).bind fun y_48 => (if ((!y_48) || ((decide (y_29 ≤ x_24)) || (decide (size' ≤ y_29)))) then (some (Out.rt false)) else (some (Out.nx (y_29))))) s_32 : Option (Out (Int) Bool))) y_3 (x_19)).bind fun o_26 => Out.fin o_26 (fun (s_68 : (Int)) => (fun (x_24 : Int) => (some true)) s_68) (fun r_69 => some r_69))))
def sp_are_ties_o (K : PySem.W.Frag) : Sp := fun vs H Q _ => ∃ (G : Hp) (v_1 : V) (value' : (Option (List Int))) (size' : Int) (r : Bool), vs = [v_1, (.int size')] ∧ Ex G H ∧ (rO (rL rI)).r G v_1 value' ∧ m_are_ties_o value' size' = some r ∧ ∀ (G' H' : Hp), Stp [] G G' H H' → Q (.bl r) H'
theorem ok_are_ties_o (T : Env K mg) : FnOk P w K mg base CX0 2 T.f_are_ties T.d_are_ties ["value", "size"] (sp_are_ties_o K) := by
  refine T.F_are_ties.ok sc_are_ties_o (fun vs H Q E h => ?_) (fun cdv A outer s H0 vs Q E hr h => ?_)
  · obtain ⟨G0, v_1, value', size', r, rfl, _⟩ := h
    rfl
  · obtain ⟨G0, v_1, value', size', r, rfl, hG0, rv_2, hm, k⟩ := h
    have hu := hr.units
    have hu65 := hu65 hr
    have c0 := Cf.start hG0
    unfold m_are_ties_o at hm
    refine ⟨_, (pss_cons (ps_if (pt_not (pt_val (pe_callB (call_is (K := K) rfl) (by rfl) T.n_isinstance bt_isi (pa_cons (pv 0) (pa_cons (pe_bltn (v := .ty "list") (by rfl) T.n_list bt_list rfl) pa_nil))))) (pss_one (ps_ret pe_bl)) pss_nil) (pss_cons (ps_set (i := 2) sc_are_ties_o.nd rfl (by first | exact Or.inl rfl | exact Or.inr rfl) (pe_un un_neg pe_int)) (pss_cons (ps_for PassesOwn.never rfl (pi_list (pv 0)) (pg_name (i := 3) sc_are_ties_o.nd rfl (by first | exact Or.inl rfl | exact Or.inr rfl)) (pss_cons (ps_if (PW.pt (pw_or (pt_not (pt_val (pe_call (ok_is_integer T) (hr.mono (by decide)) (by rfl) T.g_is_integer T.F_is_integer.kp T.b_is_integer .nil pass0 (pa_cons (pv 3) pa_nil)))) (pw_or (pt_cmpR op_le (pv 3) (pv 2) (nomark _)) (pw_or1 (pt_cmpR op_ge (pv 3) (pv 1) (nomark _)))))) (pss_one (ps_ret pe_bl)) pss_nil) (pss_one (ps_set (i := 2) sc_are_ties_o.nd rfl (by first | exact Or.inl rfl | exact Or.inr rfl) (pv 3))))) (pss_one (ps_ret pe_bl))))), ?_⟩
    rcases value' with _ | y_3
    · skip
      dsimp only [oel] at hm
      obtain rfl := (show v_1 = .non from rv_2)
      refine q_if_opq (fun Q_4 kk_5 => ?_)
      refine ⟨_, rfl, _, _, _, _, _, rfl, .ty _, ty_n, k_nl, _, rfl, ?_⟩
      refine kk_5 _ _ ?_
      refine ite_yes (by first | decide | rfl) ?_
      have hm := if_yes (by decide) hm
      refine ret_opq (fun Q_7 kk_8 => ?_)
      refine kk_8 _ _ ?_
      obtain rfl := some_in hm
      exact k G0 H0 c0.stp
    · skip
      dsimp only [oel] at hm
      have rv_9 : (rL rI).r G0 v_1 y_3 := rv_2
      refine q_if_opq (fun Q_10 kk_11 => ?_)
      obtain ⟨a_12, vs_13, rfl, sq_14, al_15⟩ := rv_9
      refine ⟨_, rfl, _, _, _, _, _, rfl, .ty _, (ty_l (SqL.of (c0.gh _ _ sq_14))), k_ll, _, rfl, ?_⟩
      refine kk_11 _ _ ?_
      refine ite_no (by first | decide | rfl) ?_
      have hm := if_no (by decide) hm
      try dsimp only [tNext]
      refine q_asg_opq (fun Q_17 kk_18 => ?_)
      obtain ⟨x_19, hl_20, hm⟩ := ltp hm
      refine ⟨_, rfl, ?_⟩
      refine nmV (f := V.int) (P := fun v9 => Q_17 v9 _) hl_20 ?_
      refine kk_18 _ _ ?_
      refine ⟨_, rfl, _, rfl, ⟨_, SqL.of (c0.gh _ _ sq_14)⟩, ?_⟩
      obtain ⟨o_26, ho_27, hm⟩ := bs hm
      refine for_w (walk_list (xs := vs_13)) y_3 (A2.len al_15) (fun l_28 σ_30 H_31 => ∃ (G_21 : Hp) (x_24 : Int) (o_25 : Option V), σ_30 = [(some (.ref a_12)), (some (.int size')), (some (.int x_24)), o_25] ∧ Ex G0 G_21 ∧ Cf [] H0 G0 G_21 [] H_31 ∧ lpx (fun (y_29 : Int) => fun (s_32 : (Int)) => ((fun (x_24 : Int) => (m_is_integer y_29).bind fun y_48 => (if ((!y_48) || ((decide (y_29 ≤ x_24)) || (decide (size' ≤ y_29)))) then (some (Out.rt false)) else (some (Out.nx (y_29))))) s_32 : Option (Out (Int) Bool))) l_28 (x_24) = some o_26)
        ⟨G0, x_19, none, rfl, Ex.refl _, c0, ho_27⟩
        (fun l_28 σ_30 H_31 hI => by
          obtain ⟨G_21, x_24, o_25, rfl, eg_22, c_23, ho_27⟩ := hI
          exact (SqL.of (c_23.gh _ _ (eg_22 _ _ sq_14))))
        (fun i_38 y_29 l_28 σ_30 H_31 v_35 H_39 hx_36 hI hy_37 => ?_) (fun σ_30 H_31 hI => ?_)
      · obtain ⟨G_21, x_24, o_25, rfl, eg_22, c_23, ho_27⟩ := hI
        obtain ⟨so_40, hf_33, hgo_34⟩ := lpx_cons ho_27
        try dsimp only at hf_33
        obtain ⟨rfl, hv_41⟩ := hy_37
        obtain ⟨v_42, hv_43, rv_44⟩ := A2.get al_15 hx_36
        obtain rfl := Option.some.inj (hv_41.symm.trans hv_43)
        obtain rfl := (show v_35 = (.int y_29) from rv_44)
        refine q_if_opq (fun Q_46 kk_47 => ?_)
        obtain ⟨y_48, hb_49, hf_33⟩ := bs hf_33
        refine ⟨_, rfl, G_21, y_29, y_48, rfl, c_23.gh, hb_49, fun G_50 H_51 sp_52 => ?_⟩
        have c_53 := c_23.call sp_52
        refine ⟨_, rfl, ?_⟩
        refine or_t (b := ((decide (y_29 ≤ x_24)) || (decide (size' ≤ y_29)))) (fun ha_59 q_58 => ?_) ?_
        · skip
          refine ⟨_, rfl, _, rfl, _, _, rfl, rfl, _, rfl, ?_⟩
          refine or_t (b := (decide (size' ≤ y_29))) (fun ha_57 q_56 => ?_) ?_
          · skip
            refine ⟨_, rfl, _, rfl, _, _, rfl, rfl, _, rfl, ?_⟩
            exact q_56
          exact q_58
        refine kk_47 _ _ ?_
        refine ite_m hf_33 (fun hc_60 hf_33 => ?_) (fun hc_60 hf_33 => ?_)
        · skip
          refine ret_opq (fun Q_61 kk_62 => ?_)
          refine kk_62 _ _ ?_
          obtain rfl := some_in hf_33
          obtain rfl := some_in hgo_34
          obtain rfl := some_in hm
          exact k G_50 H_51 c_53.stp
        · skip
          try dsimp only [tNext]
          refine asg_opq (fun Q_63 kk_64 => ?_)
          refine ⟨_, rfl, ?_⟩
          refine kk_64 _ _ ?_
          obtain rfl := some_in hf_33
          exact ⟨G_50, y_29, (some (.int y_29)), rfl, (eg_22.trans sp_52.gg), c_53, hgo_34⟩
      · obtain ⟨G_21, x_24, o_25, rfl, eg_22, c_23, ho_27⟩ := hI
        obtain rfl := lpx_nil ho_27
        dsimp only [Out.fin] at hm
        try dsimp only at hm
        try dsimp only
        refine ret_opq (fun Q_66 kk_67 => ?_)
        refine kk_67 _ _ ?_
        obtain rfl := some_in hm
        exact k G_21 H_31 c_23.stp
theorem sc_is_web : FnScope ["value", "thing", "ties"] ["value"] (defScope s_is_web) := ⟨rfl, rfl, rfl, by decide +kernel, rfl, by decide +kernel, by decide +kernel⟩
def m_is_web (value' : (List (List Int))) : Option Bool :=
  if (!true) then none else ((lpx (fun (y_16 : (Int × (List Int))) => (fun (y_36 : Int) (y_37 : (List Int)) => fun (s_19 : Unit) => ((m_are_ties y_37 y_36).bind fun y_46 => (if (!y_46) then (some (Out.rt false)) else (some (Out.nx ()))) : Option (Out Unit Bool))) y_16.1 y_16.2) (enm value') ()).bind fun o_13 => Out.fin o_13 (fun (s_62 : Unit) => (some true)) (fun r_63 => some r_63))
def sp_is_web (K : PySem.W.Frag) : Sp := fun vs H Q _ => ∃ (G : Hp) (a_1 : Addr) (vs_2 : List V) (value' : (List (List Int))) (r : Bool), vs = [.ref a_1] ∧ Ex G H ∧ SqB [] H a_1 vs_2 ∧ AL (rL rI) G vs_2 value' ∧ m_is_web value' = some r ∧ ∀ (G' H' : Hp), Stp [] G G' H H' → Q (.bl r) H'
theorem ok_is_web (T : Env K mg) : FnOk P w K mg base CX0 3 T.f_is_web T.d_is_web ["value"] (sp_is_web K) := by
  refine T.F_is_web.ok sc_is_web (fun vs H Q E h => ?_) (fun cdv A outer s H0 vs Q E hr h => ?_)
  · obtain ⟨G0, a_1, vs_2, value', r, rfl, _⟩ := h
    rfl
  · obtain ⟨G0, a_1, vs_2, value', r, rfl, hG0, sq_3, al_4, hm, k⟩ := h
    have hu := hr.units
    have hu65 := hu65 hr
    have c0 := Cf.start hG0
    unfold m_is_web at hm
    refine ⟨_, (pss_cons (ps_if (pt_not (pt_val (pe_callB (call_is (K := K) rfl) (by rfl) T.n_isinstance bt_isi (pa_cons (pv 0) (pa_cons (pe_bltn (v := .ty "list") (by rfl) T.n_list bt_list rfl) pa_nil))))) pss_never pss_nil)
      (pss_cons (ps_for PassesOwn.never rfl (pi_enum (by rfl) T.n_enumerate (pa_cons (pv 0) pa_nil)) (pg_tup rfl (pgs_cons (pg_name (i := 1) sc_is_web.nd rfl (by first | exact Or.inl rfl | exact Or.inr rfl)) (pgs_cons (pg_name (i := 2) sc_is_web.nd rfl (by first | exact Or.inl rfl | exact Or.inr rfl)) pgs_nil))) (pss_one (ps_if (pt_not (pt_val (pe_call (ok_are_ties T) (hr.mono (by decide)) (by rfl) T.g_are_ties T.F_are_ties.kp T.b_are_ties .nil pass0 (pa_cons (pv 2) (pa_cons (pv 1) pa_nil))))) (pss_one (ps_ret pe_bl)) pss_nil)))
      (pss_one (ps_ret pe_bl)))), ?_⟩
    refine q_if_opq (fun Q_5 kk_6 => ?_)
    refine ⟨_, rfl, _, _, _, _, _, rfl, .ty _, (ty_l (SqL.of (sq_3.at c0))), k_ll, _, rfl, ?_⟩
    refine kk_6 _ _ ?_
    refine ite_no (by first | decide | rfl) ?_
    have hm := if_no (by decide) hm
    try dsimp only [tNext]
    refine ⟨_, rfl, _, _, rfl, (SqL.of (sq_3.at c0)), ?_⟩
    obtain ⟨o_13, ho_14, hm⟩ := bs hm
    refine for_w (walk_enum (xs := vs_2)) (enm value') (by rw [enm_len, A2.len al_4]) (fun l_15 σ_17 H_18 => ∃ (G_8 : Hp) (o_11 : Option V) (o_12 : Option V), σ_17 = [(some (.ref a_1)), o_11, o_12] ∧ Ex G0 G_8 ∧ Cf [] H0 G0 G_8 [] H_18 ∧ lpx (fun (y_16 : (Int × (List Int))) => (fun (y_36 : Int) (y_37 : (List Int)) => fun (s_19 : Unit) => ((m_are_ties y_37 y_36).bind fun y_46 => (if (!y_46) then (some (Out.rt false)) else (some (Out.nx ()))) : Option (Out Unit Bool))) y_16.1 y_16.2) l_15 () = some o_13)
      ⟨G0, none, none, rfl, Ex.refl _, c0, ho_14⟩
      (fun l_15 σ_17 H_18 hI => by
        obtain ⟨G_8, o_11, o_12, rfl, eg_9, c_10, ho_14⟩ := hI
        exact (SqL.of (sq_3.at c_10)))
      (fun i_25 y_16 l_15 σ_17 H_18 v_22 H_26 hx_23 hI hy_24 => ?_) (fun σ_17 H_18 hI => ?_)
    · obtain ⟨G_8, o_11, o_12, rfl, eg_9, c_10, ho_14⟩ := hI
      obtain ⟨so_27, hf_20, hgo_21⟩ := lpx_cons ho_14
      try dsimp only at hf_20
      obtain ⟨T_28, u_29, v_30, rfl, nT_31, rfl, h_32, h_33⟩ := hy_24
      obtain ⟨h_34, h_35⟩ := enm_get hx_23
      obtain ⟨y_36, y_37⟩ := y_16
      dsimp only at h_34 h_35 hf_20
      obtain rfl := Option.some.inj h_32
      rw [← h_34]
      obtain ⟨v_38, hv_39, rv_40⟩ := A2.get al_4 h_35
      obtain rfl := Option.some.inj (h_33.symm.trans hv_39)
      have c_41 := c_10.junk nT_31 (.tup [.int y_36, v_30])
      refine ⟨_, _, rfl, SqT.of upd_same, rfl, _, _, rfl, _, _, rfl, rfl, ?_⟩
      generalize hh : upd H_18 T_28 (.tup [.int y_36, v_30]) = H_42 at c_41 ⊢
      clear hh
      refine if_opq (fun Q_44 kk_45 => ?_)
      obtain ⟨y_46, hb_47, hf_20⟩ := bs hf_20
      obtain ⟨a_48, vs_49, rfl, sq_50, al_51⟩ := ((rL rI).mono eg_9 rv_40)
      refine ⟨_, rfl, _, rfl, G_8, a_48, vs_49, y_37, y_36, y_46, rfl, c_41.gh, (SqB.of (c_41.gh _ _ sq_50)), al_51, hb_47, fun G_52 H_53 sp_54 => ?_⟩
      have c_55 := c_41.call sp_54
      refine ⟨_, rfl, ?_⟩
      refine kk_45 _ _ ?_
      refine ite_m hf_20 (fun hc_56 hf_20 => ?_) (fun hc_56 hf_20 => ?_)
      · skip
        refine ret_opq (fun Q_57 kk_58 => ?_)
        refine kk_58 _ _ ?_
        obtain rfl := some_in hf_20
        obtain rfl := some_in hgo_21
        obtain rfl := some_in hm
        exact k G_52 H_53 c_55.stp
      · skip
        obtain rfl := some_in hf_20
        exact ⟨G_52, (some (.int y_36)), (some (.ref a_48)), rfl, (eg_9.trans sp_54.gg), c_55, hgo_21⟩
    · obtain ⟨G_8, o_11, o_12, rfl, eg_9, c_10, ho_14⟩ := hI
      obtain rfl := lpx_nil ho_14
      dsimp only [Out.fin] at hm
      try dsimp only at hm
      try dsimp only
      refine ret_opq (fun Q_60 kk_61 => ?_)
      refine kk_61 _ _ ?_
      obtain rfl := some_in hm
      exact k G_8 H_18 c_10.stp
theorem sc_is_web_o : FnScope ["value", "thing", "ties"] ["value"] (defScope s_is_web) := ⟨rfl, rfl, rfl, by decide +kernel, rfl, by decide +kernel, by decide +kernel⟩
def m_is_web_o (value' : (List (Option (List Int)))) : Option Bool :=
  if (!true) then none else ((lpx (fun (y_16 : (Int × (Option (List Int)))) => (fun (y_36 : Int) (y_37 : (Option (List Int))) => fun (s_19 : Unit) => ((m_are_ties_o y_37 y_36).bind fun y_46 => (if (!y_46) then (some (Out.rt false)) else (some (Out.nx ()))) : Option (Out Unit Bool))) y_16.1 y_16.2) (enm value') ()).bind fun o_13 => Out.fin o_13 (fun (s_58 : Unit) => (some true)) (fun r_59 => some r_59))
def sp_is_web_o (K : PySem.W.Frag) : Sp := fun vs H Q _ => ∃ (G : Hp) (a_1 : Addr) (vs_2 : List V) (value' : (List (Option (List Int)))) (r : Bool), vs = [.ref a_1] ∧ Ex G H ∧ SqB [] H a_1 vs_2 ∧ AL (rO (rL rI)) G vs_2 value' ∧ m_is_web_o value' = some r ∧ ∀ (G' H' : Hp), Stp [] G G' H H' → Q (.bl r) H'
theorem ok_is_web_o (T : Env K mg) : FnOk P w K mg base CX0 3 T.f_is_web T.d_is_web ["value"] (sp_is_web_o K) := by
  refine T.F_is_web.ok sc_is_web_o (fun vs H Q E h => ?_) (fun cdv A outer s H0 vs Q E hr h => ?_)
  · obtain ⟨G0, a_1, vs_2, value', r, rfl, _⟩ := h
    rfl
  · obtain ⟨G0, a_1, vs_2, value', r, rfl, hG0, sq_3, al_4, hm, k⟩ := h
    have hu := hr.units
    have hu65 := hu65 hr
    have c0 := Cf.start hG0
    unfold m_is_web_o at hm
    refine ⟨_, (pss_cons (ps_if (pt_not (pt_val (pe_callB (call_is (K := K) rfl) (by rfl) T.n_isinstance bt_isi (pa_cons (pv 0) (pa_cons (pe_bltn (v := .ty "list") (by rfl) T.n_list bt_list rfl) pa_nil))))) pss_never pss_nil)
      (pss_cons (ps_for PassesOwn.never rfl (pi_enum (by rfl) T.n_enumerate (pa_cons (pv 0) pa_nil)) (pg_tup rfl (pgs_cons (pg_name (i := 1) sc_is_web_o.nd rfl (by first | exact Or.inl rfl | exact Or.inr rfl)) (pgs_cons (pg_name (i := 2) sc_is_web_o.nd rfl (by first | exact Or.inl rfl | exact Or.inr rfl)) pgs_nil))) (pss_one (ps_if (pt_not (pt_val (pe_call (ok_are_ties_o T) (hr.mono (by decide)) (by rfl) T.g_are_ties T.F_are_ties.kp T.b_are_ties .nil pass0 (pa_cons (pv 2) (pa_cons (pv 1) pa_nil))))) (pss_one (ps_ret pe_bl)) pss_nil)))
      (pss_one (ps_ret pe_bl)))), ?_⟩
    refine q_if_opq (fun Q_5 kk_6 => ?_)
    refine ⟨_, rfl, _, _, _, _, _, rfl, .ty _, (ty_l (SqL.of (sq_3.at c0))), k_ll, _, rfl, ?_⟩
    refine kk_6 _ _ ?_
    refine ite_no (by first | decide | rfl) ?_
    have hm := if_no (by decide) hm
    try dsimp only [tNext]
    refine ⟨_, rfl, _, _, rfl, (SqL.of (sq_3.at c0)), ?_⟩
    obtain ⟨o_13, ho_14, hm⟩ := bs hm
    refine for_w (walk_enum (xs := vs_2)) (enm value') (by rw [enm_len, A2.len al_4]) (fun l_15 σ_17 H_18 => ∃ (G_8 : Hp) (o_11 : Option V) (o_12 : Option V), σ_17 = [(some (.ref a_1)), o_11, o_12] ∧ Ex G0 G_8 ∧ Cf [] H0 G0 G_8 [] H_18 ∧ lpx (fun (y_16 : (Int × (Option (List Int)))) => (fun (y_36 : Int) (y_37 : (Option (List Int))) => fun (s_19 : Unit) => ((m_are_ties_o y_37 y_36).bind fun y_46 => (if (!y_46) then (some (Out.rt false)) else (some (Out.nx ()))) : Option (Out Unit Bool))) y_16.1 y_16.2) l_15 () = some o_13)
      ⟨G0, none, none, rfl, Ex.refl _, c0, ho_14⟩
      (fun l_15 σ_17 H_18 hI => by
        obtain ⟨G_8, o_11, o_12, rfl, eg_9, c_10, ho_14⟩ := hI
        exact (SqL.of (sq_3.at c_10)))
      (fun i_25 y_16 l_15 σ_17 H_18 v_22 H_26 hx_23 hI hy_24 => ?_) (fun σ_17 H_18 hI => ?_)
    · obtain ⟨G_8, o_11, o_12, rfl, eg_9, c_10, ho_14⟩ := hI
      obtain ⟨so_27, hf_20, hgo_21⟩ := lpx_cons ho_14
      try dsimp only at hf_20
      obtain ⟨T_28, u_29, v_30, rfl, nT_31, rfl, h_32, h_33⟩ := hy_24
      obtain ⟨h_34, h_35⟩ := enm_get hx_23
      obtain ⟨y_36, y_37⟩ := y_16
      dsimp only at h_34 h_35 hf_20
      obtain rfl := Option.some.inj h_32
      rw [← h_34]
      obtain ⟨v_38, hv_39, rv_40⟩ := A2.get al_4 h_35
      obtain rfl := Option.some.inj (h_33.symm.trans hv_39)
      have c_41 := c_10.junk nT_31 (.tup [.int y_36, v_30])
      refine ⟨_, _, rfl, SqT.of upd_same, rfl, _, _, rfl, _, _, rfl, rfl, ?_⟩
      generalize hh : upd H_18 T_28 (.tup [.int y_36, v_30]) = H_42 at c_41 ⊢
      clear hh
      refine if_opq (fun Q_44 kk_45 => ?_)
      obtain ⟨y_46, hb_47, hf_20⟩ := bs hf_20
      refine ⟨_, rfl, _, rfl, G_8, v_30, y_37, y_36, y_46, rfl, c_41.gh, ((rO (rL rI)).mono eg_9 rv_40), hb_47, fun G_48 H_49 sp_50 => ?_⟩
      have c_51 := c_41.call sp_50
      refine ⟨_, rfl, ?_⟩
      refine kk_45 _ _ ?_
      refine ite_m hf_20 (fun hc_52 hf_20 => ?_) (fun hc_52 hf_20 => ?_)
      · skip
        refine ret_opq (fun Q_53 kk_54 => ?_)
        refine kk_54 _ _ ?_
        obtain rfl := some_in hf_20
        obtain rfl := some_in hgo_21
        obtain rfl := some_in hm
        exact k G_48 H_49 c_51.stp
      · skip
        obtain rfl := some_in hf_20
        exact ⟨G_48, (some (.int y_36)), (some v_30), rfl, (eg_9.trans sp_50.gg), c_51, hgo_21⟩
    · obtain ⟨G_8, o_11, o_12, rfl, eg_9, c_10, ho_14⟩ := hI
      obtain rfl := lpx_nil ho_14
      dsimp only [Out.fin] at hm
      try dsimp only at hm
      try dsimp only
      refine ret_opq (fun Q_56 kk_57 => ?_)
      refine kk_57 _ _ ?_
      obtain rfl := some_in hm
      exact k G_8 H_18 c_10.stp
theorem sc_read_number : FnScope ["word", "char"] ["word"] (defScope s_read_number) := ⟨rfl, rfl, rfl, by decide +kernel, rfl, by decide +kernel, by decide +kernel⟩
def m_read_number (word' : Str) : Option (Option Int) :=
  (pOr (decide (word' = ("" : Str))) (gd (Str.length word' ≤ BIG) ((pOr (decide ((30 : Int) < ((Str.length word' : Nat) : Int))) (gd (Str.length word' ≤ BIG) ((atI (Str.cps word').toList (0 : Int)).bind fun ch_7 => ((pAnd (decide ((⟨#[ch_7]⟩ : Str) = ("0" : Str))) (gd (Str.length word' ≤ BIG) (some (decide ((1 : Int) < ((Str.length word' : Nat) : Int)))))).bind fun b_13 => (some b_13))))).bind fun b_17 => (some b_17)))).bind fun b_21 => (if b_21 then (some none) else ((lpx (fun (y_33 : Nat) => fun (s_36 : Unit) => (if (!(decide (y_33 ∈ (Str.cps ("0123456789" : Str)).toList))) then (some (Out.rt none)) else (some (Out.nx ())) : Option (Out Unit (Option Int)))) (Str.cps word').toList ()).bind fun o_30 => Out.fin o_30 (fun (s_58 : Unit) => ((iOk word').bind fun i_56 => (some (some i_56)))) (fun r_59 => some r_59)))
def sp_read_number (K : PySem.W.Frag) : Sp := fun vs H Q _ => ∃ (G : Hp) (word' : Str) (r : (Option Int)), vs = [(.str word')] ∧ Ex G H ∧ m_read_number word' = some r ∧ ∀ (v9 : V) (G' H' : Hp), Stp [] G G' H H' → (rO rI).r G' v9 r → Q v9 H'
theorem ok_read_number (T : Env K mg) : FnOk P w K mg base CX0 1 T.f_read_number T.d_read_number ["word"] (sp_read_number K) := by
  refine T.F_read_number.ok sc_read_number (fun vs H Q E h => ?_) (fun cdv A outer s H0 vs Q E hr h => ?_)
  · obtain ⟨G0, word', r, rfl, _⟩ := h
    rfl
  · obtain ⟨G0, word', r, rfl, hG0, hm, k⟩ := h
    have hu := hr.units
    have hu65 := hu65 hr
    have c0 := Cf.start hG0
    unfold m_read_number at hm
    refine ⟨_, (pss_cons (ps_if (PW.pt (pw_or (pt_cmpR op_eqS (pv 0) pe_str (nomark _)) (pw_or (pt_cmpR op_gt (pe_callB call_len_str (by rfl) T.n_len bt_len (pa_cons (pv 0) pa_nil)) (pe_glob (v := (.int (30 : Int))) rfl T.z_MOST_DIGITS ⟨_, rfl⟩) (nomark _)) (pw_or1 (PW.pt (pw_and (pt_cmpR op_eqS (pe_ix ix_str (pv 0) pe_int (fun _ _ => rfl)) pe_str (nomark _)) (pw_and1 (pt_cmpR op_gt (pe_callB call_len_str (by rfl) T.n_len bt_len (pa_cons (pv 0) pa_nil)) pe_int (nomark _))))))))) (pss_one (ps_ret pe_non)) pss_nil)
      (pss_cons (ps_for PassesOwn.never rfl (pi_str (pv 0)) (pg_name (i := 1) sc_read_number.nd rfl (by first | exact Or.inl rfl | exact Or.inr rfl)) (pss_one (ps_if (pt_cmpR op_notIn_sign (pv 1) (pe_glob (v := (.str ("0123456789" : Str))) rfl T.z_DIGITS ⟨_, rfl⟩) rfl) (pss_one (ps_ret pe_non)) pss_nil)))
      (pss_one (ps_ret (pe_callTy call_intS (by rfl) T.n_int bt_int (pa_cons (pv 0) pa_nil)))))), ?_⟩
    refine q_if_opq (fun Q_1 kk_2 => ?_)
    refine ⟨_, rfl, _, _, rfl, rfl, _, rfl, ?_⟩
    obtain ⟨b_21, hb_22, hm⟩ := bs hm
    refine or_r hb_22 (fun ha_20 hq_3 q_19 => ?_) ?_
    · skip
      obtain ⟨hg_4, hq_3⟩ := gdp hq_3
      refine ⟨_, rfl, _, rfl, (le_big hg_4), _, _, rfl, rfl, _, rfl, ?_⟩
      obtain ⟨b_17, hb_18, hq_3⟩ := bs hq_3
      refine or_r hb_18 (fun ha_16 hq_5 q_15 => ?_) ?_
      · skip
        obtain ⟨hg_6, hq_5⟩ := gdp hq_5
        obtain ⟨ch_7, hb_8, hq_5⟩ := bs hq_5
        refine ⟨_, rfl, _, _, _, rfl, rfl, (le_big hg_6), hb_8, _, _, rfl, rfl, _, rfl, ?_⟩
        obtain ⟨b_13, hb_14, hq_5⟩ := bs hq_5
        refine and_r hb_14 (fun ha_12 hq_9 q_11 => ?_) ?_
        · skip
          obtain ⟨hg_10, hq_9⟩ := gdp hq_9
          refine ⟨_, rfl, _, rfl, (le_big hg_10), _, _, rfl, rfl, _, rfl, ?_⟩
          obtain rfl := some_in hq_9
          exact q_11
        obtain rfl := some_in hq_5
        exact q_15
      obtain rfl := some_in hq_3
      exact q_19
    refine kk_2 _ _ ?_
    refine ite_m hm (fun hc_23 hm => ?_) (fun hc_23 hm => ?_)
    · skip
      refine ret_opq (fun Q_24 kk_25 => ?_)
      refine kk_25 _ _ ?_
      obtain rfl := some_in hm
      exact k .non G0 H0 c0.stp rfl
    · skip
      try dsimp only [tNext]
      refine ⟨_, rfl, _, rfl, ?_⟩
      obtain ⟨o_30, ho_31, hm⟩ := bs hm
      refine for_w (walk_str (z := word')) (Str.cps word').toList rfl (fun l_32 σ_34 H_35 => ∃ (G_26 : Hp) (o_29 : Option V), σ_34 = [(some (.str word')), o_29] ∧ Ex G0 G_26 ∧ Cf [] H0 G0 G_26 [] H_35 ∧ lpx (fun (y_33 : Nat) => fun (s_36 : Unit) => (if (!(decide (y_33 ∈ (Str.cps ("0123456789" : Str)).toList))) then (some (Out.rt none)) else (some (Out.nx ())) : Option (Out Unit (Option Int)))) l_32 () = some o_30)
        ⟨G0, none, rfl, Ex.refl _, c0, ho_31⟩
        (fun l_32 σ_34 H_35 hI => by
          obtain ⟨G_26, o_29, rfl, eg_27, c_28, ho_31⟩ := hI
          exact True.intro)
        (fun i_42 y_33 l_32 σ_34 H_35 v_39 H_43 hx_40 hI hy_41 => ?_) (fun σ_34 H_35 hI => ?_)
      · obtain ⟨G_26, o_29, rfl, eg_27, c_28, ho_31⟩ := hI
        obtain ⟨so_44, hf_37, hgo_38⟩ := lpx_cons ho_31
        try dsimp only at hf_37
        obtain ⟨rfl, ch_46, hv_45, rfl⟩ := hy_41
        obtain rfl : y_33 = ch_46 := by rw [Array.getElem?_toList, hv_45] at hx_40; exact (Option.some.inj hx_40).symm
        refine if_opq (fun Q_48 kk_49 => ?_)
        refine ⟨_, rfl, _, _, rfl, rfl, _, rfl, ?_⟩
        refine kk_49 _ _ ?_
        refine ite_m hf_37 (fun hc_50 hf_37 => ?_) (fun hc_50 hf_37 => ?_)
        · skip
          refine ret_opq (fun Q_51 kk_52 => ?_)
          refine kk_52 _ _ ?_
          obtain rfl := some_in hf_37
          obtain rfl := some_in hgo_38
          obtain rfl := some_in hm
          exact k .non G_26 H_43 c_28.stp rfl
        · skip
          obtain rfl := some_in hf_37
          exact ⟨G_26, (some (.str (⟨#[y_33]⟩ : Str))), rfl, eg_27, c_28, hgo_38⟩
      · obtain ⟨G_26, o_29, rfl, eg_27, c_28, ho_31⟩ := hI
        obtain rfl := lpx_nil ho_31
        dsimp only [Out.fin] at hm
        try dsimp only at hm
        try dsimp only
        refine ret_opq (fun Q_54 kk_55 => ?_)
        obtain ⟨i_56, hb_57, hm⟩ := bs hm
        refine ⟨_, rfl, _, _, rfl, hb_57, ?_⟩
        refine kk_55 _ _ ?_
        obtain rfl := some_in hm
        exact k (.int i_56) G_26 H_35 c_28.stp (show ((rO rI)).r G_26 (.int i_56) (some i_56) from rfl)
theorem sc_read_ties : FnScope ["word", "ties", "part", "number"] ["word"] (defScope s_read_ties) := ⟨rfl, rfl, rfl, by decide +kernel, rfl, by decide +kernel, by decide +kernel⟩
def m_read_ties (word' : Str) : Option (Option (List Int)) :=
  if (decide (word' = ("-" : Str))) then (some (some ([] : List Int))) else (gd (Str.length word' + 2 ≤ BIG) ((lpx (fun (y_37 : Str) => fun (s_40 : ((List Int))) => ((fun (xs_30 : (List Int)) => (m_read_number y_37).bind fun y_56 => (oel y_56 (if true then (some (Out.rt none)) else none) (fun (y_65 : Int) => (pOr false ((pAnd (!(decide (xs_30 = ([] : List Int)))) ((atI xs_30 (-(1 : Int))).bind fun y_79 => (some (decide (y_65 ≤ y_79))))).bind fun b_86 => (some b_86))).bind fun b_91 => (if b_91 then (some (Out.rt none)) else (gd (List.length xs_30 < BIG) (some (Out.nx ((xs_30 ++ [y_65]))))))))) s_40 : Option (Out ((List Int)) (Option (List Int))))) (Txt.split word' ("," : Str)) (([] : List Int))).bind fun o_34 => Out.fin o_34 (fun (s_118 : ((List Int))) => (fun (xs_30 : (List Int)) => (some (some xs_30))) s_118) (fun r_119 => some r_119)))
def sp_read_ties (K : PySem.W.Frag) : Sp := fun vs H Q _ => ∃ (G : Hp) (word' : Str) (r : (Option (List Int))), vs = [(.str word')] ∧ Ex G H ∧ m_read_ties word' = some r ∧ ∀ (v9 : V) (G' H' : Hp), Stp [] G G' H H' → (rO (rL rI)).r G' v9 r → (∀ a9, v9 = V.ref a9 → H a9 = none) → Q v9 H'
theorem ok_read_ties (T : Env K mg) : FnOk P w K mg base CX0 2 T.f_read_ties T.d_read_ties ["word"] (sp_read_ties K) := by
  refine T.F_read_ties.ok sc_read_ties (fun vs H Q E h => ?_) (fun cdv A outer s H0 vs Q E hr h => ?_)
  · obtain ⟨G0, word', r, rfl, _⟩ := h
    rfl
  · obtain ⟨G0, word', r, rfl, hG0, hm, k⟩ := h
    have hu := hr.units
    have hu65 := hu65 hr
    have c0 := Cf.start hG0
    unfold m_read_ties at hm
    refine ⟨_, (pss_cons (ps_if (pt_cmpR op_eqS (pv 0) pe_str (nomark _)) (pss_one (ps_ret (pe_lst pa_nil))) pss_nil)
      (pss_cons (ps_set (i := 1) sc_read_ties.nd rfl (by first | exact Or.inl rfl | exact Or.inr rfl) (pe_lst pa_nil))
      (pss_cons (ps_for PassesOwn.never rfl (pi_list (pe_split (pv 0) pe_str)) (pg_name (i := 2) sc_read_ties.nd rfl (by first | exact Or.inl rfl | exact Or.inr rfl)) (pss_cons (ps_set (i := 3) sc_read_ties.nd rfl (by first | exact Or.inl rfl | exact Or.inr rfl) (pe_call (ok_read_number T) (hr.mono (by decide)) (by rfl) T.g_read_number T.F_read_number.kp T.b_read_number .nil pass0 (pa_cons (pv 2) pa_nil)))
      (pss_cons (ps_if (PW.pt (pw_or (pt_cmpR op_isN (pv 3) pe_non (nomark _)) (pw_or1 (PW.pt (pw_and (pt_cmpR (op_neT hu (eqdL eqdI) (by decide)) (pv 1) (pe_lst pa_nil) (nomark _)) (pw_and1 (pt_cmpR op_le (pv 3) (pe_ix (ix_l (K := K) rfl) (pv 1) (pe_un un_neg pe_int) (fun _ _ => rfl)) (nomark _)))))))) (pss_one (ps_ret pe_non)) pss_nil) (pss_one (ps_expr (pe_bm PySem.F.plainAttrs_list PySem.F.slot_list_append PySem.F.type_list_append mt_append (pv 1) (pa_cons (pv 3) pa_nil)))))))
      (pss_one (ps_ret (pv 1)))))), ?_⟩
    refine q_if_opq (fun Q_1 kk_2 => ?_)
    refine ⟨_, rfl, _, _, rfl, rfl, _, rfl, ?_⟩
    refine kk_2 _ _ ?_
    refine ite_m hm (fun hc_3 hm => ?_) (fun hc_3 hm => ?_)
    · skip
      refine ret_opq (fun Q_4 kk_5 => ?_)
      refine ⟨(Nat.zero_le _), fun p_6 np_7 => ?_⟩
      have c_8 := c0.newO np_7 (.lst [])
      generalize hh : upd H0 p_6 (.lst []) = H_9 at c_8 ⊢
      clear hh
      refine kk_5 _ _ ?_
      have hd_10 := c_8.hdn (fun _ z => (nomatch z))
      obtain ⟨G_14, eg_12, sq_13, c_11⟩ : ∃ G9, Ex G0 G9 ∧ G9 p_6 = some (.lst []) ∧ Cf [] H0 G0 G9 [] H_9 := ⟨_, freeze_ex c_8, upd_same, c_8.freeze (fun _ z => (nomatch z))⟩
      obtain rfl := some_in hm
      exact k (.ref p_6) G_14 H_9 c_11.stp (show ((rO (rL rI))).r G_14 (.ref p_6) (some ([] : List Int)) from ⟨p_6, [], rfl, sq_13, (AL.mono eg_12 A2.nil)⟩) (fun _ z => by cases z; exact hd_10)
    · skip
      try dsimp only [tNext]
      refine q_asg_opq (fun Q_15 kk_16 => ?_)
      refine ⟨(Nat.zero_le _), fun p_17 np_18 => ?_⟩
      have c_19 := c0.newO np_18 (.lst [])
      generalize hh : upd H0 p_17 (.lst []) = H_20 at c_19 ⊢
      clear hh
      refine kk_16 _ _ ?_
      obtain ⟨hg_21, hm⟩ := gdp hm
      refine ⟨_, rfl, ⟨_, rfl⟩, _, _, rfl, rfl, (by decide +kernel), (le_big hg_21), fun p_22 np_23 => ?_⟩
      have c_24 := c_19.newO np_23 (.lst (List.map V.str (Txt.split word' ("," : Str))))
      generalize hh : upd H_20 p_22 (.lst (List.map V.str (Txt.split word' ("," : Str)))) = H_25 at c_24 ⊢
      clear hh
      refine ⟨_, rfl, ⟨_, SqL.of (c_24.get 0 rfl)⟩, ?_⟩
      obtain ⟨o_34, ho_35, hm⟩ := bs hm
      refine for_w (walk_list (xs := (List.map V.str (Txt.split word' ("," : Str))))) (Txt.split word' ("," : Str)) (A2.len (la_S G0 (Txt.split word' ("," : Str)))) (fun l_36 σ_38 H_39 => ∃ (G_26 : Hp) (vs_29 : List V) (xs_30 : (List Int)) (o_32 : Option V) (o_33 : Option V), σ_38 = [(some (.str word')), (some (.ref p_17)), o_32, o_33] ∧ Ex G0 G_26 ∧ Cf [] H0 G0 G_26 [(p_22, (.lst (List.map V.str (Txt.split word' ("," : Str))))), (p_17, (.lst vs_29))] H_39 ∧ AL rI G_26 vs_29 xs_30 ∧ lpx (fun (y_37 : Str) => fun (s_40 : ((List Int))) => ((fun (xs_30 : (List Int)) => (m_read_number y_37).bind fun y_56 => (oel y_56 (if true then (some (Out.rt none)) else none) (fun (y_65 : Int) => (pOr false ((pAnd (!(decide (xs_30 = ([] : List Int)))) ((atI xs_30 (-(1 : Int))).bind fun y_79 => (some (decide (y_65 ≤ y_79))))).bind fun b_86 => (some b_86))).bind fun b_91 => (if b_91 then (some (Out.rt none)) else (gd (List.length xs_30 < BIG) (some (Out.nx ((xs_30 ++ [y_65]))))))))) s_40 : Option (Out ((List Int)) (Option (List Int))))) l_36 (xs_30) = some o_34)
        ⟨G0, [], ([] : List Int), none, none, rfl, Ex.refl _, c_24, A2.nil, ho_35⟩
        (fun l_36 σ_38 H_39 hI => by
          obtain ⟨G_26, vs_29, xs_30, o_32, o_33, rfl, eg_27, c_28, al_31, ho_35⟩ := hI
          exact (SqL.of (c_28.get 0 rfl)))
        (fun i_46 y_37 l_36 σ_38 H_39 v_43 H_47 hx_44 hI hy_45 => ?_) (fun σ_38 H_39 hI => ?_)
      · obtain ⟨G_26, vs_29, xs_30, o_32, o_33, rfl, eg_27, c_28, al_31, ho_35⟩ := hI
        obtain ⟨so_48, hf_41, hgo_42⟩ := lpx_cons ho_35
        try dsimp only at hf_41
        obtain ⟨rfl, hv_49⟩ := hy_45
        obtain ⟨v_50, hv_51, rv_52⟩ := A2.get (la_S G0 (Txt.split word' ("," : Str))) hx_44
        obtain rfl := Option.some.inj (hv_49.symm.trans hv_51)
        obtain rfl := (show v_43 = (.str y_37) from rv_52)
        refine q_asg_opq (fun Q_54 kk_55 => ?_)
        obtain ⟨y_56, hb_57, hf_41⟩ := bs hf_41
        refine ⟨_, rfl, G_26, y_37, y_56, rfl, c_28.gh, hb_57, fun v_62 G_58 H_59 sp_60 rv_63 => ?_⟩
        have c_61 := c_28.call sp_60
        refine kk_55 _ _ ?_
        rcases y_56 with _ | y_65
        · skip
          dsimp only [oel] at hf_41
          obtain rfl := (show v_62 = .non from rv_63)
          refine q_if_opq (fun Q_66 kk_67 => ?_)
          refine ⟨_, rfl, rfl, _, rfl, ?_⟩
          refine or_s (by first | decide | rfl) ?_
          refine kk_67 _ _ ?_
          refine ite_yes (by first | decide | rfl) ?_
          have hf_41 := if_yes (by decide) hf_41
          refine ret_opq (fun Q_69 kk_70 => ?_)
          refine kk_70 _ _ ?_
          obtain rfl := some_in hf_41
          obtain rfl := some_in hgo_42
          obtain rfl := some_in hm
          exact k .non G_58 H_59 c_61.stp rfl (fun _ z => nomatch z)
        · skip
          dsimp only [oel] at hf_41
          obtain rfl := (show v_62 = (.int y_65) from rv_63)
          refine q_if_opq (fun Q_71 kk_72 => ?_)
          refine ⟨_, rfl, rfl, _, rfl, ?_⟩
          obtain ⟨b_91, hb_92, hf_41⟩ := bs hf_41
          refine or_h hb_92 (R := (fun H9 => ∃ G9, Ex G_58 G9 ∧ Cf [] H0 G0 G9 [(p_22, (.lst (List.map V.str (Txt.split word' ("," : Str))))), (p_17, (.lst vs_29))] H9)) (fun ha_90 hq_73 q_89 => ?_) ⟨_, Ex.refl _, c_61⟩ ?_
          · skip
            refine ⟨_, rfl, (Nat.zero_le _), fun p_74 np_75 => ?_⟩
            have c_76 := c_61.newO np_75 (.lst [])
            generalize hh : upd H_59 p_74 (.lst []) = H_77 at c_76 ⊢
            clear hh
            refine ⟨_, _, ⟨p_17, vs_29, rfl, (c_76.get 2 rfl), AL.mono c_76.gh (AL.mono sp_60.gg al_31)⟩, ⟨p_74, [], rfl, (c_76.get 0 rfl), AL.mono c_76.gh A2.nil⟩, (okI _), (okI _), _, rfl, ?_⟩
            obtain ⟨b_86, hb_87, hq_73⟩ := bs hq_73
            refine and_r hb_87 (fun ha_85 hq_78 q_84 => ?_) ?_
            · skip
              obtain ⟨y_79, hb_80, hq_78⟩ := bs hq_78
              obtain ⟨v_81, hv_82, rv_83⟩ := at_l (AL.mono sp_60.gg al_31) hb_80
              obtain rfl := (show v_81 = (.int y_79) from rv_83)
              refine ⟨_, rfl, _, rfl, _, rfl, _, _, _, _, rfl, rfl, (SqL.of (c_76.get 2 rfl)), hv_82, _, _, rfl, rfl, _, rfl, ?_⟩
              obtain rfl := some_in hq_78
              exact q_84
            have c_88 : Cf [] H0 G0 G_58 [(p_22, (.lst (List.map V.str (Txt.split word' ("," : Str))))), (p_17, (.lst vs_29))] H_77 := c_76.drop
            obtain rfl := some_in hq_73
            exact q_89 _ ⟨_, Ex.refl _, c_88⟩
          rintro H_94 ⟨G_93, eg_95, c_96⟩
          refine kk_72 _ _ ?_
          refine ite_m hf_41 (fun hc_97 hf_41 => ?_) (fun hc_97 hf_41 => ?_)
          · skip
            refine ret_opq (fun Q_98 kk_99 => ?_)
            refine kk_99 _ _ ?_
            obtain rfl := some_in hf_41
            obtain rfl := some_in hgo_42
            obtain rfl := some_in hm
            exact k .non G_93 H_94 c_96.stp rfl (fun _ z => nomatch z)
          · skip
            try dsimp only [tNext]
            refine drop_opq (fun Q_100 kk_101 => ?_)
            obtain ⟨hg_102, hf_41⟩ := gdp hf_41
            have c_103 : Cf [] H0 G0 G_93 [(p_17, (.lst vs_29)), (p_22, (.lst (List.map V.str (Txt.split word' ("," : Str)))))] H_94 := c_96.front 1 rfl
            refine ⟨_, rfl, .inl ⟨rfl, _, SqL.of (c_96.get 1 rfl)⟩, _, rfl, _, _, _, rfl, rfl, c_103.hd, (by rw [A2.len (AL.mono (sp_60.gg.trans eg_95) al_31)]; exact big_lt hg_102), ?_⟩
            obtain ⟨vs_104, hvs, al_105⟩ : ∃ vs9, vs9 = (vs_29 ++ [(.int y_65)]) ∧ AL rI G_93 vs9 (xs_30 ++ [y_65]) := ⟨_, rfl, (A2.app (AL.mono (sp_60.gg.trans eg_95) al_31) (A2.one rfl))⟩
            rw [← hvs]
            clear hvs
            have c_106 := c_103.mut (.lst vs_104)
            generalize hh : upd H_94 p_17 (.lst vs_104) = H_107 at c_106 ⊢
            clear hh
            refine kk_101 _ _ ?_
            have c_108 : Cf [] H0 G0 G_93 [(p_22, (.lst (List.map V.str (Txt.split word' ("," : Str))))), (p_17, (.lst vs_104))] H_107 := c_106.front 1 rfl
            obtain rfl := some_in hf_41
            exact ⟨G_93, vs_104, (xs_30 ++ [y_65]), (some (.str y_37)), (some (.int y_65)), rfl, ((eg_27.trans sp_60.gg).trans eg_95), c_108, al_105, hgo_42⟩
      · obtain ⟨G_26, vs_29, xs_30, o_32, o_33, rfl, eg_27, c_28, al_31, ho_35⟩ := hI
        obtain rfl := lpx_nil ho_35
        dsimp only [Out.fin] at hm
        try dsimp only at hm
        try dsimp only
        refine ret_opq (fun Q_110 kk_111 => ?_)
        refine ⟨_, rfl, ?_⟩
        refine kk_111 _ _ ?_
        have c_112 : Cf [] H0 G0 G_26 [(p_17, (.lst vs_29)), (p_22, (.lst (List.map V.str (Txt.split word' ("," : Str)))))] H_39 := c_28.front 1 rfl
        have hd_113 := c_112.hdn (fun _ z => (nomatch z))
        obtain ⟨G_117, eg_115, sq_116, c_114⟩ : ∃ G9, Ex G_26 G9 ∧ G9 p_17 = some (.lst vs_29) ∧ Cf [] H0 G0 G9 [(p_22, (.lst (List.map V.str (Txt.split word' ("," : Str)))))] H_39 := ⟨_, freeze_ex c_112, upd_same, c_112.freeze (fun _ z => (nomatch z))⟩
        obtain rfl := some_in hm
        exact k (.ref p_17) G_117 H_39 c_114.stp (show ((rO (rL rI))).r G_117 (.ref p_17) (some xs_30) from ⟨p_17, vs_29, rfl, sq_116, (AL.mono eg_115 al_31)⟩) (fun _ z => by cases z; exact hd_113)
theorem sc_show_ties : FnScope ["ties", "other"] ["ties"] (defScope s_show_ties) := ⟨rfl, rfl, rfl, by decide +kernel, rfl, by decide +kernel, by decide +kernel⟩
def m_show_ties (ties' : (List Int)) : Option Str :=
  if (decide (ties' = ([] : List Int))) then (some ("-" : Str)) else (gd (List.length ties' < BIG) ((lcm (fun (y_34 : Int) => gd (sOk y_34) (some (sI y_34))) ties').bind fun xs_24 => (gd (jOk ("," : Str) xs_24) (some (Txt.join ("," : Str) xs_24)))))
def sp_show_ties (K : PySem.W.Frag) : Sp := fun vs H Q _ => ∃ (G : Hp) (a_1 : Addr) (vs_2 : List V) (ties' : (List Int)) (r : Str), vs = [.ref a_1] ∧ Ex G H ∧ SqB [] H a_1 vs_2 ∧ AL rI G vs_2 ties' ∧ m_show_ties ties' = some r ∧ ∀ (G' H' : Hp), Stp [] G G' H H' → Q (.str r) H'
theorem ok_show_ties (T : Env K mg) : FnOk P w K mg base CX0 1 T.f_show_ties T.d_show_ties ["ties"] (sp_show_ties K) := by
  refine T.F_show_ties.ok sc_show_ties (fun vs H Q E h => ?_) (fun cdv A outer s H0 vs Q E hr h => ?_)
  · obtain ⟨G0, a_1, vs_2, ties', r, rfl, _⟩ := h
    rfl
  · obtain ⟨G0, a_1, vs_2, ties', r, rfl, hG0, sq_3, al_4, hm, k⟩ := h
    have hu := hr.units
    have hu65 := hu65 hr
    have c0 := Cf.start hG0
    unfold m_show_ties at hm
    refine ⟨_, (pss_cons (ps_if (pt_cmpR (op_eqT hu (eqdL eqdI) (by decide)) (pv 0) (pe_lst pa_nil) (nomark _)) (pss_one (ps_ret pe_str)) pss_nil)
      (pss_one (ps_ret (pe_join pe_str (pe_lc (own := [("other", 1)]) (g := gName 1) (tt := tYes)  rfl sc_show_ties.nd (pi_list (pv 0)) (blkOk_by (own := [("other", 1)]) (N := ["ties", "other"]) (sc := defScope s_show_ties) (by decide +kernel)) (fun _ _ _ _ _ => (pg_name (i := 1) sc_show_ties.nd rfl (by first | exact Or.inl rfl | exact Or.inr rfl))) (fun _ _ _ _ _ => pts_nil) (fun _ _ _ _ _ => (pe_callTy call_strI (by rfl) T.n_str bt_str (pa_cons (pv 1) pa_nil)))))))), ?_⟩
    refine q_if_opq (fun Q_5 kk_6 => ?_)
    refine ⟨_, rfl, (Nat.zero_le _), fun p_7 np_8 => ?_⟩
    have c_9 := c0.newO np_8 (.lst [])
    generalize hh : upd H0 p_7 (.lst []) = H_10 at c_9 ⊢
    clear hh
    refine ⟨_, _, ⟨a_1, vs_2, rfl, (sq_3.at c_9), AL.mono c_9.gh al_4⟩, ⟨p_7, [], rfl, (c_9.get 0 rfl), AL.mono c_9.gh A2.nil⟩, (okI _), (okI _), _, rfl, ?_⟩
    refine kk_6 _ _ ?_
    refine ite_m hm (fun hc_11 hm => ?_) (fun hc_11 hm => ?_)
    · skip
      refine ret_opq (fun Q_12 kk_13 => ?_)
      refine kk_13 _ _ ?_
      obtain rfl := some_in hm
      exact k G0 H_10 c_9.stp
    · skip
      try dsimp only [tNext]
      refine ret_opq (fun Q_14 kk_15 => ?_)
      obtain ⟨hg_16, hm⟩ := gdp hm
      refine ⟨⟨_, rfl⟩, _, rfl, _, rfl, ⟨_, SqL.of (sq_3.at c_9)⟩, fun D_17 nD_18 => ?_⟩
      have c_19 := c_9.newO nD_18 (.lst [])
      obtain ⟨out_26, hb_27, hm⟩ := bs hm
      refine lc_w (walk_list (xs := vs_2)) ties' (A2.len al_4) (fun l_33 H_35 => ∃ (G_20 : Hp) (vs_23 : List V) (xs_24 : (List Str)), Ex G0 G_20 ∧ Cf [] H0 G0 G_20 [(D_17, (.lst vs_23)), (p_7, (.lst []))] H_35 ∧ AL rS G_20 vs_23 xs_24 ∧ List.length xs_24 + List.length l_33 < BIG ∧ ∃ rest_29, lcm (fun (y_34 : Int) => gd (sOk y_34) (some (sI y_34))) l_33 = some rest_29 ∧ xs_24 ++ rest_29 = out_26)
        ⟨G0, [], ([] : List Str), Ex.refl _, c_19, A2.nil, ⟨by simpa using hg_16, out_26, hb_27, rfl⟩⟩
        (fun l_33 H_35 hI => by
          obtain ⟨G_20, vs_23, xs_24, eg_21, c_22, al_25, ⟨hlen_32, rest_29, hf_30, hout_31⟩⟩ := hI
          exact (SqL.of (sq_3.at c_22)))
        (fun i_37 y_34 l_33 H_35 v_38 H_41 hx_39 hI hy_40 => ?_) (fun H_35 hI => ?_)
      · obtain ⟨G_20, vs_23, xs_24, eg_21, c_22, al_25, ⟨hlen_32, rest_29, hf_30, hout_31⟩⟩ := hI
        obtain ⟨z_42, rest_43, hq_36, hf_44, ho_45⟩ := lcm_cons hf_30
        try dsimp only at hq_36
        obtain ⟨rfl, hv_47⟩ := hy_40
        obtain ⟨v_48, hv_49, rv_50⟩ := A2.get al_4 hx_39
        obtain rfl := Option.some.inj (hv_47.symm.trans hv_49)
        obtain rfl := (show v_38 = (.int y_34) from rv_50)
        refine ⟨rfl, ?_⟩
        refine yes_q ?_
        refine opqV (fun Q_51 kk_52 => ?_)
        obtain ⟨hg_53, hq_36⟩ := gdp hq_36
        refine ⟨_, rfl, _, rfl, hg_53, ?_⟩
        refine kk_52 _ _ ?_
        refine ⟨_, c_22.hd, big_lt (by have h9 := hlen_32; have h8 := A2.len al_25; simp only [List.length_cons] at h9; omega), ?_⟩
        obtain ⟨vs_54, hvs, al_55⟩ : ∃ vs9, vs9 = (vs_23 ++ [(.str (sI y_34))]) ∧ AL rS G_20 vs9 (xs_24 ++ [(sI y_34)]) := ⟨_, rfl, (A2.app al_25 (A2.one rfl))⟩
        rw [← hvs]
        clear hvs
        have c_56 := c_22.mut (.lst vs_54)
        generalize hh : upd H_41 D_17 (.lst vs_54) = H_57 at c_56 ⊢
        clear hh
        obtain rfl := some_in hq_36
        exact ⟨G_20, vs_54, (xs_24 ++ [(sI y_34)]), eg_21, c_56, al_55, ⟨by have h9 := hlen_32; simp only [List.length_append, List.length_cons, List.length_nil] at h9 ⊢; first | done | omega, rest_43, hf_44, by rw [← hout_31, ho_45]; first | done | simp⟩⟩
      obtain ⟨G_20, vs_23, xs_24, eg_21, c_22, al_25, ⟨hlen_32, rest_29, hf_30, hout_31⟩⟩ := hI
      obtain rfl := some_in hf_30
      rw [List.append_nil] at hout_31
      subst hout_31
      obtain ⟨hg_58, hm⟩ := gdp hm
      refine ⟨_, _, xs_24, rfl, rfl, (.inl (SqL.of (by rw [← al_S al_25]; exact (c_22.get 0 rfl)))), hg_58, ?_⟩
      refine kk_15 _ _ ?_
      obtain rfl := some_in hm
      exact k G_20 H_35 c_22.stp
theorem sc_show_web : FnScope ["web", "ties"] ["web"] (defScope s_show_web) := ⟨rfl, rfl, rfl, by decide +kernel, rfl, by decide +kernel, by decide +kernel⟩
def m_show_web (web' : (List (List Int))) : Option Str :=
  if (decide (web' = ([] : List (List Int)))) then (some ("." : Str)) else (gd (List.length web' < BIG) ((lcm (fun (y_34 : (List Int)) => (m_show_ties y_34).bind fun y_53 => (some y_53)) web').bind fun xs_24 => (gd (jOk (" " : Str) xs_24) (some (Txt.join (" " : Str) xs_24)))))
def sp_show_web (K : PySem.W.Frag) : Sp := fun vs H Q _ => ∃ (G : Hp) (a_1 : Addr) (vs_2 : List V) (web' : (List (List Int))) (r : Str), vs = [.ref a_1] ∧ Ex G H ∧ SqB [] H a_1 vs_2 ∧ AL (rL rI) G vs_2 web' ∧ m_show_web web' = some r ∧ ∀ (G' H' : Hp), Stp [] G G' H H' → Q (.str r) H'
theorem ok_show_web (T : Env K mg) : FnOk P w K mg base CX0 2 T.f_show_web T.d_show_web ["web"] (sp_show_web K) := by
  refine T.F_show_web.ok sc_show_web (fun vs H Q E h => ?_) (fun cdv A outer s H0 vs Q E hr h => ?_)
  · obtain ⟨G0, a_1, vs_2, web', r, rfl, _⟩ := h
    rfl
  · obtain ⟨G0, a_1, vs_2, web', r, rfl, hG0, sq_3, al_4, hm, k⟩ := h
    have hu := hr.units
    have hu65 := hu65 hr
    have c0 := Cf.start hG0
    unfold m_show_web at hm
    refine ⟨_, (pss_cons (ps_if (pt_cmpR (op_eqT hu (eqdL (eqdL eqdI)) (by decide)) (pv 0) (pe_lst pa_nil) (nomark _)) (pss_one (ps_ret pe_str)) pss_nil)
      (pss_one (ps_ret (pe_join pe_str (pe_lc (own := [("ties", 1)]) (g := gName 1) (tt := tYes)  rfl sc_show_web.nd (pi_list (pv 0)) (blkOk_by (own := [("ties", 1)]) (N := ["web", "ties"]) (sc := defScope s_show_web) (by decide +kernel)) (fun _ _ _ _ _ => (pg_name (i := 1) sc_show_web.nd rfl (by first | exact Or.inl rfl | exact Or.inr rfl))) (fun _ _ _ _ _ => pts_nil) (fun _ _ _ _ _ => (pe_call (ok_show_ties T) (hr.mono (by decide)) (by rfl) T.g_show_ties T.F_show_ties.kp T.b_show_ties .nil pass0 (pa_cons (pv 1) pa_nil)))))))), ?_⟩
    refine q_if_opq (fun Q_5 kk_6 => ?_)
    refine ⟨_, rfl, (Nat.zero_le _), fun p_7 np_8 => ?_⟩
    have c_9 := c0.newO np_8 (.lst [])
    generalize hh : upd H0 p_7 (.lst []) = H_10 at c_9 ⊢
    clear hh
    refine ⟨_, _, ⟨a_1, vs_2, rfl, (sq_3.at c_9), AL.mono c_9.gh al_4⟩, ⟨p_7, [], rfl, (c_9.get 0 rfl), AL.mono c_9.gh A2.nil⟩, (okLI _), (okLI _), _, rfl, ?_⟩
    refine kk_6 _ _ ?_
    refine ite_m hm (fun hc_11 hm => ?_) (fun hc_11 hm => ?_)
    · skip
      refine ret_opq (fun Q_12 kk_13 => ?_)
      refine kk_13 _ _ ?_
      obtain rfl := some_in hm
      exact k G0 H_10 c_9.stp
    · skip
      try dsimp only [tNext]
      refine ret_opq (fun Q_14 kk_15 => ?_)
      obtain ⟨hg_16, hm⟩ := gdp hm
      refine ⟨⟨_, rfl⟩, _, rfl, _, rfl, ⟨_, SqL.of (sq_3.at c_9)⟩, fun D_17 nD_18 => ?_⟩
      have c_19 := c_9.newO nD_18 (.lst [])
      obtain ⟨out_26, hb_27, hm⟩ := bs hm
      refine lc_w (walk_list (xs := vs_2)) web' (A2.len al_4) (fun l_33 H_35 => ∃ (G_20 : Hp) (vs_23 : List V) (xs_24 : (List Str)), Ex G0 G_20 ∧ Cf [] H0 G0 G_20 [(D_17, (.lst vs_23)), (p_7, (.lst []))] H_35 ∧ AL rS G_20 vs_23 xs_24 ∧ List.length xs_24 + List.length l_33 < BIG ∧ ∃ rest_29, lcm (fun (y_34 : (List Int)) => (m_show_ties y_34).bind fun y_53 => (some y_53)) l_33 = some rest_29 ∧ xs_24 ++ rest_29 = out_26)
        ⟨G0, [], ([] : List Str), Ex.refl _, c_19, A2.nil, ⟨by simpa using hg_16, out_26, hb_27, rfl⟩⟩
        (fun l_33 H_35 hI => by
          obtain ⟨G_20, vs_23, xs_24, eg_21, c_22, al_25, ⟨hlen_32, rest_29, hf_30, hout_31⟩⟩ := hI
          exact (SqL.of (sq_3.at c_22)))
        (fun i_37 y_34 l_33 H_35 v_38 H_41 hx_39 hI hy_40 => ?_) (fun H_35 hI => ?_)
      · obtain ⟨G_20, vs_23, xs_24, eg_21, c_22, al_25, ⟨hlen_32, rest_29, hf_30, hout_31⟩⟩ := hI
        obtain ⟨z_42, rest_43, hq_36, hf_44, ho_45⟩ := lcm_cons hf_30
        try dsimp only at hq_36
        obtain ⟨rfl, hv_47⟩ := hy_40
        obtain ⟨v_48, hv_49, rv_50⟩ := A2.get al_4 hx_39
        obtain rfl := Option.some.inj (hv_47.symm.trans hv_49)
        refine ⟨rfl, ?_⟩
        refine yes_q ?_
        refine opqV (fun Q_51 kk_52 => ?_)
        obtain ⟨y_53, hb_54, hq_36⟩ := bs hq_36
        obtain ⟨a_55, vs_56, rfl, sq_57, al_58⟩ := ((rL rI).mono eg_21 rv_50)
        refine ⟨_, rfl, G_20, a_55, vs_56, y_34, y_53, rfl, c_22.gh, (SqB.of (c_22.gh _ _ sq_57)), al_58, hb_54, fun G_59 H_60 sp_61 => ?_⟩
        have c_62 := c_22.call sp_61
        refine kk_52 _ _ ?_
        refine ⟨_, c_62.hd, big_lt (by have h9 := hlen_32; have h8 := A2.len (AL.mono sp_61.gg al_25); simp only [List.length_cons] at h9; omega), ?_⟩
        obtain ⟨vs_63, hvs, al_64⟩ : ∃ vs9, vs9 = (vs_23 ++ [(.str y_53)]) ∧ AL rS G_59 vs9 (xs_24 ++ [y_53]) := ⟨_, rfl, (A2.app (AL.mono sp_61.gg al_25) (A2.one rfl))⟩
        rw [← hvs]
        clear hvs
        have c_65 := c_62.mut (.lst vs_63)
        generalize hh : upd H_60 D_17 (.lst vs_63) = H_66 at c_65 ⊢
        clear hh
        obtain rfl := some_in hq_36
        exact ⟨G_59, vs_63, (xs_24 ++ [y_53]), (eg_21.trans sp_61.gg), c_65, al_64, ⟨by have h9 := hlen_32; simp only [List.length_append, List.length_cons, List.length_nil] at h9 ⊢; first | done | omega, rest_43, hf_44, by rw [← hout_31, ho_45]; first | done | simp⟩⟩
      obtain ⟨G_20, vs_23, xs_24, eg_21, c_22, al_25, ⟨hlen_32, rest_29, hf_30, hout_31⟩⟩ := hI
      obtain rfl := some_in hf_30
      rw [List.append_nil] at hout_31
      subst hout_31
      obtain ⟨hg_67, hm⟩ := gdp hm
      refine ⟨_, _, xs_24, rfl, rfl, (.inl (SqL.of (by rw [← al_S al_25]; exact (c_22.get 0 rfl)))), hg_67, ?_⟩
      refine kk_15 _ _ ?_
      obtain rfl := some_in hm
      exact k G_20 H_35 c_22.stp
theorem sc_show_colours : FnScope ["colours", "colour"] ["colours"] (defScope s_show_colours) := ⟨rfl, rfl, rfl, by decide +kernel, rfl, by decide +kernel, by decide +kernel⟩
def m_show_colours (colours' : (List Int)) : Option Str :=
  if (decide (colours' = ([] : List Int))) then (some ("." : Str)) else (gd (List.length colours' < BIG) ((lcm (fun (y_34 : Int) => gd (sOk y_34) (some (sI y_34))) colours').bind fun xs_24 => (gd (jOk (" " : Str) xs_24) (some (Txt.join (" " : Str) xs_24)))))
def sp_show_colours (K : PySem.W.Frag) : Sp := fun vs H Q _ => ∃ (G : Hp) (a_1 : Addr) (vs_2 : List V) (colours' : (List Int)) (r : Str), vs = [.ref a_1] ∧ Ex G H ∧ SqB [] H a_1 vs_2 ∧ AL rI G vs_2 colours' ∧ m_show_colours colours' = some r ∧ ∀ (G' H' : Hp), Stp [] G G' H H' → Q (.str r) H'
theorem ok_show_colours (T : Env K mg) : FnOk P w K mg base CX0 1 T.f_show_colours T.d_show_colours ["colours"] (sp_show_colours K) := by
  refine T.F_show_colours.ok sc_show_colours (fun vs H Q E h => ?_) (fun cdv A outer s H0 vs Q E hr h => ?_)
  · obtain ⟨G0, a_1, vs_2, colours', r, rfl, _⟩ := h
    rfl
  · obtain ⟨G0, a_1, vs_2, colours', r, rfl, hG0, sq_3, al_4, hm, k⟩ := h
    have hu := hr.units
    have hu65 := hu65 hr
    have c0 := Cf.start hG0
    unfold m_show_colours at hm
    refine ⟨_, (pss_cons (ps_if (pt_cmpR (op_eqT hu (eqdL eqdI) (by decide)) (pv 0) (pe_lst pa_nil) (nomark _)) (pss_one (ps_ret pe_str)) pss_nil)
      (pss_one (ps_ret (pe_join pe_str (pe_lc (own := [("colour", 1)]) (g := gName 1) (tt := tYes)  rfl sc_show_colours.nd (pi_list (pv 0)) (blkOk_by (own := [("colour", 1)]) (N := ["colours", "colour"]) (sc := defScope s_show_colours) (by decide +kernel)) (fun _ _ _ _ _ => (pg_name (i := 1) sc_show_colours.nd rfl (by first | exact Or.inl rfl | exact Or.inr rfl))) (fun _ _ _ _ _ => pts_nil) (fun _ _ _ _ _ => (pe_callTy call_strI (by rfl) T.n_str bt_str (pa_cons (pv 1) pa_nil)))))))), ?_⟩
    refine q_if_opq (fun Q_5 kk_6 => ?_)
    refine ⟨_, rfl, (Nat.zero_le _), fun p_7 np_8 => ?_⟩
    have c_9 := c0.newO np_8 (.lst [])
    generalize hh : upd H0 p_7 (.lst []) = H_10 at c_9 ⊢
    clear hh
    refine ⟨_, _, ⟨a_1, vs_2, rfl, (sq_3.at c_9), AL.mono c_9.gh al_4⟩, ⟨p_7, [], rfl, (c_9.get 0 rfl), AL.mono c_9.gh A2.nil⟩, (okI _), (okI _), _, rfl, ?_⟩
    refine kk_6 _ _ ?_
    refine ite_m hm (fun hc_11 hm => ?_) (fun hc_11 hm => ?_)
    · skip
      refine ret_opq (fun Q_12 kk_13 => ?_)
      refine kk_13 _ _ ?_
      obtain rfl := some_in hm
      exact k G0 H_10 c_9.stp
    · skip
      try dsimp only [tNext]
      refine ret_opq (fun Q_14 kk_15 => ?_)
      obtain ⟨hg_16, hm⟩ := gdp hm
      refine ⟨⟨_, rfl⟩, _, rfl, _, rfl, ⟨_, SqL.of (sq_3.at c_9)⟩, fun D_17 nD_18 => ?_⟩
      have c_19 := c_9.newO nD_18 (.lst [])
      obtain ⟨out_26, hb_27, hm⟩ := bs hm
      refine lc_w (walk_list (xs := vs_2)) colours' (A2.len al_4) (fun l_33 H_35 => ∃ (G_20 : Hp) (vs_23 : List V) (xs_24 : (List Str)), Ex G0 G_20 ∧ Cf [] H0 G0 G_20 [(D_17, (.lst vs_23)), (p_7, (.lst []))] H_35 ∧ AL rS G_20 vs_23 xs_24 ∧ List.length xs_24 + List.length l_33 < BIG ∧ ∃ rest_29, lcm (fun (y_34 : Int) => gd (sOk y_34) (some (sI y_34))) l_33 = some rest_29 ∧ xs_24 ++ rest_29 = out_26)
        ⟨G0, [], ([] : List Str), Ex.refl _, c_19, A2.nil, ⟨by simpa using hg_16, out_26, hb_27, rfl⟩⟩
        (fun l_33 H_35 hI => by
          obtain ⟨G_20, vs_23, xs_24, eg_21, c_22, al_25, ⟨hlen_32, rest_29, hf_30, hout_31⟩⟩ := hI
          exact (SqL.of (sq_3.at c_22)))
        (fun i_37 y_34 l_33 H_35 v_38 H_41 hx_39 hI hy_40 => ?_) (fun H_35 hI => ?_)
      · obtain ⟨G_20, vs_23, xs_24, eg_21, c_22, al_25, ⟨hlen_32, rest_29, hf_30, hout_31⟩⟩ := hI
        obtain ⟨z_42, rest_43, hq_36, hf_44, ho_45⟩ := lcm_cons hf_30
        try dsimp only at hq_36
        obtain ⟨rfl, hv_47⟩ := hy_40
        obtain ⟨v_48, hv_49, rv_50⟩ := A2.get al_4 hx_39
        obtain rfl := Option.some.inj (hv_47.symm.trans hv_49)
        obtain rfl := (show v_38 = (.int y_34) from rv_50)
        refine ⟨rfl, ?_⟩
        refine yes_q ?_
        refine opqV (fun Q_51 kk_52 => ?_)
        obtain ⟨hg_53, hq_36⟩ := gdp hq_36
        refine ⟨_, rfl, _, rfl, hg_53, ?_⟩
        refine kk_52 _ _ ?_
        refine ⟨_, c_22.hd, big_lt (by have h9 := hlen_32; have h8 := A2.len al_25; simp only [List.length_cons] at h9; omega), ?_⟩
        obtain ⟨vs_54, hvs, al_55⟩ : ∃ vs9, vs9 = (vs_23 ++ [(.str (sI y_34))]) ∧ AL rS G_20 vs9 (xs_24 ++ [(sI y_34)]) := ⟨_, rfl, (A2.app al_25 (A2.one rfl))⟩
        rw [← hvs]
        clear hvs
        have c_56 := c_22.mut (.lst vs_54)
        generalize hh : upd H_41 D_17 (.lst vs_54) = H_57 at c_56 ⊢
        clear hh
        obtain rfl := some_in hq_36
        exact ⟨G_20, vs_54, (xs_24 ++ [(sI y_34)]), eg_21, c_56, al_55, ⟨by have h9 := hlen_32; simp only [List.length_append, List.length_cons, List.length_nil] at h9 ⊢; first | done | omega, rest_43, hf_44, by rw [← hout_31, ho_45]; first | done | simp⟩⟩
      obtain ⟨G_20, vs_23, xs_24, eg_21, c_22, al_25, ⟨hlen_32, rest_29, hf_30, hout_31⟩⟩ := hI
      obtain rfl := some_in hf_30
      rw [List.append_nil] at hout_31
      subst hout_31
      obtain ⟨hg_58, hm⟩ := gdp hm
      refine ⟨_, _, xs_24, rfl, rfl, (.inl (SqL.of (by rw [← al_S al_25]; exact (c_22.get 0 rfl)))), hg_58, ?_⟩
      refine kk_15 _ _ ?_
      obtain rfl := some_in hm
      exact k G_20 H_35 c_22.stp
theorem sc_read_web_x : FnScope ["text", "word", "web"] ["text"] (defScope s_read_web) := ⟨rfl, rfl, rfl, by decide +kernel, rfl, by decide +kernel, by decide +kernel⟩
def m_read_web_x (text' : Str) : Option (Except Er (List (List Int))) :=
  if (!true) then none else (if (decide (text' = ("." : Str))) then (some (Except.ok ([] : List (List Int)))) else (gd (Str.length text' + 2 ≤ BIG) (gd (List.length (Txt.split text' (" " : Str)) < BIG) ((lcm (fun (y_38 : Str) => (m_read_ties y_38).bind fun y_57 => (some y_57)) (Txt.split text' (" " : Str))).bind fun xs_28 => ((m_is_web_o xs_28).bind fun y_73 => (if (!y_73) then (some (Except.error ((0, 0) : Er))) else ((allS xs_28).bind fun ys_82 => (some (Except.ok ys_82)))))))))
def sp_read_web_x (K : PySem.W.Frag) (mg : Str → Option Value) : Sp := fun vs H Q E => ∃ (G : Hp) (text' : Str) (r : (Except Er (List (List Int)))), vs = [(.str text')] ∧ Ex G H ∧ m_read_web_x text' = some r ∧ (∀ r9, r = Except.ok r9 → ∀ (p9 : Addr) (vs9 : List V) (G' H' : Hp), Stp [] G G' H H' → H p9 = none → G' p9 = none → H' p9 = some (.lst vs9) → AL (rL rI) G' vs9 r9 → Q (.ref p9) H') ∧ ∀ (e9 : Er), r = Except.error e9 → ∀ (G' H' : Hp) (cls : Value) (d : Option Addr), Stp [] G G' H H' → mg (ern e9.1) = some cls → efr e9 d H H' → E cls d H'
theorem ok_read_web_x (T : Env K mg) : FnOk P w K mg base (L2.CX P w) 4 T.f_read_web T.d_read_web ["text"] (sp_read_web_x K mg) := by
  refine T.F_read_web.okX sc_read_web_x (fun vs H Q E h => ?_) (fun cdv A outer s H0 vs Q E hr h => ?_)
  · obtain ⟨G0, text', r, rfl, _⟩ := h
    rfl
  · obtain ⟨G0, text', r, rfl, hG0, hm, k, kE⟩ := h
    have hu := hr.units
    have hu65 := hu65 hr
    have c0 := Cf.start hG0
    unfold m_read_web_x at hm
    refine ⟨_, (pss_cons (ps_if (pt_not (pt_val (pe_callB (call_is (K := K) rfl) (by rfl) T.n_isinstance bt_isi (pa_cons (pv 0) (pa_cons (pe_bltn (v := .ty "str") (by rfl) T.n_str bt_str rfl) pa_nil))))) pss_never pss_nil)
      (pss_cons (ps_if (pt_cmpR op_eqS (pv 0) pe_str (nomark _)) (pss_one (ps_ret (pe_lst pa_nil))) pss_nil)
      (pss_cons (ps_setLc (i := 2) (own := [("word", 1)]) (g := gName 1) (tt := tYes)  rfl sc_read_web_x.nd rfl rfl (sw_true rfl rfl rfl (by decide +kernel)) (pi_list (pe_split (pv 0) pe_str)) (blkOk_by (own := [("word", 1)]) (N := ["text", "word", "web"]) (sc := defScope s_read_web) (by decide +kernel)) (fun _ _ _ _ _ => (pg_name (i := 1) sc_read_web_x.nd rfl (by first | exact Or.inl rfl | exact Or.inr rfl))) (fun _ _ _ _ _ => pts_nil) (fun _ _ _ _ _ => (pe_call (ok_read_ties T) (hr.mono (by decide)) (by rfl) T.g_read_ties T.F_read_ties.kp T.b_read_ties .nil pass0 (pa_cons (pv 1) pa_nil))))
      (pss_cons (ps_if (pt_not (pt_val (pe_call (ok_is_web_o T) (hr.mono (by decide)) (by rfl) T.g_is_web T.F_is_web.kp T.b_is_web .nil pass0 (pa_cons (pv 2) pa_nil)))) (pss_one (ps_raise rfl (takes_of rfl rfl rfl rfl) (pmk_own PySem.F.excBase_ValueError T.x_InvalidText T.g_InvalidText T.k_InvalidText (raises_own T.b_InvalidText T.t_InvalidText) rfl))) pss_nil)
      (pss_one (ps_ret (pv 2))))))), ?_⟩
    refine q_if_opq (fun Q_1 kk_2 => ?_)
    refine ⟨_, rfl, _, _, _, _, _, rfl, .ty _, ty_s, k_ss, _, rfl, ?_⟩
    refine kk_2 _ _ ?_
    refine ite_no (by first | decide | rfl) ?_
    have hm := if_no (by decide) hm
    try dsimp only [tNext]
    refine q_if_opq (fun Q_4 kk_5 => ?_)
    refine ⟨_, rfl, _, _, rfl, rfl, _, rfl, ?_⟩
    refine kk_5 _ _ ?_
    refine ite_m hm (fun hc_6 hm => ?_) (fun hc_6 hm => ?_)
    · skip
      refine ret_opq (fun Q_7 kk_8 => ?_)
      refine ⟨(Nat.zero_le _), fun p_9 np_10 => ?_⟩
      have c_11 := c0.newO np_10 (.lst [])
      generalize hh : upd H0 p_9 (.lst []) = H_12 at c_11 ⊢
      clear hh
      refine kk_8 _ _ ?_
      obtain rfl := some_in hm
      exact k _ rfl p_9 [] G0 H_12 c_11.stp (c_11.hdn (fun _ z => (nomatch z))) c_11.hdg c_11.hd A2.nil
    · skip
      try dsimp only [tNext]
      refine q_asg_opq (fun Q_13 kk_14 => ?_)
      obtain ⟨hg_15, hm⟩ := gdp hm
      refine ⟨_, rfl, ⟨_, rfl⟩, _, _, rfl, rfl, (by decide +kernel), (le_big hg_15), fun p_16 np_17 => ?_⟩
      have c_18 := c0.newO np_17 (.lst (List.map V.str (Txt.split text' (" " : Str))))
      generalize hh : upd H0 p_16 (.lst (List.map V.str (Txt.split text' (" " : Str)))) = H_19 at c_18 ⊢
      clear hh
      obtain ⟨hg_20, hm⟩ := gdp hm
      refine ⟨_, rfl, ⟨_, SqL.of (c_18.get 0 rfl)⟩, fun D_21 nD_22 => ?_⟩
      have c_23 := c_18.newO nD_22 (.lst [])
      obtain ⟨out_30, hb_31, hm⟩ := bs hm
      refine lc_w (walk_list (xs := (List.map V.str (Txt.split text' (" " : Str))))) (Txt.split text' (" " : Str)) (A2.len (la_S G0 (Txt.split text' (" " : Str)))) (fun l_37 H_39 => ∃ (G_24 : Hp) (vs_27 : List V) (xs_28 : (List (Option (List Int)))), Ex G0 G_24 ∧ Cf [] H0 G0 G_24 [(D_21, (.lst vs_27)), (p_16, (.lst (List.map V.str (Txt.split text' (" " : Str)))))] H_39 ∧ AL (rO (rL rI)) G_24 vs_27 xs_28 ∧ Fr9 H0 vs_27 ∧ List.length xs_28 + List.length l_37 < BIG ∧ ∃ rest_33, lcm (fun (y_38 : Str) => (m_read_ties y_38).bind fun y_57 => (some y_57)) l_37 = some rest_33 ∧ xs_28 ++ rest_33 = out_30)
        ⟨G0, [], ([] : List (Option (List Int))), Ex.refl _, c_23, A2.nil, ⟨Fr9.nil, by simpa using hg_20, out_30, hb_31, rfl⟩⟩
        (fun l_37 H_39 hI => by
          obtain ⟨G_24, vs_27, xs_28, eg_25, c_26, al_29, ⟨hfr_32, hlen_36, rest_33, hf_34, hout_35⟩⟩ := hI
          exact (SqL.of (c_26.get 1 rfl)))
        (fun i_41 y_38 l_37 H_39 v_42 H_45 hx_43 hI hy_44 => ?_) (fun H_39 hI => ?_)
      · obtain ⟨G_24, vs_27, xs_28, eg_25, c_26, al_29, ⟨hfr_32, hlen_36, rest_33, hf_34, hout_35⟩⟩ := hI
        obtain ⟨z_46, rest_47, hq_40, hf_48, ho_49⟩ := lcm_cons hf_34
        try dsimp only at hq_40
        obtain ⟨rfl, hv_51⟩ := hy_44
        obtain ⟨v_52, hv_53, rv_54⟩ := A2.get (la_S G0 (Txt.split text' (" " : Str))) hx_43
        obtain rfl := Option.some.inj (hv_51.symm.trans hv_53)
        obtain rfl := (show v_42 = (.str y_38) from rv_54)
        refine ⟨rfl, ?_⟩
        refine yes_q ?_
        refine opqV (fun Q_55 kk_56 => ?_)
        obtain ⟨y_57, hb_58, hq_40⟩ := bs hq_40
        refine ⟨_, rfl, G_24, y_38, y_57, rfl, c_26.gh, hb_58, fun v_63 G_59 H_60 sp_61 rv_64 fr_65 => ?_⟩
        have c_62 := c_26.call sp_61
        have hfr_66 := hfr_32.snoc c_26 al_29 fr_65
        refine kk_56 _ _ ?_
        refine ⟨_, c_62.hd, big_lt (by have h9 := hlen_36; have h8 := A2.len (AL.mono sp_61.gg al_29); simp only [List.length_cons] at h9; omega), ?_⟩
        obtain ⟨vs_67, hvs, al_68⟩ : ∃ vs9, vs9 = (vs_27 ++ [v_63]) ∧ AL (rO (rL rI)) G_59 vs9 (xs_28 ++ [y_57]) := ⟨_, rfl, (A2.app (AL.mono sp_61.gg al_29) (A2.one rv_64))⟩
        rw [← hvs] at hfr_66 ⊢
        clear hvs
        have c_69 := c_62.mut (.lst vs_67)
        generalize hh : upd H_60 D_21 (.lst vs_67) = H_70 at c_69 ⊢
        clear hh
        obtain rfl := some_in hq_40
        exact ⟨G_59, vs_67, (xs_28 ++ [y_57]), (eg_25.trans sp_61.gg), c_69, al_68, ⟨hfr_66, by have h9 := hlen_36; simp only [List.length_append, List.length_cons, List.length_nil] at h9 ⊢; first | done | omega, rest_47, hf_48, by rw [← hout_35, ho_49]; first | done | simp⟩⟩
      obtain ⟨G_24, vs_27, xs_28, eg_25, c_26, al_29, ⟨hfr_32, hlen_36, rest_33, hf_34, hout_35⟩⟩ := hI
      obtain rfl := some_in hf_34
      rw [List.append_nil] at hout_35
      subst hout_35
      refine kk_14 _ _ ?_
      refine q_if_opq (fun Q_71 kk_72 => ?_)
      obtain ⟨y_73, hb_74, hm⟩ := bs hm
      refine ⟨_, rfl, G_24, D_21, vs_27, xs_28, y_73, rfl, c_26.gh, (SqB.of (c_26.get 0 rfl)), al_29, hb_74, fun G_75 H_76 sp_77 => ?_⟩
      have c_78 := c_26.call sp_77
      refine ⟨_, rfl, ?_⟩
      refine kk_72 _ _ ?_
      refine ite_m hm (fun hc_79 hm => ?_) (fun hc_79 hm => ?_)
      · skip
        obtain rfl := some_in hm
        exact kE _ rfl G_75 H_76 (.ref T.C_InvalidText) none c_78.stp T.g_InvalidText (efr_plain (by decide))
      · skip
        try dsimp only [tNext]
        refine ret_opq (fun Q_80 kk_81 => ?_)
        refine ⟨_, rfl, ?_⟩
        refine kk_81 _ _ ?_
        obtain ⟨ys_82, hb_83, hm⟩ := bs hm
        have al_84 := al_allS (AL.mono sp_77.gg al_29) hb_83
        obtain rfl := some_in hm
        exact k _ rfl D_21 vs_27 G_75 H_76 c_78.stp (c_78.hdn (fun _ z => (nomatch z))) c_78.hdg c_78.hd al_84
theorem sc_read_colours : FnScope ["text", "colours", "word", "colour"] ["text"] (defScope s_read_colours) := ⟨rfl, rfl, rfl, by decide +kernel, rfl, by decide +kernel, by decide +kernel⟩
def m_read_colours (text' : Str) : Option (Except Er (List Int)) :=
  if (!true) then none else (if (decide (text' = ("." : Str))) then (some (Except.ok ([] : List Int))) else (gd (Str.length text' + 2 ≤ BIG) ((lpx (fun (y_35 : Str) => fun (s_38 : ((List Int))) => ((fun (xs_28 : (List Int)) => (m_read_number y_35).bind fun y_54 => (oel y_54 (if true then (some (Out.rt (Except.error ((0, 0) : Er)))) else none) (fun (y_63 : Int) => if (false || (decide (y_63 = (0 : Int)))) then (some (Out.rt (Except.error ((0, 0) : Er)))) else (gd (List.length xs_28 < BIG) (some (Out.nx ((xs_28 ++ [y_63])))))))) s_38 : Option (Out ((List Int)) (Except Er (List Int))))) (Txt.split text' (" " : Str)) (([] : List Int))).bind fun o_32 => Out.fin o_32 (fun (s_86 : ((List Int))) => (fun (xs_28 : (List Int)) => (some (Except.ok xs_28))) s_86) (fun r_87 => some r_87))))
def sp_read_colours (K : PySem.W.Frag) (mg : Str → Option Value) : Sp := fun vs H Q E => ∃ (G : Hp) (text' : Str) (r : (Except Er (List Int))), vs = [(.str text')] ∧ Ex G H ∧ m_read_colours text' = some r ∧ (∀ r9, r = Except.ok r9 → ∀ (p9 : Addr) (vs9 : List V) (G' H' : Hp), Stp [] G G' H H' → H p9 = none → G' p9 = none → H' p9 = some (.lst vs9) → AL rI G' vs9 r9 → Q (.ref p9) H') ∧ ∀ (e9 : Er), r = Except.error e9 → ∀ (G' H' : Hp) (cls : Value) (d : Option Addr), Stp [] G G' H H' → mg (ern e9.1) = some cls → efr e9 d H H' → E cls d H'
theorem ok_read_colours (T : Env K mg) : FnOk P w K mg base (L2.CX P w) 2 T.f_read_colours T.d_read_colours ["text"] (sp_read_colours K mg) := by
  refine T.F_read_colours.okX sc_read_colours (fun vs H Q E h => ?_) (fun cdv A outer s H0 vs Q E hr h => ?_)
  · obtain ⟨G0, text', r, rfl, _⟩ := h
    rfl
  · obtain ⟨G0, text', r, rfl, hG0, hm, k, kE⟩ := h
    have hu := hr.units
    have hu65 := hu65 hr
    have c0 := Cf.start hG0
    unfold m_read_colours at hm
    refine ⟨_, (pss_cons (ps_if (pt_not (pt_val (pe_callB (call_is (K := K) rfl) (by rfl) T.n_isinstance bt_isi (pa_cons (pv 0) (pa_cons (pe_bltn (v := .ty "str") (by rfl) T.n_str bt_str rfl) pa_nil))))) pss_never pss_nil)
      (pss_cons (ps_if (pt_cmpR op_eqS (pv 0) pe_str (nomark _)) (pss_one (ps_ret (pe_lst pa_nil))) pss_nil)
      (pss_cons (ps_set (i := 1) sc_read_colours.nd rfl (by first | exact Or.inl rfl | exact Or.inr rfl) (pe_lst pa_nil))
      (pss_cons (ps_for (passes_of rfl) rfl (pi_list (pe_split (pv 0) pe_str)) (pg_name (i := 2) sc_read_colours.nd rfl (by first | exact Or.inl rfl | exact Or.inr rfl)) (pss_cons (ps_set (i := 3) sc_read_colours.nd rfl (by first | exact Or.inl rfl | exact Or.inr rfl) (pe_call (ok_read_number T) (hr.mono (by decide)) (by rfl) T.g_read_number T.F_read_number.kp T.b_read_number .nil pass0 (pa_cons (pv 2) pa_nil)))
      (pss_cons (ps_if (PW.pt (pw_or (pt_cmpR op_isN (pv 3) pe_non (nomark _)) (pw_or1 (pt_cmpR op_eqI (pv 3) pe_int (nomark _))))) (pss_one (ps_raise rfl (takes_of rfl rfl rfl rfl) (pmk_own PySem.F.excBase_ValueError T.x_InvalidText T.g_InvalidText T.k_InvalidText (raises_own T.b_InvalidText T.t_InvalidText) rfl))) pss_nil) (pss_one (ps_expr (pe_bm PySem.F.plainAttrs_list PySem.F.slot_list_append PySem.F.type_list_append mt_append (pv 1) (pa_cons (pv 3) pa_nil)))))))
      (pss_one (ps_ret (pv 1))))))), ?_⟩
    refine q_if_opq (fun Q_1 kk_2 => ?_)
    refine ⟨_, rfl, _, _, _, _, _, rfl, .ty _, ty_s, k_ss, _, rfl, ?_⟩
    refine kk_2 _ _ ?_
    refine ite_no (by first | decide | rfl) ?_
    have hm := if_no (by decide) hm
    try dsimp only [tNext]
    refine q_if_opq (fun Q_4 kk_5 => ?_)
    refine ⟨_, rfl, _, _, rfl, rfl, _, rfl, ?_⟩
    refine kk_5 _ _ ?_
    refine ite_m hm (fun hc_6 hm => ?_) (fun hc_6 hm => ?_)
    · skip
      refine ret_opq (fun Q_7 kk_8 => ?_)
      refine ⟨(Nat.zero_le _), fun p_9 np_10 => ?_⟩
      have c_11 := c0.newO np_10 (.lst [])
      generalize hh : upd H0 p_9 (.lst []) = H_12 at c_11 ⊢
      clear hh
      refine kk_8 _ _ ?_
      obtain rfl := some_in hm
      exact k _ rfl p_9 [] G0 H_12 c_11.stp (c_11.hdn (fun _ z => (nomatch z))) c_11.hdg c_11.hd A2.nil
    · skip
      try dsimp only [tNext]
      refine q_asg_opq (fun Q_13 kk_14 => ?_)
      refine ⟨(Nat.zero_le _), fun p_15 np_16 => ?_⟩
      have c_17 := c0.newO np_16 (.lst [])
      generalize hh : upd H0 p_15 (.lst []) = H_18 at c_17 ⊢
      clear hh
      refine kk_14 _ _ ?_
      obtain ⟨hg_19, hm⟩ := gdp hm
      refine ⟨_, rfl, ⟨_, rfl⟩, _, _, rfl, rfl, (by decide +kernel), (le_big hg_19), fun p_20 np_21 => ?_⟩
      have c_22 := c_17.newO np_21 (.lst (List.map V.str (Txt.split text' (" " : Str))))
      generalize hh : upd H_18 p_20 (.lst (List.map V.str (Txt.split text' (" " : Str)))) = H_23 at c_22 ⊢
      clear hh
      refine ⟨_, rfl, ⟨_, SqL.of (c_22.get 0 rfl)⟩, ?_⟩
      obtain ⟨o_32, ho_33, hm⟩ := bs hm
      refine for_w (walk_list (xs := (List.map V.str (Txt.split text' (" " : Str))))) (Txt.split text' (" " : Str)) (A2.len (la_S G0 (Txt.split text' (" " : Str)))) (fun l_34 σ_36 H_37 => ∃ (G_24 : Hp) (vs_27 : List V) (xs_28 : (List Int)) (o_30 : Option V) (o_31 : Option V), σ_36 = [(some (.str text')), (some (.ref p_15)), o_30, o_31] ∧ Ex G0 G_24 ∧ Cf [] H0 G0 G_24 [(p_20, (.lst (List.map V.str (Txt.split text' (" " : Str))))), (p_15, (.lst vs_27))] H_37 ∧ AL rI G_24 vs_27 xs_28 ∧ lpx (fun (y_35 : Str) => fun (s_38 : ((List Int))) => ((fun (xs_28 : (List Int)) => (m_read_number y_35).bind fun y_54 => (oel y_54 (if true then (some (Out.rt (Except.error ((0, 0) : Er)))) else none) (fun (y_63 : Int) => if (false || (decide (y_63 = (0 : Int)))) then (some (Out.rt (Except.error ((0, 0) : Er)))) else (gd (List.length xs_28 < BIG) (some (Out.nx ((xs_28 ++ [y_63])))))))) s_38 : Option (Out ((List Int)) (Except Er (List Int))))) l_34 (xs_28) = some o_32)
        ⟨G0, [], ([] : List Int), none, none, rfl, Ex.refl _, c_22, A2.nil, ho_33⟩
        (fun l_34 σ_36 H_37 hI => by
          obtain ⟨G_24, vs_27, xs_28, o_30, o_31, rfl, eg_25, c_26, al_29, ho_33⟩ := hI
          exact (SqL.of (c_26.get 0 rfl)))
        (fun i_44 y_35 l_34 σ_36 H_37 v_41 H_45 hx_42 hI hy_43 => ?_) (fun σ_36 H_37 hI => ?_)
      · obtain ⟨G_24, vs_27, xs_28, o_30, o_31, rfl, eg_25, c_26, al_29, ho_33⟩ := hI
        obtain ⟨so_46, hf_39, hgo_40⟩ := lpx_cons ho_33
        try dsimp only at hf_39
        obtain ⟨rfl, hv_47⟩ := hy_43
        obtain ⟨v_48, hv_49, rv_50⟩ := A2.get (la_S G0 (Txt.split text' (" " : Str))) hx_42
        obtain rfl := Option.some.inj (hv_47.symm.trans hv_49)
        obtain rfl := (show v_41 = (.str y_35) from rv_50)
        refine q_asg_opq (fun Q_52 kk_53 => ?_)
        obtain ⟨y_54, hb_55, hf_39⟩ := bs hf_39
        refine ⟨_, rfl, G_24, y_35, y_54, rfl, c_26.gh, hb_55, fun v_60 G_56 H_57 sp_58 rv_61 => ?_⟩
        have c_59 := c_26.call sp_58
        refine kk_53 _ _ ?_
        rcases y_54 with _ | y_63
        · skip
          dsimp only [oel] at hf_39
          obtain rfl := (show v_60 = .non from rv_61)
          refine q_if_opq (fun Q_64 kk_65 => ?_)
          refine ⟨_, rfl, rfl, _, rfl, ?_⟩
          refine or_s (by first | decide | rfl) ?_
          refine kk_65 _ _ ?_
          refine ite_yes (by first | decide | rfl) ?_
          have hf_39 := if_yes (by decide) hf_39
          obtain rfl := some_in hf_39
          obtain rfl := some_in hgo_40
          obtain rfl := some_in hm
          exact kE _ rfl G_56 H_57 (.ref T.C_InvalidText) none c_59.stp T.g_InvalidText (efr_plain (by decide))
        · skip
          dsimp only [oel] at hf_39
          obtain rfl := (show v_60 = (.int y_63) from rv_61)
          refine q_if_opq (fun Q_67 kk_68 => ?_)
          refine ⟨_, rfl, rfl, _, rfl, ?_⟩
          refine or_t (b := (decide (y_63 = (0 : Int)))) (fun ha_71 q_70 => ?_) ?_
          · skip
            refine ⟨_, rfl, _, _, rfl, rfl, _, rfl, ?_⟩
            exact q_70
          refine kk_68 _ _ ?_
          refine ite_m hf_39 (fun hc_72 hf_39 => ?_) (fun hc_72 hf_39 => ?_)
          · skip
            obtain rfl := some_in hf_39
            obtain rfl := some_in hgo_40
            obtain rfl := some_in hm
            exact kE _ rfl G_56 H_57 (.ref T.C_InvalidText) none c_59.stp T.g_InvalidText (efr_plain (by decide))
          · skip
            try dsimp only [tNext]
            refine drop_opq (fun Q_73 kk_74 => ?_)
            obtain ⟨hg_75, hf_39⟩ := gdp hf_39
            have c_76 : Cf [] H0 G0 G_56 [(p_15, (.lst vs_27)), (p_20, (.lst (List.map V.str (Txt.split text' (" " : Str)))))] H_57 := c_59.front 1 rfl
            refine ⟨_, rfl, .inl ⟨rfl, _, SqL.of (c_59.get 1 rfl)⟩, _, rfl, _, _, _, rfl, rfl, c_76.hd, (by rw [A2.len (AL.mono sp_58.gg al_29)]; exact big_lt hg_75), ?_⟩
            obtain ⟨vs_77, hvs, al_78⟩ : ∃ vs9, vs9 = (vs_27 ++ [(.int y_63)]) ∧ AL rI G_56 vs9 (xs_28 ++ [y_63]) := ⟨_, rfl, (A2.app (AL.mono sp_58.gg al_29) (A2.one rfl))⟩
            rw [← hvs]
            clear hvs
            have c_79 := c_76.mut (.lst vs_77)
            generalize hh : upd H_57 p_15 (.lst vs_77) = H_80 at c_79 ⊢
            clear hh
            refine kk_74 _ _ ?_
            have c_81 : Cf [] H0 G0 G_56 [(p_20, (.lst (List.map V.str (Txt.split text' (" " : Str))))), (p_15, (.lst vs_77))] H_80 := c_79.front 1 rfl
            obtain rfl := some_in hf_39
            exact ⟨G_56, vs_77, (xs_28 ++ [y_63]), (some (.str y_35)), (some (.int y_63)), rfl, (eg_25.trans sp_58.gg), c_81, al_78, hgo_40⟩
      · obtain ⟨G_24, vs_27, xs_28, o_30, o_31, rfl, eg_25, c_26, al_29, ho_33⟩ := hI
        obtain rfl := lpx_nil ho_33
        dsimp only [Out.fin] at hm
        try dsimp only at hm
        try dsimp only
        refine ret_opq (fun Q_83 kk_84 => ?_)
        refine ⟨_, rfl, ?_⟩
        refine kk_84 _ _ ?_
        obtain rfl := some_in hm
        have c_85 : Cf [] H0 G0 G_24 [(p_15, (.lst vs_27)), (p_20, (.lst (List.map V.str (Txt.split text' (" " : Str)))))] H_37 := c_26.front 1 rfl
        exact k _ rfl p_15 vs_27 G_24 H_37 c_85.stp (c_85.hdn (fun _ z => (nomatch z))) c_85.hdg c_85.hd al_29
theorem sc__law_deck : FnScope ["script", "at", "cell", "seed"] ["script", "at"] (defScope s__law_deck) := ⟨rfl, rfl, rfl, by decide +kernel, rfl, by decide +kernel, by decide +kernel⟩
def m__law_deck (script' : List Int) (at' : Int) : Option (List Int) :=
  (((if (decide (at' < ((List.length script' : Nat) : Int))) then ((atI script' at').bind fun y_18 => (some (y_18))) else (some ((0 : Int)))) : Option (Int))).bind fun (s_41 : (Int)) => (fun (x_8 : Int) => (lt (((((x_8 * (7919 : Int)) + (at' * (104729 : Int))) + (1 : Int)) % (2147483647 : Int)) : Int) fun x_22 => (if (decide (((10 : Int) ^ ((18 : Int)).toNat) ≤ x_8)) then (some ([(x_8 - ((10 : Int) ^ ((18 : Int)).toNat)), x_22, at'] : List Int)) else (some ([(0 : Int), x_22, (x_8 % (1000000000000000003 : Int))] : List Int))))) s_41
def sp__law_deck (K : PySem.W.Frag) : Sp := fun vs H Q _ => ∃ (G : Hp) (a_1 : Addr) (script' : List Int) (at' : Int) (r : (List Int)), vs = [.ref a_1, (.int at')] ∧ Ex G H ∧ SqL K H a_1 (script'.map V.int) ∧ m__law_deck script' at' = some r ∧ ∀ (p9 : Addr) (vs9 : List V) (G' H' : Hp), Stp [] G G' H H' → H p9 = none → G' p9 = none → H' p9 = some (.lst vs9) → AL rI G' vs9 r → Q (.ref p9) H'
theorem ok__law_deck (T : Env K mg) : FnOk P w K mg base CX0 1 T.f__law_deck T.d__law_deck ["script", "at"] (sp__law_deck K) := by
  refine T.F__law_deck.ok sc__law_deck (fun vs H Q E h => ?_) (fun cdv A outer s H0 vs Q E hr h => ?_)
  · obtain ⟨G0, a_1, script', at', r, rfl, _⟩ := h
    rfl
  · obtain ⟨G0, a_1, script', at', r, rfl, hG0, sq_2, hm, k⟩ := h
    have hu := hr.units
    have hu65 := hu65 hr
    have c0 := Cf.start hG0
    unfold m__law_deck at hm
    refine ⟨_, (pss_cons (ps_set (i := 2) sc__law_deck.nd rfl (by first | exact Or.inl rfl | exact Or.inr rfl) pe_int)
      (Evl.pss_cut (ps_if (pt_cmpR op_lt (pv 1) (pe_callB (call_lenSc (K := K) rfl) (by rfl) T.n_len bt_len (pa_cons (pv 0) pa_nil)) (nomark _)) (pss_one (ps_set (i := 2) sc__law_deck.nd rfl (by first | exact Or.inl rfl | exact Or.inr rfl) (pe_ix (ix_l (K := K) rfl) (pv 0) (pv 1) (fun _ _ => rfl)))) pss_nil)
      (pss_cons (ps_set (i := 3) sc__law_deck.nd rfl (by first | exact Or.inl rfl | exact Or.inr rfl) (pe_op op_mod (pe_callTy call_intI (by rfl) T.n_int bt_int (pa_cons (pe_op op_add (pe_op op_add (pe_op op_mul (pv 2) pe_int) (pe_op op_mul (pv 1) pe_int)) pe_int) pa_nil)) pe_int))
      (pss_cons (ps_if (pt_cmpR op_ge (pv 2) (pe_op op_pow pe_int pe_int) (nomark _)) (pss_one (ps_ret (pe_lst (pa_cons (pe_op op_sub (pv 2) (pe_op op_pow pe_int pe_int)) (pa_cons (pv 3) (pa_cons (pv 1) pa_nil)))))) pss_nil)
      (pss_one (ps_ret (pe_lst (pa_cons pe_int (pa_cons (pv 3) (pa_cons (pe_op op_mod (pe_callTy call_intI (by rfl) T.n_int bt_int (pa_cons (pv 2) pa_nil)) pe_int) pa_nil)))))))))), ?_⟩
    refine q_asg_opq (fun Q_3 kk_4 => ?_)
    refine kk_4 _ _ ?_
    obtain ⟨s_9, hs_10, hm⟩ := bs hm
    refine ⟨(fun σ_11 H_12 => ∃ (G_5 : Hp) (x_8 : Int), σ_11 = [(some (.ref a_1)), (some (.int at')), (some (.int x_8)), none] ∧ Ex G0 G_5 ∧ Cf [] H0 G0 G_5 [] H_12 ∧ (x_8) = s_9), ?_, ?_⟩
    · skip
      refine if_opq (fun Q_13 kk_14 => ?_)
      refine ⟨_, rfl, _, rfl, _, _, rfl, (sc_at sq_2 c0), _, _, rfl, rfl, _, rfl, ?_⟩
      refine kk_14 _ _ ?_
      refine ite_m hs_10 (fun hc_15 hs_10 => ?_) (fun hc_15 hs_10 => ?_)
      · skip
        refine asg_opq (fun Q_16 kk_17 => ?_)
        obtain ⟨y_18, hb_19, hs_10⟩ := bs hs_10
        refine ⟨_, rfl, _, rfl, _, _, _, _, rfl, rfl, (sc_at sq_2 c0), (atI_I hb_19), ?_⟩
        refine kk_17 _ _ ?_
        obtain rfl := some_in hs_10
        exact ⟨G0, y_18, rfl, Ex.refl _, c0, rfl⟩
      · skip
        try dsimp only [tNext]
        obtain rfl := some_in hs_10
        exact ⟨G0, (0 : Int), rfl, Ex.refl _, c0, rfl⟩
    rintro σ_11 H_12 ⟨G_5, x_8, rfl, eg_6, c_7, rfl⟩
    try dsimp only at hm
    refine q_asg_opq (fun Q_20 kk_21 => ?_)
    obtain ⟨x_22, hl_23, hm⟩ := ltp hm
    refine ⟨_, rfl, _, _, rfl, rfl, .inr ⟨by decide, by decide⟩, _, rfl, _, _, rfl, rfl, .inr ⟨by decide, by decide⟩, _, _, rfl, rfl, _, _, rfl, rfl, _, rfl, _, _, rfl, rfl, (by show (0 : Int) < 2147483647; decide), ?_⟩
    refine nmV (f := V.int) (P := fun v9 => Q_20 v9 _) hl_23 ?_
    refine kk_21 _ _ ?_
    refine q_if_opq (fun Q_24 kk_25 => ?_)
    refine ⟨_, rfl, _, _, rfl, rfl, ⟨by decide, by decide, by decide⟩, _, _, rfl, rfl, _, rfl, ?_⟩
    refine kk_25 _ _ ?_
    refine ite_m hm (fun hc_26 hm => ?_) (fun hc_26 hm => ?_)
    · skip
      refine ret_opq (fun Q_27 kk_28 => ?_)
      have al_31 : AL rI G_5 [(.int (x_8 - ((10 : Int) ^ ((18 : Int)).toNat))), (.int x_22), (.int at')] ([(x_8 - ((10 : Int) ^ ((18 : Int)).toNat)), x_22, at'] : List Int) := (A2.cons rfl (A2.cons rfl (A2.cons rfl A2.nil)))
      refine ⟨_, rfl, _, _, rfl, rfl, ⟨by decide, by decide, by decide⟩, _, _, rfl, rfl, _, rfl, _, rfl, (by show 3 ≤ sizeLine; decide), fun p_29 np_30 => ?_⟩
      have c_32 := c_7.newO np_30 (.lst [(.int (x_8 - ((10 : Int) ^ ((18 : Int)).toNat))), (.int x_22), (.int at')])
      generalize hh : upd H_12 p_29 (.lst [(.int (x_8 - ((10 : Int) ^ ((18 : Int)).toNat))), (.int x_22), (.int at')]) = H_33 at c_32 ⊢
      clear hh
      refine kk_28 _ _ ?_
      obtain rfl := some_in hm
      exact k p_29 [(.int (x_8 - ((10 : Int) ^ ((18 : Int)).toNat))), (.int x_22), (.int at')] G_5 H_33 c_32.stp (c_32.hdn (fun _ z => (nomatch z))) c_32.hdg c_32.hd al_31
    · skip
      try dsimp only [tNext]
      refine ret_opq (fun Q_34 kk_35 => ?_)
      have al_38 : AL rI G_5 [(.int (0 : Int)), (.int x_22), (.int (x_8 % (1000000000000000003 : Int)))] ([(0 : Int), x_22, (x_8 % (1000000000000000003 : Int))] : List Int) := (A2.cons rfl (A2.cons rfl (A2.cons rfl A2.nil)))
      refine ⟨_, rfl, _, rfl, _, rfl, _, _, rfl, rfl, (by show (0 : Int) < 1000000000000000003; decide), (by show 3 ≤ sizeLine; decide), fun p_36 np_37 => ?_⟩
      have c_39 := c_7.newO np_37 (.lst [(.int (0 : Int)), (.int x_22), (.int (x_8 % (1000000000000000003 : Int)))])
      generalize hh : upd H_12 p_36 (.lst [(.int (0 : Int)), (.int x_22), (.int (x_8 % (1000000000000000003 : Int)))]) = H_40 at c_39 ⊢
      clear hh
      refine kk_35 _ _ ?_
      obtain rfl := some_in hm
      exact k p_36 [(.int (0 : Int)), (.int x_22), (.int (x_8 % (1000000000000000003 : Int)))] G_5 H_40 c_39.stp (c_39.hdn (fun _ z => (nomatch z))) c_39.hdg c_39.hd al_38
theorem sc__law_draw : FnScope ["deck", "many", "drawn", "low", "mixed"] ["deck", "many"] (defScope s__law_draw) := ⟨rfl, rfl, rfl, by decide +kernel, rfl, by decide +kernel, by decide +kernel⟩
def m__law_draw : Nat → (List Int) → Int → Option (Int × List Int)
  | 0, _, _ => none
  | fuel + 1, deck', many' =>
  (atI deck' (0 : Int)).bind fun y_8 => (if (decide ((0 : Int) < y_8)) then ((atI deck' (0 : Int)).bind fun y_16 => (gd (0 < many') (lt ((y_16 % many') : Int) fun x_22 => ((atI deck' (0 : Int)).bind fun y_26 => (gd (CDivW y_26 many') ((ixN (List.length deck') (0 : Int)).bind fun j_32 => (some (x_22, (List.set deck' j_32 (y_26 / many')))))))))) else (if (decide (((10 : Int) ^ ((6 : Int)).toNat) < many')) then ((m__law_draw fuel deck' ((10 : Int) ^ ((6 : Int)).toNat)).bind fun z_50 => (fun (y_47 : Int) (y_48 : List Int) => (gd (CDivW many' ((10 : Int) ^ ((6 : Int)).toNat)) ((m__law_draw fuel y_48 ((many' / ((10 : Int) ^ ((6 : Int)).toNat)) + (1 : Int))).bind fun z_64 => (fun (y_61 : Int) (y_62 : List Int) => (gd (CMul ((10 : Int) ^ ((6 : Int)).toNat) y_61) (gd (0 < many') (some (((y_47 + (((10 : Int) ^ ((6 : Int)).toNat) * y_61)) % many'), y_62))))) z_64.1 z_64.2))) z_50.1 z_50.2) else ((atI deck' (1 : Int)).bind fun y_76 => ((ixN (List.length deck') (1 : Int)).bind fun j_81 => ((atI (List.set deck' j_81 (((y_76 * (48271 : Int)) + (12345 : Int)) % (2147483647 : Int))) (1 : Int)).bind fun y_91 => ((atI (List.set deck' j_81 (((y_76 * (48271 : Int)) + (12345 : Int)) % (2147483647 : Int))) (1 : Int)).bind fun y_96 => (gd (CMul y_91 y_96) ((atI (List.set deck' j_81 (((y_76 * (48271 : Int)) + (12345 : Int)) % (2147483647 : Int))) (2 : Int)).bind fun y_102 => (lt ((((y_91 * y_96) + y_102) % (2147483629 : Int)) : Int) fun x_107 => (gd (CMul x_107 x_107) (gd (0 < many') (some (((((x_107 * x_107) % (2147483587 : Int)) / (8 : Int)) % many'), (List.set deck' j_81 (((y_76 * (48271 : Int)) + (12345 : Int)) % (2147483647 : Int))))))))))))))))
theorem m__law_draw_s (fuel : Nat) (deck' : (List Int)) (many' : Int) : m__law_draw (fuel + 1) deck' many' =
  ((atI deck' (0 : Int)).bind fun y_8 => (if (decide ((0 : Int) < y_8)) then ((atI deck' (0 : Int)).bind fun y_16 => (gd (0 < many') (lt ((y_16 % many') : Int) fun x_22 => ((atI deck' (0 : Int)).bind fun y_26 => (gd (CDivW y_26 many') ((ixN (List.length deck') (0 : Int)).bind fun j_32 => (some (x_22, (List.set deck' j_32 (y_26 / many')))))))))) else (if (decide (((10 : Int) ^ ((6 : Int)).toNat) < many')) then ((m__law_draw fuel deck' ((10 : Int) ^ ((6 : Int)).toNat)).bind fun z_50 => (fun (y_47 : Int) (y_48 : List Int) => (gd (CDivW many' ((10 : Int) ^ ((6 : Int)).toNat)) ((m__law_draw fuel y_48 ((many' / ((10 : Int) ^ ((6 : Int)).toNat)) + (1 : Int))).bind fun z_64 => (fun (y_61 : Int) (y_62 : List Int) => (gd (CMul ((10 : Int) ^ ((6 : Int)).toNat) y_61) (gd (0 < many') (some (((y_47 + (((10 : Int) ^ ((6 : Int)).toNat) * y_61)) % many'), y_62))))) z_64.1 z_64.2))) z_50.1 z_50.2) else ((atI deck' (1 : Int)).bind fun y_76 => ((ixN (List.length deck') (1 : Int)).bind fun j_81 => ((atI (List.set deck' j_81 (((y_76 * (48271 : Int)) + (12345 : Int)) % (2147483647 : Int))) (1 : Int)).bind fun y_91 => ((atI (List.set deck' j_81 (((y_76 * (48271 : Int)) + (12345 : Int)) % (2147483647 : Int))) (1 : Int)).bind fun y_96 => (gd (CMul y_91 y_96) ((atI (List.set deck' j_81 (((y_76 * (48271 : Int)) + (12345 : Int)) % (2147483647 : Int))) (2 : Int)).bind fun y_102 => (lt ((((y_91 * y_96) + y_102) % (2147483629 : Int)) : Int) fun x_107 => (gd (CMul x_107 x_107) (gd (0 < many') (some (((((x_107 * x_107) % (2147483587 : Int)) / (8 : Int)) % many'), (List.set deck' j_81 (((y_76 * (48271 : Int)) + (12345 : Int)) % (2147483647 : Int))))))))))))))))) := rfl
def sp__law_draw (K : PySem.W.Frag) (fuel : Nat) : Sp := fun vs H Q _ => ∃ (G : Hp) (p_1 : Addr) (vs_2 : List V) (deck' : (List Int)) (many' : Int) (r : (Int × List Int)), vs = [.ref p_1, (.int many')] ∧ Ex G H ∧ H p_1 = some (.lst vs_2) ∧ G p_1 = none ∧ AL rI G vs_2 deck' ∧ m__law_draw fuel deck' many' = some r ∧ ∀ (G' H' : Hp), Stp [p_1] G G' H H' → ∀ vs8, H' p_1 = some (.lst vs8) → AL rI G' vs8 r.2 → Q (.int r.1) H'
theorem ok__law_draw (T : Env K mg) (fuel : Nat) : FnOk P w K mg base CX0 (fuel + 1) T.f__law_draw T.d__law_draw ["deck", "many"] (sp__law_draw K fuel) := by
  induction fuel with
  | zero =>
    refine T.F__law_draw.ok sc__law_draw (fun vs H Q E h => ?_) (fun cdv A outer s H0 vs Q E hr h => ?_)
    · obtain ⟨G0, p_1, vs_2, deck', many', r, rfl, _⟩ := h
      rfl
    · obtain ⟨G0, p_1, vs_2, deck', many', r, rfl, hG0, hp_3, gp_4, al_5, hm, k⟩ := h
      cases hm
  | succ fuel ih =>
    refine T.F__law_draw.ok sc__law_draw (fun vs H Q E h => ?_) (fun cdv A outer s H0 vs Q E hr h => ?_)
    · obtain ⟨G0, p_1, vs_2, deck', many', r, rfl, _⟩ := h
      rfl
    · obtain ⟨G0, p_1, vs_2, deck', many', r, rfl, hG0, hp_3, gp_4, al_5, hm, k⟩ := h
      have hu := hr.units
      have hu65 := hu65 hr
      have c0 := Cf.start1 hG0 hp_3 gp_4
      rw [m__law_draw_s] at hm
      refine ⟨_, (pss_cons (ps_if (pt_cmpR op_gt (pe_ix (ix_l (K := K) rfl) (pv 0) pe_int (fun _ _ => rfl)) pe_int (nomark _)) (pss_cons (ps_set (i := 2) sc__law_draw.nd rfl (by first | exact Or.inl rfl | exact Or.inr rfl) (pe_op op_mod (pe_callTy call_intI (by rfl) T.n_int bt_int (pa_cons (pe_ix (ix_l (K := K) rfl) (pv 0) pe_int (fun _ _ => rfl)) pa_nil)) (pv 1)))
        (pss_cons (ps_asg (pe_op op_fdivW (pe_ix (ix_l (K := K) rfl) (pv 0) pe_int (fun _ _ => rfl)) (pv 1)) (pg_sub (pv 0) pe_int set_list))
        (pss_one (ps_ret (pv 2))))) pss_nil)
        (pss_cons (ps_if (pt_cmpR op_gt (pv 1) (pe_op op_pow pe_int pe_int) (nomark _)) (pss_cons (ps_set (i := 3) sc__law_draw.nd rfl (by first | exact Or.inl rfl | exact Or.inr rfl) (pe_call ih (hr.mono (by omega)) (by rfl) T.g__law_draw T.F__law_draw.kp T.b__law_draw .nil pass0 (pa_cons (pv 0) (pa_cons (pe_op op_pow pe_int pe_int) pa_nil))))
        (pss_one (ps_ret (pe_op op_mod (pe_callTy call_intI (by rfl) T.n_int bt_int (pa_cons (pe_op op_add (pv 3) (pe_op op_mul (pe_op op_pow pe_int pe_int) (pe_call ih (hr.mono (by omega)) (by rfl) T.g__law_draw T.F__law_draw.kp T.b__law_draw .nil pass0 (pa_cons (pv 0) (pa_cons (pe_op op_add (pe_op op_fdivW (pv 1) (pe_op op_pow pe_int pe_int)) pe_int) pa_nil))))) pa_nil)) (pv 1))))) pss_nil)
        (pss_cons (ps_asg (pe_op op_mod (pe_callTy call_intI (by rfl) T.n_int bt_int (pa_cons (pe_op op_add (pe_op op_mul (pe_ix (ix_l (K := K) rfl) (pv 0) pe_int (fun _ _ => rfl)) pe_int) pe_int) pa_nil)) pe_int) (pg_sub (pv 0) pe_int set_list))
        (pss_cons (ps_set (i := 4) sc__law_draw.nd rfl (by first | exact Or.inl rfl | exact Or.inr rfl) (pe_op op_mod (pe_callTy call_intI (by rfl) T.n_int bt_int (pa_cons (pe_op op_add (pe_op op_mul (pe_ix (ix_l (K := K) rfl) (pv 0) pe_int (fun _ _ => rfl)) (pe_ix (ix_l (K := K) rfl) (pv 0) pe_int (fun _ _ => rfl))) (pe_ix (ix_l (K := K) rfl) (pv 0) pe_int (fun _ _ => rfl))) pa_nil)) pe_int))
        (pss_one (ps_ret (pe_op op_mod (pe_op op_fdiv (pe_op op_mod (pe_callTy call_intI (by rfl) T.n_int bt_int (pa_cons (pe_op op_mul (pv 4) (pv 4)) pa_nil)) pe_int) pe_int) (pv 1)))))))), ?_⟩
      refine q_if_opq (fun Q_6 kk_7 => ?_)
      obtain ⟨y_8, hb_9, hm⟩ := bs hm
      obtain ⟨v_10, hv_11, rv_12⟩ := at_l al_5 hb_9
      obtain rfl := (show v_10 = (.int y_8) from rv_12)
      refine ⟨_, rfl, _, _, _, _, rfl, rfl, (SqL.of (c0.get 0 rfl)), hv_11, _, _, rfl, rfl, _, rfl, ?_⟩
      refine kk_7 _ _ ?_
      refine ite_m hm (fun hc_13 hm => ?_) (fun hc_13 hm => ?_)
      · skip
        refine q_asg_opq (fun Q_14 kk_15 => ?_)
        obtain ⟨y_16, hb_17, hm⟩ := bs hm
        obtain ⟨v_18, hv_19, rv_20⟩ := at_l al_5 hb_17
        obtain rfl := (show v_18 = (.int y_16) from rv_20)
        obtain ⟨hg_21, hm⟩ := gdp hm
        obtain ⟨x_22, hl_23, hm⟩ := ltp hm
        refine ⟨_, rfl, _, _, _, _, rfl, rfl, (SqL.of (c0.get 0 rfl)), hv_19, _, rfl, _, rfl, _, _, rfl, rfl, hg_21, ?_⟩
        refine nmV (f := V.int) (P := fun v9 => Q_14 v9 _) hl_23 ?_
        refine kk_15 _ _ ?_
        refine q_asgS (fun Q_24 kk_25 => ?_)
        obtain ⟨y_26, hb_27, hm⟩ := bs hm
        obtain ⟨v_28, hv_29, rv_30⟩ := at_l al_5 hb_27
        obtain rfl := (show v_28 = (.int y_26) from rv_30)
        obtain ⟨hg_31, hm⟩ := gdp hm
        obtain ⟨j_32, hb_33, hm⟩ := bs hm
        refine ⟨_, rfl, _, _, _, _, rfl, rfl, (SqL.of (c0.get 0 rfl)), hv_29, _, rfl, _, _, rfl, rfl, hg_31, _, rfl, _, _, _, _, rfl, rfl, c0.hd, (by rw [A2.len al_5]; exact hb_33), ?_⟩
        obtain ⟨vs_36, hvs, al_37⟩ : ∃ vs9, vs9 = (List.set vs_2 j_32 (.int (y_26 / many'))) ∧ AL rI G0 vs9 (List.set deck' j_32 (y_26 / many')) := ⟨_, rfl, (A2.set j_32 al_5 rfl)⟩
        rw [← hvs]
        clear hvs
        have c_38 := c0.mut (.lst vs_36)
        generalize hh : upd H0 p_1 (.lst vs_36) = H_39 at c_38 ⊢
        clear hh
        refine kk_25 _ ?_
        refine ret_opq (fun Q_40 kk_41 => ?_)
        refine ⟨_, rfl, ?_⟩
        refine kk_41 _ _ ?_
        obtain rfl := some_in hm
        exact k G0 H_39 c_38.stp vs_36 (c_38.get 0 rfl) al_37
      · skip
        try dsimp only [tNext]
        refine q_if_opq (fun Q_42 kk_43 => ?_)
        refine ⟨_, rfl, _, _, rfl, rfl, ⟨by decide, by decide, by decide⟩, _, _, rfl, rfl, _, rfl, ?_⟩
        refine kk_43 _ _ ?_
        refine ite_m hm (fun hc_44 hm => ?_) (fun hc_44 hm => ?_)
        · skip
          refine q_asg_opq (fun Q_45 kk_46 => ?_)
          obtain ⟨⟨y_47, y_48⟩, hb_49, hm⟩ := bs hm
          dsimp only at hm
          refine ⟨_, rfl, _, _, rfl, rfl, ⟨by decide, by decide, by decide⟩, G0, p_1, vs_2, deck', ((10 : Int) ^ ((6 : Int)).toNat), (y_47, y_48), rfl, c0.gh, c0.hd, c0.hdg, al_5, hb_49, fun G_51 H_52 sp_53 vs_55 hs_56 al_57 => ?_⟩
          have c_54 := c0.call1 sp_53 hs_56
          refine kk_46 _ _ ?_
          refine ret_opq (fun Q_58 kk_59 => ?_)
          obtain ⟨hg_60, hm⟩ := gdp hm
          obtain ⟨⟨y_61, y_62⟩, hb_63, hm⟩ := bs hm
          dsimp only at hm
          refine ⟨_, rfl, _, _, rfl, rfl, ⟨by decide, by decide, by decide⟩, _, rfl, _, rfl, _, _, rfl, rfl, ⟨by decide, by decide, by decide⟩, _, _, rfl, rfl, hg_60, _, _, rfl, rfl, G_51, p_1, vs_55, y_48, ((many' / ((10 : Int) ^ ((6 : Int)).toNat)) + (1 : Int)), (y_61, y_62), rfl, c_54.gh, c_54.hd, c_54.hdg, al_57, hb_63, fun G_65 H_66 sp_67 vs_69 hs_70 al_71 => ?_⟩
          have c_68 := c_54.call1 sp_67 hs_70
          obtain ⟨hg_72, hm⟩ := gdp hm
          obtain ⟨hg_73, hm⟩ := gdp hm
          refine ⟨_, _, rfl, rfl, hg_72, _, _, rfl, rfl, _, rfl, _, rfl, _, _, rfl, rfl, hg_73, ?_⟩
          refine kk_59 _ _ ?_
          obtain rfl := some_in hm
          exact k G_65 H_66 c_68.stp vs_69 (c_68.get 0 rfl) al_71
        · skip
          try dsimp only [tNext]
          refine q_asgS (fun Q_74 kk_75 => ?_)
          obtain ⟨y_76, hb_77, hm⟩ := bs hm
          obtain ⟨v_78, hv_79, rv_80⟩ := at_l al_5 hb_77
          obtain rfl := (show v_78 = (.int y_76) from rv_80)
          obtain ⟨j_81, hb_82, hm⟩ := bs hm
          refine ⟨_, rfl, _, _, _, _, rfl, rfl, (SqL.of (c0.get 0 rfl)), hv_79, _, _, rfl, rfl, .inr ⟨by decide, by decide⟩, _, _, rfl, rfl, _, rfl, _, _, rfl, rfl, (by show (0 : Int) < 2147483647; decide), _, rfl, _, _, _, _, rfl, rfl, c0.hd, (by rw [A2.len al_5]; exact hb_82), ?_⟩
          obtain ⟨vs_85, hvs, al_86⟩ : ∃ vs9, vs9 = (List.set vs_2 j_81 (.int (((y_76 * (48271 : Int)) + (12345 : Int)) % (2147483647 : Int)))) ∧ AL rI G0 vs9 (List.set deck' j_81 (((y_76 * (48271 : Int)) + (12345 : Int)) % (2147483647 : Int))) := ⟨_, rfl, (A2.set j_81 al_5 rfl)⟩
          rw [← hvs]
          clear hvs
          have c_87 := c0.mut (.lst vs_85)
          generalize hh : upd H0 p_1 (.lst vs_85) = H_88 at c_87 ⊢
          clear hh
          refine kk_75 _ ?_
          refine q_asg_opq (fun Q_89 kk_90 => ?_)
          obtain ⟨y_91, hb_92, hm⟩ := bs hm
          obtain ⟨v_93, hv_94, rv_95⟩ := at_l al_86 hb_92
          obtain rfl := (show v_93 = (.int y_91) from rv_95)
          obtain ⟨y_96, hb_97, hm⟩ := bs hm
          obtain ⟨v_98, hv_99, rv_100⟩ := at_l al_86 hb_97
          obtain rfl := (show v_98 = (.int y_96) from rv_100)
          obtain ⟨hg_101, hm⟩ := gdp hm
          obtain ⟨y_102, hb_103, hm⟩ := bs hm
          obtain ⟨v_104, hv_105, rv_106⟩ := at_l al_86 hb_103
          obtain rfl := (show v_104 = (.int y_102) from rv_106)
          obtain ⟨x_107, hl_108, hm⟩ := ltp hm
          refine ⟨_, rfl, _, _, _, _, rfl, rfl, (SqL.of (c_87.get 0 rfl)), hv_94, _, rfl, _, _, _, _, rfl, rfl, (SqL.of (c_87.get 0 rfl)), hv_99, _, _, rfl, rfl, hg_101, _, rfl, _, _, _, _, rfl, rfl, (SqL.of (c_87.get 0 rfl)), hv_105, _, _, rfl, rfl, _, rfl, _, _, rfl, rfl, (by show (0 : Int) < 2147483629; decide), ?_⟩
          refine nmV (f := V.int) (P := fun v9 => Q_89 v9 _) hl_108 ?_
          refine kk_90 _ _ ?_
          refine ret_opq (fun Q_109 kk_110 => ?_)
          obtain ⟨hg_111, hm⟩ := gdp hm
          obtain ⟨hg_112, hm⟩ := gdp hm
          refine ⟨_, rfl, _, rfl, _, _, rfl, rfl, hg_111, _, rfl, _, _, rfl, rfl, (by show (0 : Int) < 2147483587; decide), _, _, rfl, rfl, ⟨by decide, by decide⟩, _, rfl, _, _, rfl, rfl, hg_112, ?_⟩
          refine kk_110 _ _ ?_
          obtain rfl := some_in hm
          exact k G0 H_88 c_87.stp vs_85 (c_87.get 0 rfl) al_86
theorem sc__law_is_integer : FnScope ["value"] ["value"] (defScope s__law_is_integer) := ⟨rfl, rfl, rfl, by decide +kernel, rfl, by decide +kernel, by decide +kernel⟩
def m__law_is_integer (value' : Int) : Option Bool :=
  some (true && (!false))
def sp__law_is_integer (K : PySem.W.Frag) : Sp := fun vs H Q _ => ∃ (G : Hp) (value' : Int) (r : Bool), vs = [(.int value')] ∧ Ex G H ∧ m__law_is_integer value' = some r ∧ ∀ (G' H' : Hp), Stp [] G G' H H' → Q (.bl r) H'
theorem ok__law_is_integer (T : Env K mg) : FnOk P w K mg base CX0 1 T.f__law_is_integer T.d__law_is_integer ["value"] (sp__law_is_integer K) := by
  refine T.F__law_is_integer.ok sc__law_is_integer (fun vs H Q E h => ?_) (fun cdv A outer s H0 vs Q E hr h => ?_)
  · obtain ⟨G0, value', r, rfl, _⟩ := h
    rfl
  · obtain ⟨G0, value', r, rfl, hG0, hm, k⟩ := h
    have hu := hr.units
    have hu65 := hu65 hr
    have c0 := Cf.start hG0
    unfold m__law_is_integer at hm
    refine ⟨_, (pss_one (ps_ret (pe_and (pe_callB (call_is (K := K) rfl) (by rfl) T.n_isinstance bt_isi (pa_cons (pv 0) (pa_cons (pe_bltn (v := .ty "int") (by rfl) T.n_int bt_int rfl) pa_nil))) (pe_one (pe_not (pe_callB (call_is (K := K) rfl) (by rfl) T.n_isinstance bt_isi (pa_cons (pv 0) (pa_cons (pe_bltn (v := .ty "bool") (by rfl) T.n_bool bt_bool rfl) pa_nil)))))))), ?_⟩
    refine ret_opq (fun Q_1 kk_2 => ?_)
    refine ⟨_, rfl, _, _, _, _, _, rfl, .ty _, ty_i, k_ii, _, rfl, ?_⟩
    refine andV_t (b := (!false)) (fun ha_5 q_4 => ?_) ?_
    · skip
      refine ⟨_, rfl, _, _, _, _, _, rfl, .ty _, ty_i, k_ib, _, rfl, ?_⟩
      exact q_4
    refine kk_2 _ _ ?_
    obtain rfl := some_in hm
    exact k G0 H0 c0.stp
theorem sc__law_same_list : FnScope ["value", "due", "k"] ["value", "due"] (defScope s__law_same_list) := ⟨rfl, rfl, rfl, by decide +kernel, rfl, by decide +kernel, by decide +kernel⟩
def m__law_same_list (value' : (List Int)) (due' : (List Int)) : Option Bool :=
  if ((!true) || (!(decide (((List.length value' : Nat) : Int) = ((List.length due' : Nat) : Int))))) then (some false) else (gd (rok ((List.length due' : Nat) : Int)) (gd (List.length (rng (0 : Int) ((List.length due' : Nat) : Int)) < BIG) ((lcm (fun (y_38 : Int) => (atI value' y_38).bind fun y_54 => ((m__law_is_integer y_54).bind fun y_59 => ((pAnd y_59 ((atI value' y_38).bind fun y_66 => ((atI due' y_38).bind fun y_71 => (some (decide (y_66 = y_71)))))).bind fun b_78 => (some b_78)))) (rng (0 : Int) ((List.length due' : Nat) : Int))).bind fun xs_28 => (some (List.all xs_28 id)))))
def sp__law_same_list (K : PySem.W.Frag) : Sp := fun vs H Q _ => ∃ (G : Hp) (a_1 : Addr) (vs_2 : List V) (value' : (List Int)) (a_5 : Addr) (vs_6 : List V) (due' : (List Int)) (r : Bool), vs = [.ref a_1, .ref a_5] ∧ Ex G H ∧ SqB [] H a_1 vs_2 ∧ AL rI G vs_2 value' ∧ SqB [] H a_5 vs_6 ∧ AL rI G vs_6 due' ∧ m__law_same_list value' due' = some r ∧ ∀ (G' H' : Hp), Stp [] G G' H H' → Q (.bl r) H'
theorem ok__law_same_list (T : Env K mg) : FnOk P w K mg base CX0 2 T.f__law_same_list T.d__law_same_list ["value", "due"] (sp__law_same_list K) := by
  refine T.F__law_same_list.ok sc__law_same_list (fun vs H Q E h => ?_) (fun cdv A outer s H0 vs Q E hr h => ?_)
  · obtain ⟨G0, a_1, vs_2, value', a_5, vs_6, due', r, rfl, _⟩ := h
    rfl
  · obtain ⟨G0, a_1, vs_2, value', a_5, vs_6, due', r, rfl, hG0, sq_3, al_4, sq_7, al_8, hm, k⟩ := h
    have hu := hr.units
    have hu65 := hu65 hr
    have c0 := Cf.start hG0
    unfold m__law_same_list at hm
    refine ⟨_, (pss_cons (ps_if (PW.pt (pw_or (pt_not (pt_val (pe_callB (call_is (K := K) rfl) (by rfl) T.n_isinstance bt_isi (pa_cons (pv 0) (pa_cons (pe_bltn (v := .ty "list") (by rfl) T.n_list bt_list rfl) pa_nil))))) (pw_or1 (pt_cmpR op_neI (pe_callB call_lenL (by rfl) T.n_len bt_len (pa_cons (pv 0) pa_nil)) (pe_callB call_lenL (by rfl) T.n_len bt_len (pa_cons (pv 1) pa_nil)) (nomark _))))) (pss_one (ps_ret pe_bl)) pss_nil)
      (pss_one (ps_ret (pe_callB (call_allB rfl) (by rfl) T.n_all bt_all (pa_cons (pe_lc (own := [("k", 2)]) (g := gName 2) (tt := tYes)  rfl sc__law_same_list.nd (pi_range1 (by rfl) T.n_range (pa_cons (pe_callB call_lenL (by rfl) T.n_len bt_len (pa_cons (pv 1) pa_nil)) pa_nil)) (blkOk_by (own := [("k", 2)]) (N := ["value", "due", "k"]) (sc := defScope s__law_same_list) (by decide +kernel)) (fun _ _ _ _ _ => (pg_name (i := 2) sc__law_same_list.nd rfl (by first | exact Or.inl rfl | exact Or.inr rfl))) (fun _ _ _ _ _ => pts_nil) (fun _ _ _ _ _ => (pe_and (pe_call (ok__law_is_integer T) (hr.mono (by decide)) (by rfl) T.g__law_is_integer T.F__law_is_integer.kp T.b__law_is_integer .nil pass0 (pa_cons (pe_ix (ix_l (K := K) rfl) (pv 0) (pv 2) (fun _ _ => rfl)) pa_nil)) (pe_one (pe_cmpR op_eqI (pe_ix (ix_l (K := K) rfl) (pv 0) (pv 2) (fun _ _ => rfl)) (pe_ix (ix_l (K := K) rfl) (pv 1) (pv 2) (fun _ _ => rfl)) (nomark _)))))) pa_nil))))), ?_⟩
    refine q_if_opq (fun Q_9 kk_10 => ?_)
    refine ⟨_, rfl, _, _, _, _, _, rfl, .ty _, (ty_l (SqL.of (sq_3.at c0))), k_ll, _, rfl, ?_⟩
    refine or_t (b := (!(decide (((List.length value' : Nat) : Int) = ((List.length due' : Nat) : Int))))) (fun ha_13 q_12 => ?_) ?_
    · skip
      refine ⟨_, rfl, _, _, (List.length value'), rfl, (sq_3.at c0), (A2.len al_4), _, rfl, _, _, (List.length due'), rfl, (sq_7.at c0), (A2.len al_8), _, _, rfl, rfl, _, rfl, ?_⟩
      exact q_12
    refine kk_10 _ _ ?_
    refine ite_m hm (fun hc_14 hm => ?_) (fun hc_14 hm => ?_)
    · skip
      refine ret_opq (fun Q_15 kk_16 => ?_)
      refine kk_16 _ _ ?_
      obtain rfl := some_in hm
      exact k G0 H0 c0.stp
    · skip
      try dsimp only [tNext]
      refine ret_opq (fun Q_17 kk_18 => ?_)
      obtain ⟨hg_19, hm⟩ := gdp hm
      obtain ⟨hg_20, hm⟩ := gdp hm
      refine ⟨_, rfl, _, _, (List.length due'), rfl, (sq_7.at c0), (A2.len al_8), _, rfl, hg_19.1, hg_19.2, fun D_21 nD_22 => ?_⟩
      have c_23 := c0.newO nD_22 (.lst [])
      obtain ⟨out_30, hb_31, hm⟩ := bs hm
      refine lc_w walk_range (rng (0 : Int) ((List.length due' : Nat) : Int)) (by rw [rng_len]; omega) (fun l_37 H_39 => ∃ (G_24 : Hp) (vs_27 : List V) (xs_28 : (List Bool)), Ex G0 G_24 ∧ Cf [] H0 G0 G_24 [(D_21, (.lst vs_27))] H_39 ∧ AL rB G_24 vs_27 xs_28 ∧ List.length xs_28 + List.length l_37 < BIG ∧ ∃ rest_33, lcm (fun (y_38 : Int) => (atI value' y_38).bind fun y_54 => ((m__law_is_integer y_54).bind fun y_59 => ((pAnd y_59 ((atI value' y_38).bind fun y_66 => ((atI due' y_38).bind fun y_71 => (some (decide (y_66 = y_71)))))).bind fun b_78 => (some b_78)))) l_37 = some rest_33 ∧ xs_28 ++ rest_33 = out_30)
        ⟨G0, [], ([] : List Bool), Ex.refl _, c_23, A2.nil, ⟨by simpa using hg_20, out_30, hb_31, rfl⟩⟩
        (fun l_37 H_39 hI => by
          obtain ⟨G_24, vs_27, xs_28, eg_25, c_26, al_29, ⟨hlen_36, rest_33, hf_34, hout_35⟩⟩ := hI
          exact True.intro)
        (fun i_41 y_38 l_37 H_39 v_42 H_45 hx_43 hI hy_44 => ?_) (fun H_39 hI => ?_)
      · obtain ⟨G_24, vs_27, xs_28, eg_25, c_26, al_29, ⟨hlen_36, rest_33, hf_34, hout_35⟩⟩ := hI
        obtain ⟨z_46, rest_47, hq_40, hf_48, ho_49⟩ := lcm_cons hf_34
        try dsimp only at hq_40
        obtain ⟨rfl, hv_51⟩ := hy_44
        obtain rfl : v_42 = .int y_38 := hv_51.trans (congrArg V.int (rng_get hx_43).symm)
        refine ⟨rfl, ?_⟩
        refine yes_q ?_
        refine opqV (fun Q_52 kk_53 => ?_)
        obtain ⟨y_54, hb_55, hq_40⟩ := bs hq_40
        obtain ⟨v_56, hv_57, rv_58⟩ := at_l (AL.mono eg_25 al_4) hb_55
        obtain rfl := (show v_56 = (.int y_54) from rv_58)
        obtain ⟨y_59, hb_60, hq_40⟩ := bs hq_40
        refine ⟨_, rfl, _, rfl, _, _, _, _, rfl, rfl, (SqL.of (sq_3.at c_26)), hv_57, G_24, y_54, y_59, rfl, c_26.gh, hb_60, fun G_61 H_62 sp_63 => ?_⟩
        have c_64 := c_26.call sp_63
        refine ⟨_, rfl, ?_⟩
        obtain ⟨b_78, hb_79, hq_40⟩ := bs hq_40
        refine andV_r hb_79 (fun ha_77 hq_65 q_76 => ?_) ?_
        · skip
          obtain ⟨y_66, hb_67, hq_65⟩ := bs hq_65
          obtain ⟨v_68, hv_69, rv_70⟩ := at_l (AL.mono (eg_25.trans sp_63.gg) al_4) hb_67
          obtain rfl := (show v_68 = (.int y_66) from rv_70)
          obtain ⟨y_71, hb_72, hq_65⟩ := bs hq_65
          obtain ⟨v_73, hv_74, rv_75⟩ := at_l (AL.mono (eg_25.trans sp_63.gg) al_8) hb_72
          obtain rfl := (show v_73 = (.int y_71) from rv_75)
          refine ⟨_, rfl, _, rfl, _, _, _, _, rfl, rfl, (SqL.of (sq_3.at c_64)), hv_69, _, rfl, _, rfl, _, _, _, _, rfl, rfl, (SqL.of (sq_7.at c_64)), hv_74, _, _, rfl, rfl, ?_⟩
          obtain rfl := some_in hq_65
          exact q_76
        refine kk_53 _ _ ?_
        refine ⟨_, c_64.hd, big_lt (by have h9 := hlen_36; have h8 := A2.len (AL.mono sp_63.gg al_29); simp only [List.length_cons] at h9; omega), ?_⟩
        obtain ⟨vs_80, hvs, al_81⟩ : ∃ vs9, vs9 = (vs_27 ++ [(.bl b_78)]) ∧ AL rB G_61 vs9 (xs_28 ++ [b_78]) := ⟨_, rfl, (A2.app (AL.mono sp_63.gg al_29) (A2.one rfl))⟩
        rw [← hvs]
        clear hvs
        have c_82 := c_64.mut (.lst vs_80)
        generalize hh : upd H_62 D_21 (.lst vs_80) = H_83 at c_82 ⊢
        clear hh
        obtain rfl := some_in hq_40
        exact ⟨G_61, vs_80, (xs_28 ++ [b_78]), (eg_25.trans sp_63.gg), c_82, al_81, ⟨by have h9 := hlen_36; simp only [List.length_append, List.length_cons, List.length_nil] at h9 ⊢; first | done | omega, rest_47, hf_48, by rw [← hout_35, ho_49]; first | done | simp⟩⟩
      obtain ⟨G_24, vs_27, xs_28, eg_25, c_26, al_29, ⟨hlen_36, rest_33, hf_34, hout_35⟩⟩ := hI
      obtain rfl := some_in hf_34
      rw [List.append_nil] at hout_35
      subst hout_35
      refine ⟨_, _, xs_28, rfl, (c_26.get 0 rfl), AL.mono c_26.gh al_29, ?_⟩
      refine kk_18 _ _ ?_
      obtain rfl := some_in hm
      exact k G_24 H_39 c_26.stp
theorem sc__law_same_rows : FnScope ["value", "due", "k"] ["value", "due"] (defScope s__law_same_rows) := ⟨rfl, rfl, rfl, by decide +kernel, rfl, by decide +kernel, by decide +kernel⟩
def m__law_same_rows (value' : (List (List Int))) (due' : (List (List Int))) : Option Bool :=
  if ((!true) || (!(decide (((List.length value' : Nat) : Int) = ((List.length due' : Nat) : Int))))) then (some false) else (gd (rok ((List.length due' : Nat) : Int)) (gd (List.length (rng (0 : Int) ((List.length due' : Nat) : Int)) < BIG) ((lcm (fun (y_38 : Int) => (atI value' y_38).bind fun y_54 => ((atI due' y_38).bind fun y_59 => ((m__law_same_list y_54 y_59).bind fun y_64 => (some y_64)))) (rng (0 : Int) ((List.length due' : Nat) : Int))).bind fun xs_28 => (some (List.all xs_28 id)))))
def sp__law_same_rows (K : PySem.W.Frag) : Sp := fun vs H Q _ => ∃ (G : Hp) (a_1 : Addr) (vs_2 : List V) (value' : (List (List Int))) (a_5 : Addr) (vs_6 : List V) (due' : (List (List Int))) (r : Bool), vs = [.ref a_1, .ref a_5] ∧ Ex G H ∧ SqB [] H a_1 vs_2 ∧ AL (rL rI) G vs_2 value' ∧ SqB [] H a_5 vs_6 ∧ AL (rL rI) G vs_6 due' ∧ m__law_same_rows value' due' = some r ∧ ∀ (G' H' : Hp), Stp [] G G' H H' → Q (.bl r) H'
theorem ok__law_same_rows (T : Env K mg) : FnOk P w K mg base CX0 3 T.f__law_same_rows T.d__law_same_rows ["value", "due"] (sp__law_same_rows K) := by
  refine T.F__law_same_rows.ok sc__law_same_rows (fun vs H Q E h => ?_) (fun cdv A outer s H0 vs Q E hr h => ?_)
  · obtain ⟨G0, a_1, vs_2, value', a_5, vs_6, due', r, rfl, _⟩ := h
    rfl
  · obtain ⟨G0, a_1, vs_2, value', a_5, vs_6, due', r, rfl, hG0, sq_3, al_4, sq_7, al_8, hm, k⟩ := h
    have hu := hr.units
    have hu65 := hu65 hr
    have c0 := Cf.start hG0
    unfold m__law_same_rows at hm
    refine ⟨_, (pss_cons (ps_if (PW.pt (pw_or (pt_not (pt_val (pe_callB (call_is (K := K) rfl) (by rfl) T.n_isinstance bt_isi (pa_cons (pv 0) (pa_cons (pe_bltn (v := .ty "list") (by rfl) T.n_list bt_list rfl) pa_nil))))) (pw_or1 (pt_cmpR op_neI (pe_callB call_lenL (by rfl) T.n_len bt_len (pa_cons (pv 0) pa_nil)) (pe_callB call_lenL (by rfl) T.n_len bt_len (pa_cons (pv 1) pa_nil)) (nomark _))))) (pss_one (ps_ret pe_bl)) pss_nil)
      (pss_one (ps_ret (pe_callB (call_allB rfl) (by rfl) T.n_all bt_all (pa_cons (pe_lc (own := [("k", 2)]) (g := gName 2) (tt := tYes)  rfl sc__law_same_rows.nd (pi_range1 (by rfl) T.n_range (pa_cons (pe_callB call_lenL (by rfl) T.n_len bt_len (pa_cons (pv 1) pa_nil)) pa_nil)) (blkOk_by (own := [("k", 2)]) (N := ["value", "due", "k"]) (sc := defScope s__law_same_rows) (by decide +kernel)) (fun _ _ _ _ _ => (pg_name (i := 2) sc__law_same_rows.nd rfl (by first | exact Or.inl rfl | exact Or.inr rfl))) (fun _ _ _ _ _ => pts_nil) (fun _ _ _ _ _ => (pe_call (ok__law_same_list T) (hr.mono (by decide)) (by rfl) T.g__law_same_list T.F__law_same_list.kp T.b__law_same_list .nil pass0 (pa_cons (pe_ix (ix_l (K := K) rfl) (pv 0) (pv 2) (fun _ _ => rfl)) (pa_cons (pe_ix (ix_l (K := K) rfl) (pv 1) (pv 2) (fun _ _ => rfl)) pa_nil))))) pa_nil))))), ?_⟩
    refine q_if_opq (fun Q_9 kk_10 => ?_)
    refine ⟨_, rfl, _, _, _, _, _, rfl, .ty _, (ty_l (SqL.of (sq_3.at c0))), k_ll, _, rfl, ?_⟩
    refine or_t (b := (!(decide (((List.length value' : Nat) : Int) = ((List.length due' : Nat) : Int))))) (fun ha_13 q_12 => ?_) ?_
    · skip
      refine ⟨_, rfl, _, _, (List.length value'), rfl, (sq_3.at c0), (A2.len al_4), _, rfl, _, _, (List.length due'), rfl, (sq_7.at c0), (A2.len al_8), _, _, rfl, rfl, _, rfl, ?_⟩
      exact q_12
    refine kk_10 _ _ ?_
    refine ite_m hm (fun hc_14 hm => ?_) (fun hc_14 hm => ?_)
    · skip
      refine ret_opq (fun Q_15 kk_16 => ?_)
      refine kk_16 _ _ ?_
      obtain rfl := some_in hm
      exact k G0 H0 c0.stp
    · skip
      try dsimp only [tNext]
      refine ret_opq (fun Q_17 kk_18 => ?_)
      obtain ⟨hg_19, hm⟩ := gdp hm
      obtain ⟨hg_20, hm⟩ := gdp hm
      refine ⟨_, rfl, _, _, (List.length due'), rfl, (sq_7.at c0), (A2.len al_8), _, rfl, hg_19.1, hg_19.2, fun D_21 nD_22 => ?_⟩
      have c_23 := c0.newO nD_22 (.lst [])
      obtain ⟨out_30, hb_31, hm⟩ := bs hm
      refine lc_w walk_range (rng (0 : Int) ((List.length due' : Nat) : Int)) (by rw [rng_len]; omega) (fun l_37 H_39 => ∃ (G_24 : Hp) (vs_27 : List V) (xs_28 : (List Bool)), Ex G0 G_24 ∧ Cf [] H0 G0 G_24 [(D_21, (.lst vs_27))] H_39 ∧ AL rB G_24 vs_27 xs_28 ∧ List.length xs_28 + List.length l_37 < BIG ∧ ∃ rest_33, lcm (fun (y_38 : Int) => (atI value' y_38).bind fun y_54 => ((atI due' y_38).bind fun y_59 => ((m__law_same_list y_54 y_59).bind fun y_64 => (some y_64)))) l_37 = some rest_33 ∧ xs_28 ++ rest_33 = out_30)
        ⟨G0, [], ([] : List Bool), Ex.refl _, c_23, A2.nil, ⟨by simpa using hg_20, out_30, hb_31, rfl⟩⟩
        (fun l_37 H_39 hI => by
          obtain ⟨G_24, vs_27, xs_28, eg_25, c_26, al_29, ⟨hlen_36, rest_33, hf_34, hout_35⟩⟩ := hI
          exact True.intro)
        (fun i_41 y_38 l_37 H_39 v_42 H_45 hx_43 hI hy_44 => ?_) (fun H_39 hI => ?_)
      · obtain ⟨G_24, vs_27, xs_28, eg_25, c_26, al_29, ⟨hlen_36, rest_33, hf_34, hout_35⟩⟩ := hI
        obtain ⟨z_46, rest_47, hq_40, hf_48, ho_49⟩ := lcm_cons hf_34
        try dsimp only at hq_40
        obtain ⟨rfl, hv_51⟩ := hy_44
        obtain rfl : v_42 = .int y_38 := hv_51.trans (congrArg V.int (rng_get hx_43).symm)
        refine ⟨rfl, ?_⟩
        refine yes_q ?_
        refine opqV (fun Q_52 kk_53 => ?_)
        obtain ⟨y_54, hb_55, hq_40⟩ := bs hq_40
        obtain ⟨v_56, hv_57, rv_58⟩ := at_l (AL.mono eg_25 al_4) hb_55
        obtain ⟨y_59, hb_60, hq_40⟩ := bs hq_40
        obtain ⟨v_61, hv_62, rv_63⟩ := at_l (AL.mono eg_25 al_8) hb_60
        obtain ⟨y_64, hb_65, hq_40⟩ := bs hq_40
        obtain ⟨a_66, vs_67, rfl, sq_68, al_69⟩ := rv_58
        obtain ⟨a_70, vs_71, rfl, sq_72, al_73⟩ := rv_63
        refine ⟨_, rfl, _, rfl, _, _, _, _, rfl, rfl, (SqL.of (sq_3.at c_26)), hv_57, _, rfl, _, rfl, _, _, _, _, rfl, rfl, (SqL.of (sq_7.at c_26)), hv_62, G_24, a_66, vs_67, y_54, a_70, vs_71, y_59, y_64, rfl, c_26.gh, (SqB.of (c_26.gh _ _ sq_68)), al_69, (SqB.of (c_26.gh _ _ sq_72)), al_73, hb_65, fun G_74 H_75 sp_76 => ?_⟩
        have c_77 := c_26.call sp_76
        refine kk_53 _ _ ?_
        refine ⟨_, c_77.hd, big_lt (by have h9 := hlen_36; have h8 := A2.len (AL.mono sp_76.gg al_29); simp only [List.length_cons] at h9; omega), ?_⟩
        obtain ⟨vs_78, hvs, al_79⟩ : ∃ vs9, vs9 = (vs_27 ++ [(.bl y_64)]) ∧ AL rB G_74 vs9 (xs_28 ++ [y_64]) := ⟨_, rfl, (A2.app (AL.mono sp_76.gg al_29) (A2.one rfl))⟩
        rw [← hvs]
        clear hvs
        have c_80 := c_77.mut (.lst vs_78)
        generalize hh : upd H_75 D_21 (.lst vs_78) = H_81 at c_80 ⊢
        clear hh
        obtain rfl := some_in hq_40
        exact ⟨G_74, vs_78, (xs_28 ++ [y_64]), (eg_25.trans sp_76.gg), c_80, al_79, ⟨by have h9 := hlen_36; simp only [List.length_append, List.length_cons, List.length_nil] at h9 ⊢; first | done | omega, rest_47, hf_48, by rw [← hout_35, ho_49]; first | done | simp⟩⟩
      obtain ⟨G_24, vs_27, xs_28, eg_25, c_26, al_29, ⟨hlen_36, rest_33, hf_34, hout_35⟩⟩ := hI
      obtain rfl := some_in hf_34
      rw [List.append_nil] at hout_35
      subst hout_35
      refine ⟨_, _, xs_28, rfl, (c_26.get 0 rfl), AL.mono c_26.gh al_29, ?_⟩
      refine kk_18 _ _ ?_
      obtain rfl := some_in hm
      exact k G_24 H_39 c_26.stp
theorem sc__law_text : FnScope ["web", "words", "ties", "word", "other"] ["web"] (defScope s__law_text) := ⟨rfl, rfl, rfl, by decide +kernel, rfl, by decide +kernel, by decide +kernel⟩
def m__law_text (web' : (List (List Int))) : Option Str :=
  (lp (fun (y_22 : (List Int)) => fun (s_25 : ((List Str))) => (fun (xs_15 : (List Str)) => (((if (!(decide (y_22 = ([] : List Int)))) then (gd (List.length y_22 < BIG) ((lcm (fun (y_80 : Int) => gd (sOk y_80) (some (sI y_80))) y_22).bind fun xs_70 => (gd (jOk ("," : Str) xs_70) (lt ((Txt.join ("," : Str) xs_70) : Str) fun x_105 => (some (x_105)))))) else (some (("-" : Str)))) : Option (Str))).bind fun (s_117 : (Str)) => (fun (x_44 : Str) => (gd (List.length xs_15 < BIG) (some ((xs_15 ++ [x_44]))))) s_117) s_25) web' (([] : List Str))).bind fun (s_133 : ((List Str))) => (fun (xs_15 : (List Str)) => (gd (Eqd.ok (eqdL eqdS) xs_15 = true) (gd (Eqd.ok (eqdL eqdS) ([] : List Str) = true) (if (decide (xs_15 = ([] : List Str))) then (some ("." : Str)) else (gd (jOk (" " : Str) xs_15) (some (Txt.join (" " : Str) xs_15))))))) s_133
def sp__law_text (K : PySem.W.Frag) : Sp := fun vs H Q _ => ∃ (G : Hp) (a_1 : Addr) (vs_2 : List V) (web' : (List (List Int))) (r : Str), vs = [.ref a_1] ∧ Ex G H ∧ SqB [] H a_1 vs_2 ∧ AL (rL rI) G vs_2 web' ∧ m__law_text web' = some r ∧ ∀ (G' H' : Hp), Stp [] G G' H H' → Q (.str r) H'
theorem ok__law_text (T : Env K mg) : FnOk P w K mg base CX0 1 T.f__law_text T.d__law_text ["web"] (sp__law_text K) := by
  refine T.F__law_text.ok sc__law_text (fun vs H Q E h => ?_) (fun cdv A outer s H0 vs Q E hr h => ?_)
  · obtain ⟨G0, a_1, vs_2, web', r, rfl, _⟩ := h
    rfl
  · obtain ⟨G0, a_1, vs_2, web', r, rfl, hG0, sq_3, al_4, hm, k⟩ := h
    have hu := hr.units
    have hu65 := hu65 hr
    have c0 := Cf.start hG0
    unfold m__law_text at hm
    refine ⟨_, (pss_cons (ps_set (i := 1) sc__law_text.nd rfl (by first | exact Or.inl rfl | exact Or.inr rfl) (pe_lst pa_nil))
      (pss_cons (ps_for PassesOwn.never rfl (pi_list (pv 0)) (pg_name (i := 2) sc__law_text.nd rfl (by first | exact Or.inl rfl | exact Or.inr rfl)) (pss_cons (ps_set (i := 3) sc__law_text.nd rfl (by first | exact Or.inl rfl | exact Or.inr rfl) pe_str)
      (Evl.pss_cut (ps_if (pt_cmpR (op_neT hu (eqdL eqdI) (by decide)) (pv 2) (pe_lst pa_nil) (nomark _)) (pss_one (ps_set (i := 3) sc__law_text.nd rfl (by first | exact Or.inl rfl | exact Or.inr rfl) (pe_join pe_str (pe_lc (own := [("other", 4)]) (g := gName 4) (tt := tYes)  rfl sc__law_text.nd (pi_list (pv 2)) (blkOk_by (own := [("other", 4)]) (N := ["web", "words", "ties", "word", "other"]) (sc := defScope s__law_text) (by decide +kernel)) (fun _ _ _ _ _ => (pg_name (i := 4) sc__law_text.nd rfl (by first | exact Or.inl rfl | exact Or.inr rfl))) (fun _ _ _ _ _ => pts_nil) (fun _ _ _ _ _ => (pe_callTy call_strI (by rfl) T.n_str bt_str (pa_cons (pv 4) pa_nil))))))) pss_nil)
      (pss_one (ps_expr (pe_bm PySem.F.plainAttrs_list PySem.F.slot_list_append PySem.F.type_list_append mt_append (pv 1) (pa_cons (pv 3) pa_nil)))))))
      (pss_cons (ps_if (pt_cmpR (op_eqT hu (eqdL eqdS) (by decide)) (pv 1) (pe_lst pa_nil) (nomark _)) (pss_one (ps_ret pe_str)) pss_nil)
      (pss_one (ps_ret (pe_join pe_str (pv 1))))))), ?_⟩
    refine q_asg_opq (fun Q_5 kk_6 => ?_)
    refine ⟨(Nat.zero_le _), fun p_7 np_8 => ?_⟩
    have c_9 := c0.newO np_8 (.lst [])
    generalize hh : upd H0 p_7 (.lst []) = H_10 at c_9 ⊢
    clear hh
    refine kk_6 _ _ ?_
    refine ⟨_, rfl, _, rfl, ⟨_, SqL.of (sq_3.at c_9)⟩, ?_⟩
    obtain ⟨o_19, ho_20, hm⟩ := bs hm
    refine for_w (walk_list (xs := vs_2)) web' (A2.len al_4) (fun l_21 σ_23 H_24 => ∃ (G_11 : Hp) (vs_14 : List V) (xs_15 : (List Str)) (o_17 : Option V) (o_18 : Option V), σ_23 = [(some (.ref a_1)), (some (.ref p_7)), o_17, o_18, none] ∧ Ex G0 G_11 ∧ Cf [] H0 G0 G_11 [(p_7, (.lst vs_14))] H_24 ∧ AL rS G_11 vs_14 xs_15 ∧ lp (fun (y_22 : (List Int)) => fun (s_25 : ((List Str))) => (fun (xs_15 : (List Str)) => (((if (!(decide (y_22 = ([] : List Int)))) then (gd (List.length y_22 < BIG) ((lcm (fun (y_80 : Int) => gd (sOk y_80) (some (sI y_80))) y_22).bind fun xs_70 => (gd (jOk ("," : Str) xs_70) (lt ((Txt.join ("," : Str) xs_70) : Str) fun x_105 => (some (x_105)))))) else (some (("-" : Str)))) : Option (Str))).bind fun (s_117 : (Str)) => (fun (x_44 : Str) => (gd (List.length xs_15 < BIG) (some ((xs_15 ++ [x_44]))))) s_117) s_25) l_21 (xs_15) = some o_19)
      ⟨G0, [], ([] : List Str), none, none, rfl, Ex.refl _, c_9, A2.nil, ho_20⟩
      (fun l_21 σ_23 H_24 hI => by
        obtain ⟨G_11, vs_14, xs_15, o_17, o_18, rfl, eg_12, c_13, al_16, ho_20⟩ := hI
        exact (SqL.of (sq_3.at c_13)))
      (fun i_31 y_22 l_21 σ_23 H_24 v_28 H_32 hx_29 hI hy_30 => ?_) (fun σ_23 H_24 hI => ?_)
    · obtain ⟨G_11, vs_14, xs_15, o_17, o_18, rfl, eg_12, c_13, al_16, ho_20⟩ := hI
      obtain ⟨so_33, hf_26, hgo_27⟩ := lp_cons ho_20
      try dsimp only at hf_26
      obtain ⟨rfl, hv_34⟩ := hy_30
      obtain ⟨v_35, hv_36, rv_37⟩ := A2.get al_4 hx_29
      obtain rfl := Option.some.inj (hv_34.symm.trans hv_36)
      refine q_asg_opq (fun Q_39 kk_40 => ?_)
      refine kk_40 _ _ ?_
      obtain ⟨s_45, hs_46, hf_26⟩ := bs hf_26
      refine ⟨(fun σ_47 H_48 => ∃ (G_41 : Hp) (x_44 : Str), σ_47 = [(some (.ref a_1)), (some (.ref p_7)), (some v_28), (some (.str x_44)), none] ∧ Ex G_11 G_41 ∧ Cf [] H0 G0 G_41 [(p_7, (.lst vs_14))] H_48 ∧ (x_44) = s_45), ?_, ?_⟩
      · skip
        refine if_opq (fun Q_49 kk_50 => ?_)
        refine ⟨_, rfl, (Nat.zero_le _), fun p_51 np_52 => ?_⟩
        have c_53 := c_13.newO np_52 (.lst [])
        generalize hh : upd H_32 p_51 (.lst []) = H_54 at c_53 ⊢
        clear hh
        obtain ⟨a_55, vs_56, rfl, sq_57, al_58⟩ := ((rL rI).mono eg_12 rv_37)
        refine ⟨_, _, ⟨a_55, vs_56, rfl, (c_53.gh _ _ sq_57), AL.mono c_53.gh al_58⟩, ⟨p_51, [], rfl, (c_53.get 0 rfl), AL.mono c_53.gh A2.nil⟩, (okI _), (okI _), _, rfl, ?_⟩
        refine kk_50 _ _ ?_
        refine ite_m hs_46 (fun hc_59 hs_46 => ?_) (fun hc_59 hs_46 => ?_)
        · skip
          refine asg_opq (fun Q_60 kk_61 => ?_)
          obtain ⟨hg_62, hs_46⟩ := gdp hs_46
          refine ⟨⟨_, rfl⟩, _, rfl, _, rfl, ⟨_, SqL.of (c_53.gh _ _ sq_57)⟩, fun D_63 nD_64 => ?_⟩
          have c_65 := c_53.newO nD_64 (.lst [])
          obtain ⟨out_72, hb_73, hs_46⟩ := bs hs_46
          refine lc_w (walk_list (xs := vs_56)) y_22 (A2.len al_58) (fun l_79 H_81 => ∃ (G_66 : Hp) (vs_69 : List V) (xs_70 : (List Str)), Ex G_11 G_66 ∧ Cf [] H0 G0 G_66 [(D_63, (.lst vs_69)), (p_51, (.lst [])), (p_7, (.lst vs_14))] H_81 ∧ AL rS G_66 vs_69 xs_70 ∧ List.length xs_70 + List.length l_79 < BIG ∧ ∃ rest_75, lcm (fun (y_80 : Int) => gd (sOk y_80) (some (sI y_80))) l_79 = some rest_75 ∧ xs_70 ++ rest_75 = out_72)
            ⟨G_11, [], ([] : List Str), Ex.refl _, c_65, A2.nil, ⟨by simpa using hg_62, out_72, hb_73, rfl⟩⟩
            (fun l_79 H_81 hI => by
              obtain ⟨G_66, vs_69, xs_70, eg_67, c_68, al_71, ⟨hlen_78, rest_75, hf_76, hout_77⟩⟩ := hI
              exact (SqL.of (c_68.gh _ _ (eg_67 _ _ sq_57))))
            (fun i_83 y_80 l_79 H_81 v_84 H_87 hx_85 hI hy_86 => ?_) (fun H_81 hI => ?_)
          · obtain ⟨G_66, vs_69, xs_70, eg_67, c_68, al_71, ⟨hlen_78, rest_75, hf_76, hout_77⟩⟩ := hI
            obtain ⟨z_88, rest_89, hq_82, hf_90, ho_91⟩ := lcm_cons hf_76
            try dsimp only at hq_82
            obtain ⟨rfl, hv_93⟩ := hy_86
            obtain ⟨v_94, hv_95, rv_96⟩ := A2.get al_58 hx_85
            obtain rfl := Option.some.inj (hv_93.symm.trans hv_95)
            obtain rfl := (show v_84 = (.int y_80) from rv_96)
            refine ⟨rfl, ?_⟩
            refine yes_q ?_
            refine opqV (fun Q_97 kk_98 => ?_)
            obtain ⟨hg_99, hq_82⟩ := gdp hq_82
            refine ⟨_, rfl, _, rfl, hg_99, ?_⟩
            refine kk_98 _ _ ?_
            refine ⟨_, c_68.hd, big_lt (by have h9 := hlen_78; have h8 := A2.len al_71; simp only [List.length_cons] at h9; omega), ?_⟩
            obtain ⟨vs_100, hvs, al_101⟩ : ∃ vs9, vs9 = (vs_69 ++ [(.str (sI y_80))]) ∧ AL rS G_66 vs9 (xs_70 ++ [(sI y_80)]) := ⟨_, rfl, (A2.app al_71 (A2.one rfl))⟩
            rw [← hvs]
            clear hvs
            have c_102 := c_68.mut (.lst vs_100)
            generalize hh : upd H_87 D_63 (.lst vs_100) = H_103 at c_102 ⊢
            clear hh
            obtain rfl := some_in hq_82
            exact ⟨G_66, vs_100, (xs_70 ++ [(sI y_80)]), eg_67, c_102, al_101, ⟨by have h9 := hlen_78; simp only [List.length_append, List.length_cons, List.length_nil] at h9 ⊢; first | done | omega, rest_89, hf_90, by rw [← hout_77, ho_91]; first | done | simp⟩⟩
          obtain ⟨G_66, vs_69, xs_70, eg_67, c_68, al_71, ⟨hlen_78, rest_75, hf_76, hout_77⟩⟩ := hI
          obtain rfl := some_in hf_76
          rw [List.append_nil] at hout_77
          subst hout_77
          obtain ⟨hg_104, hs_46⟩ := gdp hs_46
          obtain ⟨x_105, hl_106, hs_46⟩ := ltp hs_46
          refine ⟨_, _, xs_70, rfl, rfl, (.inl (SqL.of (by rw [← al_S al_71]; exact (c_68.get 0 rfl)))), hg_104, ?_⟩
          refine nmV (f := V.str) (P := fun v9 => Q_60 v9 _) hl_106 ?_
          refine kk_61 _ _ ?_
          have c_107 : Cf [] H0 G0 G_66 [(p_51, (.lst [])), (p_7, (.lst vs_14))] H_81 := c_68.drop
          have c_108 : Cf [] H0 G0 G_66 [(p_7, (.lst vs_14))] H_81 := c_107.drop
          obtain rfl := some_in hs_46
          exact ⟨G_66, x_105, rfl, eg_67, c_108, rfl⟩
        · skip
          try dsimp only [tNext]
          have c_109 : Cf [] H0 G0 G_11 [(p_7, (.lst vs_14))] H_54 := c_53.drop
          obtain rfl := some_in hs_46
          exact ⟨G_11, ("-" : Str), rfl, Ex.refl _, c_109, rfl⟩
      rintro σ_47 H_48 ⟨G_41, x_44, rfl, eg_42, c_43, rfl⟩
      try dsimp only at hf_26
      refine drop_opq (fun Q_110 kk_111 => ?_)
      obtain ⟨hg_112, hf_26⟩ := gdp hf_26
      refine ⟨_, rfl, .inl ⟨rfl, _, SqL.of (c_43.get 0 rfl)⟩, _, rfl, _, _, _, rfl, rfl, c_43.hd, (by rw [A2.len (AL.mono eg_42 al_16)]; exact big_lt hg_112), ?_⟩
      obtain ⟨vs_113, hvs, al_114⟩ : ∃ vs9, vs9 = (vs_14 ++ [(.str x_44)]) ∧ AL rS G_41 vs9 (xs_15 ++ [x_44]) := ⟨_, rfl, (A2.app (AL.mono eg_42 al_16) (A2.one rfl))⟩
      rw [← hvs]
      clear hvs
      have c_115 := c_43.mut (.lst vs_113)
      generalize hh : upd H_48 p_7 (.lst vs_113) = H_116 at c_115 ⊢
      clear hh
      refine kk_111 _ _ ?_
      obtain rfl := some_in hf_26
      exact ⟨G_41, vs_113, (xs_15 ++ [x_44]), (some v_28), (some (.str x_44)), rfl, (eg_12.trans eg_42), c_115, al_114, hgo_27⟩
    · obtain ⟨G_11, vs_14, xs_15, o_17, o_18, rfl, eg_12, c_13, al_16, ho_20⟩ := hI
      obtain rfl := lp_nil ho_20
      try dsimp only at hm
      try dsimp only
      refine q_if_opq (fun Q_119 kk_120 => ?_)
      refine ⟨_, rfl, (Nat.zero_le _), fun p_121 np_122 => ?_⟩
      have c_123 := c_13.newO np_122 (.lst [])
      generalize hh : upd H_24 p_121 (.lst []) = H_124 at c_123 ⊢
      clear hh
      obtain ⟨hg_125, hm⟩ := gdp hm
      obtain ⟨hg_126, hm⟩ := gdp hm
      refine ⟨_, _, ⟨p_7, vs_14, rfl, (c_123.get 1 rfl), AL.mono c_123.gh al_16⟩, ⟨p_121, [], rfl, (c_123.get 0 rfl), AL.mono c_123.gh A2.nil⟩, hg_125, hg_126, _, rfl, ?_⟩
      refine kk_120 _ _ ?_
      refine ite_m hm (fun hc_127 hm => ?_) (fun hc_127 hm => ?_)
      · skip
        refine ret_opq (fun Q_128 kk_129 => ?_)
        refine kk_129 _ _ ?_
        obtain rfl := some_in hm
        exact k G_11 H_124 c_123.stp
      · skip
        try dsimp only [tNext]
        refine ret_opq (fun Q_130 kk_131 => ?_)
        obtain ⟨hg_132, hm⟩ := gdp hm
        refine ⟨⟨_, rfl⟩, _, rfl, _, _, xs_15, rfl, rfl, (.inl (SqL.of (by rw [← al_S al_16]; exact (c_123.get 1 rfl)))), hg_132, ?_⟩
        refine kk_131 _ _ ?_
        obtain rfl := some_in hm
        exact k G_11 H_124 c_123.stp
theorem sc__law_small_web : FnScope ["deck", "most", "many", "often", "web", "thing", "other"] ["deck", "most"] (defScope s__law_small_web) := ⟨rfl, rfl, rfl, by decide +kernel, rfl, by decide +kernel, by decide +kernel⟩
def m__law_small_web (deck' : (List Int)) (most' : Int) : Option ((List (List Int)) × List Int) :=
  (m__law_draw 8 deck' (most' + (1 : Int))).bind fun z_11 => (fun (y_8 : Int) (y_9 : List Int) => ((m__law_draw 8 y_9 (7 : Int)).bind fun z_24 => (fun (y_21 : Int) (y_22 : List Int) => (lt (((1 : Int) + y_21) : Int) fun x_32 => (gd (rok y_8) ((lp (fun (y_54 : Int) => fun (s_57 : ((List Int) × (List (List Int)))) => (fun (xs_45 : (List Int)) (xs_48 : (List (List Int))) => gd (rok y_54) (gd (List.length (rng (0 : Int) y_54) < BIG) ((lcs (fun (y_92 : Int) => fun (s_133 : (List Int)) => (fun (xs_82 : (List Int)) => (m__law_draw 8 xs_82 (8 : Int)).bind fun z_112 => (fun (y_109 : Int) (y_110 : List Int) => (if (decide (y_109 < x_32)) then (some (some y_92, (y_110))) else (some (none, (y_110))))) z_112.1 z_112.2) s_133) (rng (0 : Int) y_54) (xs_45)).bind fun z_134 => (fun (xs_79 : List Int) (xs_82 : (List Int)) => (gd (List.length xs_48 < BIG) (some (xs_82, (xs_48 ++ [xs_79]))))) z_134.1 z_134.2))) s_57.1 s_57.2) (rng (0 : Int) y_8) (y_22, ([] : List (List Int)))).bind fun (s_148 : ((List Int) × (List (List Int)))) => (fun (xs_45 : (List Int)) (xs_48 : (List (List Int))) => (some (xs_48, xs_45))) s_148.1 s_148.2)))) z_24.1 z_24.2)) z_11.1 z_11.2
def sp__law_small_web (K : PySem.W.Frag) : Sp := fun vs H Q _ => ∃ (G : Hp) (p_1 : Addr) (vs_2 : List V) (deck' : (List Int)) (most' : Int) (r : ((List (List Int)) × List Int)), vs = [.ref p_1, (.int most')] ∧ Ex G H ∧ H p_1 = some (.lst vs_2) ∧ G p_1 = none ∧ AL rI G vs_2 deck' ∧ m__law_small_web deck' most' = some r ∧ ∀ (p9 : Addr) (vs9 : List V) (G' H' : Hp), Stp [p_1] G G' H H' → H p9 = none → G' p9 = none → H' p9 = some (.lst vs9) → AL (rL rI) G' vs9 r.1 → ∀ vs8, H' p_1 = some (.lst vs8) → AL rI G' vs8 r.2 → Q (.ref p9) H'
theorem ok__law_small_web (T : Env K mg) : FnOk P w K mg base CX0 10 T.f__law_small_web T.d__law_small_web ["deck", "most"] (sp__law_small_web K) := by
  refine T.F__law_small_web.ok sc__law_small_web (fun vs H Q E h => ?_) (fun cdv A outer s H0 vs Q E hr h => ?_)
  · obtain ⟨G0, p_1, vs_2, deck', most', r, rfl, _⟩ := h
    rfl
  · obtain ⟨G0, p_1, vs_2, deck', most', r, rfl, hG0, hp_3, gp_4, al_5, hm, k⟩ := h
    have hu := hr.units
    have hu65 := hu65 hr
    have c0 := Cf.start1 hG0 hp_3 gp_4
    unfold m__law_small_web at hm
    refine ⟨_, (pss_cons (ps_set (i := 2) sc__law_small_web.nd rfl (by first | exact Or.inl rfl | exact Or.inr rfl) (pe_call (ok__law_draw T 8) (hr.mono (by decide)) (by rfl) T.g__law_draw T.F__law_draw.kp T.b__law_draw .nil pass0 (pa_cons (pv 0) (pa_cons (pe_op op_add (pv 1) pe_int) pa_nil))))
      (pss_cons (ps_set (i := 3) sc__law_small_web.nd rfl (by first | exact Or.inl rfl | exact Or.inr rfl) (pe_op op_add pe_int (pe_call (ok__law_draw T 8) (hr.mono (by decide)) (by rfl) T.g__law_draw T.F__law_draw.kp T.b__law_draw .nil pass0 (pa_cons (pv 0) (pa_cons pe_int pa_nil)))))
      (pss_cons (ps_set (i := 4) sc__law_small_web.nd rfl (by first | exact Or.inl rfl | exact Or.inr rfl) (pe_lst pa_nil))
      (pss_cons (ps_for PassesOwn.never rfl (pi_range1 (by rfl) T.n_range (pa_cons (pv 2) pa_nil)) (pg_name (i := 5) sc__law_small_web.nd rfl (by first | exact Or.inl rfl | exact Or.inr rfl)) (pss_one (ps_expr (pe_bm PySem.F.plainAttrs_list PySem.F.slot_list_append PySem.F.type_list_append mt_append (pv 4) (pa_cons (pe_lc (own := [("other", 6)]) (g := gName 6)  rfl sc__law_small_web.nd (pi_range1 (by rfl) T.n_range (pa_cons (pv 5) pa_nil)) (blkOk_by (own := [("other", 6)]) (N := ["deck", "most", "many", "often", "web", "thing", "other"]) (sc := defScope s__law_small_web) (by decide +kernel)) (fun _ _ _ _ _ => (pg_name (i := 6) sc__law_small_web.nd rfl (by first | exact Or.inl rfl | exact Or.inr rfl))) (fun _ _ _ _ _ => (pts_one (pt_cmpR op_lt (pe_call (ok__law_draw T 8) (hr.mono (by decide)) (by rfl) T.g__law_draw T.F__law_draw.kp T.b__law_draw .nil pass0 (pa_cons (pv 0) (pa_cons pe_int pa_nil))) (pv 3) (nomark _)))) (fun _ _ _ _ _ => (pv 6))) pa_nil)))))
      (pss_one (ps_ret (pv 4))))))), ?_⟩
    refine q_asg_opq (fun Q_6 kk_7 => ?_)
    obtain ⟨⟨y_8, y_9⟩, hb_10, hm⟩ := bs hm
    dsimp only at hm
    refine ⟨_, rfl, _, rfl, _, _, rfl, rfl, G0, p_1, vs_2, deck', (most' + (1 : Int)), (y_8, y_9), rfl, c0.gh, c0.hd, c0.hdg, al_5, hb_10, fun G_12 H_13 sp_14 vs_16 hs_17 al_18 => ?_⟩
    have c_15 := c0.call1 sp_14 hs_17
    refine kk_7 _ _ ?_
    refine q_asg_opq (fun Q_19 kk_20 => ?_)
    obtain ⟨⟨y_21, y_22⟩, hb_23, hm⟩ := bs hm
    dsimp only at hm
    refine ⟨_, rfl, G_12, p_1, vs_16, y_9, (7 : Int), (y_21, y_22), rfl, c_15.gh, c_15.hd, c_15.hdg, al_18, hb_23, fun G_25 H_26 sp_27 vs_29 hs_30 al_31 => ?_⟩
    have c_28 := c_15.call1 sp_27 hs_30
    obtain ⟨x_32, hl_33, hm⟩ := ltp hm
    refine ⟨_, _, rfl, rfl, ?_⟩
    refine nmV (f := V.int) (P := fun v9 => Q_19 v9 _) hl_33 ?_
    refine kk_20 _ _ ?_
    refine q_asg_opq (fun Q_34 kk_35 => ?_)
    refine ⟨(Nat.zero_le _), fun p_36 np_37 => ?_⟩
    have c_38 := c_28.newO np_37 (.lst [])
    generalize hh : upd H_26 p_36 (.lst []) = H_39 at c_38 ⊢
    clear hh
    refine kk_35 _ _ ?_
    obtain ⟨hg_40, hm⟩ := gdp hm
    refine ⟨_, rfl, _, rfl, hg_40.1, hg_40.2, ?_⟩
    obtain ⟨o_51, ho_52, hm⟩ := bs hm
    refine for_w walk_range (rng (0 : Int) y_8) (by rw [rng_len]; omega) (fun l_53 σ_55 H_56 => ∃ (G_41 : Hp) (vs_44 : List V) (xs_45 : (List Int)) (vs_47 : List V) (xs_48 : (List (List Int))) (o_50 : Option V), σ_55 = [(some (.ref p_1)), (some (.int most')), (some (.int y_8)), (some (.int x_32)), (some (.ref p_36)), o_50, none] ∧ Ex G_25 G_41 ∧ Cf [p_1] H0 G0 G_41 [(p_36, (.lst vs_47)), (p_1, (.lst vs_44))] H_56 ∧ AL rI G_41 vs_44 xs_45 ∧ AL (rL rI) G_41 vs_47 xs_48 ∧ lp (fun (y_54 : Int) => fun (s_57 : ((List Int) × (List (List Int)))) => (fun (xs_45 : (List Int)) (xs_48 : (List (List Int))) => gd (rok y_54) (gd (List.length (rng (0 : Int) y_54) < BIG) ((lcs (fun (y_92 : Int) => fun (s_133 : (List Int)) => (fun (xs_82 : (List Int)) => (m__law_draw 8 xs_82 (8 : Int)).bind fun z_112 => (fun (y_109 : Int) (y_110 : List Int) => (if (decide (y_109 < x_32)) then (some (some y_92, (y_110))) else (some (none, (y_110))))) z_112.1 z_112.2) s_133) (rng (0 : Int) y_54) (xs_45)).bind fun z_134 => (fun (xs_79 : List Int) (xs_82 : (List Int)) => (gd (List.length xs_48 < BIG) (some (xs_82, (xs_48 ++ [xs_79]))))) z_134.1 z_134.2))) s_57.1 s_57.2) l_53 (xs_45, xs_48) = some o_51)
      ⟨G_25, vs_29, y_22, [], ([] : List (List Int)), none, rfl, Ex.refl _, c_38, al_31, A2.nil, ho_52⟩
      (fun l_53 σ_55 H_56 hI => by
        obtain ⟨G_41, vs_44, xs_45, vs_47, xs_48, o_50, rfl, eg_42, c_43, al_46, al_49, ho_52⟩ := hI
        exact True.intro)
      (fun i_63 y_54 l_53 σ_55 H_56 v_60 H_64 hx_61 hI hy_62 => ?_) (fun σ_55 H_56 hI => ?_)
    · obtain ⟨G_41, vs_44, xs_45, vs_47, xs_48, o_50, rfl, eg_42, c_43, al_46, al_49, ho_52⟩ := hI
      obtain ⟨so_65, hf_58, hgo_59⟩ := lp_cons ho_52
      try dsimp only at hf_58
      obtain ⟨rfl, hv_66⟩ := hy_62
      obtain rfl : v_60 = .int y_54 := hv_66.trans (congrArg V.int (rng_get hx_61).symm)
      refine drop_opq (fun Q_68 kk_69 => ?_)
      obtain ⟨hg_70, hf_58⟩ := gdp hf_58
      obtain ⟨hg_71, hf_58⟩ := gdp hf_58
      refine ⟨_, rfl, .inl ⟨rfl, _, SqL.of (c_43.get 0 rfl)⟩, _, rfl, _, rfl, hg_70.1, hg_70.2, fun D_72 nD_73 => ?_⟩
      have c_74 := c_43.newO nD_73 (.lst [])
      obtain ⟨⟨out_84, xs_135⟩, hb_85, hf_58⟩ := bs hf_58
      dsimp only at hf_58
      refine lc_w walk_range (rng (0 : Int) y_54) (by rw [rng_len]; omega) (fun l_91 H_93 => ∃ (G_75 : Hp) (vs_78 : List V) (xs_79 : (List Int)) (vs_81 : List V) (xs_82 : (List Int)), Ex G_41 G_75 ∧ Cf [p_1] H0 G0 G_75 [(D_72, (.lst vs_78)), (p_36, (.lst vs_47)), (p_1, (.lst vs_81))] H_93 ∧ AL rI G_75 vs_78 xs_79 ∧ AL rI G_75 vs_81 xs_82 ∧ List.length xs_79 + List.length l_91 < BIG ∧ ∃ rest_87, lcs (fun (y_92 : Int) => fun (s_133 : (List Int)) => (fun (xs_82 : (List Int)) => (m__law_draw 8 xs_82 (8 : Int)).bind fun z_112 => (fun (y_109 : Int) (y_110 : List Int) => (if (decide (y_109 < x_32)) then (some (some y_92, (y_110))) else (some (none, (y_110))))) z_112.1 z_112.2) s_133) l_91 (xs_82) = some (rest_87, (xs_135)) ∧ xs_79 ++ rest_87 = out_84)
        ⟨G_41, [], ([] : List Int), vs_44, xs_45, Ex.refl _, c_74, A2.nil, al_46, ⟨by simpa using hg_71, out_84, hb_85, rfl⟩⟩
        (fun l_91 H_93 hI => by
          obtain ⟨G_75, vs_78, xs_79, vs_81, xs_82, eg_76, c_77, al_80, al_83, ⟨hlen_90, rest_87, hf_88, hout_89⟩⟩ := hI
          exact True.intro)
        (fun i_95 y_92 l_91 H_93 v_96 H_99 hx_97 hI hy_98 => ?_) (fun H_93 hI => ?_)
      · obtain ⟨G_75, vs_78, xs_79, vs_81, xs_82, eg_76, c_77, al_80, al_83, ⟨hlen_90, rest_87, hf_88, hout_89⟩⟩ := hI
        obtain ⟨z_100, so_104, rest_101, hq_94, hf_102, ho_103⟩ := lcs_cons hf_88
        dsimp only at ho_103
        try dsimp only at hq_94
        obtain ⟨rfl, hv_105⟩ := hy_98
        obtain rfl : v_96 = .int y_92 := hv_105.trans (congrArg V.int (rng_get hx_97).symm)
        refine ⟨rfl, ?_⟩
        refine opqT (fun Q_106 kk_107 => ?_)
        have c_108 : Cf [p_1] H0 G0 G_75 [(p_1, (.lst vs_81)), (D_72, (.lst vs_78)), (p_36, (.lst vs_47))] H_99 := c_77.front 2 rfl
        obtain ⟨⟨y_109, y_110⟩, hb_111, hq_94⟩ := bs hq_94
        dsimp only at hq_94
        refine ⟨_, rfl, G_75, p_1, vs_81, xs_82, (8 : Int), (y_109, y_110), rfl, c_108.gh, c_108.hd, c_108.hdg, al_83, hb_111, fun G_113 H_114 sp_115 vs_117 hs_118 al_119 => ?_⟩
        have c_116 := c_108.call1 sp_115 hs_118
        refine ⟨_, rfl, _, _, rfl, rfl, _, rfl, ?_⟩
        refine kk_107 _ _ ?_
        refine ite_m hq_94 (fun hc_120 hq_94 => ?_) (fun hc_120 hq_94 => ?_)
        · skip
          refine opqV (fun Q_121 kk_122 => ?_)
          refine ⟨_, rfl, ?_⟩
          refine kk_122 _ _ ?_
          have c_123 : Cf [p_1] H0 G0 G_113 [(D_72, (.lst vs_78)), (p_1, (.lst vs_117)), (p_36, (.lst vs_47))] H_114 := c_116.front 1 rfl
          refine ⟨_, c_123.hd, big_lt (by have h9 := hlen_90; have h8 := A2.len (AL.mono sp_115.gg al_80); simp only [List.length_cons] at h9; omega), ?_⟩
          obtain ⟨vs_124, hvs, al_125⟩ : ∃ vs9, vs9 = (vs_78 ++ [(.int y_92)]) ∧ AL rI G_113 vs9 (xs_79 ++ [y_92]) := ⟨_, rfl, (A2.app (AL.mono sp_115.gg al_80) (A2.one rfl))⟩
          rw [← hvs]
          clear hvs
          have c_126 := c_123.mut (.lst vs_124)
          generalize hh : upd H_114 D_72 (.lst vs_124) = H_127 at c_126 ⊢
          clear hh
          obtain ⟨rfl, rfl⟩ := Prod.mk.inj (some_in hq_94)
          have c_128 : Cf [p_1] H0 G0 G_113 [(p_1, (.lst vs_117)), (D_72, (.lst vs_124)), (p_36, (.lst vs_47))] H_127 := c_126.front 1 rfl
          have c_129 : Cf [p_1] H0 G0 G_113 [(p_36, (.lst vs_47)), (p_1, (.lst vs_117)), (D_72, (.lst vs_124))] H_127 := c_128.front 2 rfl
          have c_130 : Cf [p_1] H0 G0 G_113 [(D_72, (.lst vs_124)), (p_36, (.lst vs_47)), (p_1, (.lst vs_117))] H_127 := c_129.front 2 rfl
          exact ⟨G_113, vs_124, (xs_79 ++ [y_92]), vs_117, y_110, (eg_76.trans sp_115.gg), c_130, al_125, al_119, ⟨by have h9 := hlen_90; simp only [List.length_append, List.length_cons, List.length_nil] at h9 ⊢; first | done | omega, rest_101, hf_102, by rw [← hout_89, ho_103]; first | done | simp⟩⟩
        · skip
          have c_131 : Cf [p_1] H0 G0 G_113 [(p_36, (.lst vs_47)), (p_1, (.lst vs_117)), (D_72, (.lst vs_78))] H_114 := c_116.front 2 rfl
          have c_132 : Cf [p_1] H0 G0 G_113 [(D_72, (.lst vs_78)), (p_36, (.lst vs_47)), (p_1, (.lst vs_117))] H_114 := c_131.front 2 rfl
          obtain ⟨rfl, rfl⟩ := Prod.mk.inj (some_in hq_94)
          exact ⟨G_113, vs_78, xs_79, vs_117, y_110, (eg_76.trans sp_115.gg), c_132, (AL.mono sp_115.gg al_80), al_119, ⟨by have h9 := hlen_90; simp only [List.length_append, List.length_cons, List.length_nil] at h9 ⊢; first | done | omega, rest_101, hf_102, by rw [← hout_89, ho_103]; first | done | simp⟩⟩
      obtain ⟨G_75, vs_78, xs_79, vs_81, xs_82, eg_76, c_77, al_80, al_83, ⟨hlen_90, rest_87, hf_88, hout_89⟩⟩ := hI
      obtain ⟨rfl, rfl⟩ := Prod.mk.inj (some_in hf_88)
      rw [List.append_nil] at hout_89
      subst hout_89
      obtain ⟨G_139, eg_137, sq_138, c_136⟩ : ∃ G9, Ex G_75 G9 ∧ G9 D_72 = some (.lst vs_78) ∧ Cf [p_1] H0 G0 G9 [(p_36, (.lst vs_47)), (p_1, (.lst vs_81))] H_93 := ⟨_, freeze_ex c_77, upd_same, c_77.freeze (by simp)⟩
      obtain ⟨hg_140, hf_58⟩ := gdp hf_58
      refine ⟨_, _, _, rfl, rfl, c_136.hd, (by rw [A2.len (AL.mono (eg_76.trans eg_137) al_49)]; exact big_lt hg_140), ?_⟩
      obtain ⟨vs_141, hvs, al_142⟩ : ∃ vs9, vs9 = (vs_47 ++ [(.ref D_72)]) ∧ AL (rL rI) G_139 vs9 (xs_48 ++ [xs_79]) := ⟨_, rfl, (A2.app (AL.mono (eg_76.trans eg_137) al_49) (A2.one ⟨D_72, vs_78, rfl, sq_138, (AL.mono eg_137 al_80)⟩))⟩
      rw [← hvs]
      clear hvs
      have c_143 := c_136.mut (.lst vs_141)
      generalize hh : upd H_93 p_36 (.lst vs_141) = H_144 at c_143 ⊢
      clear hh
      refine kk_69 _ _ ?_
      obtain rfl := some_in hf_58
      exact ⟨G_139, vs_81, xs_82, vs_141, (xs_48 ++ [xs_79]), (some (.int y_54)), rfl, ((eg_42.trans eg_76).trans eg_137), c_143, (AL.mono eg_137 al_83), al_142, hgo_59⟩
    · obtain ⟨G_41, vs_44, xs_45, vs_47, xs_48, o_50, rfl, eg_42, c_43, al_46, al_49, ho_52⟩ := hI
      obtain rfl := lp_nil ho_52
      try dsimp only at hm
      try dsimp only
      refine ret_opq (fun Q_146 kk_147 => ?_)
      refine ⟨_, rfl, ?_⟩
      refine kk_147 _ _ ?_
      obtain rfl := some_in hm
      exact k p_36 vs_47 G_41 H_56 c_43.stp (c_43.hdn (by simp)) c_43.hdg c_43.hd al_49 vs_44 (c_43.get 1 rfl) al_46
theorem sc__law_number : FnScope ["word", "char"] ["word"] (defScope s__law_number) := ⟨rfl, rfl, rfl, by decide +kernel, rfl, by decide +kernel, by decide +kernel⟩
def m__law_number (word' : Str) : Option Int :=
  (pOr (decide (word' = ("" : Str))) (gd (Str.length word' ≤ BIG) ((pOr (decide ((30 : Int) < ((Str.length word' : Nat) : Int))) (gd (Str.length word' ≤ BIG) ((pAnd (decide ((1 : Int) < ((Str.length word' : Nat) : Int))) (gd (Str.length word' ≤ BIG) ((atI (Str.cps word').toList (0 : Int)).bind fun ch_9 => (some (decide ((⟨#[ch_9]⟩ : Str) = ("0" : Str))))))).bind fun b_13 => (some b_13)))).bind fun b_17 => (some b_17)))).bind fun b_21 => (if b_21 then (some (-(1 : Int))) else (gd (List.length (Str.cps word').toList < BIG) ((lcm (fun (y_46 : Nat) => some (decide (y_46 ∈ (Str.cps ("0123456789" : Str)).toList))) (Str.cps word').toList).bind fun xs_36 => (if (!(List.all xs_36 id)) then (some (-(1 : Int))) else ((iOk word').bind fun i_72 => (some i_72))))))
def sp__law_number (K : PySem.W.Frag) : Sp := fun vs H Q _ => ∃ (G : Hp) (word' : Str) (r : Int), vs = [(.str word')] ∧ Ex G H ∧ m__law_number word' = some r ∧ ∀ (G' H' : Hp), Stp [] G G' H H' → Q (.int r) H'
theorem ok__law_number (T : Env K mg) : FnOk P w K mg base CX0 1 T.f__law_number T.d__law_number ["word"] (sp__law_number K) := by
  refine T.F__law_number.ok sc__law_number (fun vs H Q E h => ?_) (fun cdv A outer s H0 vs Q E hr h => ?_)
  · obtain ⟨G0, word', r, rfl, _⟩ := h
    rfl
  · obtain ⟨G0, word', r, rfl, hG0, hm, k⟩ := h
    have hu := hr.units
    have hu65 := hu65 hr
    have c0 := Cf.start hG0
    unfold m__law_number at hm
    refine ⟨_, (pss_cons (ps_if (PW.pt (pw_or (pt_cmpR op_eqS (pv 0) pe_str (nomark _)) (pw_or (pt_cmpR op_gt (pe_callB call_len_str (by rfl) T.n_len bt_len (pa_cons (pv 0) pa_nil)) pe_int (nomark _)) (pw_or1 (PW.pt (pw_and (pt_cmpR op_gt (pe_callB call_len_str (by rfl) T.n_len bt_len (pa_cons (pv 0) pa_nil)) pe_int (nomark _)) (pw_and1 (pt_cmpR op_eqS (pe_ix ix_str (pv 0) pe_int (fun _ _ => rfl)) pe_str (nomark _))))))))) (pss_one (ps_ret (pe_un un_neg pe_int))) pss_nil)
      (pss_cons (ps_if (pt_not (pt_val (pe_callB (call_allB rfl) (by rfl) T.n_all bt_all (pa_cons (pe_lc (own := [("char", 1)]) (g := gName 1) (tt := tYes)  rfl sc__law_number.nd (pi_str (pv 0)) (blkOk_by (own := [("char", 1)]) (N := ["word", "char"]) (sc := defScope s__law_number) (by decide +kernel)) (fun _ _ _ _ _ => (pg_name (i := 1) sc__law_number.nd rfl (by first | exact Or.inl rfl | exact Or.inr rfl))) (fun _ _ _ _ _ => pts_nil) (fun _ _ _ _ _ => (pe_cmpR op_in_sign (pv 1) pe_str rfl))) pa_nil)))) (pss_one (ps_ret (pe_un un_neg pe_int))) pss_nil)
      (pss_one (ps_ret (pe_callTy call_intS (by rfl) T.n_int bt_int (pa_cons (pv 0) pa_nil)))))), ?_⟩
    refine q_if_opq (fun Q_1 kk_2 => ?_)
    refine ⟨_, rfl, _, _, rfl, rfl, _, rfl, ?_⟩
    obtain ⟨b_21, hb_22, hm⟩ := bs hm
    refine or_r hb_22 (fun ha_20 hq_3 q_19 => ?_) ?_
    · skip
      obtain ⟨hg_4, hq_3⟩ := gdp hq_3
      refine ⟨_, rfl, _, rfl, (le_big hg_4), _, _, rfl, rfl, _, rfl, ?_⟩
      obtain ⟨b_17, hb_18, hq_3⟩ := bs hq_3
      refine or_r hb_18 (fun ha_16 hq_5 q_15 => ?_) ?_
      · skip
        obtain ⟨hg_6, hq_5⟩ := gdp hq_5
        refine ⟨_, rfl, _, rfl, (le_big hg_6), _, _, rfl, rfl, _, rfl, ?_⟩
        obtain ⟨b_13, hb_14, hq_5⟩ := bs hq_5
        refine and_r hb_14 (fun ha_12 hq_7 q_11 => ?_) ?_
        · skip
          obtain ⟨hg_8, hq_7⟩ := gdp hq_7
          obtain ⟨ch_9, hb_10, hq_7⟩ := bs hq_7
          refine ⟨_, rfl, _, _, _, rfl, rfl, (le_big hg_8), hb_10, _, _, rfl, rfl, _, rfl, ?_⟩
          obtain rfl := some_in hq_7
          exact q_11
        obtain rfl := some_in hq_5
        exact q_15
      obtain rfl := some_in hq_3
      exact q_19
    refine kk_2 _ _ ?_
    refine ite_m hm (fun hc_23 hm => ?_) (fun hc_23 hm => ?_)
    · skip
      refine ret_opq (fun Q_24 kk_25 => ?_)
      refine ⟨_, rfl, ?_⟩
      refine kk_25 _ _ ?_
      obtain rfl := some_in hm
      exact k G0 H0 c0.stp
    · skip
      try dsimp only [tNext]
      refine q_if_opq (fun Q_26 kk_27 => ?_)
      obtain ⟨hg_28, hm⟩ := gdp hm
      refine ⟨_, rfl, _, rfl, fun D_29 nD_30 => ?_⟩
      have c_31 := c0.newO nD_30 (.lst [])
      obtain ⟨out_38, hb_39, hm⟩ := bs hm
      refine lc_w (walk_str (z := word')) (Str.cps word').toList rfl (fun l_45 H_47 => ∃ (G_32 : Hp) (vs_35 : List V) (xs_36 : (List Bool)), Ex G0 G_32 ∧ Cf [] H0 G0 G_32 [(D_29, (.lst vs_35))] H_47 ∧ AL rB G_32 vs_35 xs_36 ∧ List.length xs_36 + List.length l_45 < BIG ∧ ∃ rest_41, lcm (fun (y_46 : Nat) => some (decide (y_46 ∈ (Str.cps ("0123456789" : Str)).toList))) l_45 = some rest_41 ∧ xs_36 ++ rest_41 = out_38)
        ⟨G0, [], ([] : List Bool), Ex.refl _, c_31, A2.nil, ⟨by simpa using hg_28, out_38, hb_39, rfl⟩⟩
        (fun l_45 H_47 hI => by
          obtain ⟨G_32, vs_35, xs_36, eg_33, c_34, al_37, ⟨hlen_44, rest_41, hf_42, hout_43⟩⟩ := hI
          exact True.intro)
        (fun i_49 y_46 l_45 H_47 v_50 H_53 hx_51 hI hy_52 => ?_) (fun H_47 hI => ?_)
      · obtain ⟨G_32, vs_35, xs_36, eg_33, c_34, al_37, ⟨hlen_44, rest_41, hf_42, hout_43⟩⟩ := hI
        obtain ⟨z_54, rest_55, hq_48, hf_56, ho_57⟩ := lcm_cons hf_42
        try dsimp only at hq_48
        obtain ⟨rfl, ch_60, hv_59, rfl⟩ := hy_52
        obtain rfl : y_46 = ch_60 := by rw [Array.getElem?_toList, hv_59] at hx_51; exact (Option.some.inj hx_51).symm
        refine ⟨rfl, ?_⟩
        refine yes_q ?_
        refine opqV (fun Q_61 kk_62 => ?_)
        refine ⟨_, rfl, _, _, rfl, rfl, ?_⟩
        refine kk_62 _ _ ?_
        refine ⟨_, c_34.hd, big_lt (by have h9 := hlen_44; have h8 := A2.len al_37; simp only [List.length_cons] at h9; omega), ?_⟩
        obtain ⟨vs_63, hvs, al_64⟩ : ∃ vs9, vs9 = (vs_35 ++ [(.bl (decide (y_46 ∈ (Str.cps ("0123456789" : Str)).toList)))]) ∧ AL rB G_32 vs9 (xs_36 ++ [(decide (y_46 ∈ (Str.cps ("0123456789" : Str)).toList))]) := ⟨_, rfl, (A2.app al_37 (A2.one rfl))⟩
        rw [← hvs]
        clear hvs
        have c_65 := c_34.mut (.lst vs_63)
        generalize hh : upd H_53 D_29 (.lst vs_63) = H_66 at c_65 ⊢
        clear hh
        obtain rfl := some_in hq_48
        exact ⟨G_32, vs_63, (xs_36 ++ [(decide (y_46 ∈ (Str.cps ("0123456789" : Str)).toList))]), eg_33, c_65, al_64, ⟨by have h9 := hlen_44; simp only [List.length_append, List.length_cons, List.length_nil] at h9 ⊢; first | done | omega, rest_55, hf_56, by rw [← hout_43, ho_57]; first | done | simp⟩⟩
      obtain ⟨G_32, vs_35, xs_36, eg_33, c_34, al_37, ⟨hlen_44, rest_41, hf_42, hout_43⟩⟩ := hI
      obtain rfl := some_in hf_42
      rw [List.append_nil] at hout_43
      subst hout_43
      refine ⟨_, _, xs_36, rfl, (c_34.get 0 rfl), AL.mono c_34.gh al_37, _, rfl, ?_⟩
      refine kk_27 _ _ ?_
      refine ite_m hm (fun hc_67 hm => ?_) (fun hc_67 hm => ?_)
      · skip
        refine ret_opq (fun Q_68 kk_69 => ?_)
        refine ⟨_, rfl, ?_⟩
        refine kk_69 _ _ ?_
        obtain rfl := some_in hm
        exact k G_32 H_47 c_34.stp
      · skip
        try dsimp only [tNext]
        refine ret_opq (fun Q_70 kk_71 => ?_)
        obtain ⟨i_72, hb_73, hm⟩ := bs hm
        refine ⟨_, rfl, _, _, rfl, hb_73, ?_⟩
        refine kk_71 _ _ ?_
        obtain rfl := some_in hm
        exact k G_32 H_47 c_34.stp
theorem sc__law_due_web : FnScope ["text", "web", "word", "ties", "part"] ["text"] (defScope s__law_due_web) := ⟨rfl, rfl, rfl, by decide +kernel, rfl, by decide +kernel, by decide +kernel⟩
def m__law_due_web (text' : Str) : Option (Option (List (List Int))) :=
  if (decide (text' = ("." : Str))) then (some (some ([] : List (List Int)))) else (gd (Str.length text' + 2 ≤ BIG) ((lpx (fun (y_36 : Str) => fun (s_39 : ((List (List Int)))) => ((fun (xs_29 : (List (List Int))) => (((if (!(decide (y_36 = ("-" : Str)))) then (gd (Str.length y_36 + 2 ≤ BIG) (gd (List.length (Txt.split y_36 ("," : Str)) < BIG) ((lcm (fun (y_98 : Str) => (m__law_number y_98).bind fun y_117 => (some y_117)) (Txt.split y_36 ("," : Str))).bind fun xs_88 => (some (xs_88))))) else (some (([] : List Int)))) : Option ((List Int)))).bind fun (s_196 : ((List Int))) => (fun (xs_64 : (List Int)) => (gd (List.length xs_64 ≤ 4000) ((pOr (!(decide (xs_64 = (srt xs_64)))) ((pAnd (!(decide (xs_64 = ([] : List Int)))) ((atI xs_64 (0 : Int)).bind fun y_149 => ((pOr (decide (y_149 < (0 : Int))) ((atI xs_64 (-(1 : Int))).bind fun y_155 => (some (decide (((List.length xs_29 : Nat) : Int) ≤ y_155))))).bind fun b_162 => (some b_162)))).bind fun b_166 => (some b_166))).bind fun b_171 => (if b_171 then (some (Out.rt none)) else (gd (List.length xs_29 < BIG) (some (Out.nx ((xs_29 ++ [xs_64]))))))))) s_196) s_39 : Option (Out ((List (List Int))) (Option (List (List Int)))))) (Txt.split text' (" " : Str)) (([] : List (List Int)))).bind fun o_33 => Out.fin o_33 (fun (s_205 : ((List (List Int)))) => (fun (xs_29 : (List (List Int))) => (some (some xs_29))) s_205) (fun r_206 => some r_206)))
def sp__law_due_web (K : PySem.W.Frag) : Sp := fun vs H Q _ => ∃ (G : Hp) (text' : Str) (r : (Option (List (List Int)))), vs = [(.str text')] ∧ Ex G H ∧ m__law_due_web text' = some r ∧ ∀ (v9 : V) (G' H' : Hp), Stp [] G G' H H' → (rO (rL (rL rI))).r G' v9 r → Q v9 H'
theorem ok__law_due_web (T : Env K mg) : FnOk P w K mg base CX0 2 T.f__law_due_web T.d__law_due_web ["text"] (sp__law_due_web K) := by
  refine T.F__law_due_web.ok sc__law_due_web (fun vs H Q E h => ?_) (fun cdv A outer s H0 vs Q E hr h => ?_)
  · obtain ⟨G0, text', r, rfl, _⟩ := h
    rfl
  · obtain ⟨G0, text', r, rfl, hG0, hm, k⟩ := h
    have hu := hr.units
    have hu65 := hu65 hr
    have c0 := Cf.start hG0
    unfold m__law_due_web at hm
    refine ⟨_, (pss_cons (ps_if (pt_cmpR op_eqS (pv 0) pe_str (nomark _)) (pss_one (ps_ret (pe_lst pa_nil))) pss_nil)
      (pss_cons (ps_set (i := 1) sc__law_due_web.nd rfl (by first | exact Or.inl rfl | exact Or.inr rfl) (pe_lst pa_nil))
      (pss_cons (ps_for PassesOwn.never rfl (pi_list (pe_split (pv 0) pe_str)) (pg_name (i := 2) sc__law_due_web.nd rfl (by first | exact Or.inl rfl | exact Or.inr rfl)) (pss_cons (ps_set (i := 3) sc__law_due_web.nd rfl (by first | exact Or.inl rfl | exact Or.inr rfl) (pe_lst pa_nil))
      (Evl.pss_cut (ps_if (pt_cmpR op_neS (pv 2) pe_str (nomark _)) (pss_one (ps_setLc (i := 3) (own := [("part", 4)]) (g := gName 4) (tt := tYes)  rfl sc__law_due_web.nd rfl rfl (sw_true rfl rfl rfl (by decide +kernel)) (pi_list (pe_split (pv 2) pe_str)) (blkOk_by (own := [("part", 4)]) (N := ["text", "web", "word", "ties", "part"]) (sc := defScope s__law_due_web) (by decide +kernel)) (fun _ _ _ _ _ => (pg_name (i := 4) sc__law_due_web.nd rfl (by first | exact Or.inl rfl | exact Or.inr rfl))) (fun _ _ _ _ _ => pts_nil) (fun _ _ _ _ _ => (pe_call (ok__law_number T) (hr.mono (by decide)) (by rfl) T.g__law_number T.F__law_number.kp T.b__law_number .nil pass0 (pa_cons (pv 4) pa_nil))))) pss_nil)
      (pss_cons (ps_if (PW.pt (pw_or (pt_cmpR (op_neT hu (eqdL eqdI) (by decide)) (pv 3) (pe_callB (call_sortS (w := w) rfl rfl) (by rfl) T.n_sorted bt_sorted (pa_cons (pe_callTy (call_setL (w := w) rfl rfl) (by rfl) T.n_set bt_set (pa_cons (pv 3) pa_nil)) pa_nil)) (nomark _)) (pw_or1 (PW.pt (pw_and (pt_cmpR (op_neT hu (eqdL eqdI) (by decide)) (pv 3) (pe_lst pa_nil) (nomark _)) (pw_and1 (PW.pt (pw_or (pt_cmpR op_lt (pe_ix (ix_l (K := K) rfl) (pv 3) pe_int (fun _ _ => rfl)) pe_int (nomark _)) (pw_or1 (pt_cmpR op_ge (pe_ix (ix_l (K := K) rfl) (pv 3) (pe_un un_neg pe_int) (fun _ _ => rfl)) (pe_callB call_lenL (by rfl) T.n_len bt_len (pa_cons (pv 1) pa_nil)) (nomark _))))))))))) (pss_one (ps_ret pe_non)) pss_nil)
      (pss_one (ps_expr (pe_bm PySem.F.plainAttrs_list PySem.F.slot_list_append PySem.F.type_list_append mt_append (pv 1) (pa_cons (pv 3) pa_nil))))))))
      (pss_one (ps_ret (pv 1)))))), ?_⟩
    refine q_if_opq (fun Q_1 kk_2 => ?_)
    refine ⟨_, rfl, _, _, rfl, rfl, _, rfl, ?_⟩
    refine kk_2 _ _ ?_
    refine ite_m hm (fun hc_3 hm => ?_) (fun hc_3 hm => ?_)
    · skip
      refine ret_opq (fun Q_4 kk_5 => ?_)
      refine ⟨(Nat.zero_le _), fun p_6 np_7 => ?_⟩
      have c_8 := c0.newO np_7 (.lst [])
      generalize hh : upd H0 p_6 (.lst []) = H_9 at c_8 ⊢
      clear hh
      refine kk_5 _ _ ?_
      obtain ⟨G_13, eg_11, sq_12, c_10⟩ : ∃ G9, Ex G0 G9 ∧ G9 p_6 = some (.lst []) ∧ Cf [] H0 G0 G9 [] H_9 := ⟨_, freeze_ex c_8, upd_same, c_8.freeze (fun _ z => (nomatch z))⟩
      obtain rfl := some_in hm
      exact k (.ref p_6) G_13 H_9 c_10.stp (show ((rO (rL (rL rI)))).r G_13 (.ref p_6) (some ([] : List (List Int))) from ⟨p_6, [], rfl, sq_12, (AL.mono eg_11 A2.nil)⟩)
    · skip
      try dsimp only [tNext]
      refine q_asg_opq (fun Q_14 kk_15 => ?_)
      refine ⟨(Nat.zero_le _), fun p_16 np_17 => ?_⟩
      have c_18 := c0.newO np_17 (.lst [])
      generalize hh : upd H0 p_16 (.lst []) = H_19 at c_18 ⊢
      clear hh
      refine kk_15 _ _ ?_
      obtain ⟨hg_20, hm⟩ := gdp hm
      refine ⟨_, rfl, ⟨_, rfl⟩, _, _, rfl, rfl, (by decide +kernel), (le_big hg_20), fun p_21 np_22 => ?_⟩
      have c_23 := c_18.newO np_22 (.lst (List.map V.str (Txt.split text' (" " : Str))))
      generalize hh : upd H_19 p_21 (.lst (List.map V.str (Txt.split text' (" " : Str)))) = H_24 at c_23 ⊢
      clear hh
      refine ⟨_, rfl, ⟨_, SqL.of (c_23.get 0 rfl)⟩, ?_⟩
      obtain ⟨o_33, ho_34, hm⟩ := bs hm
      refine for_w (walk_list (xs := (List.map V.str (Txt.split text' (" " : Str))))) (Txt.split text' (" " : Str)) (A2.len (la_S G0 (Txt.split text' (" " : Str)))) (fun l_35 σ_37 H_38 => ∃ (G_25 : Hp) (vs_28 : List V) (xs_29 : (List (List Int))) (o_31 : Option V) (o_32 : Option V), σ_37 = [(some (.str text')), (some (.ref p_16)), o_31, o_32, none] ∧ Ex G0 G_25 ∧ Cf [] H0 G0 G_25 [(p_21, (.lst (List.map V.str (Txt.split text' (" " : Str))))), (p_16, (.lst vs_28))] H_38 ∧ AL (rL rI) G_25 vs_28 xs_29 ∧ lpx (fun (y_36 : Str) => fun (s_39 : ((List (List Int)))) => ((fun (xs_29 : (List (List Int))) => (((if (!(decide (y_36 = ("-" : Str)))) then (gd (Str.length y_36 + 2 ≤ BIG) (gd (List.length (Txt.split y_36 ("," : Str)) < BIG) ((lcm (fun (y_98 : Str) => (m__law_number y_98).bind fun y_117 => (some y_117)) (Txt.split y_36 ("," : Str))).bind fun xs_88 => (some (xs_88))))) else (some (([] : List Int)))) : Option ((List Int)))).bind fun (s_196 : ((List Int))) => (fun (xs_64 : (List Int)) => (gd (List.length xs_64 ≤ 4000) ((pOr (!(decide (xs_64 = (srt xs_64)))) ((pAnd (!(decide (xs_64 = ([] : List Int)))) ((atI xs_64 (0 : Int)).bind fun y_149 => ((pOr (decide (y_149 < (0 : Int))) ((atI xs_64 (-(1 : Int))).bind fun y_155 => (some (decide (((List.length xs_29 : Nat) : Int) ≤ y_155))))).bind fun b_162 => (some b_162)))).bind fun b_166 => (some b_166))).bind fun b_171 => (if b_171 then (some (Out.rt none)) else (gd (List.length xs_29 < BIG) (some (Out.nx ((xs_29 ++ [xs_64]))))))))) s_196) s_39 : Option (Out ((List (List Int))) (Option (List (List Int)))))) l_35 (xs_29) = some o_33)
        ⟨G0, [], ([] : List (List Int)), none, none, rfl, Ex.refl _, c_23, A2.nil, ho_34⟩
        (fun l_35 σ_37 H_38 hI => by
          obtain ⟨G_25, vs_28, xs_29, o_31, o_32, rfl, eg_26, c_27, al_30, ho_34⟩ := hI
          exact (SqL.of (c_27.get 0 rfl)))
        (fun i_45 y_36 l_35 σ_37 H_38 v_42 H_46 hx_43 hI hy_44 => ?_) (fun σ_37 H_38 hI => ?_)
      · obtain ⟨G_25, vs_28, xs_29, o_31, o_32, rfl, eg_26, c_27, al_30, ho_34⟩ := hI
        obtain ⟨so_47, hf_40, hgo_41⟩ := lpx_cons ho_34
        try dsimp only at hf_40
        obtain ⟨rfl, hv_48⟩ := hy_44
        obtain ⟨v_49, hv_50, rv_51⟩ := A2.get (la_S G0 (Txt.split text' (" " : Str))) hx_43
        obtain rfl := Option.some.inj (hv_48.symm.trans hv_50)
        obtain rfl := (show v_42 = (.str y_36) from rv_51)
        refine q_asg_opq (fun Q_53 kk_54 => ?_)
        refine ⟨(Nat.zero_le _), fun p_55 np_56 => ?_⟩
        have c_57 := c_27.newO np_56 (.lst [])
        generalize hh : upd H_46 p_55 (.lst []) = H_58 at c_57 ⊢
        clear hh
        refine kk_54 _ _ ?_
        obtain ⟨s_66, hs_67, hf_40⟩ := bs hf_40
        refine ⟨(fun σ_68 H_69 => ∃ (G_59 : Hp) (p_62 : Addr) (vs_63 : List V) (xs_64 : (List Int)), σ_68 = [(some (.str text')), (some (.ref p_16)), (some (.str y_36)), (some (.ref p_62)), none] ∧ Ex G_25 G_59 ∧ Cf [] H0 G0 G_59 [(p_62, (.lst vs_63)), (p_21, (.lst (List.map V.str (Txt.split text' (" " : Str))))), (p_16, (.lst vs_28))] H_69 ∧ AL rI G_59 vs_63 xs_64 ∧ (xs_64) = s_66), ?_, ?_⟩
        · skip
          refine if_opq (fun Q_70 kk_71 => ?_)
          refine ⟨_, rfl, _, _, rfl, rfl, _, rfl, ?_⟩
          refine kk_71 _ _ ?_
          refine ite_m hs_67 (fun hc_72 hs_67 => ?_) (fun hc_72 hs_67 => ?_)
          · skip
            refine asg_opq (fun Q_73 kk_74 => ?_)
            obtain ⟨hg_75, hs_67⟩ := gdp hs_67
            refine ⟨_, rfl, ⟨_, rfl⟩, _, _, rfl, rfl, (by decide +kernel), (le_big hg_75), fun p_76 np_77 => ?_⟩
            have c_78 := c_57.newO np_77 (.lst (List.map V.str (Txt.split y_36 ("," : Str))))
            generalize hh : upd H_58 p_76 (.lst (List.map V.str (Txt.split y_36 ("," : Str)))) = H_79 at c_78 ⊢
            clear hh
            obtain ⟨hg_80, hs_67⟩ := gdp hs_67
            refine ⟨_, rfl, ⟨_, SqL.of (c_78.get 0 rfl)⟩, fun D_81 nD_82 => ?_⟩
            have c_83 := c_78.newO nD_82 (.lst [])
            obtain ⟨out_90, hb_91, hs_67⟩ := bs hs_67
            refine lc_w (walk_list (xs := (List.map V.str (Txt.split y_36 ("," : Str))))) (Txt.split y_36 ("," : Str)) (A2.len (la_S G_25 (Txt.split y_36 ("," : Str)))) (fun l_97 H_99 => ∃ (G_84 : Hp) (vs_87 : List V) (xs_88 : (List Int)), Ex G_25 G_84 ∧ Cf [] H0 G0 G_84 [(D_81, (.lst vs_87)), (p_76, (.lst (List.map V.str (Txt.split y_36 ("," : Str))))), (p_55, (.lst [])), (p_21, (.lst (List.map V.str (Txt.split text' (" " : Str))))), (p_16, (.lst vs_28))] H_99 ∧ AL rI G_84 vs_87 xs_88 ∧ List.length xs_88 + List.length l_97 < BIG ∧ ∃ rest_93, lcm (fun (y_98 : Str) => (m__law_number y_98).bind fun y_117 => (some y_117)) l_97 = some rest_93 ∧ xs_88 ++ rest_93 = out_90)
              ⟨G_25, [], ([] : List Int), Ex.refl _, c_83, A2.nil, ⟨by simpa using hg_80, out_90, hb_91, rfl⟩⟩
              (fun l_97 H_99 hI => by
                obtain ⟨G_84, vs_87, xs_88, eg_85, c_86, al_89, ⟨hlen_96, rest_93, hf_94, hout_95⟩⟩ := hI
                exact (SqL.of (c_86.get 1 rfl)))
              (fun i_101 y_98 l_97 H_99 v_102 H_105 hx_103 hI hy_104 => ?_) (fun H_99 hI => ?_)
            · obtain ⟨G_84, vs_87, xs_88, eg_85, c_86, al_89, ⟨hlen_96, rest_93, hf_94, hout_95⟩⟩ := hI
              obtain ⟨z_106, rest_107, hq_100, hf_108, ho_109⟩ := lcm_cons hf_94
              try dsimp only at hq_100
              obtain ⟨rfl, hv_111⟩ := hy_104
              obtain ⟨v_112, hv_113, rv_114⟩ := A2.get (la_S G_25 (Txt.split y_36 ("," : Str))) hx_103
              obtain rfl := Option.some.inj (hv_111.symm.trans hv_113)
              obtain rfl := (show v_102 = (.str y_98) from rv_114)
              refine ⟨rfl, ?_⟩
              refine yes_q ?_
              refine opqV (fun Q_115 kk_116 => ?_)
              obtain ⟨y_117, hb_118, hq_100⟩ := bs hq_100
              refine ⟨_, rfl, G_84, y_98, y_117, rfl, c_86.gh, hb_118, fun G_119 H_120 sp_121 => ?_⟩
              have c_122 := c_86.call sp_121
              refine kk_116 _ _ ?_
              refine ⟨_, c_122.hd, big_lt (by have h9 := hlen_96; have h8 := A2.len (AL.mono sp_121.gg al_89); simp only [List.length_cons] at h9; omega), ?_⟩
              obtain ⟨vs_123, hvs, al_124⟩ : ∃ vs9, vs9 = (vs_87 ++ [(.int y_117)]) ∧ AL rI G_119 vs9 (xs_88 ++ [y_117]) := ⟨_, rfl, (A2.app (AL.mono sp_121.gg al_89) (A2.one rfl))⟩
              rw [← hvs]
              clear hvs
              have c_125 := c_122.mut (.lst vs_123)
              generalize hh : upd H_120 D_81 (.lst vs_123) = H_126 at c_125 ⊢
              clear hh
              obtain rfl := some_in hq_100
              exact ⟨G_119, vs_123, (xs_88 ++ [y_117]), (eg_85.trans sp_121.gg), c_125, al_124, ⟨by have h9 := hlen_96; simp only [List.length_append, List.length_cons, List.length_nil] at h9 ⊢; first | done | omega, rest_107, hf_108, by rw [← hout_95, ho_109]; first | done | simp⟩⟩
            obtain ⟨G_84, vs_87, xs_88, eg_85, c_86, al_89, ⟨hlen_96, rest_93, hf_94, hout_95⟩⟩ := hI
            obtain rfl := some_in hf_94
            rw [List.append_nil] at hout_95
            subst hout_95
            refine kk_74 _ _ ?_
            have c_127 : Cf [] H0 G0 G_84 [(p_76, (.lst (List.map V.str (Txt.split y_36 ("," : Str))))), (D_81, (.lst vs_87)), (p_55, (.lst [])), (p_21, (.lst (List.map V.str (Txt.split text' (" " : Str))))), (p_16, (.lst vs_28))] H_99 := c_86.front 1 rfl
            have c_128 : Cf [] H0 G0 G_84 [(D_81, (.lst vs_87)), (p_55, (.lst [])), (p_21, (.lst (List.map V.str (Txt.split text' (" " : Str))))), (p_16, (.lst vs_28))] H_99 := c_127.drop
            have c_129 : Cf [] H0 G0 G_84 [(p_55, (.lst [])), (D_81, (.lst vs_87)), (p_21, (.lst (List.map V.str (Txt.split text' (" " : Str))))), (p_16, (.lst vs_28))] H_99 := c_128.front 1 rfl
            have c_130 : Cf [] H0 G0 G_84 [(D_81, (.lst vs_87)), (p_21, (.lst (List.map V.str (Txt.split text' (" " : Str))))), (p_16, (.lst vs_28))] H_99 := c_129.drop
            obtain rfl := some_in hs_67
            exact ⟨G_84, D_81, vs_87, xs_88, rfl, eg_85, c_130, al_89, rfl⟩
          · skip
            try dsimp only [tNext]
            obtain rfl := some_in hs_67
            exact ⟨G_25, p_55, [], ([] : List Int), rfl, Ex.refl _, c_57, A2.nil, rfl⟩
        rintro σ_68 H_69 ⟨G_59, p_62, vs_63, xs_64, rfl, eg_60, c_61, al_65, rfl⟩
        try dsimp only at hf_40
        refine q_if_opq (fun Q_131 kk_132 => ?_)
        obtain ⟨hg_133, hf_40⟩ := gdp hf_40
        refine ⟨_, rfl, _, rfl, _, _, xs_64, rfl, (c_61.get 0 rfl), AL.mono c_61.gh al_65, hg_133, fun p_134 np_135 => ?_⟩
        have c_137 := c_61.junk np_135 (setL w p_134 xs_64)
        have hs_136 : upd H_69 p_134 (setL w p_134 xs_64) p_134 = some (setL w p_134 xs_64) := upd_same
        generalize hh : upd H_69 p_134 (setL w p_134 xs_64) = H_138 at c_137 hs_136 ⊢
        clear hh
        refine ⟨_, _, rfl, hs_136, fun p_139 np_140 => ?_⟩
        have c_141 := c_137.newO np_140 (.lst (List.map V.int (srt xs_64)))
        generalize hh : upd H_138 p_139 (.lst (List.map V.int (srt xs_64))) = H_142 at c_141 ⊢
        clear hh
        refine ⟨_, _, ⟨p_62, vs_63, rfl, (c_141.get 1 rfl), AL.mono c_141.gh al_65⟩, ⟨p_139, (List.map V.int (srt xs_64)), rfl, (c_141.get 0 rfl), AL.mono c_141.gh (la_I G_59 (srt xs_64))⟩, (okI _), (okI _), _, rfl, ?_⟩
        obtain ⟨b_171, hb_172, hf_40⟩ := bs hf_40
        refine or_h hb_172 (R := (fun H9 => ∃ G9, Ex G_59 G9 ∧ Cf [] H0 G0 G9 [(p_139, (.lst (List.map V.int (srt xs_64)))), (p_62, (.lst vs_63)), (p_21, (.lst (List.map V.str (Txt.split text' (" " : Str))))), (p_16, (.lst vs_28))] H9)) (fun ha_170 hq_143 q_169 => ?_) ⟨_, Ex.refl _, c_141⟩ ?_
        · skip
          refine ⟨_, rfl, (Nat.zero_le _), fun p_144 np_145 => ?_⟩
          have c_146 := c_141.newO np_145 (.lst [])
          generalize hh : upd H_142 p_144 (.lst []) = H_147 at c_146 ⊢
          clear hh
          refine ⟨_, _, ⟨p_62, vs_63, rfl, (c_146.get 2 rfl), AL.mono c_146.gh al_65⟩, ⟨p_144, [], rfl, (c_146.get 0 rfl), AL.mono c_146.gh A2.nil⟩, (okI _), (okI _), _, rfl, ?_⟩
          obtain ⟨b_166, hb_167, hq_143⟩ := bs hq_143
          refine and_r hb_167 (fun ha_165 hq_148 q_164 => ?_) ?_
          · skip
            obtain ⟨y_149, hb_150, hq_148⟩ := bs hq_148
            obtain ⟨v_151, hv_152, rv_153⟩ := at_l al_65 hb_150
            obtain rfl := (show v_151 = (.int y_149) from rv_153)
            refine ⟨_, rfl, _, _, _, _, rfl, rfl, (SqL.of (c_146.get 2 rfl)), hv_152, _, _, rfl, rfl, _, rfl, ?_⟩
            obtain ⟨b_162, hb_163, hq_148⟩ := bs hq_148
            refine or_r hb_163 (fun ha_161 hq_154 q_160 => ?_) ?_
            · skip
              obtain ⟨y_155, hb_156, hq_154⟩ := bs hq_154
              obtain ⟨v_157, hv_158, rv_159⟩ := at_l al_65 hb_156
              obtain rfl := (show v_157 = (.int y_155) from rv_159)
              refine ⟨_, rfl, _, rfl, _, _, _, _, rfl, rfl, (SqL.of (c_146.get 2 rfl)), hv_158, _, rfl, _, _, (List.length xs_29), rfl, (c_146.get 4 rfl), (A2.len (AL.mono eg_60 al_30)), _, _, rfl, rfl, _, rfl, ?_⟩
              obtain rfl := some_in hq_154
              exact q_160
            obtain rfl := some_in hq_148
            exact q_164
          have c_168 : Cf [] H0 G0 G_59 [(p_139, (.lst (List.map V.int (srt xs_64)))), (p_62, (.lst vs_63)), (p_21, (.lst (List.map V.str (Txt.split text' (" " : Str))))), (p_16, (.lst vs_28))] H_147 := c_146.drop
          obtain rfl := some_in hq_143
          exact q_169 _ ⟨_, Ex.refl _, c_168⟩
        rintro H_174 ⟨G_173, eg_175, c_176⟩
        refine kk_132 _ _ ?_
        refine ite_m hf_40 (fun hc_177 hf_40 => ?_) (fun hc_177 hf_40 => ?_)
        · skip
          refine ret_opq (fun Q_178 kk_179 => ?_)
          refine kk_179 _ _ ?_
          obtain rfl := some_in hf_40
          obtain rfl := some_in hgo_41
          obtain rfl := some_in hm
          exact k .non G_173 H_174 c_176.stp rfl
        · skip
          try dsimp only [tNext]
          refine drop_opq (fun Q_180 kk_181 => ?_)
          have c_182 : Cf [] H0 G0 G_173 [(p_62, (.lst vs_63)), (p_139, (.lst (List.map V.int (srt xs_64)))), (p_21, (.lst (List.map V.str (Txt.split text' (" " : Str))))), (p_16, (.lst vs_28))] H_174 := c_176.front 1 rfl
          obtain ⟨G_186, eg_184, sq_185, c_183⟩ : ∃ G9, Ex G_173 G9 ∧ G9 p_62 = some (.lst vs_63) ∧ Cf [] H0 G0 G9 [(p_139, (.lst (List.map V.int (srt xs_64)))), (p_21, (.lst (List.map V.str (Txt.split text' (" " : Str))))), (p_16, (.lst vs_28))] H_174 := ⟨_, freeze_ex c_182, upd_same, c_182.freeze (fun _ z => (nomatch z))⟩
          obtain ⟨hg_187, hf_40⟩ := gdp hf_40
          have c_188 : Cf [] H0 G0 G_186 [(p_16, (.lst vs_28)), (p_139, (.lst (List.map V.int (srt xs_64)))), (p_21, (.lst (List.map V.str (Txt.split text' (" " : Str)))))] H_174 := c_183.front 2 rfl
          refine ⟨_, rfl, .inl ⟨rfl, _, SqL.of (c_176.get 3 rfl)⟩, _, rfl, _, _, _, rfl, rfl, c_188.hd, (by rw [A2.len (AL.mono ((eg_60.trans eg_175).trans eg_184) al_30)]; exact big_lt hg_187), ?_⟩
          obtain ⟨vs_189, hvs, al_190⟩ : ∃ vs9, vs9 = (vs_28 ++ [(.ref p_62)]) ∧ AL (rL rI) G_186 vs9 (xs_29 ++ [xs_64]) := ⟨_, rfl, (A2.app (AL.mono ((eg_60.trans eg_175).trans eg_184) al_30) (A2.one ⟨p_62, vs_63, rfl, sq_185, (AL.mono (eg_175.trans eg_184) al_65)⟩))⟩
          rw [← hvs]
          clear hvs
          have c_191 := c_188.mut (.lst vs_189)
          generalize hh : upd H_174 p_16 (.lst vs_189) = H_192 at c_191 ⊢
          clear hh
          refine kk_181 _ _ ?_
          have c_193 : Cf [] H0 G0 G_186 [(p_139, (.lst (List.map V.int (srt xs_64)))), (p_16, (.lst vs_189)), (p_21, (.lst (List.map V.str (Txt.split text' (" " : Str)))))] H_192 := c_191.front 1 rfl
          have c_194 : Cf [] H0 G0 G_186 [(p_16, (.lst vs_189)), (p_21, (.lst (List.map V.str (Txt.split text' (" " : Str)))))] H_192 := c_193.drop
          have c_195 : Cf [] H0 G0 G_186 [(p_21, (.lst (List.map V.str (Txt.split text' (" " : Str))))), (p_16, (.lst vs_189))] H_192 := c_194.front 1 rfl
          obtain rfl := some_in hf_40
          exact ⟨G_186, vs_189, (xs_29 ++ [xs_64]), (some (.str y_36)), (some (.ref p_62)), rfl, (((eg_26.trans eg_60).trans eg_175).trans eg_184), c_195, al_190, hgo_41⟩
      · obtain ⟨G_25, vs_28, xs_29, o_31, o_32, rfl, eg_26, c_27, al_30, ho_34⟩ := hI
        obtain rfl := lpx_nil ho_34
        dsimp only [Out.fin] at hm
        try dsimp only at hm
        try dsimp only
        refine ret_opq (fun Q_198 kk_199 => ?_)
        refine ⟨_, rfl, ?_⟩
        refine kk_199 _ _ ?_
        have c_200 : Cf [] H0 G0 G_25 [(p_16, (.lst vs_28)), (p_21, (.lst (List.map V.str (Txt.split text' (" " : Str)))))] H_38 := c_27.front 1 rfl
        obtain ⟨G_204, eg_202, sq_203, c_201⟩ : ∃ G9, Ex G_25 G9 ∧ G9 p_16 = some (.lst vs_28) ∧ Cf [] H0 G0 G9 [(p_21, (.lst (List.map V.str (Txt.split text' (" " : Str)))))] H_38 := ⟨_, freeze_ex c_200, upd_same, c_200.freeze (fun _ z => (nomatch z))⟩
        obtain rfl := some_in hm
        exact k (.ref p_16) G_204 H_38 c_201.stp (show ((rO (rL (rL rI)))).r G_204 (.ref p_16) (some xs_29) from ⟨p_16, vs_28, rfl, sq_203, (AL.mono eg_202 al_30)⟩)
theorem sc__law_due_colours : FnScope ["text", "word", "row"] ["text"] (defScope s__law_due_colours) := ⟨rfl, rfl, rfl, by decide +kernel, rfl, by decide +kernel, by decide +kernel⟩
def m__law_due_colours (text' : Str) : Option (Option (List Int)) :=
  if (decide (text' = ("." : Str))) then (some (some ([] : List Int))) else (gd (Str.length text' + 2 ≤ BIG) (gd (List.length (Txt.split text' (" " : Str)) < BIG) ((lcm (fun (y_39 : Str) => (m__law_number y_39).bind fun y_58 => (some y_58)) (Txt.split text' (" " : Str))).bind fun xs_29 => ((lmin xs_29).bind fun y_70 => (if (decide (y_70 < (1 : Int))) then (some none) else (some (some xs_29)))))))
def sp__law_due_colours (K : PySem.W.Frag) : Sp := fun vs H Q _ => ∃ (G : Hp) (text' : Str) (r : (Option (List Int))), vs = [(.str text')] ∧ Ex G H ∧ m__law_due_colours text' = some r ∧ ∀ (v9 : V) (G' H' : Hp), Stp [] G G' H H' → (rO (rL rI)).r G' v9 r → Q v9 H'
theorem ok__law_due_colours (T : Env K mg) : FnOk P w K mg base CX0 2 T.f__law_due_colours T.d__law_due_colours ["text"] (sp__law_due_colours K) := by
  refine T.F__law_due_colours.ok sc__law_due_colours (fun vs H Q E h => ?_) (fun cdv A outer s H0 vs Q E hr h => ?_)
  · obtain ⟨G0, text', r, rfl, _⟩ := h
    rfl
  · obtain ⟨G0, text', r, rfl, hG0, hm, k⟩ := h
    have hu := hr.units
    have hu65 := hu65 hr
    have c0 := Cf.start hG0
    unfold m__law_due_colours at hm
    refine ⟨_, (pss_cons (ps_if (pt_cmpR op_eqS (pv 0) pe_str (nomark _)) (pss_one (ps_ret (pe_lst pa_nil))) pss_nil)
      (pss_cons (ps_setLc (i := 2) (own := [("word", 1)]) (g := gName 1) (tt := tYes)  rfl sc__law_due_colours.nd rfl rfl (sw_true rfl rfl rfl (by decide +kernel)) (pi_list (pe_split (pv 0) pe_str)) (blkOk_by (own := [("word", 1)]) (N := ["text", "word", "row"]) (sc := defScope s__law_due_colours) (by decide +kernel)) (fun _ _ _ _ _ => (pg_name (i := 1) sc__law_due_colours.nd rfl (by first | exact Or.inl rfl | exact Or.inr rfl))) (fun _ _ _ _ _ => pts_nil) (fun _ _ _ _ _ => (pe_call (ok__law_number T) (hr.mono (by decide)) (by rfl) T.g__law_number T.F__law_number.kp T.b__law_number .nil pass0 (pa_cons (pv 1) pa_nil))))
      (pss_cons (ps_if (pt_cmpR op_lt (pe_callB (call_lmin rfl) (by rfl) T.n_min bt_min (pa_cons (pv 2) pa_nil)) pe_int (nomark _)) (pss_one (ps_ret pe_non)) pss_nil)
      (pss_one (ps_ret (pv 2)))))), ?_⟩
    refine q_if_opq (fun Q_1 kk_2 => ?_)
    refine ⟨_, rfl, _, _, rfl, rfl, _, rfl, ?_⟩
    refine kk_2 _ _ ?_
    refine ite_m hm (fun hc_3 hm => ?_) (fun hc_3 hm => ?_)
    · skip
      refine ret_opq (fun Q_4 kk_5 => ?_)
      refine ⟨(Nat.zero_le _), fun p_6 np_7 => ?_⟩
      have c_8 := c0.newO np_7 (.lst [])
      generalize hh : upd H0 p_6 (.lst []) = H_9 at c_8 ⊢
      clear hh
      refine kk_5 _ _ ?_
      obtain ⟨G_13, eg_11, sq_12, c_10⟩ : ∃ G9, Ex G0 G9 ∧ G9 p_6 = some (.lst []) ∧ Cf [] H0 G0 G9 [] H_9 := ⟨_, freeze_ex c_8, upd_same, c_8.freeze (fun _ z => (nomatch z))⟩
      obtain rfl := some_in hm
      exact k (.ref p_6) G_13 H_9 c_10.stp (show ((rO (rL rI))).r G_13 (.ref p_6) (some ([] : List Int)) from ⟨p_6, [], rfl, sq_12, (AL.mono eg_11 A2.nil)⟩)
    · skip
      try dsimp only [tNext]
      refine q_asg_opq (fun Q_14 kk_15 => ?_)
      obtain ⟨hg_16, hm⟩ := gdp hm
      refine ⟨_, rfl, ⟨_, rfl⟩, _, _, rfl, rfl, (by decide +kernel), (le_big hg_16), fun p_17 np_18 => ?_⟩
      have c_19 := c0.newO np_18 (.lst (List.map V.str (Txt.split text' (" " : Str))))
      generalize hh : upd H0 p_17 (.lst (List.map V.str (Txt.split text' (" " : Str)))) = H_20 at c_19 ⊢
      clear hh
      obtain ⟨hg_21, hm⟩ := gdp hm
      refine ⟨_, rfl, ⟨_, SqL.of (c_19.get 0 rfl)⟩, fun D_22 nD_23 => ?_⟩
      have c_24 := c_19.newO nD_23 (.lst [])
      obtain ⟨out_31, hb_32, hm⟩ := bs hm
      refine lc_w (walk_list (xs := (List.map V.str (Txt.split text' (" " : Str))))) (Txt.split text' (" " : Str)) (A2.len (la_S G0 (Txt.split text' (" " : Str)))) (fun l_38 H_40 => ∃ (G_25 : Hp) (vs_28 : List V) (xs_29 : (List Int)), Ex G0 G_25 ∧ Cf [] H0 G0 G_25 [(D_22, (.lst vs_28)), (p_17, (.lst (List.map V.str (Txt.split text' (" " : Str)))))] H_40 ∧ AL rI G_25 vs_28 xs_29 ∧ List.length xs_29 + List.length l_38 < BIG ∧ ∃ rest_34, lcm (fun (y_39 : Str) => (m__law_number y_39).bind fun y_58 => (some y_58)) l_38 = some rest_34 ∧ xs_29 ++ rest_34 = out_31)
        ⟨G0, [], ([] : List Int), Ex.refl _, c_24, A2.nil, ⟨by simpa using hg_21, out_31, hb_32, rfl⟩⟩
        (fun l_38 H_40 hI => by
          obtain ⟨G_25, vs_28, xs_29, eg_26, c_27, al_30, ⟨hlen_37, rest_34, hf_35, hout_36⟩⟩ := hI
          exact (SqL.of (c_27.get 1 rfl)))
        (fun i_42 y_39 l_38 H_40 v_43 H_46 hx_44 hI hy_45 => ?_) (fun H_40 hI => ?_)
      · obtain ⟨G_25, vs_28, xs_29, eg_26, c_27, al_30, ⟨hlen_37, rest_34, hf_35, hout_36⟩⟩ := hI
        obtain ⟨z_47, rest_48, hq_41, hf_49, ho_50⟩ := lcm_cons hf_35
        try dsimp only at hq_41
        obtain ⟨rfl, hv_52⟩ := hy_45
        obtain ⟨v_53, hv_54, rv_55⟩ := A2.get (la_S G0 (Txt.split text' (" " : Str))) hx_44
        obtain rfl := Option.some.inj (hv_52.symm.trans hv_54)
        obtain rfl := (show v_43 = (.str y_39) from rv_55)
        refine ⟨rfl, ?_⟩
        refine yes_q ?_
        refine opqV (fun Q_56 kk_57 => ?_)
        obtain ⟨y_58, hb_59, hq_41⟩ := bs hq_41
        refine ⟨_, rfl, G_25, y_39, y_58, rfl, c_27.gh, hb_59, fun G_60 H_61 sp_62 => ?_⟩
        have c_63 := c_27.call sp_62
        refine kk_57 _ _ ?_
        refine ⟨_, c_63.hd, big_lt (by have h9 := hlen_37; have h8 := A2.len (AL.mono sp_62.gg al_30); simp only [List.length_cons] at h9; omega), ?_⟩
        obtain ⟨vs_64, hvs, al_65⟩ : ∃ vs9, vs9 = (vs_28 ++ [(.int y_58)]) ∧ AL rI G_60 vs9 (xs_29 ++ [y_58]) := ⟨_, rfl, (A2.app (AL.mono sp_62.gg al_30) (A2.one rfl))⟩
        rw [← hvs]
        clear hvs
        have c_66 := c_63.mut (.lst vs_64)
        generalize hh : upd H_61 D_22 (.lst vs_64) = H_67 at c_66 ⊢
        clear hh
        obtain rfl := some_in hq_41
        exact ⟨G_60, vs_64, (xs_29 ++ [y_58]), (eg_26.trans sp_62.gg), c_66, al_65, ⟨by have h9 := hlen_37; simp only [List.length_append, List.length_cons, List.length_nil] at h9 ⊢; first | done | omega, rest_48, hf_49, by rw [← hout_36, ho_50]; first | done | simp⟩⟩
      obtain ⟨G_25, vs_28, xs_29, eg_26, c_27, al_30, ⟨hlen_37, rest_34, hf_35, hout_36⟩⟩ := hI
      obtain rfl := some_in hf_35
      rw [List.append_nil] at hout_36
      subst hout_36
      refine kk_15 _ _ ?_
      refine q_if_opq (fun Q_68 kk_69 => ?_)
      obtain ⟨y_70, hb_71, hm⟩ := bs hm
      refine ⟨_, rfl, _, _, xs_29, _, rfl, (c_27.get 0 rfl), AL.mono c_27.gh al_30, hb_71, _, _, rfl, rfl, _, rfl, ?_⟩
      refine kk_69 _ _ ?_
      refine ite_m hm (fun hc_72 hm => ?_) (fun hc_72 hm => ?_)
      · skip
        refine ret_opq (fun Q_73 kk_74 => ?_)
        refine kk_74 _ _ ?_
        obtain rfl := some_in hm
        exact k .non G_25 H_40 c_27.stp rfl
      · skip
        try dsimp only [tNext]
        refine ret_opq (fun Q_75 kk_76 => ?_)
        refine ⟨_, rfl, ?_⟩
        refine kk_76 _ _ ?_
        obtain ⟨G_80, eg_78, sq_79, c_77⟩ : ∃ G9, Ex G_25 G9 ∧ G9 D_22 = some (.lst vs_28) ∧ Cf [] H0 G0 G9 [(p_17, (.lst (List.map V.str (Txt.split text' (" " : Str)))))] H_40 := ⟨_, freeze_ex c_27, upd_same, c_27.freeze (fun _ z => (nomatch z))⟩
        obtain rfl := some_in hm
        exact k (.ref D_22) G_80 H_40 c_77.stp (show ((rO (rL rI))).r G_80 (.ref D_22) (some xs_29) from ⟨D_22, vs_28, rfl, sq_79, (AL.mono eg_78 al_30)⟩)
theorem sc__law_is_read0 : FnScope ["kind", "text", "told", "refused", "due"] ["kind", "text"] (defScope s__law_is_read) := ⟨rfl, rfl, rfl, by decide +kernel, rfl, by decide +kernel, by decide +kernel⟩
def m__law_is_read0 (text' : Str) : Option Bool :=
  ((((m_read_web_x text').bind fun z_18 => exo z_18 (fun (e_19 : Er) => gd (e_19.1 = 0) (some ((none : (Option (List (List Int)))), true))) (fun (y_20 : (List (List Int))) => (some ((some y_20), false)))) : Option ((Option (List (List Int))) × Bool))).bind fun (s_114 : ((Option (List (List Int))) × Bool)) => (fun (x_9 : (Option (List (List Int)))) (x_11 : Bool) => ((m__law_due_web text').bind fun y_52 => (oel y_52 (if true then (some x_11) else none) (fun (y_61 : (List (List Int))) => if false then none else (if x_11 then (some false) else (if true then (oel x_9 (none) (fun (y_83 : (List (List Int))) => (m__law_same_rows y_83 y_61).bind fun y_89 => ((pAnd y_89 ((m_show_web y_83).bind fun y_100 => (some (decide (y_100 = text'))))).bind fun b_108 => (some b_108)))) else none)))))) s_114.1 s_114.2
def sp__law_is_read0 (K : PySem.W.Frag) : Sp := fun vs H Q _ => ∃ (G : Hp) (text' : Str) (r : Bool), vs = [.int (0 : Int), (.str text')] ∧ Ex G H ∧ m__law_is_read0 text' = some r ∧ ∀ (G' H' : Hp), Stp [] G G' H H' → Q (.bl r) H'
theorem ok__law_is_read0 (T : Env K mg) : FnOk P w K mg base CX0 5 T.f__law_is_read T.d__law_is_read ["kind", "text"] (sp__law_is_read0 K) := by
  refine T.F__law_is_read.ok sc__law_is_read0 (fun vs H Q E h => ?_) (fun cdv A outer s H0 vs Q E hr h => ?_)
  · obtain ⟨G0, text', r, rfl, _⟩ := h
    rfl
  · obtain ⟨G0, text', r, rfl, hG0, hm, k⟩ := h
    have hu := hr.units
    have hu65 := hu65 hr
    have c0 := Cf.start hG0
    unfold m__law_is_read0 at hm
    refine ⟨_, (pss_cons (ps_set (i := 2) sc__law_is_read0.nd rfl (by first | exact Or.inl rfl | exact Or.inr rfl) pe_non)
      (pss_cons (ps_set (i := 3) sc__law_is_read0.nd rfl (by first | exact Or.inl rfl | exact Or.inr rfl) pe_bl)
      (Evl.pss_cut (ps_try_only rfl rfl ⟨rfl, by decide, .inl T.g_InvalidText⟩ takes0 (fun W pn xe tk po => (pss_one (ps_set (i := 2) sc__law_is_read0.nd rfl (by first | exact Or.inl rfl | exact Or.inr rfl) (pe_ifExp (pt_cmpR op_eqI (pv 0) pe_int (nomark _)) (pe_callS (ok_read_web_x T) (hr.mono (by decide)) (by rfl) T.g_read_web T.F_read_web.kp T.b_read_web (fun σ => passAt tk σ) (pa_cons (pv 1) pa_nil)) pe_never)))) (fun a oe cls d pn _ _ => (pss_one (ps_set (i := 3) sc__law_is_read0.nd rfl (by first | exact Or.inl rfl | exact Or.inr rfl) pe_bl))))
      (pss_cons (ps_set (i := 4) sc__law_is_read0.nd rfl (by first | exact Or.inl rfl | exact Or.inr rfl) (pe_ifExp (pt_cmpR op_eqI (pv 0) pe_int (nomark _)) (pe_call (ok__law_due_web T) (hr.mono (by decide)) (by rfl) T.g__law_due_web T.F__law_due_web.kp T.b__law_due_web .nil pass0 (pa_cons (pv 1) pa_nil)) pe_never))
      (pss_cons (ps_if (pt_cmpR op_isN (pv 4) pe_non (nomark _)) (pss_one (ps_ret (pv 3))) pss_nil) (pss_cons (ps_if (pt_val (pv 3)) (pss_one (ps_ret pe_bl)) pss_nil) (pss_cons (ps_if (pt_cmpR op_eqI (pv 0) pe_int (nomark _)) (pss_one (ps_ret (pe_and (pe_call (ok__law_same_rows T) (hr.mono (by decide)) (by rfl) T.g__law_same_rows T.F__law_same_rows.kp T.b__law_same_rows .nil pass0 (pa_cons (pv 2) (pa_cons (pv 4) pa_nil))) (pe_one (pe_cmpR op_eqS (pe_call (ok_show_web T) (hr.mono (by decide)) (by rfl) T.g_show_web T.F_show_web.kp T.b_show_web .nil pass0 (pa_cons (pv 2) pa_nil)) (pv 1) (nomark _)))))) pss_nil) pss_never))))))), ?_⟩
    refine q_asg_opq (fun Q_1 kk_2 => ?_)
    refine kk_2 _ _ ?_
    refine q_asg_opq (fun Q_3 kk_4 => ?_)
    refine kk_4 _ _ ?_
    obtain ⟨s_12, hs_13, hm⟩ := bs hm
    refine ⟨(fun σ_14 H_15 => ∃ (G_5 : Hp) (v_8 : V) (x_9 : (Option (List (List Int)))) (x_11 : Bool), σ_14 = [(some (.int (0 : Int))), (some (.str text')), (some v_8), (some (.bl x_11)), none] ∧ Ex G0 G_5 ∧ Cf [] H0 G0 G_5 [] H_15 ∧ (rO (rL (rL rI))).r G_5 v_8 x_9 ∧ (x_9, x_11) = s_12), ?_, ?_⟩
    · skip
      refine asg_opq (fun Q_16 kk_17 => ?_)
      refine ⟨_, rfl, _, _, rfl, rfl, _, rfl, ?_⟩
      refine ite_yes (by first | decide | rfl) ?_
      refine ⟨_, rfl, ?_⟩
      obtain ⟨z_18, hb_21, hs_13⟩ := bs hs_13
      rcases z_18 with e_19 | y_20
      · skip
        dsimp only [exo] at hs_13
        refine ⟨G0, text', (Except.error e_19), rfl, c0.gh, hb_21, (fun _ z9 => nomatch z9), fun e_29 he8 G_22 H_23 cls_24 d_25 sp_26 hc_27 hf_28 => ?_⟩
        obtain rfl := Except.error.inj he8
        have c_30 := c0.call sp_26
        have hf_31 := hf_28.up c0
        obtain ⟨hg_32, hs_13⟩ := gdp hs_13
        obtain rfl := cls_is hc_27 hg_32 T.g_InvalidText
        refine ⟨true, T.e_InvalidText, fun _ a9 na9 => ?_, fun q9 => nomatch q9⟩
        refine asg_opq (fun Q_33 kk_34 => ?_)
        refine kk_34 _ _ ?_
        obtain rfl := some_in hs_13
        exact ⟨G_22, V.non, (none : (Option (List (List Int)))), true, rfl, sp_26.gg, c_30, ((rO (rL (rL rI))).mono sp_26.gg rfl), rfl⟩
      dsimp only [exo] at hs_13
      refine ⟨G0, text', (Except.ok y_20), rfl, c0.gh, hb_21, fun r9 hr9 p_39 vs_40 G_35 H_36 sp_37 np_41 gp_42 hp_43 al_44 => ?_, (fun _ z9 => nomatch z9)⟩
      obtain rfl := Except.ok.inj hr9
      have c_38 := c0.callO sp_37 np_41 gp_42 hp_43
      refine kk_17 _ _ ?_
      obtain ⟨G_49, eg_47, sq_48, c_46⟩ : ∃ G9, Ex G_35 G9 ∧ G9 p_39 = some (.lst vs_40) ∧ Cf [] H0 G0 G9 [] H_36 := ⟨_, freeze_ex c_38, upd_same, c_38.freeze (fun _ z => (nomatch z))⟩
      obtain rfl := some_in hs_13
      exact ⟨G_49, (.ref p_39), (some y_20), false, rfl, (sp_37.gg.trans eg_47), c_46, (show ((rO (rL (rL rI)))).r G_49 (.ref p_39) (some y_20) from ⟨p_39, vs_40, rfl, sq_48, (AL.mono eg_47 al_44)⟩), rfl⟩
    rintro σ_14 H_15 ⟨G_5, v_8, x_9, x_11, rfl, eg_6, c_7, rv_10, rfl⟩
    try dsimp only at hm
    refine q_asg_opq (fun Q_50 kk_51 => ?_)
    refine ⟨_, rfl, _, _, rfl, rfl, _, rfl, ?_⟩
    refine ite_yes (by first | decide | rfl) ?_
    obtain ⟨y_52, hb_53, hm⟩ := bs hm
    refine ⟨_, rfl, G_5, text', y_52, rfl, c_7.gh, hb_53, fun v_58 G_54 H_55 sp_56 rv_59 => ?_⟩
    have c_57 := c_7.call sp_56
    refine kk_51 _ _ ?_
    rcases y_52 with _ | y_61
    · skip
      dsimp only [oel] at hm
      obtain rfl := (show v_58 = .non from rv_59)
      refine q_if_opq (fun Q_62 kk_63 => ?_)
      refine ⟨_, rfl, rfl, _, rfl, ?_⟩
      refine kk_63 _ _ ?_
      refine ite_yes (by first | decide | rfl) ?_
      have hm := if_yes (by decide) hm
      refine ret_opq (fun Q_65 kk_66 => ?_)
      refine ⟨_, rfl, ?_⟩
      refine kk_66 _ _ ?_
      obtain rfl := some_in hm
      exact k G_54 H_55 c_57.stp
    · skip
      dsimp only [oel] at hm
      have rv_67 : (rL (rL rI)).r G_54 v_58 y_61 := rv_59
      refine q_if_opq (fun Q_68 kk_69 => ?_)
      obtain ⟨a_70, vs_71, rfl, sq_72, al_73⟩ := rv_67
      refine ⟨_, rfl, rfl, _, rfl, ?_⟩
      refine kk_69 _ _ ?_
      refine ite_no (by first | decide | rfl) ?_
      have hm := if_no (by decide) hm
      try dsimp only [tNext]
      refine q_if_opq (fun Q_75 kk_76 => ?_)
      refine ⟨_, rfl, _, rfl, ?_⟩
      refine kk_76 _ _ ?_
      refine ite_m hm (fun hc_77 hm => ?_) (fun hc_77 hm => ?_)
      · skip
        refine ret_opq (fun Q_78 kk_79 => ?_)
        refine kk_79 _ _ ?_
        obtain rfl := some_in hm
        exact k G_54 H_55 c_57.stp
      · skip
        try dsimp only [tNext]
        refine q_if_opq (fun Q_80 kk_81 => ?_)
        refine ⟨_, rfl, _, _, rfl, rfl, _, rfl, ?_⟩
        refine kk_81 _ _ ?_
        refine ite_yes (by first | decide | rfl) ?_
        have hm := if_yes (by decide) hm
        rcases x_9 with _ | y_83
        · skip
          dsimp only [oel] at hm
          obtain rfl := (show v_8 = .non from ((rO (rL (rL rI))).mono sp_56.gg rv_10))
          cases hm
        · skip
          dsimp only [oel] at hm
          have rv_86 : (rL (rL rI)).r G_54 v_8 y_83 := ((rO (rL (rL rI))).mono sp_56.gg rv_10)
          refine ret_opq (fun Q_87 kk_88 => ?_)
          obtain ⟨y_89, hb_90, hm⟩ := bs hm
          obtain ⟨a_91, vs_92, rfl, sq_93, al_94⟩ := rv_86
          refine ⟨_, rfl, _, rfl, G_54, a_91, vs_92, y_83, a_70, vs_71, y_61, y_89, rfl, c_57.gh, (SqB.of (c_57.gh _ _ sq_93)), al_94, (SqB.of (c_57.gh _ _ sq_72)), al_73, hb_90, fun G_95 H_96 sp_97 => ?_⟩
          have c_98 := c_57.call sp_97
          refine ⟨_, rfl, ?_⟩
          obtain ⟨b_108, hb_109, hm⟩ := bs hm
          refine andV_h hb_109 (R := (fun H9 => ∃ G9, Ex G_95 G9 ∧ Cf [] H0 G0 G9 [] H9)) (fun ha_107 hq_99 q_106 => ?_) ⟨_, Ex.refl _, c_98⟩ ?_
          · skip
            obtain ⟨y_100, hb_101, hq_99⟩ := bs hq_99
            refine ⟨_, rfl, G_95, a_91, vs_92, y_83, y_100, rfl, c_98.gh, (SqB.of (c_98.gh _ _ (sp_97.gg _ _ sq_93))), (AL.mono sp_97.gg al_94), hb_101, fun G_102 H_103 sp_104 => ?_⟩
            have c_105 := c_98.call sp_104
            refine ⟨_, rfl, _, _, rfl, rfl, ?_⟩
            obtain rfl := some_in hq_99
            exact q_106 _ ⟨_, sp_104.gg, c_105⟩
          rintro H_111 ⟨G_110, eg_112, c_113⟩
          refine kk_88 _ _ ?_
          obtain rfl := some_in hm
          exact k G_110 H_111 c_113.stp
theorem sc__law_is_read1 : FnScope ["kind", "text", "told", "refused", "due"] ["kind", "text"] (defScope s__law_is_read) := ⟨rfl, rfl, rfl, by decide +kernel, rfl, by decide +kernel, by decide +kernel⟩
def m__law_is_read1 (text' : Str) : Option Bool :=
  ((((m_read_colours text').bind fun z_18 => exo z_18 (fun (e_19 : Er) => gd (e_19.1 = 0) (some ((none : (Option (List Int))), true))) (fun (y_20 : (List Int)) => (some ((some y_20), false)))) : Option ((Option (List Int)) × Bool))).bind fun (s_114 : ((Option (List Int)) × Bool)) => (fun (x_9 : (Option (List Int))) (x_11 : Bool) => ((m__law_due_colours text').bind fun y_52 => (oel y_52 (if true then (some x_11) else none) (fun (y_61 : (List Int)) => if false then none else (if x_11 then (some false) else (if false then none else (oel x_9 (none) (fun (y_83 : (List Int)) => (m__law_same_list y_83 y_61).bind fun y_89 => ((pAnd y_89 ((m_show_colours y_83).bind fun y_100 => (some (decide (y_100 = text'))))).bind fun b_108 => (some b_108)))))))))) s_114.1 s_114.2
def sp__law_is_read1 (K : PySem.W.Frag) : Sp := fun vs H Q _ => ∃ (G : Hp) (text' : Str) (r : Bool), vs = [.int (1 : Int), (.str text')] ∧ Ex G H ∧ m__law_is_read1 text' = some r ∧ ∀ (G' H' : Hp), Stp [] G G' H H' → Q (.bl r) H'
theorem ok__law_is_read1 (T : Env K mg) : FnOk P w K mg base CX0 3 T.f__law_is_read T.d__law_is_read ["kind", "text"] (sp__law_is_read1 K) := by
  refine T.F__law_is_read.ok sc__law_is_read1 (fun vs H Q E h => ?_) (fun cdv A outer s H0 vs Q E hr h => ?_)
  · obtain ⟨G0, text', r, rfl, _⟩ := h
    rfl
  · obtain ⟨G0, text', r, rfl, hG0, hm, k⟩ := h
    have hu := hr.units
    have hu65 := hu65 hr
    have c0 := Cf.start hG0
    unfold m__law_is_read1 at hm
    refine ⟨_, (pss_cons (ps_set (i := 2) sc__law_is_read1.nd rfl (by first | exact Or.inl rfl | exact Or.inr rfl) pe_non)
      (pss_cons (ps_set (i := 3) sc__law_is_read1.nd rfl (by first | exact Or.inl rfl | exact Or.inr rfl) pe_bl)
      (Evl.pss_cut (ps_try_only rfl rfl ⟨rfl, by decide, .inl T.g_InvalidText⟩ takes0 (fun W pn xe tk po => (pss_one (ps_set (i := 2) sc__law_is_read1.nd rfl (by first | exact Or.inl rfl | exact Or.inr rfl) (pe_ifExp (pt_cmpR op_eqI (pv 0) pe_int (nomark _)) pe_never (pe_callS (ok_read_colours T) (hr.mono (by decide)) (by rfl) T.g_read_colours T.F_read_colours.kp T.b_read_colours (fun σ => passAt tk σ) (pa_cons (pv 1) pa_nil)))))) (fun a oe cls d pn _ _ => (pss_one (ps_set (i := 3) sc__law_is_read1.nd rfl (by first | exact Or.inl rfl | exact Or.inr rfl) pe_bl))))
      (pss_cons (ps_set (i := 4) sc__law_is_read1.nd rfl (by first | exact Or.inl rfl | exact Or.inr rfl) (pe_ifExp (pt_cmpR op_eqI (pv 0) pe_int (nomark _)) pe_never (pe_call (ok__law_due_colours T) (hr.mono (by decide)) (by rfl) T.g__law_due_colours T.F__law_due_colours.kp T.b__law_due_colours .nil pass0 (pa_cons (pv 1) pa_nil))))
      (pss_cons (ps_if (pt_cmpR op_isN (pv 4) pe_non (nomark _)) (pss_one (ps_ret (pv 3))) pss_nil) (pss_cons (ps_if (pt_val (pv 3)) (pss_one (ps_ret pe_bl)) pss_nil) (pss_cons (ps_if (pt_cmpR op_eqI (pv 0) pe_int (nomark _)) pss_never pss_nil) (pss_one (ps_ret (pe_and (pe_call (ok__law_same_list T) (hr.mono (by decide)) (by rfl) T.g__law_same_list T.F__law_same_list.kp T.b__law_same_list .nil pass0 (pa_cons (pv 2) (pa_cons (pv 4) pa_nil))) (pe_one (pe_cmpR op_eqS (pe_call (ok_show_colours T) (hr.mono (by decide)) (by rfl) T.g_show_colours T.F_show_colours.kp T.b_show_colours .nil pass0 (pa_cons (pv 2) pa_nil)) (pv 1) (nomark _))))))))))))), ?_⟩
    refine q_asg_opq (fun Q_1 kk_2 => ?_)
    refine kk_2 _ _ ?_
    refine q_asg_opq (fun Q_3 kk_4 => ?_)
    refine kk_4 _ _ ?_
    obtain ⟨s_12, hs_13, hm⟩ := bs hm
    refine ⟨(fun σ_14 H_15 => ∃ (G_5 : Hp) (v_8 : V) (x_9 : (Option (List Int))) (x_11 : Bool), σ_14 = [(some (.int (1 : Int))), (some (.str text')), (some v_8), (some (.bl x_11)), none] ∧ Ex G0 G_5 ∧ Cf [] H0 G0 G_5 [] H_15 ∧ (rO (rL rI)).r G_5 v_8 x_9 ∧ (x_9, x_11) = s_12), ?_, ?_⟩
    · skip
      refine asg_opq (fun Q_16 kk_17 => ?_)
      refine ⟨_, rfl, _, _, rfl, rfl, _, rfl, ?_⟩
      refine ite_no (by first | decide | rfl) ?_
      refine ⟨_, rfl, ?_⟩
      obtain ⟨z_18, hb_21, hs_13⟩ := bs hs_13
      rcases z_18 with e_19 | y_20
      · skip
        dsimp only [exo] at hs_13
        refine ⟨G0, text', (Except.error e_19), rfl, c0.gh, hb_21, (fun _ z9 => nomatch z9), fun e_29 he8 G_22 H_23 cls_24 d_25 sp_26 hc_27 hf_28 => ?_⟩
        obtain rfl := Except.error.inj he8
        have c_30 := c0.call sp_26
        have hf_31 := hf_28.up c0
        obtain ⟨hg_32, hs_13⟩ := gdp hs_13
        obtain rfl := cls_is hc_27 hg_32 T.g_InvalidText
        refine ⟨true, T.e_InvalidText, fun _ a9 na9 => ?_, fun q9 => nomatch q9⟩
        refine asg_opq (fun Q_33 kk_34 => ?_)
        refine kk_34 _ _ ?_
        obtain rfl := some_in hs_13
        exact ⟨G_22, V.non, (none : (Option (List Int))), true, rfl, sp_26.gg, c_30, ((rO (rL rI)).mono sp_26.gg rfl), rfl⟩
      dsimp only [exo] at hs_13
      refine ⟨G0, text', (Except.ok y_20), rfl, c0.gh, hb_21, fun r9 hr9 p_39 vs_40 G_35 H_36 sp_37 np_41 gp_42 hp_43 al_44 => ?_, (fun _ z9 => nomatch z9)⟩
      obtain rfl := Except.ok.inj hr9
      have c_38 := c0.callO sp_37 np_41 gp_42 hp_43
      refine kk_17 _ _ ?_
      obtain ⟨G_49, eg_47, sq_48, c_46⟩ : ∃ G9, Ex G_35 G9 ∧ G9 p_39 = some (.lst vs_40) ∧ Cf [] H0 G0 G9 [] H_36 := ⟨_, freeze_ex c_38, upd_same, c_38.freeze (fun _ z => (nomatch z))⟩
      obtain rfl := some_in hs_13
      exact ⟨G_49, (.ref p_39), (some y_20), false, rfl, (sp_37.gg.trans eg_47), c_46, (show ((rO (rL rI))).r G_49 (.ref p_39) (some y_20) from ⟨p_39, vs_40, rfl, sq_48, (AL.mono eg_47 al_44)⟩), rfl⟩
    rintro σ_14 H_15 ⟨G_5, v_8, x_9, x_11, rfl, eg_6, c_7, rv_10, rfl⟩
    try dsimp only at hm
    refine q_asg_opq (fun Q_50 kk_51 => ?_)
    refine ⟨_, rfl, _, _, rfl, rfl, _, rfl, ?_⟩
    refine ite_no (by first | decide | rfl) ?_
    obtain ⟨y_52, hb_53, hm⟩ := bs hm
    refine ⟨_, rfl, G_5, text', y_52, rfl, c_7.gh, hb_53, fun v_58 G_54 H_55 sp_56 rv_59 => ?_⟩
    have c_57 := c_7.call sp_56
    refine kk_51 _ _ ?_
    rcases y_52 with _ | y_61
    · skip
      dsimp only [oel] at hm
      obtain rfl := (show v_58 = .non from rv_59)
      refine q_if_opq (fun Q_62 kk_63 => ?_)
      refine ⟨_, rfl, rfl, _, rfl, ?_⟩
      refine kk_63 _ _ ?_
      refine ite_yes (by first | decide | rfl) ?_
      have hm := if_yes (by decide) hm
      refine ret_opq (fun Q_65 kk_66 => ?_)
      refine ⟨_, rfl, ?_⟩
      refine kk_66 _ _ ?_
      obtain rfl := some_in hm
      exact k G_54 H_55 c_57.stp
    · skip
      dsimp only [oel] at hm
      have rv_67 : (rL rI).r G_54 v_58 y_61 := rv_59
      refine q_if_opq (fun Q_68 kk_69 => ?_)
      obtain ⟨a_70, vs_71, rfl, sq_72, al_73⟩ := rv_67
      refine ⟨_, rfl, rfl, _, rfl, ?_⟩
      refine kk_69 _ _ ?_
      refine ite_no (by first | decide | rfl) ?_
      have hm := if_no (by decide) hm
      try dsimp only [tNext]
      refine q_if_opq (fun Q_75 kk_76 => ?_)
      refine ⟨_, rfl, _, rfl, ?_⟩
      refine kk_76 _ _ ?_
      refine ite_m hm (fun hc_77 hm => ?_) (fun hc_77 hm => ?_)
      · skip
        refine ret_opq (fun Q_78 kk_79 => ?_)
        refine kk_79 _ _ ?_
        obtain rfl := some_in hm
        exact k G_54 H_55 c_57.stp
      · skip
        try dsimp only [tNext]
        refine q_if_opq (fun Q_80 kk_81 => ?_)
        refine ⟨_, rfl, _, _, rfl, rfl, _, rfl, ?_⟩
        refine kk_81 _ _ ?_
        refine ite_no (by first | decide | rfl) ?_
        have hm := if_no (by decide) hm
        try dsimp only [tNext]
        rcases x_9 with _ | y_83
        · skip
          dsimp only [oel] at hm
          obtain rfl := (show v_8 = .non from ((rO (rL rI)).mono sp_56.gg rv_10))
          cases hm
        · skip
          dsimp only [oel] at hm
          have rv_86 : (rL rI).r G_54 v_8 y_83 := ((rO (rL rI)).mono sp_56.gg rv_10)
          refine ret_opq (fun Q_87 kk_88 => ?_)
          obtain ⟨y_89, hb_90, hm⟩ := bs hm
          obtain ⟨a_91, vs_92, rfl, sq_93, al_94⟩ := rv_86
          refine ⟨_, rfl, _, rfl, G_54, a_91, vs_92, y_83, a_70, vs_71, y_61, y_89, rfl, c_57.gh, (SqB.of (c_57.gh _ _ sq_93)), al_94, (SqB.of (c_57.gh _ _ sq_72)), al_73, hb_90, fun G_95 H_96 sp_97 => ?_⟩
          have c_98 := c_57.call sp_97
          refine ⟨_, rfl, ?_⟩
          obtain ⟨b_108, hb_109, hm⟩ := bs hm
          refine andV_h hb_109 (R := (fun H9 => ∃ G9, Ex G_95 G9 ∧ Cf [] H0 G0 G9 [] H9)) (fun ha_107 hq_99 q_106 => ?_) ⟨_, Ex.refl _, c_98⟩ ?_
          · skip
            obtain ⟨y_100, hb_101, hq_99⟩ := bs hq_99
            refine ⟨_, rfl, G_95, a_91, vs_92, y_83, y_100, rfl, c_98.gh, (SqB.of (c_98.gh _ _ (sp_97.gg _ _ sq_93))), (AL.mono sp_97.gg al_94), hb_101, fun G_102 H_103 sp_104 => ?_⟩
            have c_105 := c_98.call sp_104
            refine ⟨_, rfl, _, _, rfl, rfl, ?_⟩
            obtain rfl := some_in hq_99
            exact q_106 _ ⟨_, sp_104.gg, c_105⟩
          rintro H_111 ⟨G_110, eg_112, c_113⟩
          refine kk_88 _ _ ?_
          obtain rfl := some_in hm
          exact k G_110 H_111 c_113.stp
theorem sc__law_char : FnScope ["deck", "chars"] ["deck"] (defScope s__law_char) := ⟨rfl, rfl, rfl, by decide +kernel, rfl, by decide +kernel, by decide +kernel⟩
def m__law_char (deck' : (List Int)) : Option (Str × List Int) :=
  lt ((" !\"#$&'()*+,-./0123456789:;<=>?\x40[\\]^_`{|}~ZYXWVUTSRQPONMLKJIHGFEDCBAzyxwvutsrqponmlkjihgfedcba" : Str) : Str) fun x_8 => ((m__law_draw 8 deck' (2 : Int)).bind fun z_15 => (fun (y_12 : Int) (y_13 : List Int) => (if (decide (y_12 = (0 : Int))) then ((m__law_draw 8 y_13 (17 : Int)).bind fun z_29 => (fun (y_26 : Int) (y_27 : List Int) => (gd (Str.length ("0123456789,, -.a+" : Str) ≤ BIG) ((atI (Str.cps ("0123456789,, -.a+" : Str)).toList y_26).bind fun ch_38 => (some ((⟨#[ch_38]⟩ : Str), y_27))))) z_29.1 z_29.2) else ((m__law_draw 8 y_13 (94 : Int)).bind fun z_45 => (fun (y_42 : Int) (y_43 : List Int) => (gd (Str.length x_8 ≤ BIG) ((atI (Str.cps x_8).toList y_42).bind fun ch_54 => (some ((⟨#[ch_54]⟩ : Str), y_43))))) z_45.1 z_45.2))) z_15.1 z_15.2)
def sp__law_char (K : PySem.W.Frag) : Sp := fun vs H Q _ => ∃ (G : Hp) (p_1 : Addr) (vs_2 : List V) (deck' : (List Int)) (r : (Str × List Int)), vs = [.ref p_1] ∧ Ex G H ∧ H p_1 = some (.lst vs_2) ∧ G p_1 = none ∧ AL rI G vs_2 deck' ∧ m__law_char deck' = some r ∧ ∀ (G' H' : Hp), Stp [p_1] G G' H H' → ∀ vs8, H' p_1 = some (.lst vs8) → AL rI G' vs8 r.2 → Q (.str r.1) H'
theorem ok__law_char (T : Env K mg) : FnOk P w K mg base CX0 10 T.f__law_char T.d__law_char ["deck"] (sp__law_char K) := by
  refine T.F__law_char.ok sc__law_char (fun vs H Q E h => ?_) (fun cdv A outer s H0 vs Q E hr h => ?_)
  · obtain ⟨G0, p_1, vs_2, deck', r, rfl, _⟩ := h
    rfl
  · obtain ⟨G0, p_1, vs_2, deck', r, rfl, hG0, hp_3, gp_4, al_5, hm, k⟩ := h
    have hu := hr.units
    have hu65 := hu65 hr
    have c0 := Cf.start1 hG0 hp_3 gp_4
    unfold m__law_char at hm
    refine ⟨_, (pss_cons (ps_set (i := 1) sc__law_char.nd rfl (by first | exact Or.inl rfl | exact Or.inr rfl) pe_str)
      (pss_cons (ps_if (pt_cmpR op_eqI (pe_call (ok__law_draw T 8) (hr.mono (by decide)) (by rfl) T.g__law_draw T.F__law_draw.kp T.b__law_draw .nil pass0 (pa_cons (pv 0) (pa_cons pe_int pa_nil))) pe_int (nomark _)) (pss_one (ps_ret (pe_ix ix_str pe_str (pe_call (ok__law_draw T 8) (hr.mono (by decide)) (by rfl) T.g__law_draw T.F__law_draw.kp T.b__law_draw .nil pass0 (pa_cons (pv 0) (pa_cons pe_int pa_nil))) (fun _ _ => rfl)))) pss_nil)
      (pss_one (ps_ret (pe_ix ix_str (pv 1) (pe_call (ok__law_draw T 8) (hr.mono (by decide)) (by rfl) T.g__law_draw T.F__law_draw.kp T.b__law_draw .nil pass0 (pa_cons (pv 0) (pa_cons pe_int pa_nil))) (fun _ _ => rfl)))))), ?_⟩
    refine q_asg_opq (fun Q_6 kk_7 => ?_)
    obtain ⟨x_8, hl_9, hm⟩ := ltp hm
    refine nmV (f := V.str) (P := fun v9 => Q_6 v9 _) hl_9 ?_
    refine kk_7 _ _ ?_
    refine q_if_opq (fun Q_10 kk_11 => ?_)
    obtain ⟨⟨y_12, y_13⟩, hb_14, hm⟩ := bs hm
    dsimp only at hm
    refine ⟨_, rfl, G0, p_1, vs_2, deck', (2 : Int), (y_12, y_13), rfl, c0.gh, c0.hd, c0.hdg, al_5, hb_14, fun G_16 H_17 sp_18 vs_20 hs_21 al_22 => ?_⟩
    have c_19 := c0.call1 sp_18 hs_21
    refine ⟨_, _, rfl, rfl, _, rfl, ?_⟩
    refine kk_11 _ _ ?_
    refine ite_m hm (fun hc_23 hm => ?_) (fun hc_23 hm => ?_)
    · skip
      refine ret_opq (fun Q_24 kk_25 => ?_)
      obtain ⟨⟨y_26, y_27⟩, hb_28, hm⟩ := bs hm
      dsimp only at hm
      refine ⟨_, rfl, G_16, p_1, vs_20, y_13, (17 : Int), (y_26, y_27), rfl, c_19.gh, c_19.hd, c_19.hdg, al_22, hb_28, fun G_30 H_31 sp_32 vs_34 hs_35 al_36 => ?_⟩
      have c_33 := c_19.call1 sp_32 hs_35
      obtain ⟨hg_37, hm⟩ := gdp hm
      obtain ⟨ch_38, hb_39, hm⟩ := bs hm
      refine ⟨_, _, _, rfl, rfl, (le_big hg_37), hb_39, ?_⟩
      refine kk_25 _ _ ?_
      obtain rfl := some_in hm
      exact k G_30 H_31 c_33.stp vs_34 (c_33.get 0 rfl) al_36
    · skip
      try dsimp only [tNext]
      refine ret_opq (fun Q_40 kk_41 => ?_)
      obtain ⟨⟨y_42, y_43⟩, hb_44, hm⟩ := bs hm
      dsimp only at hm
      refine ⟨_, rfl, _, rfl, G_16, p_1, vs_20, y_13, (94 : Int), (y_42, y_43), rfl, c_19.gh, c_19.hd, c_19.hdg, al_22, hb_44, fun G_46 H_47 sp_48 vs_50 hs_51 al_52 => ?_⟩
      have c_49 := c_19.call1 sp_48 hs_51
      obtain ⟨hg_53, hm⟩ := gdp hm
      obtain ⟨ch_54, hb_55, hm⟩ := bs hm
      refine ⟨_, _, _, rfl, rfl, (le_big hg_53), hb_55, ?_⟩
      refine kk_41 _ _ ?_
      obtain rfl := some_in hm
      exact k G_46 H_47 c_49.stp vs_50 (c_49.get 0 rfl) al_52
theorem sc__law_changed : FnScope ["deck", "text", "texts", "at", "char"] ["deck", "text"] (defScope s__law_changed) := ⟨rfl, rfl, rfl, by decide +kernel, rfl, by decide +kernel, by decide +kernel⟩
def m__law_changed (deck' : (List Int)) (text' : Str) : Option ((List Str) × List Int) :=
  gd (Str.length text' ≤ BIG) (gd (rok (((Str.length text' : Nat) : Int) + (1 : Int))) ((lp (fun (y_29 : Int) => fun (s_32 : ((List Str) × (List Int))) => (fun (xs_19 : (List Str)) (xs_22 : (List Int)) => (m__law_char xs_22).bind fun z_49 => (fun (y_46 : Str) (y_47 : List Int) => (gd (Str.length text' ≤ BIG) (gd (Str.length (cutS text' none (some y_29)) + Str.length y_46 ≤ BIG) (gd (Str.length text' ≤ BIG) (gd (Str.length ((cutS text' none (some y_29)) ++ y_46) + Str.length (cutS text' (some y_29) none) ≤ BIG) (gd (List.length xs_19 < BIG) (gd (Str.length text' ≤ BIG) (if (decide (y_29 < ((Str.length text' : Nat) : Int))) then (gd (Str.length text' ≤ BIG) (gd (Str.length text' ≤ BIG) (gd (Str.length (cutS text' none (some y_29)) + Str.length (cutS text' (some (y_29 + (1 : Int))) none) ≤ BIG) (gd (Str.length text' ≤ BIG) (gd (Str.length (cutS text' none (some y_29)) + Str.length y_46 ≤ BIG) (gd (Str.length text' ≤ BIG) (gd (Str.length ((cutS text' none (some y_29)) ++ y_46) + Str.length (cutS text' (some (y_29 + (1 : Int))) none) ≤ BIG) (gd (Str.length text' ≤ BIG) (gd (Str.length text' ≤ BIG) (gd (Str.length (cutS text' none (some (y_29 + (1 : Int)))) + Str.length (cutS text' (some y_29) none) ≤ BIG) (gd (List.length (xs_19 ++ [(((cutS text' none (some y_29)) ++ y_46) ++ (cutS text' (some y_29) none))]) + List.length ([((cutS text' none (some y_29)) ++ (cutS text' (some (y_29 + (1 : Int))) none)), (((cutS text' none (some y_29)) ++ y_46) ++ (cutS text' (some (y_29 + (1 : Int))) none)), ((cutS text' none (some (y_29 + (1 : Int)))) ++ (cutS text' (some y_29) none))] : List Str) < BIG) (some (((xs_19 ++ [(((cutS text' none (some y_29)) ++ y_46) ++ (cutS text' (some y_29) none))]) ++ ([((cutS text' none (some y_29)) ++ (cutS text' (some (y_29 + (1 : Int))) none)), (((cutS text' none (some y_29)) ++ y_46) ++ (cutS text' (some (y_29 + (1 : Int))) none)), ((cutS text' none (some (y_29 + (1 : Int)))) ++ (cutS text' (some y_29) none))] : List Str)), y_47))))))))))))) else (some ((xs_19 ++ [(((cutS text' none (some y_29)) ++ y_46) ++ (cutS text' (some y_29) none))]), y_47)))))))))) z_49.1 z_49.2) s_32.1 s_32.2) (rng (0 : Int) (((Str.length text' : Nat) : Int) + (1 : Int))) (([] : List Str), deck')).bind fun (s_106 : ((List Str) × (List Int))) => (fun (xs_19 : (List Str)) (xs_22 : (List Int)) => (some (xs_19, xs_22))) s_106.1 s_106.2))
def sp__law_changed (K : PySem.W.Frag) : Sp := fun vs H Q _ => ∃ (G : Hp) (p_1 : Addr) (vs_2 : List V) (deck' : (List Int)) (text' : Str) (r : ((List Str) × List Int)), vs = [.ref p_1, (.str text')] ∧ Ex G H ∧ H p_1 = some (.lst vs_2) ∧ G p_1 = none ∧ AL rI G vs_2 deck' ∧ m__law_changed deck' text' = some r ∧ ∀ (p9 : Addr) (vs9 : List V) (G' H' : Hp), Stp [p_1] G G' H H' → H p9 = none → G' p9 = none → H' p9 = some (.lst vs9) → AL rS G' vs9 r.1 → ∀ vs8, H' p_1 = some (.lst vs8) → AL rI G' vs8 r.2 → Q (.ref p9) H'
theorem ok__law_changed (T : Env K mg) : FnOk P w K mg base CX0 11 T.f__law_changed T.d__law_changed ["deck", "text"] (sp__law_changed K) := by
  refine T.F__law_changed.ok sc__law_changed (fun vs H Q E h => ?_) (fun cdv A outer s H0 vs Q E hr h => ?_)
  · obtain ⟨G0, p_1, vs_2, deck', text', r, rfl, _⟩ := h
    rfl
  · obtain ⟨G0, p_1, vs_2, deck', text', r, rfl, hG0, hp_3, gp_4, al_5, hm, k⟩ := h
    have hu := hr.units
    have hu65 := hu65 hr
    have c0 := Cf.start1 hG0 hp_3 gp_4
    unfold m__law_changed at hm
    refine ⟨_, (pss_cons (ps_set (i := 2) sc__law_changed.nd rfl (by first | exact Or.inl rfl | exact Or.inr rfl) (pe_lst pa_nil))
      (pss_cons (ps_for PassesOwn.never rfl (pi_range1 (by rfl) T.n_range (pa_cons (pe_op op_add (pe_callB call_len_str (by rfl) T.n_len bt_len (pa_cons (pv 1) pa_nil)) pe_int) pa_nil)) (pg_name (i := 3) sc__law_changed.nd rfl (by first | exact Or.inl rfl | exact Or.inr rfl)) (pss_cons (ps_set (i := 4) sc__law_changed.nd rfl (by first | exact Or.inl rfl | exact Or.inr rfl) (pe_call (ok__law_char T) (hr.mono (by decide)) (by rfl) T.g__law_char T.F__law_char.kp T.b__law_char .nil pass0 (pa_cons (pv 0) pa_nil)))
      (pss_cons (ps_expr (pe_bm PySem.F.plainAttrs_list PySem.F.slot_list_append PySem.F.type_list_append mt_append (pv 2) (pa_cons (pe_op op_add_str (pe_op op_add_str (pe_slice sl_str (pv 1) po_none (po_some (pv 3))) (pv 4)) (pe_slice sl_str (pv 1) (po_some (pv 3)) po_none)) pa_nil)))
      (pss_one (ps_if (pt_cmpR op_lt (pv 3) (pe_callB call_len_str (by rfl) T.n_len bt_len (pa_cons (pv 1) pa_nil)) (nomark _)) (pss_one (ps_set (i := 2) sc__law_changed.nd rfl (by first | exact Or.inl rfl | exact Or.inr rfl) (pe_op op_cat (pv 2) (pe_lst (pa_cons (pe_op op_add_str (pe_slice sl_str (pv 1) po_none (po_some (pv 3))) (pe_slice sl_str (pv 1) (po_some (pe_op op_add (pv 3) pe_int)) po_none)) (pa_cons (pe_op op_add_str (pe_op op_add_str (pe_slice sl_str (pv 1) po_none (po_some (pv 3))) (pv 4)) (pe_slice sl_str (pv 1) (po_some (pe_op op_add (pv 3) pe_int)) po_none)) (pa_cons (pe_op op_add_str (pe_slice sl_str (pv 1) po_none (po_some (pe_op op_add (pv 3) pe_int))) (pe_slice sl_str (pv 1) (po_some (pv 3)) po_none)) pa_nil))))))) pss_nil)))))
      (pss_one (ps_ret (pv 2))))), ?_⟩
    refine q_asg_opq (fun Q_6 kk_7 => ?_)
    refine ⟨(Nat.zero_le _), fun p_8 np_9 => ?_⟩
    have c_10 := c0.newO np_9 (.lst [])
    generalize hh : upd H0 p_8 (.lst []) = H_11 at c_10 ⊢
    clear hh
    refine kk_7 _ _ ?_
    obtain ⟨hg_12, hm⟩ := gdp hm
    obtain ⟨hg_13, hm⟩ := gdp hm
    refine ⟨_, rfl, _, rfl, (le_big hg_12), _, _, rfl, rfl, _, rfl, hg_13.1, hg_13.2, ?_⟩
    obtain ⟨o_26, ho_27, hm⟩ := bs hm
    refine for_w walk_range (rng (0 : Int) (((Str.length text' : Nat) : Int) + (1 : Int))) (by rw [rng_len]; omega) (fun l_28 σ_30 H_31 => ∃ (G_14 : Hp) (p_17 : Addr) (vs_18 : List V) (xs_19 : (List Str)) (vs_21 : List V) (xs_22 : (List Int)) (o_24 : Option V) (o_25 : Option V), σ_30 = [(some (.ref p_1)), (some (.str text')), (some (.ref p_17)), o_24, o_25] ∧ Ex G0 G_14 ∧ Cf [p_1] H0 G0 G_14 [(p_17, (.lst vs_18)), (p_1, (.lst vs_21))] H_31 ∧ AL rS G_14 vs_18 xs_19 ∧ AL rI G_14 vs_21 xs_22 ∧ lp (fun (y_29 : Int) => fun (s_32 : ((List Str) × (List Int))) => (fun (xs_19 : (List Str)) (xs_22 : (List Int)) => (m__law_char xs_22).bind fun z_49 => (fun (y_46 : Str) (y_47 : List Int) => (gd (Str.length text' ≤ BIG) (gd (Str.length (cutS text' none (some y_29)) + Str.length y_46 ≤ BIG) (gd (Str.length text' ≤ BIG) (gd (Str.length ((cutS text' none (some y_29)) ++ y_46) + Str.length (cutS text' (some y_29) none) ≤ BIG) (gd (List.length xs_19 < BIG) (gd (Str.length text' ≤ BIG) (if (decide (y_29 < ((Str.length text' : Nat) : Int))) then (gd (Str.length text' ≤ BIG) (gd (Str.length text' ≤ BIG) (gd (Str.length (cutS text' none (some y_29)) + Str.length (cutS text' (some (y_29 + (1 : Int))) none) ≤ BIG) (gd (Str.length text' ≤ BIG) (gd (Str.length (cutS text' none (some y_29)) + Str.length y_46 ≤ BIG) (gd (Str.length text' ≤ BIG) (gd (Str.length ((cutS text' none (some y_29)) ++ y_46) + Str.length (cutS text' (some (y_29 + (1 : Int))) none) ≤ BIG) (gd (Str.length text' ≤ BIG) (gd (Str.length text' ≤ BIG) (gd (Str.length (cutS text' none (some (y_29 + (1 : Int)))) + Str.length (cutS text' (some y_29) none) ≤ BIG) (gd (List.length (xs_19 ++ [(((cutS text' none (some y_29)) ++ y_46) ++ (cutS text' (some y_29) none))]) + List.length ([((cutS text' none (some y_29)) ++ (cutS text' (some (y_29 + (1 : Int))) none)), (((cutS text' none (some y_29)) ++ y_46) ++ (cutS text' (some (y_29 + (1 : Int))) none)), ((cutS text' none (some (y_29 + (1 : Int)))) ++ (cutS text' (some y_29) none))] : List Str) < BIG) (some (((xs_19 ++ [(((cutS text' none (some y_29)) ++ y_46) ++ (cutS text' (some y_29) none))]) ++ ([((cutS text' none (some y_29)) ++ (cutS text' (some (y_29 + (1 : Int))) none)), (((cutS text' none (some y_29)) ++ y_46) ++ (cutS text' (some (y_29 + (1 : Int))) none)), ((cutS text' none (some (y_29 + (1 : Int)))) ++ (cutS text' (some y_29) none))] : List Str)), y_47))))))))))))) else (some ((xs_19 ++ [(((cutS text' none (some y_29)) ++ y_46) ++ (cutS text' (some y_29) none))]), y_47)))))))))) z_49.1 z_49.2) s_32.1 s_32.2) l_28 (xs_19, xs_22) = some o_26)
      ⟨G0, p_8, [], ([] : List Str), vs_2, deck', none, none, rfl, Ex.refl _, c_10, A2.nil, al_5, ho_27⟩
      (fun l_28 σ_30 H_31 hI => by
        obtain ⟨G_14, p_17, vs_18, xs_19, vs_21, xs_22, o_24, o_25, rfl, eg_15, c_16, al_20, al_23, ho_27⟩ := hI
        exact True.intro)
      (fun i_38 y_29 l_28 σ_30 H_31 v_35 H_39 hx_36 hI hy_37 => ?_) (fun σ_30 H_31 hI => ?_)
    · obtain ⟨G_14, p_17, vs_18, xs_19, vs_21, xs_22, o_24, o_25, rfl, eg_15, c_16, al_20, al_23, ho_27⟩ := hI
      obtain ⟨so_40, hf_33, hgo_34⟩ := lp_cons ho_27
      try dsimp only at hf_33
      obtain ⟨rfl, hv_41⟩ := hy_37
      obtain rfl : v_35 = .int y_29 := hv_41.trans (congrArg V.int (rng_get hx_36).symm)
      refine q_asg_opq (fun Q_43 kk_44 => ?_)
      have c_45 : Cf [p_1] H0 G0 G_14 [(p_1, (.lst vs_21)), (p_17, (.lst vs_18))] H_39 := c_16.front 1 rfl
      obtain ⟨⟨y_46, y_47⟩, hb_48, hf_33⟩ := bs hf_33
      dsimp only at hf_33
      refine ⟨_, rfl, G_14, p_1, vs_21, xs_22, (y_46, y_47), rfl, c_45.gh, c_45.hd, c_45.hdg, al_23, hb_48, fun G_50 H_51 sp_52 vs_54 hs_55 al_56 => ?_⟩
      have c_53 := c_45.call1 sp_52 hs_55
      refine kk_44 _ _ ?_
      refine q_drop_opq (fun Q_57 kk_58 => ?_)
      obtain ⟨hg_59, hf_33⟩ := gdp hf_33
      obtain ⟨hg_60, hf_33⟩ := gdp hf_33
      obtain ⟨hg_61, hf_33⟩ := gdp hf_33
      obtain ⟨hg_62, hf_33⟩ := gdp hf_33
      obtain ⟨hg_63, hf_33⟩ := gdp hf_33
      have c_64 : Cf [p_1] H0 G0 G_50 [(p_17, (.lst vs_18)), (p_1, (.lst vs_54))] H_51 := c_53.front 1 rfl
      refine ⟨_, rfl, .inl ⟨rfl, _, SqL.of (c_53.get 1 rfl)⟩, _, rfl, _, rfl, _, rfl, _, rfl, (le_big hg_59), _, rfl, _, _, rfl, rfl, (le_big hg_60), _, rfl, _, rfl, _, rfl, _, rfl, (le_big hg_61), _, _, rfl, rfl, (le_big hg_62), _, _, _, rfl, rfl, c_64.hd, (by rw [A2.len (AL.mono sp_52.gg al_20)]; exact big_lt hg_63), ?_⟩
      obtain ⟨vs_65, hvs, al_66⟩ : ∃ vs9, vs9 = (vs_18 ++ [(.str (((cutS text' none (some y_29)) ++ y_46) ++ (cutS text' (some y_29) none)))]) ∧ AL rS G_50 vs9 (xs_19 ++ [(((cutS text' none (some y_29)) ++ y_46) ++ (cutS text' (some y_29) none))]) := ⟨_, rfl, (A2.app (AL.mono sp_52.gg al_20) (A2.one rfl))⟩
      rw [← hvs]
      clear hvs
      have c_67 := c_64.mut (.lst vs_65)
      generalize hh : upd H_51 p_17 (.lst vs_65) = H_68 at c_67 ⊢
      clear hh
      refine kk_58 _ _ ?_
      refine if_opq (fun Q_69 kk_70 => ?_)
      obtain ⟨hg_71, hf_33⟩ := gdp hf_33
      refine ⟨_, rfl, _, rfl, _, rfl, (le_big hg_71), _, _, rfl, rfl, _, rfl, ?_⟩
      refine kk_70 _ _ ?_
      refine ite_m hf_33 (fun hc_72 hf_33 => ?_) (fun hc_72 hf_33 => ?_)
      · skip
        refine asg_opq (fun Q_73 kk_74 => ?_)
        obtain ⟨hg_75, hf_33⟩ := gdp hf_33
        obtain ⟨hg_76, hf_33⟩ := gdp hf_33
        obtain ⟨hg_77, hf_33⟩ := gdp hf_33
        obtain ⟨hg_78, hf_33⟩ := gdp hf_33
        obtain ⟨hg_79, hf_33⟩ := gdp hf_33
        obtain ⟨hg_80, hf_33⟩ := gdp hf_33
        obtain ⟨hg_81, hf_33⟩ := gdp hf_33
        obtain ⟨hg_82, hf_33⟩ := gdp hf_33
        obtain ⟨hg_83, hf_33⟩ := gdp hf_33
        obtain ⟨hg_84, hf_33⟩ := gdp hf_33
        have al_87 : AL rS G_50 [(.str ((cutS text' none (some y_29)) ++ (cutS text' (some (y_29 + (1 : Int))) none))), (.str (((cutS text' none (some y_29)) ++ y_46) ++ (cutS text' (some (y_29 + (1 : Int))) none))), (.str ((cutS text' none (some (y_29 + (1 : Int)))) ++ (cutS text' (some y_29) none)))] ([((cutS text' none (some y_29)) ++ (cutS text' (some (y_29 + (1 : Int))) none)), (((cutS text' none (some y_29)) ++ y_46) ++ (cutS text' (some (y_29 + (1 : Int))) none)), ((cutS text' none (some (y_29 + (1 : Int)))) ++ (cutS text' (some y_29) none))] : List Str) := (A2.cons rfl (A2.cons rfl (A2.cons rfl A2.nil)))
        refine ⟨_, rfl, _, rfl, _, rfl, _, rfl, _, rfl, (le_big hg_75), _, rfl, _, rfl, _, _, rfl, rfl, _, rfl, _, rfl, (le_big hg_76), _, _, rfl, rfl, (le_big hg_77), _, rfl, _, rfl, _, rfl, _, rfl, (le_big hg_78), _, rfl, _, _, rfl, rfl, (le_big hg_79), _, rfl, _, rfl, _, _, rfl, rfl, _, rfl, _, rfl, (le_big hg_80), _, _, rfl, rfl, (le_big hg_81), _, rfl, _, rfl, _, _, rfl, rfl, _, rfl, _, rfl, (le_big hg_82), _, rfl, _, rfl, _, rfl, _, rfl, (le_big hg_83), _, _, rfl, rfl, (le_big hg_84), (by show 3 ≤ sizeLine; decide), fun p_85 np_86 => ?_⟩
        have c_88 := c_67.newO np_86 (.lst [(.str ((cutS text' none (some y_29)) ++ (cutS text' (some (y_29 + (1 : Int))) none))), (.str (((cutS text' none (some y_29)) ++ y_46) ++ (cutS text' (some (y_29 + (1 : Int))) none))), (.str ((cutS text' none (some (y_29 + (1 : Int)))) ++ (cutS text' (some y_29) none)))])
        generalize hh : upd H_68 p_85 (.lst [(.str ((cutS text' none (some y_29)) ++ (cutS text' (some (y_29 + (1 : Int))) none))), (.str (((cutS text' none (some y_29)) ++ y_46) ++ (cutS text' (some (y_29 + (1 : Int))) none))), (.str ((cutS text' none (some (y_29 + (1 : Int)))) ++ (cutS text' (some y_29) none)))]) = H_89 at c_88 ⊢
        clear hh
        obtain ⟨hg_90, hf_33⟩ := gdp hf_33
        have al_91 : AL rS G_50 vs_65 (xs_19 ++ [(((cutS text' none (some y_29)) ++ y_46) ++ (cutS text' (some y_29) none))]) := al_66
        have al_92 : AL rS G_50 [(.str ((cutS text' none (some y_29)) ++ (cutS text' (some (y_29 + (1 : Int))) none))), (.str (((cutS text' none (some y_29)) ++ y_46) ++ (cutS text' (some (y_29 + (1 : Int))) none))), (.str ((cutS text' none (some (y_29 + (1 : Int)))) ++ (cutS text' (some y_29) none)))] ([((cutS text' none (some y_29)) ++ (cutS text' (some (y_29 + (1 : Int))) none)), (((cutS text' none (some y_29)) ++ y_46) ++ (cutS text' (some (y_29 + (1 : Int))) none)), ((cutS text' none (some (y_29 + (1 : Int)))) ++ (cutS text' (some y_29) none))] : List Str) := al_87
        refine ⟨_, _, _, _, rfl, rfl, (c_88.get 1 rfl), (c_88.get 0 rfl), (by rw [al_91.len, al_92.len]; exact big_le hg_90), fun p_93 np_94 => ?_⟩
        obtain ⟨vs_95, hvs, al_96⟩ : ∃ vs9, vs9 = vs_65 ++ [(.str ((cutS text' none (some y_29)) ++ (cutS text' (some (y_29 + (1 : Int))) none))), (.str (((cutS text' none (some y_29)) ++ y_46) ++ (cutS text' (some (y_29 + (1 : Int))) none))), (.str ((cutS text' none (some (y_29 + (1 : Int)))) ++ (cutS text' (some y_29) none)))] ∧ AL rS G_50 vs9 ((xs_19 ++ [(((cutS text' none (some y_29)) ++ y_46) ++ (cutS text' (some y_29) none))]) ++ ([((cutS text' none (some y_29)) ++ (cutS text' (some (y_29 + (1 : Int))) none)), (((cutS text' none (some y_29)) ++ y_46) ++ (cutS text' (some (y_29 + (1 : Int))) none)), ((cutS text' none (some (y_29 + (1 : Int)))) ++ (cutS text' (some y_29) none))] : List Str)) := ⟨_, rfl, al_91.app al_92⟩
        rw [← hvs]
        clear hvs
        have c_97 := c_88.newO np_94 (.lst vs_95)
        generalize hh : upd H_89 p_93 (.lst vs_95) = H_98 at c_97 ⊢
        clear hh
        refine kk_74 _ _ ?_
        obtain rfl := some_in hf_33
        have c_99 : Cf [p_1] H0 G0 G_50 [(p_85, (.lst [(.str ((cutS text' none (some y_29)) ++ (cutS text' (some (y_29 + (1 : Int))) none))), (.str (((cutS text' none (some y_29)) ++ y_46) ++ (cutS text' (some (y_29 + (1 : Int))) none))), (.str ((cutS text' none (some (y_29 + (1 : Int)))) ++ (cutS text' (some y_29) none)))])), (p_93, (.lst vs_95)), (p_17, (.lst vs_65)), (p_1, (.lst vs_54))] H_98 := c_97.front 1 rfl
        have c_100 : Cf [p_1] H0 G0 G_50 [(p_93, (.lst vs_95)), (p_17, (.lst vs_65)), (p_1, (.lst vs_54))] H_98 := c_99.drop
        have c_101 : Cf [p_1] H0 G0 G_50 [(p_17, (.lst vs_65)), (p_93, (.lst vs_95)), (p_1, (.lst vs_54))] H_98 := c_100.front 1 rfl
        have c_102 : Cf [p_1] H0 G0 G_50 [(p_93, (.lst vs_95)), (p_1, (.lst vs_54))] H_98 := c_101.drop
        exact ⟨G_50, p_93, vs_95, ((xs_19 ++ [(((cutS text' none (some y_29)) ++ y_46) ++ (cutS text' (some y_29) none))]) ++ ([((cutS text' none (some y_29)) ++ (cutS text' (some (y_29 + (1 : Int))) none)), (((cutS text' none (some y_29)) ++ y_46) ++ (cutS text' (some (y_29 + (1 : Int))) none)), ((cutS text' none (some (y_29 + (1 : Int)))) ++ (cutS text' (some y_29) none))] : List Str)), vs_54, y_47, (some (.int y_29)), (some (.str y_46)), rfl, (eg_15.trans sp_52.gg), c_102, al_96, al_56, hgo_34⟩
      · skip
        obtain rfl := some_in hf_33
        exact ⟨G_50, p_17, vs_65, (xs_19 ++ [(((cutS text' none (some y_29)) ++ y_46) ++ (cutS text' (some y_29) none))]), vs_54, y_47, (some (.int y_29)), (some (.str y_46)), rfl, (eg_15.trans sp_52.gg), c_67, al_66, al_56, hgo_34⟩
    · obtain ⟨G_14, p_17, vs_18, xs_19, vs_21, xs_22, o_24, o_25, rfl, eg_15, c_16, al_20, al_23, ho_27⟩ := hI
      obtain rfl := lp_nil ho_27
      try dsimp only at hm
      try dsimp only
      refine ret_opq (fun Q_104 kk_105 => ?_)
      refine ⟨_, rfl, ?_⟩
      refine kk_105 _ _ ?_
      obtain rfl := some_in hm
      exact k p_17 vs_18 G_14 H_31 c_16.stp (c_16.hdn (by simp)) c_16.hdg c_16.hd al_20 vs_21 (c_16.get 1 rfl) al_23
theorem sc_law74 : FnScope ["script", "at", "deck", "web", "k", "colours", "names", "colour", "text"] ["script"] (defScope s_law) := ⟨rfl, rfl, rfl, by decide +kernel, rfl, by decide +kernel, by decide +kernel⟩
def m_law74 (script' : List Int) : Option Bool :=
  gd (rok (imax (1 : Int) (imin ((List.length script' : Nat) : Int) (5 : Int)))) ((lpx (fun (y_16 : Int) => fun (s_19 : Unit) => ((m__law_deck script' y_16).bind fun y_32 => ((m__law_small_web y_32 (5 : Int)).bind fun z_50 => (fun (y_47 : (List (List Int))) (y_48 : List Int) => ((m__law_draw 8 y_48 (5 : Int)).bind fun z_71 => (fun (y_68 : Int) (y_69 : List Int) => (gd (rok y_68) (gd (List.length (rng (0 : Int) y_68) < BIG) ((lcs (fun (y_101 : Int) => fun (s_157 : (List Int)) => (fun (xs_91 : (List Int)) => (m__law_draw 8 xs_91 (2 : Int)).bind fun z_126 => (fun (y_123 : Int) (y_124 : List Int) => ((atI ([(12 : Int), ((10 : Int) ^ ((9 : Int)).toNat)] : List Int) y_123).bind fun y_134 => ((m__law_draw 8 y_124 y_134).bind fun z_142 => (fun (y_139 : Int) (y_140 : List Int) => (some (some ((1 : Int) + y_139), (y_140)))) z_142.1 z_142.2))) z_126.1 z_126.2) s_157) (rng (0 : Int) y_68) (y_69)).bind fun z_158 => (fun (xs_88 : List Int) (xs_91 : (List Int)) => ((((if (!(decide (xs_88 = ([] : List Int)))) then (gd (List.length xs_88 < BIG) ((lcm (fun (y_197 : Int) => gd (sOk y_197) (some (sI y_197))) xs_88).bind fun xs_187 => (gd (jOk (" " : Str) xs_187) (lt ((Txt.join (" " : Str) xs_187) : Str) fun x_222 => (some (x_222)))))) else (some (("." : Str)))) : Option (Str))).bind fun (s_392 : (Str)) => (fun (x_165 : Str) => ((m__law_text y_47).bind fun y_228 => ((m__law_text y_47).bind fun y_239 => ((m__law_changed xs_91 y_239).bind fun z_249 => (fun (y_246 : (List Str)) (y_247 : List Int) => (gd (List.length ([y_228] : List Str) + List.length y_246 < BIG) ((lpx (fun (y_280 : Str) => fun (s_283 : Unit) => ((m__law_is_read0 y_280).bind fun y_299 => (if (!y_299) then (some (Out.rt false)) else (some (Out.nx ()))) : Option (Out Unit Bool))) (([y_228] : List Str) ++ y_246) ()).bind fun o_277 => Out.fin o_277 (fun (s_390 : Unit) => ((m__law_changed y_247 x_165).bind fun z_324 => (fun (y_321 : (List Str)) (y_322 : List Int) => (gd (List.length ([x_165] : List Str) + List.length y_321 < BIG) ((lpx (fun (y_355 : Str) => fun (s_358 : Unit) => ((m__law_is_read1 y_355).bind fun y_374 => (if (!y_374) then (some (Out.rt false)) else (some (Out.nx ()))) : Option (Out Unit Bool))) (([x_165] : List Str) ++ y_321) ()).bind fun o_352 => Out.fin o_352 (fun (s_388 : Unit) => (some (Out.nx ()))) (fun r_389 => some (Out.rt r_389))))) z_324.1 z_324.2)) (fun r_391 => some (Out.rt r_391))))) z_249.1 z_249.2)))) s_392)) z_158.1 z_158.2)))) z_71.1 z_71.2)) z_50.1 z_50.2) : Option (Out Unit Bool))) (rng (0 : Int) (imax (1 : Int) (imin ((List.length script' : Nat) : Int) (5 : Int)))) ()).bind fun o_13 => Out.fin o_13 (fun (s_396 : Unit) => (some true)) (fun r_397 => some r_397))
def sp_law74 (K : PySem.W.Frag) : Sp := fun vs H Q _ => ∃ (G : Hp) (a_1 : Addr) (script' : List Int) (r : Bool), vs = [.ref a_1] ∧ Ex G H ∧ SqL K H a_1 (script'.map V.int) ∧ m_law74 script' = some r ∧ ∀ (G' H' : Hp), Stp [] G G' H H' → Q (.bl r) H'
theorem ok_law74 (T : Env K mg) : FnOk P w K mg base CX0 12 T.f_law T.d_law ["script"] (sp_law74 K) := by
  refine T.F_law.ok sc_law74 (fun vs H Q E h => ?_) (fun cdv A outer s H0 vs Q E hr h => ?_)
  · obtain ⟨G0, a_1, script', r, rfl, _⟩ := h
    rfl
  · obtain ⟨G0, a_1, script', r, rfl, hG0, sq_2, hm, k⟩ := h
    have hu := hr.units
    have hu65 := hu65 hr
    have c0 := Cf.start hG0
    unfold m_law74 at hm
    refine ⟨_, (pss_cons (ps_for PassesOwn.never rfl (pi_range1 (by rfl) T.n_range (pa_cons (pe_callB (call_maxI rfl) (by rfl) T.n_max bt_max (pa_cons pe_int (pa_cons (pe_callB (call_minI rfl) (by rfl) T.n_min bt_min (pa_cons (pe_callB (call_lenSc (K := K) rfl) (by rfl) T.n_len bt_len (pa_cons (pv 0) pa_nil)) (pa_cons pe_int pa_nil))) pa_nil))) pa_nil)) (pg_name (i := 1) sc_law74.nd rfl (by first | exact Or.inl rfl | exact Or.inr rfl)) (pss_cons (ps_set (i := 2) sc_law74.nd rfl (by first | exact Or.inl rfl | exact Or.inr rfl) (pe_call (ok__law_deck T) (hr.mono (by decide)) (by rfl) T.g__law_deck T.F__law_deck.kp T.b__law_deck .nil pass0 (pa_cons (pv 0) (pa_cons (pv 1) pa_nil))))
      (pss_cons (ps_set (i := 3) sc_law74.nd rfl (by first | exact Or.inl rfl | exact Or.inr rfl) (pe_call (ok__law_small_web T) (hr.mono (by decide)) (by rfl) T.g__law_small_web T.F__law_small_web.kp T.b__law_small_web .nil pass0 (pa_cons (pv 2) (pa_cons pe_int pa_nil))))
      (pss_cons (ps_setLc (i := 5) (own := [("k", 4)]) (g := gName 4) (tt := tYes)  rfl sc_law74.nd rfl rfl (sw_true rfl rfl rfl (by decide +kernel)) (pi_range1 (by rfl) T.n_range (pa_cons (pe_call (ok__law_draw T 8) (hr.mono (by decide)) (by rfl) T.g__law_draw T.F__law_draw.kp T.b__law_draw .nil pass0 (pa_cons (pv 2) (pa_cons pe_int pa_nil))) pa_nil)) (blkOk_by (own := [("k", 4)]) (N := ["script", "at", "deck", "web", "k", "colours", "names", "colour", "text"]) (sc := defScope s_law) (by decide +kernel)) (fun _ _ _ _ _ => (pg_name (i := 4) sc_law74.nd rfl (by first | exact Or.inl rfl | exact Or.inr rfl))) (fun _ _ _ _ _ => pts_nil) (fun _ _ _ _ _ => (pe_op op_add pe_int (pe_call (ok__law_draw T 8) (hr.mono (by decide)) (by rfl) T.g__law_draw T.F__law_draw.kp T.b__law_draw .nil pass0 (pa_cons (pv 2) (pa_cons (pe_ix (ix_l (K := K) rfl) (pe_lst (pa_cons pe_int (pa_cons (pe_op op_pow pe_int pe_int) pa_nil))) (pe_call (ok__law_draw T 8) (hr.mono (by decide)) (by rfl) T.g__law_draw T.F__law_draw.kp T.b__law_draw .nil pass0 (pa_cons (pv 2) (pa_cons pe_int pa_nil))) (fun _ _ => rfl)) pa_nil))))))
      (pss_cons (ps_set (i := 6) sc_law74.nd rfl (by first | exact Or.inl rfl | exact Or.inr rfl) pe_str)
      (Evl.pss_cut (ps_if (pt_cmpR (op_neT hu (eqdL eqdI) (by decide)) (pv 5) (pe_lst pa_nil) (nomark _)) (pss_one (ps_set (i := 6) sc_law74.nd rfl (by first | exact Or.inl rfl | exact Or.inr rfl) (pe_join pe_str (pe_lc (own := [("colour", 7)]) (g := gName 7) (tt := tYes)  rfl sc_law74.nd (pi_list (pv 5)) (blkOk_by (own := [("colour", 7)]) (N := ["script", "at", "deck", "web", "k", "colours", "names", "colour", "text"]) (sc := defScope s_law) (by decide +kernel)) (fun _ _ _ _ _ => (pg_name (i := 7) sc_law74.nd rfl (by first | exact Or.inl rfl | exact Or.inr rfl))) (fun _ _ _ _ _ => pts_nil) (fun _ _ _ _ _ => (pe_callTy call_strI (by rfl) T.n_str bt_str (pa_cons (pv 7) pa_nil))))))) pss_nil)
      (pss_cons (ps_for PassesOwn.never rfl (pi_list (pe_op op_cat (pe_lst (pa_cons (pe_call (ok__law_text T) (hr.mono (by decide)) (by rfl) T.g__law_text T.F__law_text.kp T.b__law_text .nil pass0 (pa_cons (pv 3) pa_nil)) pa_nil)) (pe_call (ok__law_changed T) (hr.mono (by decide)) (by rfl) T.g__law_changed T.F__law_changed.kp T.b__law_changed .nil pass0 (pa_cons (pv 2) (pa_cons (pe_call (ok__law_text T) (hr.mono (by decide)) (by rfl) T.g__law_text T.F__law_text.kp T.b__law_text .nil pass0 (pa_cons (pv 3) pa_nil)) pa_nil))))) (pg_name (i := 8) sc_law74.nd rfl (by first | exact Or.inl rfl | exact Or.inr rfl)) (pss_one (ps_if (pt_not (pt_val (pe_call (ok__law_is_read0 T) (hr.mono (by decide)) (by rfl) T.g__law_is_read T.F__law_is_read.kp T.b__law_is_read .nil pass0 (pa_cons pe_int (pa_cons (pv 8) pa_nil))))) (pss_one (ps_ret pe_bl)) pss_nil)))
      (pss_one (ps_for PassesOwn.never rfl (pi_list (pe_op op_cat (pe_lst (pa_cons (pv 6) pa_nil)) (pe_call (ok__law_changed T) (hr.mono (by decide)) (by rfl) T.g__law_changed T.F__law_changed.kp T.b__law_changed .nil pass0 (pa_cons (pv 2) (pa_cons (pv 6) pa_nil))))) (pg_name (i := 8) sc_law74.nd rfl (by first | exact Or.inl rfl | exact Or.inr rfl)) (pss_one (ps_if (pt_not (pt_val (pe_call (ok__law_is_read1 T) (hr.mono (by decide)) (by rfl) T.g__law_is_read T.F__law_is_read.kp T.b__law_is_read .nil pass0 (pa_cons pe_int (pa_cons (pv 8) pa_nil))))) (pss_one (ps_ret pe_bl)) pss_nil)))))))))))
      (pss_one (ps_ret pe_bl))), ?_⟩
    obtain ⟨hg_3, hm⟩ := gdp hm
    refine ⟨_, rfl, _, _, rfl, (sc_at sq_2 c0), _, _, rfl, _, _, rfl, _, rfl, hg_3.1, hg_3.2, ?_⟩
    obtain ⟨o_13, ho_14, hm⟩ := bs hm
    refine for_w walk_range (rng (0 : Int) (imax (1 : Int) (imin ((List.length script' : Nat) : Int) (5 : Int)))) (by rw [rng_len]; omega) (fun l_15 σ_17 H_18 => ∃ (G_4 : Hp) (o_7 : Option V) (o_8 : Option V) (o_9 : Option V) (o_10 : Option V) (o_11 : Option V) (o_12 : Option V), σ_17 = [(some (.ref a_1)), o_7, o_8, o_9, none, o_10, o_11, none, o_12] ∧ Ex G0 G_4 ∧ Cf [] H0 G0 G_4 [] H_18 ∧ lpx (fun (y_16 : Int) => fun (s_19 : Unit) => ((m__law_deck script' y_16).bind fun y_32 => ((m__law_small_web y_32 (5 : Int)).bind fun z_50 => (fun (y_47 : (List (List Int))) (y_48 : List Int) => ((m__law_draw 8 y_48 (5 : Int)).bind fun z_71 => (fun (y_68 : Int) (y_69 : List Int) => (gd (rok y_68) (gd (List.length (rng (0 : Int) y_68) < BIG) ((lcs (fun (y_101 : Int) => fun (s_157 : (List Int)) => (fun (xs_91 : (List Int)) => (m__law_draw 8 xs_91 (2 : Int)).bind fun z_126 => (fun (y_123 : Int) (y_124 : List Int) => ((atI ([(12 : Int), ((10 : Int) ^ ((9 : Int)).toNat)] : List Int) y_123).bind fun y_134 => ((m__law_draw 8 y_124 y_134).bind fun z_142 => (fun (y_139 : Int) (y_140 : List Int) => (some (some ((1 : Int) + y_139), (y_140)))) z_142.1 z_142.2))) z_126.1 z_126.2) s_157) (rng (0 : Int) y_68) (y_69)).bind fun z_158 => (fun (xs_88 : List Int) (xs_91 : (List Int)) => ((((if (!(decide (xs_88 = ([] : List Int)))) then (gd (List.length xs_88 < BIG) ((lcm (fun (y_197 : Int) => gd (sOk y_197) (some (sI y_197))) xs_88).bind fun xs_187 => (gd (jOk (" " : Str) xs_187) (lt ((Txt.join (" " : Str) xs_187) : Str) fun x_222 => (some (x_222)))))) else (some (("." : Str)))) : Option (Str))).bind fun (s_392 : (Str)) => (fun (x_165 : Str) => ((m__law_text y_47).bind fun y_228 => ((m__law_text y_47).bind fun y_239 => ((m__law_changed xs_91 y_239).bind fun z_249 => (fun (y_246 : (List Str)) (y_247 : List Int) => (gd (List.length ([y_228] : List Str) + List.length y_246 < BIG) ((lpx (fun (y_280 : Str) => fun (s_283 : Unit) => ((m__law_is_read0 y_280).bind fun y_299 => (if (!y_299) then (some (Out.rt false)) else (some (Out.nx ()))) : Option (Out Unit Bool))) (([y_228] : List Str) ++ y_246) ()).bind fun o_277 => Out.fin o_277 (fun (s_390 : Unit) => ((m__law_changed y_247 x_165).bind fun z_324 => (fun (y_321 : (List Str)) (y_322 : List Int) => (gd (List.length ([x_165] : List Str) + List.length y_321 < BIG) ((lpx (fun (y_355 : Str) => fun (s_358 : Unit) => ((m__law_is_read1 y_355).bind fun y_374 => (if (!y_374) then (some (Out.rt false)) else (some (Out.nx ()))) : Option (Out Unit Bool))) (([x_165] : List Str) ++ y_321) ()).bind fun o_352 => Out.fin o_352 (fun (s_388 : Unit) => (some (Out.nx ()))) (fun r_389 => some (Out.rt r_389))))) z_324.1 z_324.2)) (fun r_391 => some (Out.rt r_391))))) z_249.1 z_249.2)))) s_392)) z_158.1 z_158.2)))) z_71.1 z_71.2)) z_50.1 z_50.2) : Option (Out Unit Bool))) l_15 () = some o_13)
      ⟨G0, none, none, none, none, none, none, rfl, Ex.refl _, c0, ho_14⟩
      (fun l_15 σ_17 H_18 hI => by
        obtain ⟨G_4, o_7, o_8, o_9, o_10, o_11, o_12, rfl, eg_5, c_6, ho_14⟩ := hI
        exact True.intro)
      (fun i_25 y_16 l_15 σ_17 H_18 v_22 H_26 hx_23 hI hy_24 => ?_) (fun σ_17 H_18 hI => ?_)
    · obtain ⟨G_4, o_7, o_8, o_9, o_10, o_11, o_12, rfl, eg_5, c_6, ho_14⟩ := hI
      obtain ⟨so_27, hf_20, hgo_21⟩ := lpx_cons ho_14
      try dsimp only at hf_20
      obtain ⟨rfl, hv_28⟩ := hy_24
      obtain rfl : v_22 = .int y_16 := hv_28.trans (congrArg V.int (rng_get hx_23).symm)
      refine q_asg_opq (fun Q_30 kk_31 => ?_)
      obtain ⟨y_32, hb_33, hf_20⟩ := bs hf_20
      refine ⟨_, rfl, _, rfl, G_4, a_1, script', y_16, y_32, rfl, c_6.gh, (sc_at sq_2 c_6), hb_33, fun p_38 vs_39 G_34 H_35 sp_36 np_40 gp_41 hp_42 al_43 => ?_⟩
      have c_37 := c_6.callO sp_36 np_40 gp_41 hp_42
      refine kk_31 _ _ ?_
      refine q_asg_opq (fun Q_45 kk_46 => ?_)
      obtain ⟨⟨y_47, y_48⟩, hb_49, hf_20⟩ := bs hf_20
      dsimp only at hf_20
      refine ⟨_, rfl, G_34, p_38, vs_39, y_32, (5 : Int), (y_47, y_48), rfl, c_37.gh, c_37.hd, c_37.hdg, al_43, hb_49, fun p_58 vs_59 G_51 H_52 sp_53 np_60 gp_61 hp_62 al_63 vs_55 hs_56 al_57 => ?_⟩
      have c_54 := c_37.callO1 sp_53 hs_56 np_60 gp_61 hp_62
      refine kk_46 _ _ ?_
      refine q_asg_opq (fun Q_65 kk_66 => ?_)
      have c_67 : Cf [] H0 G0 G_51 [(p_38, (.lst vs_55)), (p_58, (.lst vs_59))] H_52 := c_54.front 1 rfl
      obtain ⟨⟨y_68, y_69⟩, hb_70, hf_20⟩ := bs hf_20
      dsimp only at hf_20
      refine ⟨_, rfl, G_51, p_38, vs_55, y_48, (5 : Int), (y_68, y_69), rfl, c_67.gh, c_67.hd, c_67.hdg, al_57, hb_70, fun G_72 H_73 sp_74 vs_76 hs_77 al_78 => ?_⟩
      have c_75 := c_67.call1 sp_74 hs_77
      obtain ⟨hg_79, hf_20⟩ := gdp hf_20
      obtain ⟨hg_80, hf_20⟩ := gdp hf_20
      refine ⟨_, rfl, hg_79.1, hg_79.2, fun D_81 nD_82 => ?_⟩
      have c_83 := c_75.newO nD_82 (.lst [])
      obtain ⟨⟨out_93, xs_159⟩, hb_94, hf_20⟩ := bs hf_20
      dsimp only at hf_20
      refine lc_w walk_range (rng (0 : Int) y_68) (by rw [rng_len]; omega) (fun l_100 H_102 => ∃ (G_84 : Hp) (vs_87 : List V) (xs_88 : (List Int)) (vs_90 : List V) (xs_91 : (List Int)), Ex G_72 G_84 ∧ Cf [] H0 G0 G_84 [(D_81, (.lst vs_87)), (p_38, (.lst vs_90)), (p_58, (.lst vs_59))] H_102 ∧ AL rI G_84 vs_87 xs_88 ∧ AL rI G_84 vs_90 xs_91 ∧ List.length xs_88 + List.length l_100 < BIG ∧ ∃ rest_96, lcs (fun (y_101 : Int) => fun (s_157 : (List Int)) => (fun (xs_91 : (List Int)) => (m__law_draw 8 xs_91 (2 : Int)).bind fun z_126 => (fun (y_123 : Int) (y_124 : List Int) => ((atI ([(12 : Int), ((10 : Int) ^ ((9 : Int)).toNat)] : List Int) y_123).bind fun y_134 => ((m__law_draw 8 y_124 y_134).bind fun z_142 => (fun (y_139 : Int) (y_140 : List Int) => (some (some ((1 : Int) + y_139), (y_140)))) z_142.1 z_142.2))) z_126.1 z_126.2) s_157) l_100 (xs_91) = some (rest_96, (xs_159)) ∧ xs_88 ++ rest_96 = out_93)
        ⟨G_72, [], ([] : List Int), vs_76, y_69, Ex.refl _, c_83, A2.nil, al_78, ⟨by simpa using hg_80, out_93, hb_94, rfl⟩⟩
        (fun l_100 H_102 hI => by
          obtain ⟨G_84, vs_87, xs_88, vs_90, xs_91, eg_85, c_86, al_89, al_92, ⟨hlen_99, rest_96, hf_97, hout_98⟩⟩ := hI
          exact True.intro)
        (fun i_104 y_101 l_100 H_102 v_105 H_108 hx_106 hI hy_107 => ?_) (fun H_102 hI => ?_)
      · obtain ⟨G_84, vs_87, xs_88, vs_90, xs_91, eg_85, c_86, al_89, al_92, ⟨hlen_99, rest_96, hf_97, hout_98⟩⟩ := hI
        obtain ⟨z_109, so_113, rest_110, hq_103, hf_111, ho_112⟩ := lcs_cons hf_97
        dsimp only at ho_112
        try dsimp only at hq_103
        obtain ⟨rfl, hv_114⟩ := hy_107
        obtain rfl : v_105 = .int y_101 := hv_114.trans (congrArg V.int (rng_get hx_106).symm)
        refine ⟨rfl, ?_⟩
        refine yes_q ?_
        refine opqV (fun Q_115 kk_116 => ?_)
        have al_119 : AL rI G_84 [(.int (12 : Int)), (.int ((10 : Int) ^ ((9 : Int)).toNat))] ([(12 : Int), ((10 : Int) ^ ((9 : Int)).toNat)] : List Int) := (A2.cons rfl (A2.cons rfl A2.nil))
        refine ⟨_, rfl, _, _, rfl, rfl, ⟨by decide, by decide, by decide⟩, (by show 2 ≤ sizeLine; decide), fun p_117 np_118 => ?_⟩
        have c_120 := c_86.newO np_118 (.lst [(.int (12 : Int)), (.int ((10 : Int) ^ ((9 : Int)).toNat))])
        generalize hh : upd H_108 p_117 (.lst [(.int (12 : Int)), (.int ((10 : Int) ^ ((9 : Int)).toNat))]) = H_121 at c_120 ⊢
        clear hh
        have c_122 : Cf [] H0 G0 G_84 [(p_38, (.lst vs_90)), (p_117, (.lst [(.int (12 : Int)), (.int ((10 : Int) ^ ((9 : Int)).toNat))])), (D_81, (.lst vs_87)), (p_58, (.lst vs_59))] H_121 := c_120.front 2 rfl
        obtain ⟨⟨y_123, y_124⟩, hb_125, hq_103⟩ := bs hq_103
        dsimp only at hq_103
        refine ⟨_, rfl, G_84, p_38, vs_90, xs_91, (2 : Int), (y_123, y_124), rfl, c_122.gh, c_122.hd, c_122.hdg, al_92, hb_125, fun G_127 H_128 sp_129 vs_131 hs_132 al_133 => ?_⟩
        have c_130 := c_122.call1 sp_129 hs_132
        obtain ⟨y_134, hb_135, hq_103⟩ := bs hq_103
        obtain ⟨v_136, hv_137, rv_138⟩ := at_l (AL.mono sp_129.gg al_119) hb_135
        obtain rfl := (show v_136 = (.int y_134) from rv_138)
        obtain ⟨⟨y_139, y_140⟩, hb_141, hq_103⟩ := bs hq_103
        dsimp only at hq_103
        refine ⟨_, _, _, _, rfl, rfl, (SqL.of (c_130.get 1 rfl)), hv_137, G_127, p_38, vs_131, y_124, y_134, (y_139, y_140), rfl, c_130.gh, c_130.hd, c_130.hdg, al_133, hb_141, fun G_143 H_144 sp_145 vs_147 hs_148 al_149 => ?_⟩
        have c_146 := c_130.call1 sp_145 hs_148
        refine ⟨_, _, rfl, rfl, ?_⟩
        refine kk_116 _ _ ?_
        have c_150 : Cf [] H0 G0 G_143 [(D_81, (.lst vs_87)), (p_38, (.lst vs_147)), (p_117, (.lst [(.int (12 : Int)), (.int ((10 : Int) ^ ((9 : Int)).toNat))])), (p_58, (.lst vs_59))] H_144 := c_146.front 2 rfl
        refine ⟨_, c_150.hd, big_lt (by have h9 := hlen_99; have h8 := A2.len (AL.mono (sp_129.gg.trans sp_145.gg) al_89); simp only [List.length_cons] at h9; omega), ?_⟩
        obtain ⟨vs_151, hvs, al_152⟩ : ∃ vs9, vs9 = (vs_87 ++ [(.int ((1 : Int) + y_139))]) ∧ AL rI G_143 vs9 (xs_88 ++ [((1 : Int) + y_139)]) := ⟨_, rfl, (A2.app (AL.mono (sp_129.gg.trans sp_145.gg) al_89) (A2.one rfl))⟩
        rw [← hvs]
        clear hvs
        have c_153 := c_150.mut (.lst vs_151)
        generalize hh : upd H_144 D_81 (.lst vs_151) = H_154 at c_153 ⊢
        clear hh
        obtain ⟨rfl, rfl⟩ := Prod.mk.inj (some_in hq_103)
        have c_155 : Cf [] H0 G0 G_143 [(p_117, (.lst [(.int (12 : Int)), (.int ((10 : Int) ^ ((9 : Int)).toNat))])), (D_81, (.lst vs_151)), (p_38, (.lst vs_147)), (p_58, (.lst vs_59))] H_154 := c_153.front 2 rfl
        have c_156 : Cf [] H0 G0 G_143 [(D_81, (.lst vs_151)), (p_38, (.lst vs_147)), (p_58, (.lst vs_59))] H_154 := c_155.drop
        exact ⟨G_143, vs_151, (xs_88 ++ [((1 : Int) + y_139)]), vs_147, y_140, ((eg_85.trans sp_129.gg).trans sp_145.gg), c_156, al_152, al_149, ⟨by have h9 := hlen_99; simp only [List.length_append, List.length_cons, List.length_nil] at h9 ⊢; first | done | omega, rest_110, hf_111, by rw [← hout_98, ho_112]; first | done | simp⟩⟩
      obtain ⟨G_84, vs_87, xs_88, vs_90, xs_91, eg_85, c_86, al_89, al_92, ⟨hlen_99, rest_96, hf_97, hout_98⟩⟩ := hI
      obtain ⟨rfl, rfl⟩ := Prod.mk.inj (some_in hf_97)
      rw [List.append_nil] at hout_98
      subst hout_98
      refine kk_66 _ _ ?_
      refine q_asg_opq (fun Q_160 kk_161 => ?_)
      refine kk_161 _ _ ?_
      obtain ⟨s_166, hs_167, hf_20⟩ := bs hf_20
      refine ⟨(fun σ_168 H_169 => ∃ (G_162 : Hp) (x_165 : Str), σ_168 = [(some (.ref a_1)), (some (.int y_16)), (some (.ref p_38)), (some (.ref p_58)), none, (some (.ref D_81)), (some (.str x_165)), none, o_12] ∧ Ex G_84 G_162 ∧ Cf [] H0 G0 G_162 [(D_81, (.lst vs_87)), (p_38, (.lst vs_90)), (p_58, (.lst vs_59))] H_169 ∧ (x_165) = s_166), ?_, ?_⟩
      · skip
        refine if_opq (fun Q_170 kk_171 => ?_)
        refine ⟨_, rfl, (Nat.zero_le _), fun p_172 np_173 => ?_⟩
        have c_174 := c_86.newO np_173 (.lst [])
        generalize hh : upd H_102 p_172 (.lst []) = H_175 at c_174 ⊢
        clear hh
        refine ⟨_, _, ⟨D_81, vs_87, rfl, (c_174.get 1 rfl), AL.mono c_174.gh al_89⟩, ⟨p_172, [], rfl, (c_174.get 0 rfl), AL.mono c_174.gh A2.nil⟩, (okI _), (okI _), _, rfl, ?_⟩
        refine kk_171 _ _ ?_
        refine ite_m hs_167 (fun hc_176 hs_167 => ?_) (fun hc_176 hs_167 => ?_)
        · skip
          refine asg_opq (fun Q_177 kk_178 => ?_)
          obtain ⟨hg_179, hs_167⟩ := gdp hs_167
          refine ⟨⟨_, rfl⟩, _, rfl, _, rfl, ⟨_, SqL.of (c_174.get 1 rfl)⟩, fun D_180 nD_181 => ?_⟩
          have c_182 := c_174.newO nD_181 (.lst [])
          obtain ⟨out_189, hb_190, hs_167⟩ := bs hs_167
          refine lc_w (walk_list (xs := vs_87)) xs_88 (A2.len al_89) (fun l_196 H_198 => ∃ (G_183 : Hp) (vs_186 : List V) (xs_187 : (List Str)), Ex G_84 G_183 ∧ Cf [] H0 G0 G_183 [(D_180, (.lst vs_186)), (p_172, (.lst [])), (D_81, (.lst vs_87)), (p_38, (.lst vs_90)), (p_58, (.lst vs_59))] H_198 ∧ AL rS G_183 vs_186 xs_187 ∧ List.length xs_187 + List.length l_196 < BIG ∧ ∃ rest_192, lcm (fun (y_197 : Int) => gd (sOk y_197) (some (sI y_197))) l_196 = some rest_192 ∧ xs_187 ++ rest_192 = out_189)
            ⟨G_84, [], ([] : List Str), Ex.refl _, c_182, A2.nil, ⟨by simpa using hg_179, out_189, hb_190, rfl⟩⟩
            (fun l_196 H_198 hI => by
              obtain ⟨G_183, vs_186, xs_187, eg_184, c_185, al_188, ⟨hlen_195, rest_192, hf_193, hout_194⟩⟩ := hI
              exact (SqL.of (c_185.get 2 rfl)))
            (fun i_200 y_197 l_196 H_198 v_201 H_204 hx_202 hI hy_203 => ?_) (fun H_198 hI => ?_)
          · obtain ⟨G_183, vs_186, xs_187, eg_184, c_185, al_188, ⟨hlen_195, rest_192, hf_193, hout_194⟩⟩ := hI
            obtain ⟨z_205, rest_206, hq_199, hf_207, ho_208⟩ := lcm_cons hf_193
            try dsimp only at hq_199
            obtain ⟨rfl, hv_210⟩ := hy_203
            obtain ⟨v_211, hv_212, rv_213⟩ := A2.get al_89 hx_202
            obtain rfl := Option.some.inj (hv_210.symm.trans hv_212)
            obtain rfl := (show v_201 = (.int y_197) from rv_213)
            refine ⟨rfl, ?_⟩
            refine yes_q ?_
            refine opqV (fun Q_214 kk_215 => ?_)
            obtain ⟨hg_216, hq_199⟩ := gdp hq_199
            refine ⟨_, rfl, _, rfl, hg_216, ?_⟩
            refine kk_215 _ _ ?_
            refine ⟨_, c_185.hd, big_lt (by have h9 := hlen_195; have h8 := A2.len al_188; simp only [List.length_cons] at h9; omega), ?_⟩
            obtain ⟨vs_217, hvs, al_218⟩ : ∃ vs9, vs9 = (vs_186 ++ [(.str (sI y_197))]) ∧ AL rS G_183 vs9 (xs_187 ++ [(sI y_197)]) := ⟨_, rfl, (A2.app al_188 (A2.one rfl))⟩
            rw [← hvs]
            clear hvs
            have c_219 := c_185.mut (.lst vs_217)
            generalize hh : upd H_204 D_180 (.lst vs_217) = H_220 at c_219 ⊢
            clear hh
            obtain rfl := some_in hq_199
            exact ⟨G_183, vs_217, (xs_187 ++ [(sI y_197)]), eg_184, c_219, al_218, ⟨by have h9 := hlen_195; simp only [List.length_append, List.length_cons, List.length_nil] at h9 ⊢; first | done | omega, rest_206, hf_207, by rw [← hout_194, ho_208]; first | done | simp⟩⟩
          obtain ⟨G_183, vs_186, xs_187, eg_184, c_185, al_188, ⟨hlen_195, rest_192, hf_193, hout_194⟩⟩ := hI
          obtain rfl := some_in hf_193
          rw [List.append_nil] at hout_194
          subst hout_194
          obtain ⟨hg_221, hs_167⟩ := gdp hs_167
          obtain ⟨x_222, hl_223, hs_167⟩ := ltp hs_167
          refine ⟨_, _, xs_187, rfl, rfl, (.inl (SqL.of (by rw [← al_S al_188]; exact (c_185.get 0 rfl)))), hg_221, ?_⟩
          refine nmV (f := V.str) (P := fun v9 => Q_177 v9 _) hl_223 ?_
          refine kk_178 _ _ ?_
          have c_224 : Cf [] H0 G0 G_183 [(p_172, (.lst [])), (D_81, (.lst vs_87)), (p_38, (.lst vs_90)), (p_58, (.lst vs_59))] H_198 := c_185.drop
          have c_225 : Cf [] H0 G0 G_183 [(D_81, (.lst vs_87)), (p_38, (.lst vs_90)), (p_58, (.lst vs_59))] H_198 := c_224.drop
          obtain rfl := some_in hs_167
          exact ⟨G_183, x_222, rfl, eg_184, c_225, rfl⟩
        · skip
          try dsimp only [tNext]
          have c_226 : Cf [] H0 G0 G_84 [(D_81, (.lst vs_87)), (p_38, (.lst vs_90)), (p_58, (.lst vs_59))] H_175 := c_174.drop
          obtain rfl := some_in hs_167
          exact ⟨G_84, ("." : Str), rfl, Ex.refl _, c_226, rfl⟩
      rintro σ_168 H_169 ⟨G_162, x_165, rfl, eg_163, c_164, rfl⟩
      try dsimp only at hf_20
      have c_227 : Cf [] H0 G0 G_162 [(p_38, (.lst vs_90)), (p_58, (.lst vs_59))] H_169 := c_164.drop
      obtain ⟨y_228, hb_229, hf_20⟩ := bs hf_20
      refine ⟨_, rfl, G_162, p_58, vs_59, y_47, y_228, rfl, c_227.gh, (SqB.of (c_227.get 1 rfl)), (AL.mono ((sp_74.gg.trans eg_85).trans eg_163) al_63), hb_229, fun G_230 H_231 sp_232 => ?_⟩
      have c_233 := c_227.call sp_232
      have al_236 : AL rS G_230 [(.str y_228)] ([y_228] : List Str) := (A2.cons rfl A2.nil)
      refine ⟨(by show 1 ≤ sizeLine; decide), fun p_234 np_235 => ?_⟩
      have c_237 := c_233.newO np_235 (.lst [(.str y_228)])
      generalize hh : upd H_231 p_234 (.lst [(.str y_228)]) = H_238 at c_237 ⊢
      clear hh
      obtain ⟨y_239, hb_240, hf_20⟩ := bs hf_20
      refine ⟨_, rfl, _, rfl, G_230, p_58, vs_59, y_47, y_239, rfl, c_237.gh, (SqB.of (c_237.get 2 rfl)), (AL.mono (((sp_74.gg.trans eg_85).trans eg_163).trans sp_232.gg) al_63), hb_240, fun G_241 H_242 sp_243 => ?_⟩
      have c_244 := c_237.call sp_243
      have c_245 : Cf [] H0 G0 G_241 [(p_38, (.lst vs_90)), (p_234, (.lst [(.str y_228)])), (p_58, (.lst vs_59))] H_242 := c_244.front 1 rfl
      obtain ⟨⟨y_246, y_247⟩, hb_248, hf_20⟩ := bs hf_20
      dsimp only at hf_20
      refine ⟨G_241, p_38, vs_90, xs_91, y_239, (y_246, y_247), rfl, c_245.gh, c_245.hd, c_245.hdg, (AL.mono ((eg_163.trans sp_232.gg).trans sp_243.gg) al_92), hb_248, fun p_257 vs_258 G_250 H_251 sp_252 np_259 gp_260 hp_261 al_262 vs_254 hs_255 al_256 => ?_⟩
      have c_253 := c_245.callO1 sp_252 hs_255 np_259 gp_260 hp_261
      obtain ⟨hg_264, hf_20⟩ := gdp hf_20
      have al_265 : AL rS G_250 [(.str y_228)] ([y_228] : List Str) := (AL.mono (sp_243.gg.trans sp_252.gg) al_236)
      have al_266 : AL rS G_250 vs_258 y_246 := al_262
      refine ⟨_, _, _, _, rfl, rfl, (c_253.get 2 rfl), (c_253.get 0 rfl), (by rw [al_265.len, al_266.len]; exact big_le hg_264), fun p_267 np_268 => ?_⟩
      obtain ⟨vs_269, hvs, al_270⟩ : ∃ vs9, vs9 = [(.str y_228)] ++ vs_258 ∧ AL rS G_250 vs9 (([y_228] : List Str) ++ y_246) := ⟨_, rfl, al_265.app al_266⟩
      rw [← hvs]
      clear hvs
      have c_271 := c_253.newO np_268 (.lst vs_269)
      generalize hh : upd H_251 p_267 (.lst vs_269) = H_272 at c_271 ⊢
      clear hh
      refine ⟨_, rfl, ⟨_, SqL.of (c_271.get 0 rfl)⟩, ?_⟩
      obtain ⟨o_277, ho_278, hf_20⟩ := bs hf_20
      refine for_w (walk_list (xs := vs_269)) (([y_228] : List Str) ++ y_246) (A2.len al_270) (fun l_279 σ_281 H_282 => ∃ (G_273 : Hp) (o_276 : Option V), σ_281 = [(some (.ref a_1)), (some (.int y_16)), (some (.ref p_38)), (some (.ref p_58)), none, (some (.ref D_81)), (some (.str x_165)), none, o_276] ∧ Ex G_250 G_273 ∧ Cf [] H0 G0 G_273 [(p_267, (.lst vs_269)), (p_257, (.lst vs_258)), (p_38, (.lst vs_254)), (p_234, (.lst [(.str y_228)])), (p_58, (.lst vs_59))] H_282 ∧ lpx (fun (y_280 : Str) => fun (s_283 : Unit) => ((m__law_is_read0 y_280).bind fun y_299 => (if (!y_299) then (some (Out.rt false)) else (some (Out.nx ()))) : Option (Out Unit Bool))) l_279 () = some o_277)
        ⟨G_250, o_12, rfl, Ex.refl _, c_271, ho_278⟩
        (fun l_279 σ_281 H_282 hI => by
          obtain ⟨G_273, o_276, rfl, eg_274, c_275, ho_278⟩ := hI
          exact (SqL.of (c_275.get 0 rfl)))
        (fun i_289 y_280 l_279 σ_281 H_282 v_286 H_290 hx_287 hI hy_288 => ?_) (fun σ_281 H_282 hI => ?_)
      · obtain ⟨G_273, o_276, rfl, eg_274, c_275, ho_278⟩ := hI
        obtain ⟨so_291, hf_284, hgo_285⟩ := lpx_cons ho_278
        try dsimp only at hf_284
        obtain ⟨rfl, hv_292⟩ := hy_288
        obtain ⟨v_293, hv_294, rv_295⟩ := A2.get al_270 hx_287
        obtain rfl := Option.some.inj (hv_292.symm.trans hv_294)
        obtain rfl := (show v_286 = (.str y_280) from rv_295)
        refine if_opq (fun Q_297 kk_298 => ?_)
        obtain ⟨y_299, hb_300, hf_284⟩ := bs hf_284
        refine ⟨_, rfl, G_273, y_280, y_299, rfl, c_275.gh, hb_300, fun G_301 H_302 sp_303 => ?_⟩
        have c_304 := c_275.call sp_303
        refine ⟨_, rfl, ?_⟩
        refine kk_298 _ _ ?_
        refine ite_m hf_284 (fun hc_305 hf_284 => ?_) (fun hc_305 hf_284 => ?_)
        · skip
          refine ret_opq (fun Q_306 kk_307 => ?_)
          refine kk_307 _ _ ?_
          obtain rfl := some_in hf_284
          obtain rfl := some_in hgo_285
          obtain rfl := some_in hf_20
          obtain rfl := some_in hgo_21
          obtain rfl := some_in hm
          exact k G_301 H_302 c_304.stp
        · skip
          obtain rfl := some_in hf_284
          exact ⟨G_301, (some (.str y_280)), rfl, (eg_274.trans sp_303.gg), c_304, hgo_285⟩
      · obtain ⟨G_273, o_276, rfl, eg_274, c_275, ho_278⟩ := hI
        obtain rfl := lpx_nil ho_278
        dsimp only [Out.fin] at hf_20
        try dsimp only at hf_20
        try dsimp only
        have c_309 : Cf [] H0 G0 G_273 [(p_257, (.lst vs_258)), (p_38, (.lst vs_254)), (p_234, (.lst [(.str y_228)])), (p_58, (.lst vs_59))] H_282 := c_275.drop
        have c_310 : Cf [] H0 G0 G_273 [(p_38, (.lst vs_254)), (p_234, (.lst [(.str y_228)])), (p_58, (.lst vs_59))] H_282 := c_309.drop
        have c_311 : Cf [] H0 G0 G_273 [(p_234, (.lst [(.str y_228)])), (p_38, (.lst vs_254)), (p_58, (.lst vs_59))] H_282 := c_310.front 1 rfl
        have c_312 : Cf [] H0 G0 G_273 [(p_38, (.lst vs_254)), (p_58, (.lst vs_59))] H_282 := c_311.drop
        have c_313 : Cf [] H0 G0 G_273 [(p_58, (.lst vs_59)), (p_38, (.lst vs_254))] H_282 := c_312.front 1 rfl
        have c_314 : Cf [] H0 G0 G_273 [(p_38, (.lst vs_254))] H_282 := c_313.drop
        have al_317 : AL rS G_273 [(.str x_165)] ([x_165] : List Str) := (A2.cons rfl A2.nil)
        refine ⟨_, rfl, (by show 1 ≤ sizeLine; decide), fun p_315 np_316 => ?_⟩
        have c_318 := c_314.newO np_316 (.lst [(.str x_165)])
        generalize hh : upd H_282 p_315 (.lst [(.str x_165)]) = H_319 at c_318 ⊢
        clear hh
        have c_320 : Cf [] H0 G0 G_273 [(p_38, (.lst vs_254)), (p_315, (.lst [(.str x_165)]))] H_319 := c_318.front 1 rfl
        obtain ⟨⟨y_321, y_322⟩, hb_323, hf_20⟩ := bs hf_20
        dsimp only at hf_20
        refine ⟨_, rfl, _, rfl, G_273, p_38, vs_254, y_247, x_165, (y_321, y_322), rfl, c_320.gh, c_320.hd, c_320.hdg, (AL.mono eg_274 al_256), hb_323, fun p_332 vs_333 G_325 H_326 sp_327 np_334 gp_335 hp_336 al_337 vs_329 hs_330 al_331 => ?_⟩
        have c_328 := c_320.callO1 sp_327 hs_330 np_334 gp_335 hp_336
        obtain ⟨hg_339, hf_20⟩ := gdp hf_20
        have al_340 : AL rS G_325 [(.str x_165)] ([x_165] : List Str) := (AL.mono sp_327.gg al_317)
        have al_341 : AL rS G_325 vs_333 y_321 := al_337
        refine ⟨_, _, _, _, rfl, rfl, (c_328.get 2 rfl), (c_328.get 0 rfl), (by rw [al_340.len, al_341.len]; exact big_le hg_339), fun p_342 np_343 => ?_⟩
        obtain ⟨vs_344, hvs, al_345⟩ : ∃ vs9, vs9 = [(.str x_165)] ++ vs_333 ∧ AL rS G_325 vs9 (([x_165] : List Str) ++ y_321) := ⟨_, rfl, al_340.app al_341⟩
        rw [← hvs]
        clear hvs
        have c_346 := c_328.newO np_343 (.lst vs_344)
        generalize hh : upd H_326 p_342 (.lst vs_344) = H_347 at c_346 ⊢
        clear hh
        refine ⟨_, rfl, ⟨_, SqL.of (c_346.get 0 rfl)⟩, ?_⟩
        obtain ⟨o_352, ho_353, hf_20⟩ := bs hf_20
        refine for_w (walk_list (xs := vs_344)) (([x_165] : List Str) ++ y_321) (A2.len al_345) (fun l_354 σ_356 H_357 => ∃ (G_348 : Hp) (o_351 : Option V), σ_356 = [(some (.ref a_1)), (some (.int y_16)), (some (.ref p_38)), (some (.ref p_58)), none, (some (.ref D_81)), (some (.str x_165)), none, o_351] ∧ Ex G_325 G_348 ∧ Cf [] H0 G0 G_348 [(p_342, (.lst vs_344)), (p_332, (.lst vs_333)), (p_38, (.lst vs_329)), (p_315, (.lst [(.str x_165)]))] H_357 ∧ lpx (fun (y_355 : Str) => fun (s_358 : Unit) => ((m__law_is_read1 y_355).bind fun y_374 => (if (!y_374) then (some (Out.rt false)) else (some (Out.nx ()))) : Option (Out Unit Bool))) l_354 () = some o_352)
          ⟨G_325, o_276, rfl, Ex.refl _, c_346, ho_353⟩
          (fun l_354 σ_356 H_357 hI => by
            obtain ⟨G_348, o_351, rfl, eg_349, c_350, ho_353⟩ := hI
            exact (SqL.of (c_350.get 0 rfl)))
          (fun i_364 y_355 l_354 σ_356 H_357 v_361 H_365 hx_362 hI hy_363 => ?_) (fun σ_356 H_357 hI => ?_)
        · obtain ⟨G_348, o_351, rfl, eg_349, c_350, ho_353⟩ := hI
          obtain ⟨so_366, hf_359, hgo_360⟩ := lpx_cons ho_353
          try dsimp only at hf_359
          obtain ⟨rfl, hv_367⟩ := hy_363
          obtain ⟨v_368, hv_369, rv_370⟩ := A2.get al_345 hx_362
          obtain rfl := Option.some.inj (hv_367.symm.trans hv_369)
          obtain rfl := (show v_361 = (.str y_355) from rv_370)
          refine if_opq (fun Q_372 kk_373 => ?_)
          obtain ⟨y_374, hb_375, hf_359⟩ := bs hf_359
          refine ⟨_, rfl, G_348, y_355, y_374, rfl, c_350.gh, hb_375, fun G_376 H_377 sp_378 => ?_⟩
          have c_379 := c_350.call sp_378
          refine ⟨_, rfl, ?_⟩
          refine kk_373 _ _ ?_
          refine ite_m hf_359 (fun hc_380 hf_359 => ?_) (fun hc_380 hf_359 => ?_)
          · skip
            refine ret_opq (fun Q_381 kk_382 => ?_)
            refine kk_382 _ _ ?_
            obtain rfl := some_in hf_359
            obtain rfl := some_in hgo_360
            obtain rfl := some_in hf_20
            obtain rfl := some_in hgo_21
            obtain rfl := some_in hm
            exact k G_376 H_377 c_379.stp
          · skip
            obtain rfl := some_in hf_359
            exact ⟨G_376, (some (.str y_355)), rfl, (eg_349.trans sp_378.gg), c_379, hgo_360⟩
        · obtain ⟨G_348, o_351, rfl, eg_349, c_350, ho_353⟩ := hI
          obtain rfl := lpx_nil ho_353
          dsimp only [Out.fin] at hf_20
          try dsimp only at hf_20
          try dsimp only
          have c_384 : Cf [] H0 G0 G_348 [(p_332, (.lst vs_333)), (p_38, (.lst vs_329)), (p_315, (.lst [(.str x_165)]))] H_357 := c_350.drop
          have c_385 : Cf [] H0 G0 G_348 [(p_38, (.lst vs_329)), (p_315, (.lst [(.str x_165)]))] H_357 := c_384.drop
          have c_386 : Cf [] H0 G0 G_348 [(p_315, (.lst [(.str x_165)]))] H_357 := c_385.drop
          have c_387 : Cf [] H0 G0 G_348 [] H_357 := c_386.drop
          obtain rfl := some_in hf_20
          exact ⟨G_348, (some (.int y_16)), (some (.ref p_38)), (some (.ref p_58)), (some (.ref D_81)), (some (.str x_165)), o_351, rfl, (((((((((((eg_5.trans sp_36.gg).trans sp_53.gg).trans sp_74.gg).trans eg_85).trans eg_163).trans sp_232.gg).trans sp_243.gg).trans sp_252.gg).trans eg_274).trans sp_327.gg).trans eg_349), c_387, hgo_21⟩
    · obtain ⟨G_4, o_7, o_8, o_9, o_10, o_11, o_12, rfl, eg_5, c_6, ho_14⟩ := hI
      obtain rfl := lpx_nil ho_14
      dsimp only [Out.fin] at hm
      try dsimp only at hm
      try dsimp only
      refine ret_opq (fun Q_394 kk_395 => ?_)
      refine kk_395 _ _ ?_
      obtain rfl := some_in hm
      exact k G_4 H_18 c_6.stp
end
end Tw
namespace Tw
open PySem L2 TL
/-! ### draws -/
def Dk (d : List Int) : Prop := ∃ a b c : Int, d = [a, b, c] ∧ 0 ≤ b ∧ b < 2147483647
theorem dk_deck (script : List Int) (at9 : Int) (h0 : 0 ≤ at9) (h1 : at9 = 0 ∨ at9 < script.length) : ∃ d, m__law_deck script at9 = some d ∧ Dk d := by
  have tail : ∀ x : Int, ∃ d, (lt (((((x * (7919 : Int)) + (at9 * (104729 : Int))) + (1 : Int)) % (2147483647 : Int)) : Int) fun x_22 => (if (decide (((10 : Int) ^ ((18 : Int)).toNat) ≤ x)) then (some ([(x - ((10 : Int) ^ ((18 : Int)).toNat)), x_22, at9] : List Int)) else (some ([(0 : Int), x_22, (x % (1000000000000000003 : Int))] : List Int)))) = some d ∧ Dk d := by
    intro x
    have hb : 0 ≤ (x * 7919 + at9 * 104729 + 1) % 2147483647 ∧ (x * 7919 + at9 * 104729 + 1) % 2147483647 < 2147483647 := ⟨Int.emod_nonneg _ (by decide), Int.emod_lt_of_pos _ (by decide)⟩
    unfold lt
    split
    · exact ⟨_, rfl, _, _, _, rfl, hb⟩
    · exact ⟨_, rfl, _, _, _, rfl, hb⟩
  unfold m__law_deck
  by_cases h : at9 < (script.length : Int)
  · rw [if_pos (by simpa using h), atI_get h0 h]
    exact tail _
  · rw [if_neg (by simpa using h)]
    exact tail 0
def DB : Nat → Int
  | 0 => 10 ^ 6
  | n + 1 => 10 ^ 6 * (DB n - 1)
theorem dk_fst {d : List Int} (h : Dk d) : ∃ a b c : Int, d = [a, b, c] := by
  obtain ⟨a, b, c, e, _⟩ := h
  exact ⟨a, b, c, e⟩
theorem divw {y many : Int} (h0 : 0 < many) (h : many ≤ 10 ^ 60) : CDivW y many := by
  refine ⟨h0, ?_⟩
  refine (Nat.log2_lt (by omega)).mpr (Nat.lt_of_lt_of_le (by omega : many.natAbs < 2 ^ 200) ?_)
  exact Nat.pow_le_pow_right (by omega) (by omega)
theorem dk_draw : ∀ (n f : Nat) (d : List Int) (many : Int), n + 1 ≤ f → 0 < many → many ≤ DB n → many ≤ 10 ^ 60 → Dk d → ∃ x d', m__law_draw f d many = some (x, d') ∧ 0 ≤ x ∧ x < many ∧ Dk d' := by
  intro n
  induction n with
  | zero =>
    intro f d many hf h0 h1 h2 hd
    obtain ⟨g, rfl⟩ : ∃ g, f = g + 1 := ⟨f - 1, by omega⟩
    obtain ⟨a, b, c, rfl, hb0, hb1⟩ := hd
    have h1 : many ≤ 10 ^ 6 := h1
    rw [m__law_draw_s]
    have e0 : atI [a, b, c] (0 : Int) = some a := rfl
    have e1 : atI [a, b, c] (1 : Int) = some b := rfl
    have j0 : ixN [a, b, c].length (0 : Int) = some 0 := rfl
    have j1 : ixN [a, b, c].length (1 : Int) = some 1 := rfl
    simp only [e0, e1, j0, j1, Option.bind_some]
    by_cases ha : 0 < a
    · rw [if_pos (by simpa using ha), gd_of h0]
      simp only [lt]
      rw [gd_of (divw h0 h2)]
      exact ⟨_, _, rfl, Int.emod_nonneg _ (by omega), Int.emod_lt_of_pos _ h0, _, _, _, rfl, hb0, hb1⟩
    · rw [if_neg (by simpa using ha), if_neg (by simp; omega)]
      have q0 : 0 ≤ (b * 48271 + 12345) % 2147483647 := Int.emod_nonneg _ (by decide)
      have q1 : (b * 48271 + 12345) % 2147483647 < 2147483647 := Int.emod_lt_of_pos _ (by decide)
      generalize (b * 48271 + 12345) % 2147483647 = b' at q0 q1 ⊢
      have e2 : atI ([a, b, c].set 1 b') (1 : Int) = some b' := rfl
      have e3 : atI ([a, b, c].set 1 b') (2 : Int) = some c := rfl
      simp only [e2, e3, Option.bind_some]
      have r0 : 0 ≤ (b' * b' + c) % 2147483629 := Int.emod_nonneg _ (by decide)
      have r1 : (b' * b' + c) % 2147483629 < 2147483629 := Int.emod_lt_of_pos _ (by decide)
      rw [gd_of (.inl ⟨by omega, by omega⟩)]
      simp only [lt]
      generalize (b' * b' + c) % 2147483629 = y at r0 r1 ⊢
      rw [gd_of (.inl ⟨by omega, by omega⟩), gd_of h0]
      exact ⟨_, _, rfl, Int.emod_nonneg _ (by omega), Int.emod_lt_of_pos _ h0, _, _, _, rfl, q0, q1⟩
  | succ n ih =>
    intro f d many hf h0 h1 h2 hd
    by_cases small : many ≤ 10 ^ 6
    · have one : (1 : Int) ≤ DB n ∨ ¬ (1 : Int) ≤ DB n := Classical.em _
      by_cases hD : many ≤ DB n
      · exact ih f d many (by omega) h0 hD h2 hd
      · exfalso
        have : ∀ m, (10 ^ 6 : Int) ≤ DB m := by
          intro m
          induction m with
          | zero => exact Int.le_refl _
          | succ m im =>
            show (10 ^ 6 : Int) ≤ 10 ^ 6 * (DB m - 1)
            omega
        have := this n
        omega
    · obtain ⟨g, rfl⟩ : ∃ g, f = g + 1 := ⟨f - 1, by omega⟩
      obtain ⟨a, b, c, rfl, hb0, hb1⟩ := hd
      rw [m__law_draw_s]
      have e0 : atI [a, b, c] (0 : Int) = some a := rfl
      have j0 : ixN [a, b, c].length (0 : Int) = some 0 := rfl
      simp only [e0, j0, Option.bind_some]
      by_cases ha : 0 < a
      · rw [if_pos (by simpa using ha), gd_of h0]
        simp only [lt]
        rw [gd_of (divw h0 h2)]
        exact ⟨_, _, rfl, Int.emod_nonneg _ (by omega), Int.emod_lt_of_pos _ h0, _, _, _, rfl, hb0, hb1⟩
      · rw [if_neg (by simpa using ha), if_pos (by simp; omega)]
        have big : ∀ m, (10 ^ 6 : Int) ≤ DB m := by
          intro m
          induction m with
          | zero => exact Int.le_refl _
          | succ m im =>
            show (10 ^ 6 : Int) ≤ 10 ^ 6 * (DB m - 1)
            omega
        have hbn := big n
        have t6 : ((10 : Int) ^ ((6 : Int)).toNat) = 1000000 := by decide
        rw [t6]
        have h1 : many ≤ 10 ^ 6 * (DB n - 1) := h1
        obtain ⟨x1, d1, E1, p1, p2, k1⟩ := ih g [a, b, c] 1000000 (by omega) (by omega) (by omega) (by omega) ⟨a, b, c, rfl, hb0, hb1⟩
        have hm : many / 1000000 ≤ DB n - 1 := by omega
        obtain ⟨x2, d2, E2, p3, p4, k2⟩ := ih g d1 (many / 1000000 + 1) (by omega) (by omega) (by omega) (by omega) k1
        rw [E1]
        simp only [Option.bind_some]
        rw [gd_of (divw (by omega) (by omega)), E2]
        simp only [Option.bind_some]
        rw [gd_of (.inl ⟨by omega, by omega⟩), gd_of h0]
        exact ⟨_, _, rfl, Int.emod_nonneg _ (by omega), Int.emod_lt_of_pos _ h0, k2⟩
/-- a draw, as the laws ask it -/
theorem draw8 {d : List Int} {many : Int} (h0 : 0 < many) (h1 : many ≤ 10 ^ 40) (hd : Dk d) : ∃ x d', m__law_draw 8 d many = some (x, d') ∧ 0 ≤ x ∧ x < many ∧ Dk d' :=
  dk_draw 7 8 d many (by omega) h0 (Int.le_trans h1 (by decide +kernel)) (by omega) hd
end Tw

namespace Tw
open PySem L2 TL
/-! ### numbers, ties, webs read and shown -/
theorem rn_ok {k : Int} (h0 : 0 ≤ k) (h1 : k < 10 ^ 30) : m_read_number (sI k) = some (some k) := by
  obtain ⟨n, rfl⟩ := Int.eq_ofNat_of_zero_le h0
  have hn : n < 10 ^ 30 := by omega
  have hl := sI_len (k := 30) (by omega) hn
  obtain ⟨c, l, e⟩ : ∃ c l, tl (sI (n : Int)) = c :: l := by
    cases e : tl (sI (n : Int)) with
    | nil => exact absurd e (sI_ne h0)
    | cons c l => exact ⟨c, l, rfl⟩
  have len : (sI (n : Int)).length = l.length + 1 := by rw [len_tl, e, List.length_cons]
  have ne : decide (sI (n : Int) = ("" : Str)) = false := decide_eq_false fun z => by
    rw [z, strE] at e
    cases e
  have at0 : atI (Str.cps (sI (n : Int))).toList (0 : Int) = some c := by
    show atI (tl (sI (n : Int))) 0 = _
    rw [e]
    exact (atI_get (Int.le_refl 0) (by simp only [List.length_cons]; omega)).trans rfl
  have lead : decide ((⟨#[c]⟩ : Str) = ("0" : Str)) = true → l = [] := fun z => by
    rw [str0] at z
    have z := congrArg tl (of_decide_eq_true z)
    have z : [c] = [48] := z
    injection z with z
    rw [z, tl_sI] at e
    have := numL_zero e
    subst this
    have e : numL 0 = 48 :: l := e
    rw [numL_lt (by omega)] at e
    injection e with _ e
    exact e.symm
  have loop : lpx (fun (y_33 : Nat) => fun (s_36 : Unit) => (if (!(decide (y_33 ∈ (Str.cps ("0123456789" : Str)).toList))) then (some (Out.rt none)) else (some (Out.nx ())) : Option (Out Unit (Option Int)))) (Str.cps (sI (n : Int))).toList () = some (.nx ()) := by
    obtain ⟨u, hu, _⟩ := lpx_all (I := fun _ : Unit => True) (l := (Str.cps (sI (n : Int))).toList) (s := ()) (f := fun (y_33 : Nat) => fun (s_36 : Unit) => (if (!(decide (y_33 ∈ (Str.cps ("0123456789" : Str)).toList))) then (some (Out.rt none)) else (some (Out.nx ())) : Option (Out Unit (Option Int)))) trivial fun c hc _ _ => by
      refine ⟨(), ?_, trivial⟩
      have := dig_mem (sI_dig h0 c hc)
      rw [if_neg (by simp [this])]
    exact hu
  unfold m_read_number
  rw [ne, gd_of (by have := bigE; omega), decide_eq_false (p := (30 : Int) < ((Str.length (sI (n : Int)) : Nat) : Int)) (by omega), gd_of (by have := bigE; omega), at0]
  simp only [Option.bind_some]
  have second : pAnd (decide ((⟨#[c]⟩ : Str) = ("0" : Str))) (gd (Str.length (sI (n : Int)) ≤ BIG) (some (decide ((1 : Int) < ((Str.length (sI (n : Int)) : Nat) : Int))))) = some false := by
    unfold pAnd
    cases z : decide ((⟨#[c]⟩ : Str) = ("0" : Str)) with
    | false => rfl
    | true =>
      rw [gd_of (by have := bigE; omega), decide_eq_false (by
        have := lead z
        rw [len, this]
        simp)]
      rfl
  rw [second]
  show (pOr false (some false)).bind _ = _
  show (lpx _ (Str.cps (sI (n : Int))).toList ()).bind _ = _
  rw [loop]
  show (iOk (sI (n : Int))).bind _ = _
  rw [iOk_sI hn]
  rfl
theorem rt_loop : ∀ {row xs : List Int}, (xs ++ row).Pairwise (· < ·) → (∀ k ∈ row, 0 ≤ k ∧ k < 10 ^ 30) → (xs ++ row).length < BIG →
    lpx (fun (y_37 : Str) => fun (s_40 : ((List Int))) => ((fun (xs_30 : (List Int)) => (m_read_number y_37).bind fun y_56 => (oel y_56 (if true then (some (Out.rt none)) else none) (fun (y_65 : Int) => (pOr false ((pAnd (!(decide (xs_30 = ([] : List Int)))) ((atI xs_30 (-(1 : Int))).bind fun y_79 => (some (decide (y_65 ≤ y_79))))).bind fun b_86 => (some b_86))).bind fun b_91 => (if b_91 then (some (Out.rt none)) else (gd (List.length xs_30 < BIG) (some (Out.nx ((xs_30 ++ [y_65]))))))))) s_40 : Option (Out ((List Int)) (Option (List Int))))) (row.map sI) xs = some (.nx (xs ++ row))
  | [], xs, _, _, _ => by rw [List.append_nil]; rfl
  | k :: row, xs, up, b, l => by
    have hk := b k List.mem_cons_self
    have ask : (pOr false ((pAnd (!(decide (xs = ([] : List Int)))) ((atI xs (-(1 : Int))).bind fun y_79 => (some (decide (k ≤ y_79))))).bind fun b_86 => (some b_86))) = some false := by
      rcases List.eq_nil_or_concat xs with e | ⟨ys, y, e⟩
      · subst e
        rfl
      · subst e
        rw [List.concat_eq_append, atI_last]
        rw [List.concat_eq_append] at up
        have : y < k := (List.pairwise_append.mp up).2.2 y (by simp) k List.mem_cons_self
        rw [decide_eq_false (p := ys ++ [y] = []) (by simp)]
        show (some (decide (k ≤ y))).bind _ = _
        rw [decide_eq_false (by omega)]
        rfl
    rw [List.map_cons]
    unfold lpx
    dsimp only
    rw [rn_ok hk.1 hk.2]
    dsimp only [Option.bind_some, oel]
    rw [ask]
    dsimp only [Option.bind_some]
    rw [if_neg Bool.false_ne_true, gd_of (by have := bigE; rw [List.length_append, List.length_cons] at l; omega)]
    show lpx _ (row.map sI) (xs ++ [k]) = _
    have e : xs ++ k :: row = xs ++ [k] ++ row := by simp
    rw [e] at up l ⊢
    exact rt_loop up (fun j hj => b j (List.mem_cons_of_mem _ hj)) l
theorem rt_ok {row : List Int} (up : row.Pairwise (· < ·)) (b : ∀ k ∈ row, 0 ≤ k ∧ k < 10 ^ 30) (l : row.length < 100000) : m_read_ties (tsT row) = some (some row) := by
  unfold m_read_ties tsT
  by_cases e : row = []
  · rw [if_pos e, if_pos (by decide), e]
  · rw [if_neg e]
    have free : ∀ y ∈ row.map sI, 44 ∉ tl y := fun y hy => by
      obtain ⟨k, hk, q⟩ := List.mem_map.mp hy
      rw [← q]
      intro z
      have := sI_dig (b k hk).1 44 z
      omega
    have ne : decide (Txt.join ("," : Str) (row.map sI) = ("-" : Str)) = false := decide_eq_false fun z => by
      have : (45 : Nat) ∈ tl (Txt.join ("," : Str) (row.map sI)) := by rw [z, strMi]; simp
      rcases join_mem this with h | ⟨y, hy, h⟩
      · rw [strC] at h
        simp at h
      · obtain ⟨k, hk, q⟩ := List.mem_map.mp hy
        rw [← q] at h
        have := sI_dig (b k hk).1 45 h
        omega
    have len : (Txt.join ("," : Str) (row.map sI)).length ≤ 100000 * (30 + 1) := join_len ("," : Str) (by decide +kernel) (fun y hy => by
      obtain ⟨k, hk, q⟩ := List.mem_map.mp hy
      rw [← q]
      exact sI_le (by omega) (b k hk).1 (b k hk).2) (by rw [List.length_map]; omega)
    rw [ne, if_neg Bool.false_ne_true, gd_of (by have := bigE; omega), split_back strC (by omega) (fun z => e (List.map_eq_nil_iff.mp z)) free, rt_loop (xs := []) (by simpa using up) b (by have := bigE; simp only [List.nil_append]; omega)]
    rfl
def SmallW (web : List (List Int)) : Prop := web.length ≤ 1000 ∧ ∀ row ∈ web, row.length ≤ 1000 ∧ row.Pairwise (· < ·) ∧ ∀ k ∈ row, 0 ≤ k ∧ k < 1000
def IsWeb (web : List (List Int)) : Prop := ∀ (i : Nat) row, web[i]? = some row → UpTo i row
theorem st_ok {row : List Int} (b : ∀ k ∈ row, 0 ≤ k ∧ k < 1000) (l : row.length ≤ 1000) : m_show_ties row = some (tsT row) := by
  unfold m_show_ties tsT
  by_cases e : row = []
  · rw [if_pos (by simpa using e), if_pos e]
  · rw [if_neg (by simpa using e), if_neg e, gd_of (by have := bigE; omega)]
    rw [lcm_ok (g := sI) fun x hx => gd_of (sOk_small (b x hx).1 (by have := (b x hx).2; omega))]
    simp only [Option.bind_some]
    rw [gd_of (jOk_of (k := 3) (n := 1000) (by decide +kernel) (fun y hy => by
      obtain ⟨k, hk, q⟩ := List.mem_map.mp hy
      rw [← q]
      exact sI_le (by omega) (b k hk).1 (by have := (b k hk).2; omega)) (by rw [List.length_map]; exact l) (by omega))]
theorem tsT_lens {web : List (List Int)} (s : SmallW web) : ∀ y ∈ web.map tsT, y.length ≤ 4000 := fun y hy => by
  obtain ⟨row, hr, q⟩ := List.mem_map.mp hy
  rw [← q]
  exact tsT_len (s.2 row hr).2.2 (s.2 row hr).1
theorem sw_ok {web : List (List Int)} (s : SmallW web) : m_show_web web = some (txW web) := by
  unfold m_show_web txW
  by_cases e : web = []
  · rw [if_pos (by simpa using e), if_pos e]
  · have l := s.1
    rw [if_neg (by simpa using e), if_neg e, gd_of (by have := bigE; omega)]
    rw [lcm_ok (g := tsT) fun x hx => by rw [st_ok (s.2 x hx).2.2 (s.2 x hx).1]; rfl]
    simp only [Option.bind_some]
    rw [gd_of (jOk_of (k := 4000) (n := 1000) (by decide +kernel) (tsT_lens s) (by rw [List.length_map]; exact l) (by omega))]
theorem ao_ok {row : List Int} {n : Int} (h : UpTo n row) : m_are_ties_o (some row) n = some true := by
  unfold m_are_ties_o
  dsimp only [oel, lt]
  rw [if_neg (by decide)]
  have loop : ∀ (row : List Int) (z : Int), row.Pairwise (· < ·) → (∀ k ∈ row, z < k ∧ k < n) → ∃ z', lpx (fun (y_29 : Int) => fun (s_32 : (Int)) => ((fun (x_24 : Int) => (m_is_integer y_29).bind fun y_48 => (if ((!y_48) || ((decide (y_29 ≤ x_24)) || (decide (n ≤ y_29)))) then (some (Out.rt false)) else (some (Out.nx (y_29))))) s_32 : Option (Out (Int) Bool))) row z = some (.nx z') := by
    intro row
    induction row with
    | nil => exact fun z _ _ => ⟨z, rfl⟩
    | cons k row ih =>
      intro z up b
      have hk := b k List.mem_cons_self
      obtain ⟨h1, h2⟩ := List.pairwise_cons.mp up
      obtain ⟨z', e⟩ := ih k h2 fun j hj => ⟨h1 j hj, (b j (List.mem_cons_of_mem _ hj)).2⟩
      refine ⟨z', ?_⟩
      unfold lpx
      dsimp only [m_is_integer, Option.bind_some]
      rw [if_neg (by simp; omega)]
      exact e
  obtain ⟨z', e⟩ := loop row (-1) h.1 fun k hk => ⟨by have := (h.2 k hk).1; omega, (h.2 k hk).2⟩
  rw [e]
  rfl
theorem wo_ok {web : List (List Int)} (h : IsWeb web) : m_is_web_o (web.map some) = some true := by
  unfold m_is_web_o
  rw [if_neg (by decide), enm_eq]
  have loop : ∀ (web : List (List Int)) (z : Nat), (∀ (i : Nat) row, web[i]? = some row → UpTo ((z + i : Nat) : Int) row) → lpx (fun (y_16 : (Int × (Option (List Int)))) => (fun (y_36 : Int) (y_37 : (Option (List Int))) => fun (s_19 : Unit) => ((m_are_ties_o y_37 y_36).bind fun y_46 => (if (!y_46) then (some (Out.rt false)) else (some (Out.nx ()))) : Option (Out Unit Bool))) y_16.1 y_16.2) (enF (z : Int) (web.map some)) () = some (.nx ()) := by
    intro web
    induction web with
    | nil => exact fun z _ => rfl
    | cons row web ih =>
      intro z h
      rw [List.map_cons]
      unfold enF lpx
      dsimp only
      rw [ao_ok (by simpa using h 0 row rfl)]
      have := ih (z + 1) fun i r hr => by
        have := h (i + 1) r (by simpa using hr)
        rw [show z + 1 + i = z + (i + 1) by omega]
        exact this
      rw [show ((z + 1 : Nat) : Int) = (z : Int) + 1 by omega] at this
      exact this
  have := loop web 0 fun i r hr => by simpa using h i r hr
  rw [show ((0 : Nat) : Int) = 0 from rfl] at this
  rw [this]
  rfl
end Tw

namespace Tw
open PySem L2 TL
/-! ### lists compared -/
theorem all_rng {f : Int → Option Bool} {p : Nat → Bool} {n : Nat} (h : ∀ i : Nat, i < n → f (i : Int) = some (p i)) : (lcm f (rng (0 : Int) (n : Int))).bind (fun xs => some (List.all xs id)) = some ((List.range n).all p) := by
  have e : rng (0 : Int) (n : Int) = (List.range n).map fun i : Nat => (i : Int) := by
    unfold rng
    rw [show ((n : Int) - 0).toNat = n by omega]
    exact List.map_congr_left fun i _ => by omega
  have key : ∀ l : List Nat, (∀ i ∈ l, i < n) → lcm f (l.map fun i : Nat => (i : Int)) = some (l.map p) := by
    intro l
    induction l with
    | nil => exact fun _ => rfl
    | cons a l ih =>
      intro hl
      rw [List.map_cons, List.map_cons]
      unfold lcm
      rw [h a (hl a List.mem_cons_self), ih fun i hi => hl i (List.mem_cons_of_mem _ hi)]
      rfl
  rw [e, key _ fun i hi => List.mem_range.mp hi]
  show some (List.all ((List.range n).map p) id) = _
  rw [List.all_map]
  rfl
theorem all_eq {α : Type} [DecidableEq α] {v d : List α} (l : v.length = d.length) {p : Nat → Bool} (hp : ∀ i (h : i < d.length), p i = decide (v[i]'(by omega) = d[i])) : (List.range d.length).all p = decide (v = d) := by
  by_cases e : v = d
  · subst e
    rw [decide_eq_true rfl, List.all_eq_true]
    intro i hi
    rw [hp i (List.mem_range.mp hi)]
    simp
  · rw [decide_eq_false e]
    cases q : (List.range d.length).all p with
    | false => rfl
    | true =>
      exfalso
      apply e
      rw [List.all_eq_true] at q
      refine List.ext_getElem l fun i h1 h2 => ?_
      have := q i (List.mem_range.mpr h2)
      rw [hp i h2] at this
      exact of_decide_eq_true this
theorem sl_ok {v d : List Int} (l : d.length < 1000000) : m__law_same_list v d = some (decide (v = d)) := by
  unfold m__law_same_list
  by_cases e : v.length = d.length
  · rw [if_neg (by simp [e]), gd_of (rok_small (by omega) (by omega)), gd_of (by have := bigE; rw [rng_len]; omega)]
    rw [all_rng (p := fun i => decide (v[i]? = d[i]?))]
    · rw [all_eq e]
      intro i hi
      rw [List.getElem?_eq_getElem hi, List.getElem?_eq_getElem (by omega : i < v.length)]
      simp
    · intro i hi
      have h1 : atI v (i : Int) = some v[i] := by rw [atI_get (by omega) (by omega)]; simp
      have h2 : atI d (i : Int) = some d[i] := by rw [atI_get (by omega) (by omega)]; simp
      rw [h1, h2, List.getElem?_eq_getElem hi, List.getElem?_eq_getElem (by omega : i < v.length)]
      simp [m__law_is_integer, pAnd]
  · have n : v ≠ d := fun z => e (by rw [z])
    rw [if_pos (by simp; omega), decide_eq_false n]
theorem sr_ok {v d : List (List Int)} (l : d.length < 1000000) (r : ∀ x ∈ d, x.length < 1000000) : m__law_same_rows v d = some (decide (v = d)) := by
  unfold m__law_same_rows
  by_cases e : v.length = d.length
  · rw [if_neg (by simp [e]), gd_of (rok_small (by omega) (by omega)), gd_of (by have := bigE; rw [rng_len]; omega)]
    rw [all_rng (p := fun i => decide (v[i]? = d[i]?))]
    · rw [all_eq e]
      intro i hi
      rw [List.getElem?_eq_getElem hi, List.getElem?_eq_getElem (by omega : i < v.length)]
      simp
    · intro i hi
      have h1 : atI v (i : Int) = some v[i] := by rw [atI_get (by omega) (by omega)]; simp
      have h2 : atI d (i : Int) = some d[i] := by rw [atI_get (by omega) (by omega)]; simp
      rw [h1, h2, List.getElem?_eq_getElem hi, List.getElem?_eq_getElem (by omega : i < v.length)]
      simp only [Option.bind_some]
      rw [sl_ok (r _ (List.getElem_mem hi))]
      simp
  · have n : v ≠ d := fun z => e (by rw [z])
    rw [if_pos (by simp; omega), decide_eq_false n]
/-! ### the law's own text -/
theorem eqS_ok {l : List Str} (h : ∀ x ∈ l, PyData.strOk x = true) : Eqd.ok (eqdL eqdS) l = true := List.all_eq_true.mpr h
theorem lt_ok {web : List (List Int)} (s : SmallW web) (so : ∀ y ∈ web.map tsT, PyData.strOk y = true) : m__law_text web = some (txW web) := by
  unfold m__law_text
  have loop : ∀ (web : List (List Int)) (xs : List Str), SmallW web → (xs.length + web.length < 2000) → lp (fun (y_22 : (List Int)) => fun (s_25 : ((List Str))) => (fun (xs_15 : (List Str)) => (((if (!(decide (y_22 = ([] : List Int)))) then (gd (List.length y_22 < BIG) ((lcm (fun (y_80 : Int) => gd (sOk y_80) (some (sI y_80))) y_22).bind fun xs_70 => (gd (jOk ("," : Str) xs_70) (lt ((Txt.join ("," : Str) xs_70) : Str) fun x_105 => (some (x_105)))))) else (some (("-" : Str)))) : Option (Str))).bind fun (s_117 : (Str)) => (fun (x_44 : Str) => (gd (List.length xs_15 < BIG) (some ((xs_15 ++ [x_44]))))) s_117) s_25) web xs = some (xs ++ web.map tsT) := by
    intro web
    induction web with
    | nil =>
      intro xs _ _
      rw [List.map_nil, List.append_nil]
      rfl
    | cons row web ih =>
      intro xs s l
      have hr := s.2 row List.mem_cons_self
      have one : ((if (!(decide (row = ([] : List Int)))) then (gd (List.length row < BIG) ((lcm (fun (y_80 : Int) => gd (sOk y_80) (some (sI y_80))) row).bind fun xs_70 => (gd (jOk ("," : Str) xs_70) (lt ((Txt.join ("," : Str) xs_70) : Str) fun x_105 => (some (x_105)))))) else (some (("-" : Str)))) : Option (Str)) = some (tsT row) := by
        unfold tsT
        by_cases e : row = []
        · rw [if_neg (by simp [e]), if_pos e]
        · rw [if_pos (by simpa using e), if_neg e, gd_of (by have := bigE; omega)]
          rw [lcm_ok (g := sI) fun x hx => gd_of (sOk_small (hr.2.2 x hx).1 (by have := (hr.2.2 x hx).2; omega))]
          simp only [Option.bind_some, lt]
          rw [gd_of (jOk_of (k := 3) (n := 1000) (by decide +kernel) (fun y hy => by
            obtain ⟨k, hk, q⟩ := List.mem_map.mp hy
            rw [← q]
            exact sI_le (by omega) (hr.2.2 k hk).1 (by have := (hr.2.2 k hk).2; omega)) (by rw [List.length_map]; exact hr.1) (by omega))]
      unfold lp
      dsimp only
      rw [one]
      simp only [Option.bind_some]
      rw [gd_of (by have := bigE; rw [List.length_cons] at l; omega)]
      simp only [Option.bind_some]
      rw [ih (xs ++ [tsT row]) ⟨by have := s.1; rw [List.length_cons] at this; omega, fun r hr => s.2 r (List.mem_cons_of_mem _ hr)⟩ (by rw [List.length_cons] at l; rw [List.length_append, List.length_cons, List.length_nil]; omega)]
      simp
  rw [loop web [] s (by have := s.1; simp only [List.length_nil]; omega)]
  simp only [Option.bind_some, List.nil_append]
  rw [gd_of (eqS_ok so), gd_of (eqS_ok (by simp))]
  unfold txW
  by_cases e : web = []
  · rw [if_pos (by simp [e]), if_pos e]
  · rw [if_neg (by simp [e]), if_neg e]
    rw [gd_of (jOk_of (k := 4000) (n := 1000) (by decide +kernel) (tsT_lens s) (by rw [List.length_map]; exact s.1) (by omega))]
theorem strOk_of {x : Str} (h : ∀ c ∈ tl x, c < 256) : PyData.strOk x = true := by
  unfold PyData.strOk
  rw [← Array.all_toList]
  refine List.all_eq_true.mpr fun c hc => ?_
  have := h c hc
  exact decide_eq_true (by omega)
theorem tsT_ok {web : List (List Int)} (s : SmallW web) : ∀ y ∈ web.map tsT, PyData.strOk y = true := fun y hy => by
  obtain ⟨row, hr, q⟩ := List.mem_map.mp hy
  rw [← q]
  refine strOk_of fun c hc => ?_
  have := tsT_sign (fun k hk => ((s.2 row hr).2.2 k hk).1) hc
  omega
/-! ### the drawn webs -/
def RowsOk (web : List (List Int)) : Prop := ∀ (j : Nat) row, web[j]? = some row → UpTo j row ∧ row.length ≤ 1000
theorem RowsOk.web {web : List (List Int)} (h : RowsOk web) : IsWeb web := fun i row e => (h i row e).1
theorem RowsOk.small {web : List (List Int)} (h : RowsOk web) (l : web.length ≤ 1000) : SmallW web := ⟨l, fun row hr => by
  obtain ⟨i, e⟩ := List.mem_iff_getElem?.mp hr
  obtain ⟨h1, h2⟩ := h i row e
  have hi := (List.getElem?_eq_some_iff.mp e).1
  exact ⟨h2, h1.1, fun k hk => ⟨(h1.2 k hk).1, by have := (h1.2 k hk).2; omega⟩⟩⟩
theorem RowsOk.snoc {web : List (List Int)} {row : List Int} (h : RowsOk web) (u : UpTo (web.length : Int) row) (l : row.length ≤ 1000) : RowsOk (web ++ [row]) := fun j r e => by
  by_cases hj : j < web.length
  · rw [List.getElem?_append_left hj] at e
    exact h j r e
  · rw [List.getElem?_append_right (by omega)] at e
    have e0 : j - web.length = 0 := by
      have := (List.getElem?_eq_some_iff.mp e).1
      simp only [List.length_cons, List.length_nil] at this
      omega
    rw [e0] at e
    have er : row = r := by simpa using e
    have ej : j = web.length := by omega
    subst er
    subst ej
    exact ⟨u, l⟩
theorem upto_sub {n : Int} {l : List Int} (h0 : 0 ≤ n) (h : l.Sublist (rng 0 n)) : UpTo n l ∧ (l.length : Int) ≤ n := by
  refine ⟨⟨(rng_up 0 n).sublist h, fun k hk => ?_⟩, ?_⟩
  · have := rng_mem.mp (h.subset hk)
    exact this
  · have := h.length_le
    rw [rng_len] at this
    omega
theorem upto_srt {n : Int} {l : List Int} (h : ∀ k ∈ l, 0 ≤ k ∧ k < n) : UpTo n (srt l) := ⟨srt_up l, fun k hk => h k ((srt_mem k l).mp hk)⟩
end Tw

namespace Tw
open PySem L2 TL
/-! ### any text read -/
theorem val_snoc (cs : List Nat) (c : Nat) : NumText.digitsVal (cs ++ [c]) = NumText.digitsVal cs * 10 + (c - 48) := by
  unfold NumText.digitsVal
  rw [List.foldl_append]
  rfl
theorem val_lt : ∀ (n : Nat) (cs : List Nat), cs.length = n → NumText.AllDigits cs → NumText.digitsVal cs < 10 ^ n
  | 0, cs, h, _ => by
    have : cs = [] := List.length_eq_zero_iff.mp h
    subst this
    decide
  | n + 1, cs, h, d => by
    rcases List.eq_nil_or_concat cs with e | ⟨ds, c, e⟩
    · rw [e] at h
      cases h
    · rw [List.concat_eq_append] at e
      subst e
      rw [List.length_append, List.length_cons, List.length_nil] at h
      have ih := val_lt n ds (by omega) fun x hx => d x (List.mem_append_left _ hx)
      have hc := d c (by simp)
      rw [val_snoc, Nat.pow_succ]
      omega
theorem val_back : ∀ (n : Nat) (cs : List Nat), cs.length = n + 1 → NumText.AllDigits cs → (∀ r, cs = 48 :: r → r = []) → numL (NumText.digitsVal cs) = cs ∧ ((∀ r, cs ≠ 48 :: r) → 0 < NumText.digitsVal cs)
  | 0, cs, h, d, _ => by
    obtain ⟨c, rfl⟩ : ∃ c, cs = [c] := by
      cases cs with
      | nil => cases h
      | cons c r => exact ⟨c, by rw [List.length_cons] at h; rw [List.length_eq_zero_iff.mp (by omega : r.length = 0)]⟩
    have hc := d c (by simp)
    have e : NumText.digitsVal [c] = c - 48 := by
      show 0 * 10 + (c - 48) = _
      omega
    rw [e]
    refine ⟨?_, fun q => ?_⟩
    · rw [numL_lt (by omega), show 48 + (c - 48) = c by omega]
    · have : c ≠ 48 := fun z => q [] (by rw [z])
      omega
  | n + 1, cs, h, d, lead => by
    rcases List.eq_nil_or_concat cs with e | ⟨ds, c, e⟩
    · rw [e] at h
      cases h
    · rw [List.concat_eq_append] at e
      subst e
      rw [List.length_append, List.length_cons, List.length_nil] at h
      have hc := d c (by simp)
      obtain ⟨x, ys, ed⟩ : ∃ x ys, ds = x :: ys := by
        cases ds with
        | nil => rw [List.length_nil] at h; omega
        | cons x ys => exact ⟨x, ys, rfl⟩
      have nz : ∀ r, ds ≠ 48 :: r := fun r z => by
        have := lead (r ++ [c]) (by rw [z]; rfl)
        simp at this
      obtain ⟨ih, pos⟩ := val_back n ds (by omega) (fun z hz => d z (List.mem_append_left _ hz)) fun r z => absurd z (nz r)
      have p := pos nz
      rw [val_snoc]
      refine ⟨?_, fun _ => by omega⟩
      rw [numL_step (by omega), show (NumText.digitsVal ds * 10 + (c - 48)) / 10 = NumText.digitsVal ds by omega, ih, show 48 + (NumText.digitsVal ds * 10 + (c - 48)) % 10 = c by omega]
/-- both readers at any word -/
theorem number_all {w : Str} (hl : w.length ≤ 1000) : ∃ o : Option Int, m_read_number w = some o ∧ m__law_number w = some (o.getD (-1)) ∧ ∀ n, o = some n → 0 ≤ n ∧ n < 10 ^ 30 ∧ sI n = w := by
  unfold m_read_number m__law_number
  by_cases he : w = ("" : Str)
  · subst he
    exact ⟨none, by decide +kernel, by decide +kernel, fun _ z => by cases z⟩
  · have lw := len_tl w
    obtain ⟨c, l, e⟩ : ∃ c l, tl w = c :: l := by
      cases q : tl w with
      | nil => exact absurd (ext_tl (by rw [q, strE])) he
      | cons c l => exact ⟨c, l, rfl⟩
    have len : w.length = l.length + 1 := by rw [lw, e, List.length_cons]
    have at0 : atI (Str.cps w).toList (0 : Int) = some c := by
      show atI (tl w) 0 = _
      rw [e]
      exact (atI_get (Int.le_refl 0) (by simp only [List.length_cons]; omega)).trans rfl
    have gw : Str.length w ≤ BIG := by have := bigE; omega
    rw [decide_eq_false he]
    simp only [gd_of gw, at0, Option.bind_some]
    by_cases h30 : w.length ≤ 30
    · rw [decide_eq_false (p := (30 : Int) < ((Str.length w : Nat) : Int)) (by omega)]
      by_cases lead : c = 48 ∧ 0 < l.length
      · have z0 : decide ((⟨#[c]⟩ : Str) = ("0" : Str)) = true := by rw [lead.1, str0]; exact decide_eq_true rfl
        have z1 : decide ((1 : Int) < ((Str.length w : Nat) : Int)) = true := decide_eq_true (by omega)
        rw [z0, z1]
        exact ⟨none, rfl, rfl, fun _ z => by cases z⟩
      · have both : (pAnd (decide ((⟨#[c]⟩ : Str) = ("0" : Str))) (some (decide ((1 : Int) < ((Str.length w : Nat) : Int))))) = some false ∧ (pAnd (decide ((1 : Int) < ((Str.length w : Nat) : Int))) (some (decide ((⟨#[c]⟩ : Str) = ("0" : Str))))) = some false := by
          have fst : decide ((⟨#[c]⟩ : Str) = ("0" : Str)) = decide (c = 48) := by
            by_cases z : c = 48
            · rw [z, str0]
              simp
            · rw [decide_eq_false z, decide_eq_false fun q => z (by
                rw [str0] at q
                have q := congrArg tl q
                have q : [c] = [48] := q
                injection q)]
          rw [fst]
          by_cases z : c = 48
          · rw [decide_eq_true z, decide_eq_false (p := (1 : Int) < ((Str.length w : Nat) : Int)) (by have := fun q => lead ⟨z, q⟩; omega)]
            exact ⟨rfl, rfl⟩
          · rw [decide_eq_false z]
            refine ⟨rfl, ?_⟩
            cases decide ((1 : Int) < ((Str.length w : Nat) : Int)) <;> rfl
        rw [both.1, both.2]
        simp only [Option.bind_some, pOr, Bool.false_eq_true, if_false, cond_false]
        have lw2 : ((Str.cps w).toList).length = w.length := lw.symm
        rw [gd_of (by have := bigE; omega), lcm_ok (g := fun y => decide (y ∈ (Str.cps ("0123456789" : Str)).toList)) fun _ _ => rfl]
        simp only [Option.bind_some]
        have inD : ∀ y : Nat, y ∈ (Str.cps ("0123456789" : Str)).toList ↔ 48 ≤ y ∧ y ≤ 57 := fun y => ⟨fun q => by
          rw [strDg] at q
          simp at q
          omega, dig_mem⟩
        by_cases dig : ∀ y ∈ tl w, 48 ≤ y ∧ y ≤ 57
        · have a1 : List.all (List.map (fun y => decide (y ∈ (Str.cps ("0123456789" : Str)).toList)) (Str.cps w).toList) id = true := by
            rw [List.all_map, List.all_eq_true]
            intro y hy
            exact decide_eq_true ((inD y).mpr (dig y hy))
          have loop : lpx (fun (y_33 : Nat) => fun (s_36 : Unit) => (if (!(decide (y_33 ∈ (Str.cps ("0123456789" : Str)).toList))) then (some (Out.rt none)) else (some (Out.nx ())) : Option (Out Unit (Option Int)))) (Str.cps w).toList () = some (.nx ()) := by
            obtain ⟨u, hu, _⟩ := lpx_all (I := fun _ : Unit => True) (l := (Str.cps w).toList) (s := ()) (f := fun (y_33 : Nat) => fun (s_36 : Unit) => (if (!(decide (y_33 ∈ (Str.cps ("0123456789" : Str)).toList))) then (some (Out.rt none)) else (some (Out.nx ())) : Option (Out Unit (Option Int)))) trivial fun y hy _ _ => by
              refine ⟨(), ?_, trivial⟩
              rw [if_neg (by simp [(inD y).mpr (dig y hy)])]
            exact hu
          have vb := val_back l.length (tl w) (by rw [e, List.length_cons]) dig fun r q => by
            rw [e] at q
            injection q with q1 q2
            rw [← q2]
            exact List.length_eq_zero_iff.mp (by have := fun p => lead ⟨q1, p⟩; omega)
          have vl := val_lt w.length (tl w) lw.symm dig
          have small : NumText.digitsVal (tl w) < 10 ^ 30 := Nat.lt_of_lt_of_le vl (Nat.pow_le_pow_right (by omega) h30)
          have it : iOk w = some ((NumText.digitsVal (tl w) : Nat) : Int) := by
            unfold iOk
            rw [if_pos (by omega)]
            exact intText_digits dig (by show tl w ≠ []; rw [e]; simp) (by omega)
          rw [loop, a1, it]
          refine ⟨some ((NumText.digitsVal (tl w) : Nat) : Int), rfl, rfl, fun n hn => ?_⟩
          obtain rfl := some_in hn
          refine ⟨by omega, by omega, ext_tl ?_⟩
          rw [tl_sI]
          exact vb.1
        · have a1 : List.all (List.map (fun y => decide (y ∈ (Str.cps ("0123456789" : Str)).toList)) (Str.cps w).toList) id = false := by
            rw [List.all_map]
            cases q : (Str.cps w).toList.all (id ∘ fun y => decide (y ∈ (Str.cps ("0123456789" : Str)).toList)) with
            | false => rfl
            | true =>
              exfalso
              rw [List.all_eq_true] at q
              exact dig fun y hy => (inD y).mp (of_decide_eq_true (q y hy))
          have loop : ∀ cs : List Nat, ¬ (∀ y ∈ cs, 48 ≤ y ∧ y ≤ 57) → lpx (fun (y_33 : Nat) => fun (s_36 : Unit) => (if (!(decide (y_33 ∈ (Str.cps ("0123456789" : Str)).toList))) then (some (Out.rt none)) else (some (Out.nx ())) : Option (Out Unit (Option Int)))) cs () = some (.rt none) := by
            intro cs
            induction cs with
            | nil => exact fun q => absurd (fun y hy => nomatch hy) q
            | cons y cs ih =>
              intro q
              unfold lpx
              by_cases hy : 48 ≤ y ∧ y ≤ 57
              · rw [if_neg (by simp [(inD y).mpr hy])]
                exact ih fun r => q fun z hz => by
                  rcases List.mem_cons.mp hz with e | hz
                  · rw [e]
                    exact hy
                  · exact r z hz
              · rw [if_pos (by simpa using fun r => hy ((inD y).mp r))]
                rfl
          rw [loop _ dig, a1]
          exact ⟨none, rfl, rfl, fun _ z => by cases z⟩
    · rw [decide_eq_true (p := (30 : Int) < ((Str.length w : Nat) : Int)) (by omega)]
      exact ⟨none, rfl, rfl, fun _ z => by cases z⟩
end Tw

namespace Tw
open PySem L2 TL
/-! ### parts -/
theorem spl_ne (S : List Nat) : ∀ (l : List Nat) (k : Nat) (acc : List Nat), spl S k acc l ≠ []
  | [], k, acc => by rw [spl_nil]; simp
  | c :: r, 0, acc => by
    unfold spl
    split
    · simp
    · exact spl_ne S r 0 _
  | c :: r, k + 1, acc => by
    unfold spl
    exact spl_ne S r k acc
theorem split_ne {x y : Str} {s : Nat} (h : tl y = s :: []) (hs : s < 256) : Txt.split x y ≠ [] := fun e => by
  have q := split_spl x y (by rw [h]; simp) (kind_ok (ok256 h hs))
  rw [e, List.map_nil] at q
  exact spl_ne _ _ _ _ q.symm
theorem join_parts (x y : Str) : Txt.join y (Txt.split x y) = x := by
  rw [join_eq]
  exact StrLaws.join_split x y
theorem joinL_len {s : Nat} : ∀ {ps : List (List Nat)}, ps.length ≤ (joinL [s] ps).length + 1 ∧ ∀ p ∈ ps, p.length ≤ (joinL [s] ps).length
  | [] => ⟨by simp, fun _ z => nomatch z⟩
  | [p] => ⟨by simp, fun q hq => by rw [List.mem_singleton.mp hq]; exact Nat.le_refl _⟩
  | p :: q :: r => by
    obtain ⟨h1, h2⟩ := joinL_len (s := s) (ps := q :: r)
    have e : (joinL [s] (p :: q :: r)).length = p.length + (1 + (joinL [s] (q :: r)).length) := by
      show (p ++ ([s] ++ joinL [s] (q :: r))).length = _
      rw [List.length_append, List.length_append]
      rfl
    refine ⟨by rw [e, List.length_cons]; omega, fun z hz => ?_⟩
    rcases List.mem_cons.mp hz with c | hz
    · rw [c, e]
      omega
    · have := h2 z hz
      rw [e]
      omega
theorem split_len {x y : Str} {s : Nat} (h : tl y = s :: []) (hs : s < 256) : (Txt.split x y).length ≤ x.length + 1 ∧ ∀ p ∈ Txt.split x y, p.length ≤ x.length := by
  have e := join_parts x y
  have e2 : tl x = joinL [s] ((Txt.split x y).map tl) := by
    rw [← h, ← tl_join, ← join_eq, e]
  obtain ⟨h1, h2⟩ := joinL_len (s := s) (ps := (Txt.split x y).map tl)
  rw [← e2, List.length_map, ← len_tl] at h1
  refine ⟨h1, fun p hp => ?_⟩
  have := h2 (tl p) (List.mem_map.mpr ⟨p, hp, rfl⟩)
  rw [← e2, ← len_tl, ← len_tl] at this
  exact this
theorem srt_fix {l : List Int} (h : l.Pairwise (· < ·)) : srt l = l := (up_uniq h (srt_up l) fun k => (srt_mem k l).symm).symm
/-- a word's numbers: the program's, the law's -/
theorem ties_loop : ∀ (ws : List Str) (xs : List Int), (∀ w ∈ ws, w.length ≤ 1000) → xs.Pairwise (· < ·) → (xs ++ ws.map fun _ => 0).length < BIG →
    ∃ (o : Option (List Int)) (L : List Int), lpx (fun (y_37 : Str) => fun (s_40 : ((List Int))) => ((fun (xs_30 : (List Int)) => (m_read_number y_37).bind fun y_56 => (oel y_56 (if true then (some (Out.rt none)) else none) (fun (y_65 : Int) => (pOr false ((pAnd (!(decide (xs_30 = ([] : List Int)))) ((atI xs_30 (-(1 : Int))).bind fun y_79 => (some (decide (y_65 ≤ y_79))))).bind fun b_86 => (some b_86))).bind fun b_91 => (if b_91 then (some (Out.rt none)) else (gd (List.length xs_30 < BIG) (some (Out.nx ((xs_30 ++ [y_65]))))))))) s_40 : Option (Out ((List Int)) (Option (List Int))))) ws xs = some (match o with | none => .rt none | some r => .nx r) ∧
      lcm (fun (y_98 : Str) => (m__law_number y_98).bind fun y_117 => (some y_117)) ws = some L ∧ L.length = ws.length ∧
      (∀ r, o = some r → r = xs ++ L ∧ r.Pairwise (· < ·) ∧ (∀ k ∈ L, 0 ≤ k ∧ k < 10 ^ 30) ∧ L.map sI = ws) ∧ (o = none → (∃ k ∈ L, k = -1) ∨ ¬ (xs ++ L).Pairwise (· < ·))
  | [], xs, _, up, _ => ⟨some xs, [], rfl, rfl, rfl, fun r e => by
      obtain rfl := some_in e
      exact ⟨by simp, up, (fun _ z => (nomatch z)), rfl⟩, fun z => by cases z⟩
  | w :: ws, xs, hw, up, lim => by
    obtain ⟨on, e1, e2, hn⟩ := number_all (hw w List.mem_cons_self)
    have lawL : ∀ L, lcm (fun (y_98 : Str) => (m__law_number y_98).bind fun y_117 => (some y_117)) ws = some L → lcm (fun (y_98 : Str) => (m__law_number y_98).bind fun y_117 => (some y_117)) (w :: ws) = some (on.getD (-1) :: L) := fun L h => by
      unfold lcm
      rw [e2]
      simp only [Option.bind_some]
      rw [h]
      rfl
    have someL : ∃ L, lcm (fun (y_98 : Str) => (m__law_number y_98).bind fun y_117 => (some y_117)) ws = some L ∧ L.length = ws.length := by
      have : ∀ ws : List Str, (∀ w ∈ ws, w.length ≤ 1000) → ∃ L, lcm (fun (y_98 : Str) => (m__law_number y_98).bind fun y_117 => (some y_117)) ws = some L ∧ L.length = ws.length := by
        intro ws
        induction ws with
        | nil => exact fun _ => ⟨[], rfl, rfl⟩
        | cons v vs ih =>
          intro h
          obtain ⟨o9, _, e9, _⟩ := number_all (h v List.mem_cons_self)
          obtain ⟨L, e3, e4⟩ := ih fun u hu => h u (List.mem_cons_of_mem _ hu)
          refine ⟨o9.getD (-1) :: L, ?_, by simp [e4]⟩
          unfold lcm
          rw [e9]
          simp only [Option.bind_some]
          rw [e3]
          rfl
      exact this ws fun u hu => hw u (List.mem_cons_of_mem _ hu)
    cases on with
    | none =>
      obtain ⟨L, e3, e4⟩ := someL
      refine ⟨none, _, ?_, lawL L e3, by simp [e4], (fun r z => by cases z), fun _ => .inl ⟨-1, by simp, rfl⟩⟩
      unfold lpx
      dsimp only
      rw [e1]
      rfl
    | some n =>
      obtain ⟨n0, n1, nw⟩ := hn n rfl
      have lim2 : xs.length < BIG := by
        simp only [List.length_append, List.length_map, List.length_cons] at lim
        omega
      by_cases asc : (xs ++ [n]).Pairwise (· < ·)
      · have ask : (pOr false ((pAnd (!(decide (xs = ([] : List Int)))) ((atI xs (-(1 : Int))).bind fun y_79 => (some (decide (n ≤ y_79))))).bind fun b_86 => (some b_86))) = some false := by
          rcases List.eq_nil_or_concat xs with e | ⟨ys, y, e⟩
          · subst e
            rfl
          · subst e
            rw [List.concat_eq_append, atI_last]
            rw [List.concat_eq_append] at asc
            have : y < n := (List.pairwise_append.mp asc).2.2 y (by simp) n List.mem_cons_self
            rw [decide_eq_false (p := ys ++ [y] = []) (by simp)]
            show (some (decide (n ≤ y))).bind _ = _
            rw [decide_eq_false (by omega)]
            rfl
        obtain ⟨o, L, h1, h2, h3, h4, h5⟩ := ties_loop ws (xs ++ [n]) (fun u hu => hw u (List.mem_cons_of_mem _ hu)) asc (by
          simp only [List.length_append, List.length_map, List.length_cons, List.length_nil] at lim ⊢
          omega)
        have app : xs ++ n :: L = xs ++ [n] ++ L := by simp
        refine ⟨o, n :: L, ?_, lawL L h2, by simp [h3], fun r e => ?_, fun e => ?_⟩
        · unfold lpx
          dsimp only
          rw [e1]
          dsimp only [Option.bind_some, oel]
          rw [ask]
          dsimp only [Option.bind_some]
          rw [if_neg Bool.false_ne_true, gd_of lim2]
          exact h1
        · obtain ⟨g1, g2, g3, g4⟩ := h4 r e
          refine ⟨by rw [app]; exact g1, g2, fun k hk => ?_, by rw [List.map_cons, nw, g4]⟩
          rcases List.mem_cons.mp hk with c | hk
          · rw [c]
            exact ⟨n0, n1⟩
          · exact g3 k hk
        · rw [app]
          rcases h5 e with ⟨k, hk, c⟩ | h5
          · exact .inl ⟨k, List.mem_cons_of_mem _ hk, c⟩
          · exact .inr h5
      · obtain ⟨L, e3, e4⟩ := someL
        have nonempty : xs ≠ [] := fun z => asc (by rw [z]; exact List.pairwise_singleton _ _)
        obtain ⟨ys, y, e⟩ := (List.eq_nil_or_concat xs).resolve_left nonempty
        rw [List.concat_eq_append] at e
        have yn : n ≤ y := by
          refine Int.not_lt.mp fun c => asc ?_
          subst e
          refine List.pairwise_append.mpr ⟨up, List.pairwise_singleton _ _, fun a ha b hb => ?_⟩
          rw [List.mem_singleton.mp hb]
          rcases List.mem_append.mp ha with ha | ha
          · have := (List.pairwise_append.mp up).2.2 a ha y List.mem_cons_self
            omega
          · rw [List.mem_singleton.mp ha]
            exact c
        refine ⟨none, n :: L, ?_, lawL L e3, by simp [e4], (fun r z => by cases z), fun _ => .inr fun p => asc ?_⟩
        · unfold lpx
          dsimp only
          rw [e1]
          dsimp only [Option.bind_some, oel]
          have ask : (pOr false ((pAnd (!(decide (xs = ([] : List Int)))) ((atI xs (-(1 : Int))).bind fun y_79 => (some (decide (n ≤ y_79))))).bind fun b_86 => (some b_86))) = some true := by
            rw [e, atI_last, decide_eq_false (p := ys ++ [y] = []) (by simp)]
            show (pOr false ((some (decide (n ≤ y))).bind _)) = _
            rw [decide_eq_true yn]
            rfl
          rw [ask]
          rfl
        · have app : xs ++ n :: L = (xs ++ [n]) ++ L := by simp
          rw [app] at p
          exact (List.pairwise_append.mp p).1
/-- the law's list of a word -/
def lawT (w : Str) : Option (List Int) := (if (!(decide (w = ("-" : Str)))) then (gd (Str.length w + 2 ≤ BIG) (gd (List.length (Txt.split w ("," : Str)) < BIG) ((lcm (fun (y_98 : Str) => (m__law_number y_98).bind fun y_117 => (some y_117)) (Txt.split w ("," : Str))).bind fun xs_88 => (some (xs_88))))) else (some (([] : List Int))))
theorem ties_all {w : Str} (hl : w.length ≤ 1000) : ∃ (o : Option (List Int)) (L : List Int), m_read_ties w = some o ∧ lawT w = some L ∧ L.length ≤ 1001 ∧
    (∀ r, o = some r → r = L ∧ r.Pairwise (· < ·) ∧ (∀ k ∈ r, 0 ≤ k ∧ k < 10 ^ 30) ∧ tsT r = w) ∧ (o = none → L ≠ [] ∧ ((∃ k ∈ L, k = -1) ∨ ¬ L.Pairwise (· < ·))) := by
  unfold m_read_ties lawT
  by_cases e : w = ("-" : Str)
  · rw [if_pos (by simpa using e), if_neg (by simpa using e)]
    refine ⟨some [], [], rfl, rfl, by simp, fun r q => ?_, fun z => by cases z⟩
    obtain rfl := some_in q
    exact ⟨rfl, List.Pairwise.nil, (fun _ z => (nomatch z)), e.symm⟩
  · obtain ⟨s1, s2⟩ := split_len (x := w) strC (by omega)
    have ne := split_ne (x := w) strC (by omega)
    obtain ⟨o, L, h1, h2, h3, h4, h5⟩ := ties_loop (Txt.split w ("," : Str)) [] (fun p hp => by have := s2 p hp; omega) List.Pairwise.nil (by have := bigE; simp only [List.nil_append, List.length_map]; omega)
    rw [if_neg (by simpa using e), if_pos (c := (!(decide (w = ("-" : Str)))) = true) (by simpa using e), gd_of (by have := bigE; omega), gd_of (by have := bigE; omega), gd_of (by have := bigE; omega), h1, h2]
    have Lne : L ≠ [] := fun z => ne (List.length_eq_zero_iff.mp (by rw [← h3, z]; rfl))
    refine ⟨o, L, by cases o <;> rfl, rfl, by omega, fun r q => ?_, fun q => ⟨Lne, by simpa using h5 q⟩⟩
    obtain ⟨g1, g2, g3, g4⟩ := h4 r q
    rw [List.nil_append] at g1
    subst g1
    refine ⟨rfl, g2, g3, ?_⟩
    unfold tsT
    rw [if_neg Lne, g4]
    exact join_parts w _
end Tw

namespace Tw
open PySem L2 TL
/-! ### a row of a web: both readers take the same -/
theorem up_ends {L : List Int} (up : L.Pairwise (· < ·)) {a b : Int} (ha : atI L 0 = some a) (hb : atI L (-(1 : Int)) = some b) : ∀ k ∈ L, a ≤ k ∧ k ≤ b := by
  rcases List.eq_nil_or_concat L with e | ⟨ys, y, e⟩
  · subst e
    cases ha
  · rw [List.concat_eq_append] at e
    subst e
    rw [atI_last] at hb
    obtain rfl := some_in hb
    obtain ⟨x, zs, e⟩ : ∃ x zs, ys ++ [y] = x :: zs := by
      cases ys with
      | nil => exact ⟨y, [], rfl⟩
      | cons x l => exact ⟨x, l ++ [y], rfl⟩
    have hx : a = x := by
      rw [e] at ha
      have : atI (x :: zs) (0 : Int) = some x := (atI_get (Int.le_refl 0) (by simp only [List.length_cons]; omega)).trans rfl
      rw [this] at ha
      exact (some_in ha).symm
    subst hx
    intro k hk
    refine ⟨?_, ?_⟩
    · rw [e] at hk up
      rcases List.mem_cons.mp hk with c | c
      · omega
      · have := (List.pairwise_cons.mp up).1 k c
        omega
    · rcases List.mem_append.mp hk with c | c
      · have := (List.pairwise_append.mp up).2.2 k c y List.mem_cons_self
        omega
      · rw [List.mem_singleton.mp c]
        omega
/-- what the law asks of a row at place i -/
def lawQ (L : List Int) (n : Nat) : Option Bool := (pOr (!(decide (L = (srt L)))) ((pAnd (!(decide (L = ([] : List Int)))) ((atI L (0 : Int)).bind fun y_149 => ((pOr (decide (y_149 < (0 : Int))) ((atI L (-(1 : Int))).bind fun y_155 => (some (decide (((n : Nat) : Int) ≤ y_155))))).bind fun b_162 => (some b_162)))).bind fun b_166 => (some b_166)))
theorem lawQ_ok (L : List Int) (n : Nat) : ∃ b, lawQ L n = some b ∧ (b = false ↔ UpTo n L) := by
  unfold lawQ
  by_cases s : L = srt L
  · have up : L.Pairwise (· < ·) := by rw [s]; exact srt_up L
    rw [decide_eq_true s]
    by_cases e : L = []
    · rw [decide_eq_true e]
      refine ⟨false, rfl, fun _ => ?_, fun _ => rfl⟩
      rw [e]
      exact ⟨List.Pairwise.nil, fun _ z => nomatch z⟩
    · rw [decide_eq_false e]
      have pos : 0 < L.length := List.length_pos_iff.mpr e
      have a0 := atI_get (xs := L) (i := 0) (Int.le_refl 0) (by omega)
      obtain ⟨ys, y, ey⟩ := (List.eq_nil_or_concat L).resolve_left e
      rw [List.concat_eq_append] at ey
      have b0 : atI L (-(1 : Int)) = some y := by rw [ey]; exact atI_last
      have ends := up_ends up a0 b0
      have ha : L[(0 : Int).toNat]'(by omega) ∈ L := List.getElem_mem _
      have hy : y ∈ L := by rw [ey]; simp
      rw [a0]
      generalize L[(0 : Int).toNat]'(by omega) = a at ends ha ⊢
      rw [b0]
      refine ⟨decide (a < 0) || decide ((n : Int) ≤ y), ?_, ?_⟩
      · simp only [Option.bind_some]
        cases decide (a < 0) <;> rfl
      · rw [Bool.or_eq_false_iff, decide_eq_false_iff_not, decide_eq_false_iff_not]
        refine ⟨fun ⟨h1, h2⟩ => ⟨up, fun k hk => ?_⟩, fun h => ⟨?_, ?_⟩⟩
        · have := ends k hk
          omega
        · have := (h.2 a ha).1
          omega
        · have := (h.2 y hy).2
          omega
  · rw [decide_eq_false s]
    refine ⟨true, rfl, fun z => (nomatch z), fun h => absurd (srt_fix h.1).symm s⟩
/-- the program's check of a row -/
theorem are_all (o : Option (List Int)) (n : Nat) : ∃ b, m_are_ties_o o (n : Int) = some b ∧ (b = true ↔ ∃ r, o = some r ∧ UpTo n r) := by
  cases o with
  | none => exact ⟨false, rfl, fun z => (nomatch z), fun ⟨r, z, _⟩ => by cases z⟩
  | some row =>
    unfold m_are_ties_o
    dsimp only [oel, lt]
    rw [if_neg (by decide)]
    have loop : ∀ (row : List Int) (z : Int), ∃ o, lpx (fun (y_29 : Int) => fun (s_32 : (Int)) => ((fun (x_24 : Int) => (m_is_integer y_29).bind fun y_48 => (if ((!y_48) || ((decide (y_29 ≤ x_24)) || (decide ((n : Int) ≤ y_29)))) then (some (Out.rt false)) else (some (Out.nx (y_29))))) s_32 : Option (Out (Int) Bool))) row z = some o ∧
        ((∃ z', o = .nx z' ∧ (z :: row).Pairwise (· < ·) ∧ ∀ k ∈ row, k < n) ∨ (o = .rt false ∧ ¬ ((z :: row).Pairwise (· < ·) ∧ ∀ k ∈ row, k < n))) := by
      intro row
      induction row with
      | nil => exact fun z => ⟨.nx z, rfl, .inl ⟨z, rfl, List.pairwise_singleton _ _, fun _ q => nomatch q⟩⟩
      | cons k row ih =>
        intro z
        unfold lpx
        dsimp only [m_is_integer, Option.bind_some]
        by_cases h : z < k ∧ k < n
        · rw [if_neg (by simp; omega)]
          obtain ⟨o, e, q⟩ := ih k
          refine ⟨o, e, ?_⟩
          rcases q with ⟨z', e1, u, b⟩ | ⟨e1, nb⟩
          · refine .inl ⟨z', e1, ?_, fun j hj => ?_⟩
            · refine List.pairwise_cons.mpr ⟨fun j hj => ?_, u⟩
              rcases List.mem_cons.mp hj with c | hj
              · omega
              · have := (List.pairwise_cons.mp u).1 j hj
                omega
            · rcases List.mem_cons.mp hj with c | hj
              · omega
              · exact b j hj
          · exact .inr ⟨e1, fun ⟨u, b⟩ => nb ⟨(List.pairwise_cons.mp u).2, fun j hj => b j (List.mem_cons_of_mem _ hj)⟩⟩
        · rw [if_pos (by simp; omega)]
          refine ⟨.rt false, rfl, .inr ⟨rfl, fun ⟨u, b⟩ => h ⟨(List.pairwise_cons.mp u).1 k List.mem_cons_self, b k List.mem_cons_self⟩⟩⟩
    obtain ⟨o, e, q⟩ := loop row (-1)
    rw [e]
    rcases q with ⟨z', rfl, u, b⟩ | ⟨rfl, nb⟩
    · refine ⟨true, rfl, fun _ => ⟨row, rfl, (List.pairwise_cons.mp u).2, fun k hk => ⟨?_, b k hk⟩⟩, fun _ => rfl⟩
      have := (List.pairwise_cons.mp u).1 k hk
      omega
    · refine ⟨false, rfl, fun z => (nomatch z), fun ⟨r, er, h⟩ => ?_⟩
      obtain rfl := some_in er
      exact absurd ⟨List.pairwise_cons.mpr ⟨fun k hk => by have := (h.2 k hk).1; omega, h.1⟩, fun k hk => (h.2 k hk).2⟩ nb
/-- words read as rows from place n on, by both -/
theorem rows_all : ∀ (ws : List Str) (n : Nat) (ys : List (List Int)), (∀ w ∈ ws, w.length ≤ 1000) → ys.length = n → n + ws.length < 100000 →
    ∃ (os : List (Option (List Int))) (b : Bool), lcm (fun (y_38 : Str) => (m_read_ties y_38).bind fun y_57 => (some y_57)) ws = some os ∧
      (lpx (fun (y_16 : (Int × (Option (List Int)))) => (fun (y_36 : Int) (y_37 : (Option (List Int))) => fun (s_19 : Unit) => ((m_are_ties_o y_37 y_36).bind fun y_46 => (if (!y_46) then (some (Out.rt false)) else (some (Out.nx ()))) : Option (Out Unit Bool))) y_16.1 y_16.2) (enF (n : Int) os) ()) = some (if b = true then .nx () else .rt false) ∧
      (b = true → ∃ rs : List (List Int), os = rs.map some ∧ rs.map tsT = ws ∧ (∀ (i : Nat) r, rs[i]? = some r → UpTo ((n + i : Nat) : Int) r ∧ r.length ≤ 1001) ∧
        lpx (fun (y_36 : Str) => fun (s_39 : ((List (List Int)))) => ((fun (xs_29 : (List (List Int))) => ((lawT y_36).bind fun (s_196 : ((List Int))) => (fun (xs_64 : (List Int)) => (gd (List.length xs_64 ≤ 4000) ((lawQ xs_64 (List.length xs_29)).bind fun b_171 => (if b_171 then (some (Out.rt none)) else (gd (List.length xs_29 < BIG) (some (Out.nx ((xs_29 ++ [xs_64]))))))))) s_196)) s_39 : Option (Out ((List (List Int))) (Option (List (List Int)))))) ws ys = some (.nx (ys ++ rs))) ∧
      (b = false → lpx (fun (y_36 : Str) => fun (s_39 : ((List (List Int)))) => ((fun (xs_29 : (List (List Int))) => ((lawT y_36).bind fun (s_196 : ((List Int))) => (fun (xs_64 : (List Int)) => (gd (List.length xs_64 ≤ 4000) ((lawQ xs_64 (List.length xs_29)).bind fun b_171 => (if b_171 then (some (Out.rt none)) else (gd (List.length xs_29 < BIG) (some (Out.nx ((xs_29 ++ [xs_64]))))))))) s_196)) s_39 : Option (Out ((List (List Int))) (Option (List (List Int)))))) ws ys = some (.rt none))
  | [], n, ys, _, _, _ => ⟨[], true, rfl, rfl, fun _ => ⟨[], rfl, rfl, fun i r z => by simp at z, by rw [List.append_nil]; rfl⟩, fun z => (nomatch z)⟩
  | w :: ws, n, ys, hw, hy, lim => by
    have hws : ∀ u ∈ ws, u.length ≤ 1000 := fun u hu => hw u (List.mem_cons_of_mem _ hu)
    obtain ⟨o, L, e1, e2, e3, e4, e5⟩ := ties_all (hw w List.mem_cons_self)
    obtain ⟨b1, f1, f2⟩ := are_all o n
    obtain ⟨b2, g1, g2⟩ := lawQ_ok L n
    have same : b1 = true ↔ b2 = false := by
      rw [f2, g2]
      constructor
      · rintro ⟨r, er, u⟩
        rw [(e4 r er).1] at u
        exact u
      · intro u
        cases o with
        | some r => exact ⟨r, rfl, by rw [(e4 r rfl).1]; exact u⟩
        | none =>
          exfalso
          rcases (e5 rfl).2 with ⟨k, hk, c⟩ | c
          · have := (u.2 k hk).1
            omega
          · exact c u.1
    rw [List.length_cons] at lim
    have stepP : ∀ (rest : List (Option (List Int))), (lpx (fun (y_16 : (Int × (Option (List Int)))) => (fun (y_36 : Int) (y_37 : (Option (List Int))) => fun (s_19 : Unit) => ((m_are_ties_o y_37 y_36).bind fun y_46 => (if (!y_46) then (some (Out.rt false)) else (some (Out.nx ()))) : Option (Out Unit Bool))) y_16.1 y_16.2) (enF (n : Int) (o :: rest)) ()) =
        if b1 = true then (lpx (fun (y_16 : (Int × (Option (List Int)))) => (fun (y_36 : Int) (y_37 : (Option (List Int))) => fun (s_19 : Unit) => ((m_are_ties_o y_37 y_36).bind fun y_46 => (if (!y_46) then (some (Out.rt false)) else (some (Out.nx ()))) : Option (Out Unit Bool))) y_16.1 y_16.2) (enF ((n + 1 : Nat) : Int) rest) ()) else some (.rt false) := fun rest => by
      conv =>
        lhs
        unfold enF lpx
      dsimp only
      rw [f1]
      rw [show ((n + 1 : Nat) : Int) = (n : Int) + 1 by omega]
      cases b1 <;> rfl
    have stepL : (lpx (fun (y_36 : Str) => fun (s_39 : ((List (List Int)))) => ((fun (xs_29 : (List (List Int))) => ((lawT y_36).bind fun (s_196 : ((List Int))) => (fun (xs_64 : (List Int)) => (gd (List.length xs_64 ≤ 4000) ((lawQ xs_64 (List.length xs_29)).bind fun b_171 => (if b_171 then (some (Out.rt none)) else (gd (List.length xs_29 < BIG) (some (Out.nx ((xs_29 ++ [xs_64]))))))))) s_196)) s_39 : Option (Out ((List (List Int))) (Option (List (List Int)))))) (w :: ws) ys) =
        if b2 = true then some (.rt none) else (lpx (fun (y_36 : Str) => fun (s_39 : ((List (List Int)))) => ((fun (xs_29 : (List (List Int))) => ((lawT y_36).bind fun (s_196 : ((List Int))) => (fun (xs_64 : (List Int)) => (gd (List.length xs_64 ≤ 4000) ((lawQ xs_64 (List.length xs_29)).bind fun b_171 => (if b_171 then (some (Out.rt none)) else (gd (List.length xs_29 < BIG) (some (Out.nx ((xs_29 ++ [xs_64]))))))))) s_196)) s_39 : Option (Out ((List (List Int))) (Option (List (List Int)))))) ws (ys ++ [L])) := by
      conv => lhs; unfold lpx
      dsimp only
      rw [e2]
      dsimp only [Option.bind_some]
      rw [gd_of (by omega), hy, g1]
      dsimp only [Option.bind_some]
      rw [gd_of (by have := bigE; omega)]
      cases b2 <;> rfl
    by_cases hb : b1 = true
    · have hb2 := same.mp hb
      obtain ⟨r, er, u⟩ := f2.mp hb
      obtain ⟨q1, q2, q3, q4⟩ := e4 r er
      obtain ⟨os, b, h1, h2, h3, h4⟩ := rows_all ws (n + 1) (ys ++ [L]) hws (by simp [hy]) (by omega)
      refine ⟨o :: os, b, ?_, ?_, fun z => ?_, fun z => ?_⟩
      · unfold lcm
        rw [e1]
        simp only [Option.bind_some]
        rw [h1]
        rfl
      · rw [stepP, if_pos hb]
        exact h2
      · obtain ⟨rs, k1, k2, k3, k4⟩ := h3 z
        refine ⟨r :: rs, by rw [k1, er]; rfl, by rw [List.map_cons, q4, k2], fun i x hx => ?_, ?_⟩
        · cases i with
          | zero =>
            have : r = x := by simpa using hx
            subst this
            exact ⟨u, by rw [q1]; exact e3⟩
          | succ i =>
            have := k3 i x (by simpa using hx)
            rw [show n + (i + 1) = n + 1 + i by omega]
            exact this
        · rw [stepL, if_neg (by rw [hb2]; exact Bool.false_ne_true), k4, q1]
          simp
      · rw [stepL, if_neg (by rw [hb2]; exact Bool.false_ne_true)]
        exact h4 z
    · have hb2 : b2 = true := by
        cases c : b2 with
        | true => rfl
        | false => exact absurd (same.mpr c) hb
      have restOs : ∃ os, lcm (fun (y_38 : Str) => (m_read_ties y_38).bind fun y_57 => (some y_57)) ws = some os := by
        have : ∀ ws : List Str, (∀ u ∈ ws, u.length ≤ 1000) → ∃ os, lcm (fun (y_38 : Str) => (m_read_ties y_38).bind fun y_57 => (some y_57)) ws = some os := by
          intro ws
          induction ws with
          | nil => exact fun _ => ⟨[], rfl⟩
          | cons v vs ih =>
            intro h
            obtain ⟨o9, _, e9, _⟩ := ties_all (h v List.mem_cons_self)
            obtain ⟨os, e8⟩ := ih fun u hu => h u (List.mem_cons_of_mem _ hu)
            refine ⟨o9 :: os, ?_⟩
            unfold lcm
            rw [e9]
            simp only [Option.bind_some]
            rw [e8]
            rfl
        exact this ws hws
      obtain ⟨os, h1⟩ := restOs
      refine ⟨o :: os, false, ?_, ?_, fun z => (nomatch z), fun _ => ?_⟩
      · unfold lcm
        rw [e1]
        simp only [Option.bind_some]
        rw [h1]
        rfl
      · rw [stepP, if_neg hb, if_neg Bool.false_ne_true]
      · rw [stepL, if_pos hb2]
end Tw

namespace Tw
open PySem L2 TL
theorem tx_len {text : Str} (hl : text.length ≤ 900) : (∀ w ∈ Txt.split text (" " : Str), w.length ≤ 900) ∧ (Txt.split text (" " : Str)).length ≤ 901 := by
  obtain ⟨s1, s2⟩ := split_len (x := text) strSp (by omega)
  exact ⟨fun w hw => by have := s2 w hw; omega, by omega⟩
theorem read0_ok {text : Str} (hl : text.length ≤ 900) : m__law_is_read0 text = some true := by
  unfold m__law_is_read0
  by_cases e : text = ("." : Str)
  · subst e
    decide +kernel
  · obtain ⟨s1, s2⟩ := tx_len hl
    have ne := split_ne (x := text) strSp (by omega)
    obtain ⟨os, b, h1, h2, h3, h4⟩ := rows_all (Txt.split text (" " : Str)) 0 [] (fun w hw => by have := s1 w hw; omega) rfl (by omega)
    have rd : m_read_web_x text = some (if b = true then (match allS os with | some ys => Except.ok ys | none => Except.error ((1, 0) : Er)) else Except.error ((0, 0) : Er)) := by
      unfold m_read_web_x
      rw [if_neg (by decide), if_neg (by simpa using e), gd_of (by have := bigE; omega), gd_of (by have := bigE; omega), h1]
      simp only [Option.bind_some]
      have wo : m_is_web_o os = some b := by
        unfold m_is_web_o
        rw [if_neg (by decide), enm_eq]
        rw [show ((0 : Nat) : Int) = 0 from rfl] at h2
        rw [h2]
        cases b <;> rfl
      rw [wo]
      simp only [Option.bind_some]
      cases b with
      | false => rfl
      | true =>
        obtain ⟨rs, k1, _⟩ := h3 rfl
        rw [k1, allS_some]
        rfl
    have due : m__law_due_web text = some (if b = true then allS os else none) := by
      unfold m__law_due_web
      rw [if_neg (by simpa using e), gd_of (by have := bigE; omega)]
      cases b with
      | false =>
        have := h4 rfl
        unfold lawT lawQ at this
        rw [this]
        rfl
      | true =>
        obtain ⟨rs, k1, k2, k3, k4⟩ := h3 rfl
        unfold lawT lawQ at k4
        rw [k4, k1, allS_some]
        rfl
    rw [rd, due]
    cases b with
    | false => rfl
    | true =>
      obtain ⟨rs, k1, k2, k3, k4⟩ := h3 rfl
      rw [k1, allS_some]
      have len : rs.length = (Txt.split text (" " : Str)).length := by rw [← k2, List.length_map]
      have sm : SmallW rs := ⟨by omega, fun row hr => by
        obtain ⟨i, hi⟩ := List.mem_iff_getElem?.mp hr
        obtain ⟨u, l⟩ := k3 i row hi
        have hi2 := (List.getElem?_eq_some_iff.mp hi).1
        have l2 : (row.length : Int) ≤ 901 := by
          have hs := u.1
          have : ∀ (l : List Int) (lo : Int), l.Pairwise (· < ·) → (∀ k ∈ l, lo ≤ k ∧ k < ((0 + i : Nat) : Int)) → (l.length : Int) ≤ max 0 (((0 + i : Nat) : Int) - lo) := by
            intro l
            induction l with
            | nil => intro lo _ _; simp only [List.length_nil]; omega
            | cons x l ih =>
              intro lo p q
              obtain ⟨p1, p2⟩ := List.pairwise_cons.mp p
              have qx := q x List.mem_cons_self
              have := ih (x + 1) p2 fun k hk => ⟨by have := p1 k hk; omega, (q k (List.mem_cons_of_mem _ hk)).2⟩
              rw [List.length_cons]
              omega
          have := this row 0 u.1 u.2
          omega
        exact ⟨by omega, u.1, fun k hk => ⟨(u.2 k hk).1, by have := (u.2 k hk).2; omega⟩⟩⟩
      have tx : txW rs = text := by
        unfold txW
        have : rs ≠ [] := fun z => ne (List.length_eq_zero_iff.mp (by rw [← len, z]; rfl))
        rw [if_neg this, k2]
        exact join_parts text _
      simp only [Option.bind_some, if_true, exo, oel, Bool.false_eq_true, if_false]
      rw [sr_ok (by omega) fun x hx => by have := (sm.2 x hx).1; omega]
      simp only [Option.bind_some, decide_true, pAnd, if_true, cond_true]
      rw [sw_ok sm, tx]
      simp
theorem cols_all : ∀ (ws : List Str) (xs : List Int), (∀ w ∈ ws, w.length ≤ 1000) → (xs ++ ws.map fun _ => 0).length < BIG →
    ∃ (o : Option (List Int)) (L : List Int), lpx (fun (y_35 : Str) => fun (s_38 : ((List Int))) => ((fun (xs_28 : (List Int)) => (m_read_number y_35).bind fun y_54 => (oel y_54 (if true then (some (Out.rt (Except.error ((0, 0) : Er)))) else none) (fun (y_63 : Int) => if (false || (decide (y_63 = (0 : Int)))) then (some (Out.rt (Except.error ((0, 0) : Er)))) else (gd (List.length xs_28 < BIG) (some (Out.nx ((xs_28 ++ [y_63])))))))) s_38 : Option (Out ((List Int)) (Except Er (List Int))))) ws xs = some (match o with | none => .rt (Except.error (0, 0)) | some r => .nx r) ∧
      lcm (fun (y_98 : Str) => (m__law_number y_98).bind fun y_117 => (some y_117)) ws = some L ∧ L.length = ws.length ∧
      (∀ r, o = some r → r = xs ++ L ∧ (∀ k ∈ L, 1 ≤ k ∧ k < 10 ^ 30) ∧ L.map sI = ws) ∧ (o = none → ∃ k ∈ L, k < 1)
  | [], xs, _, _ => ⟨some xs, [], rfl, rfl, rfl, (fun r e => by
      obtain rfl := some_in e
      exact ⟨by simp, (fun _ z => (nomatch z)), rfl⟩), fun z => by cases z⟩
  | w :: ws, xs, hw, lim => by
    obtain ⟨on, e1, e2, hn⟩ := number_all (hw w List.mem_cons_self)
    have lim2 : xs.length < BIG := by
      simp only [List.length_append, List.length_map, List.length_cons] at lim
      omega
    have lawL : ∀ L, lcm (fun (y_98 : Str) => (m__law_number y_98).bind fun y_117 => (some y_117)) ws = some L → lcm (fun (y_98 : Str) => (m__law_number y_98).bind fun y_117 => (some y_117)) (w :: ws) = some (on.getD (-1) :: L) := fun L h => by
      unfold lcm
      rw [e2]
      simp only [Option.bind_some]
      rw [h]
      rfl
    obtain ⟨o, L, h1, h2, h3, h4, h5⟩ := cols_all ws (xs ++ [on.getD 0]) (fun u hu => hw u (List.mem_cons_of_mem _ hu)) (by
      simp only [List.length_append, List.length_map, List.length_cons, List.length_nil] at lim ⊢
      omega)
    by_cases good : ∃ n, on = some n ∧ n ≠ 0
    · obtain ⟨n, en, nz⟩ := good
      subst en
      obtain ⟨n0, n1, nw⟩ := hn n rfl
      have app : xs ++ n :: L = xs ++ [n] ++ L := by simp
      refine ⟨o, n :: L, ?_, lawL L h2, by simp [h3], (fun r e => ?_), fun e => ?_⟩
      · unfold lpx
        dsimp only
        rw [e1]
        dsimp only [Option.bind_some, oel]
        rw [decide_eq_false nz]
        show (gd (List.length xs < BIG) _).bind _ = _
        rw [gd_of lim2]
        exact h1
      · obtain ⟨g1, g2, g3⟩ := h4 r e
        refine ⟨by rw [app]; exact g1, (fun k hk => ?_), by rw [List.map_cons, nw, g3]⟩
        rcases List.mem_cons.mp hk with c | hk
        · rw [c]
          omega
        · exact g2 k hk
      · obtain ⟨k, hk, c⟩ := h5 e
        exact ⟨k, List.mem_cons_of_mem _ hk, c⟩
    · refine ⟨none, on.getD (-1) :: L, ?_, lawL L h2, by simp [h3], (fun r z => by cases z), fun _ => ⟨on.getD (-1), by simp, ?_⟩⟩
      · unfold lpx
        dsimp only
        rw [e1]
        cases on with
        | none => rfl
        | some n =>
          have : n = 0 := Classical.byContradiction fun q => good ⟨n, rfl, q⟩
          subst this
          rfl
      · cases on with
        | none => show (-1 : Int) < 1; omega
        | some n =>
          have : n = 0 := Classical.byContradiction fun q => good ⟨n, rfl, q⟩
          subst this
          show (0 : Int) < 1
          omega
theorem lmin_all : ∀ {L : List Int}, L ≠ [] → ∃ m, lmin L = some m ∧ (m < 1 ↔ ∃ k ∈ L, k < 1)
  | [], h => absurd rfl h
  | x :: l, _ => by
    have fold : ∀ (l : List Int) (m : Int), (l.foldl (fun m y => if y < m then y else m) m < 1) ↔ (m < 1 ∨ ∃ k ∈ l, k < 1) := by
      intro l
      induction l with
      | nil => intro m; simp
      | cons y l ih =>
        intro m
        rw [List.foldl_cons, ih]
        constructor
        · rintro (h | ⟨k, hk, c⟩)
          · split at h
            · exact .inr ⟨y, by simp, h⟩
            · exact .inl h
          · exact .inr ⟨k, by simp [hk], c⟩
        · rintro (h | ⟨k, hk, c⟩)
          · left
            split <;> omega
          · rcases List.mem_cons.mp hk with e | hk
            · left
              subst e
              split <;> omega
            · exact .inr ⟨k, hk, c⟩
    refine ⟨_, rfl, ?_⟩
    rw [fold]
    simp
theorem sc_ok {L : List Int} (b : ∀ k ∈ L, 0 ≤ k ∧ k < 10 ^ 30) (l : L.length ≤ 1000) : m_show_colours L = some (if L = [] then ("." : Str) else Txt.join (" " : Str) (L.map sI)) := by
  unfold m_show_colours
  by_cases e : L = []
  · rw [if_pos (by simpa using e), if_pos e]
  · rw [if_neg (by simpa using e), if_neg e, gd_of (by have := bigE; omega)]
    rw [lcm_ok (g := sI) fun x hx => gd_of (sOk_small (b x hx).1 (by have := (b x hx).2; omega))]
    simp only [Option.bind_some]
    rw [gd_of (jOk_of (k := 30) (n := 1000) (by decide +kernel) (fun y hy => by
      obtain ⟨k, hk, q⟩ := List.mem_map.mp hy
      rw [← q]
      exact sI_le (by omega) (b k hk).1 (b k hk).2) (by rw [List.length_map]; exact l) (by omega))]
theorem read1_ok {text : Str} (hl : text.length ≤ 900) : m__law_is_read1 text = some true := by
  unfold m__law_is_read1
  by_cases e : text = ("." : Str)
  · subst e
    decide +kernel
  · obtain ⟨s1, s2⟩ := tx_len hl
    have ne := split_ne (x := text) strSp (by omega)
    obtain ⟨o, L, h1, h2, h3, h4, h5⟩ := cols_all (Txt.split text (" " : Str)) [] (fun w hw => by have := s1 w hw; omega) (by have := bigE; simp only [List.nil_append, List.length_map]; omega)
    have Lne : L ≠ [] := fun z => ne (List.length_eq_zero_iff.mp (by rw [← h3, z]; rfl))
    obtain ⟨m, m1, m2⟩ := lmin_all Lne
    have rd : m_read_colours text = some (oel o (Except.error ((0, 0) : Er)) fun r => Except.ok r) := by
      unfold m_read_colours
      rw [if_neg (by decide), if_neg (by simpa using e), gd_of (by have := bigE; omega), h1]
      cases o <;> rfl
    have due : m__law_due_colours text = some (if m < 1 then none else some L) := by
      unfold m__law_due_colours
      rw [if_neg (by simpa using e), gd_of (by have := bigE; omega), gd_of (by have := bigE; omega), h2]
      simp only [Option.bind_some]
      rw [m1]
      simp only [Option.bind_some]
      by_cases q : m < 1
      · rw [if_pos (by simpa using q), if_pos q]
      · rw [if_neg (by simpa using q), if_neg q]
    rw [rd, due]
    cases o with
    | none =>
      rw [if_pos (m2.mpr (h5 rfl))]
      rfl
    | some r =>
      obtain ⟨g1, g2, g3⟩ := h4 r rfl
      rw [List.nil_append] at g1
      subst g1
      have nm : ¬ m < 1 := fun q => by
        obtain ⟨k, hk, c⟩ := m2.mp q
        have := (g2 k hk).1
        omega
      rw [if_neg nm]
      simp only [Option.bind_some, if_true, exo, oel, Bool.false_eq_true, if_false]
      rw [sl_ok (by omega)]
      simp only [Option.bind_some, decide_true, pAnd, if_true, cond_true]
      rw [sc_ok (fun k hk => ⟨by have := (g2 k hk).1; omega, (g2 k hk).2⟩) (by omega), if_neg Lne, g3, join_parts]
      simp
end Tw

namespace Tw
open PySem L2 TL
theorem yes_draw {d : List Int} {many : Int} (h0 : 0 < many) (h1 : many ≤ 10 ^ 40) (hd : Dk d) : Yes (m__law_draw 8 d many) fun r => 0 ≤ r.1 ∧ r.1 < many ∧ Dk r.2 := by
  obtain ⟨x, d', e, a, b, c⟩ := draw8 h0 h1 hd
  exact ⟨(x, d'), e, a, b, c⟩
theorem yes_deck {script : List Int} {at9 : Int} (h0 : 0 ≤ at9) (h1 : at9 = 0 ∨ at9 < script.length) : Yes (m__law_deck script at9) Dk := by
  obtain ⟨d, e, k⟩ := dk_deck script at9 h0 h1
  exact ⟨d, e, k⟩
theorem small_ok {d : List Int} (hd : Dk d) : Yes (m__law_small_web d 5) fun r => RowsOk r.1 ∧ r.1.length ≤ 5 ∧ Dk r.2 := by
  unfold m__law_small_web
  refine (yes_draw (by omega) (by omega) hd).bind fun z1 h1 => ?_
  refine (yes_draw (by omega) (by omega) h1.2.2).bind fun z2 h2 => ?_
  refine .lt (.gd (rok_small h1.1 (by omega)) ?_)
  refine .lp0 (fun i s => Dk s.1 ∧ (s.2.length : Int) = i ∧ RowsOk s.2) h1.1 ⟨h2.2.2, rfl, fun j row z => by simp at z⟩ (fun i i0 i1 s hs => ?_) fun s hs => .val ⟨hs.2.2, by have := hs.2.1; dsimp only; omega, hs.1⟩
  obtain ⟨hk, hl, hr⟩ := hs
  refine .gd (rok_small i0 (by omega)) (.gd (by have := bigE; rw [rng_len]; omega) ?_)
  refine .lcsub Dk hk (fun x _ s hs => ?_) fun r s sub hs => ?_
  · refine (yes_draw (by omega) (by omega) hs).bind fun z h => ?_
    exact .ite (fun _ => .val ⟨.inl rfl, h.2.2⟩) fun _ => .val ⟨.inr rfl, h.2.2⟩
  · dsimp only
    refine .gd (by have := bigE; omega) (.val ?_)
    have u := upto_sub i0 sub
    exact ⟨hs, by simp only [List.length_append, List.length_cons, List.length_nil]; omega, hr.snoc (by rw [hl]; exact u.1) (by omega)⟩
theorem one_len (c : Nat) : (⟨#[c]⟩ : Str).length = 1 := rfl
theorem char_ok {d : List Int} (hd : Dk d) : Yes (m__law_char d) fun r => r.1.length = 1 ∧ Dk r.2 := by
  unfold m__law_char
  refine .lt ((yes_draw (by omega) (by omega) hd).bind fun z1 h1 => .ite (fun _ => ?_) fun _ => ?_)
  · refine (yes_draw (by omega) (by omega) h1.2.2).bind fun z2 h2 => ?_
    have l : 17 ≤ ((Str.cps ("0123456789,, -.a+" : Str)).toList).length := by decide +kernel
    refine .gd (by decide +kernel) (.bindS (atI_get h2.1 (by omega)) (.val ⟨one_len _, h2.2.2⟩))
  · refine (yes_draw (by omega) (by omega) h1.2.2).bind fun z2 h2 => ?_
    have l : 94 ≤ ((Str.cps (" !\"#$&'()*+,-./0123456789:;<=>?\x40[\\]^_`{|}~ZYXWVUTSRQPONMLKJIHGFEDCBAzyxwvutsrqponmlkjihgfedcba" : Str)).toList).length := by decide +kernel
    refine .gd (by decide +kernel) (.bindS (atI_get h2.1 (by omega)) (.val ⟨one_len _, h2.2.2⟩))
theorem cutS_to {z : Str} {i : Int} (h0 : 0 ≤ i) : (cutS z none (some i)).length ≤ i.toNat := by
  unfold cutS
  show (List.toArray ((z.cps.toList.drop 0).take ((if i < 0 then _ else min i.toNat z.length) - 0))).size ≤ _
  rw [if_neg (by omega), List.size_toArray, List.length_take]
  omega
theorem cutS_from {z : Str} {i : Int} (h0 : 0 ≤ i) : (cutS z (some i) none).length ≤ z.length - i.toNat := by
  unfold cutS
  show (List.toArray ((z.cps.toList.drop (if i < 0 then _ else min i.toNat z.length)).take (z.length - (if i < 0 then _ else min i.toNat z.length)))).size ≤ _
  rw [if_neg (by omega), List.size_toArray, List.length_take]
  omega
theorem app_len (a b : Str) : (a ++ b).length = a.length + b.length := Str.length_append a b
theorem changed_ok {d : List Int} (hd : Dk d) {text : Str} (hl : text.length ≤ 500) : Yes (m__law_changed d text) fun r => (∀ t ∈ r.1, t.length ≤ 900) ∧ r.1.length ≤ 5000 ∧ Dk r.2 := by
  unfold m__law_changed
  have g : Str.length text ≤ BIG := by have := bigE; omega
  refine .gd g (.gd (rok_small (by omega) (by omega)) ?_)
  refine .lp0 (fun i s => Dk s.2 ∧ (s.1.length : Int) ≤ 4 * i ∧ ∀ t ∈ s.1, t.length ≤ 900) (by omega) ⟨hd, by simp, fun _ z => nomatch z⟩ (fun i i0 i1 s hs => ?_) fun s hs => .val ⟨hs.2.2, by have := hs.2.1; dsimp only; omega, hs.1⟩
  obtain ⟨hk, hn, ht⟩ := hs
  refine (char_ok hk).bind fun z hz => ?_
  have c1 := cutS_to (z := text) i0
  have c2 := cutS_from (z := text) i0
  have c3 := cutS_to (z := text) (i := i + 1) (by omega)
  have c4 := cutS_from (z := text) (i := i + 1) (by omega)
  have e1 := hz.1
  have B := bigE
  refine .gd g (.gd (by omega) (.gd g (.gd (by rw [app_len]; omega) (.gd (by omega) (.gd g (.ite (fun _ => ?_) fun _ => ?_))))))
  · refine .gd g (.gd g (.gd (by omega) (.gd g (.gd (by omega) (.gd g (.gd (by rw [app_len]; omega) (.gd g (.gd g (.gd (by omega) (.gd ?_ (.val ⟨hz.2, ?_, fun t hm => ?_⟩)))))))))))
    · simp only [List.length_append, List.length_cons, List.length_nil]
      omega
    · simp only [List.length_append, List.length_cons, List.length_nil]
      omega
    · rcases List.mem_append.mp hm with hm | hm
      · rcases List.mem_append.mp hm with hm | hm
        · exact ht t hm
        · rw [List.mem_singleton.mp hm, app_len, app_len]
          omega
      · simp only [List.mem_cons, List.not_mem_nil, or_false] at hm
        rcases hm with e | e | e
        · rw [e, app_len]
          omega
        · rw [e, app_len, app_len]
          omega
        · rw [e, app_len]
          omega
  · refine .val ⟨hz.2, ?_, fun t hm => ?_⟩
    · simp only [List.length_append, List.length_cons, List.length_nil]
      omega
    · rcases List.mem_append.mp hm with hm | hm
      · exact ht t hm
      · rw [List.mem_singleton.mp hm, app_len, app_len]
        omega
theorem txW_len {web : List (List Int)} (s : SmallW web) (r : RowsOk web) (l : web.length ≤ 5) : (txW web).length ≤ 500 := by
  unfold txW
  split
  · decide +kernel
  · have rows : ∀ y ∈ web.map tsT, y.length ≤ 24 := fun y hy => by
      obtain ⟨row, hr, q⟩ := List.mem_map.mp hy
      obtain ⟨i, hi⟩ := List.mem_iff_getElem?.mp hr
      obtain ⟨u, _⟩ := r i row hi
      have hi2 := (List.getElem?_eq_some_iff.mp hi).1
      have rl : row.length ≤ 6 := by
        have : ∀ (l : List Int) (lo : Int), l.Pairwise (· < ·) → (∀ k ∈ l, lo ≤ k ∧ k < (i : Int)) → (l.length : Int) ≤ max 0 ((i : Int) - lo) := by
          intro l
          induction l with
          | nil => intro lo _ _; simp only [List.length_nil]; omega
          | cons x l ih =>
            intro lo p q
            obtain ⟨p1, p2⟩ := List.pairwise_cons.mp p
            have qx := q x List.mem_cons_self
            have := ih (x + 1) p2 fun k hk => ⟨by have := p1 k hk; omega, (q k (List.mem_cons_of_mem _ hk)).2⟩
            rw [List.length_cons]
            omega
        have := this row 0 u.1 u.2
        omega
      rw [← q]
      unfold tsT
      split
      · decide +kernel
      · have := join_len ("," : Str) (by decide +kernel) (ys := row.map sI) (k := 3) (n := 6) (fun y hy => by
          obtain ⟨k, hk, q⟩ := List.mem_map.mp hy
          rw [← q]
          have := u.2 k hk
          exact sI_le (m := 3) (by omega) this.1 (by omega)) (by rw [List.length_map]; exact rl)
        omega
    have := join_len (" " : Str) (by decide +kernel) rows (n := 5) (by rw [List.length_map]; exact l)
    omega
theorem law74_ok (script : List Int) : m_law74 script = some true := by
  refine Yes.so ?_
  unfold m_law74
  have n1 : 1 ≤ imax 1 (imin ((List.length script : Nat) : Int) 5) ∧ imax 1 (imin ((List.length script : Nat) : Int) 5) ≤ 5 ∧ (imax 1 (imin ((List.length script : Nat) : Int) 5) = 1 ∨ imax 1 (imin ((List.length script : Nat) : Int) 5) ≤ script.length) := by
    unfold imax imin
    split <;> split <;> omega
  generalize imax 1 (imin ((List.length script : Nat) : Int) 5) = n at n1 ⊢
  refine .gd (rok_small (by omega) (by omega)) (.lpxu (fun at9 hat => ?_) (.val rfl))
  obtain ⟨p0, p1⟩ := rng_mem.mp hat
  refine (yes_deck p0 (by omega)).bind fun d0 k0 => ?_
  refine (small_ok k0).bind fun z1 h1 => ?_
  refine (yes_draw (by omega) (by omega) h1.2.2).bind fun z2 h2 => ?_
  refine .gd (rok_small h2.1 (by omega)) (.gd (by have := bigE; rw [rng_len]; omega) ?_)
  refine .lcsall Dk (fun k => 1 ≤ k ∧ k ≤ 10 ^ 9) h2.2.2 (fun x _ s hs => ?_) fun cols s lc pc hs => ?_
  · refine (yes_draw (by omega) (by omega) hs).bind fun z3 h3 => ?_
    have : z3.1 = 0 ∨ z3.1 = 1 := by omega
    have got : ∃ m : Int, atI ([(12 : Int), ((10 : Int) ^ ((9 : Int)).toNat)] : List Int) z3.1 = some m ∧ 0 < m ∧ m ≤ 10 ^ 9 := by
      rcases this with e | e
      · rw [e]
        exact ⟨12, rfl, by decide, by decide⟩
      · rw [e]
        exact ⟨10 ^ 9, rfl, by decide, by decide⟩
    obtain ⟨m, em, m0, m1⟩ := got
    refine .bindS em ((yes_draw m0 (by omega) h3.2.2).bind fun z4 h4 => .val ⟨⟨_, rfl, by omega, by omega⟩, h4.2.2⟩)
  · dsimp only
    rw [rng_len] at lc
    have l4 : cols.length ≤ 4 := by omega
    have sm := h1.1.small (by omega)
    have tl0 := txW_len sm h1.1 h1.2.1
    refine Yes.bind (P := fun names : Str => names.length ≤ 500) (.ite (fun _ => ?_) fun _ => .val (by decide +kernel)) fun names hn => ?_
    · refine .gd (by have := bigE; omega) (.lcmg sI (fun x hx => gd_of (sOk_small (by have := (pc x hx).1; omega) (by have := (pc x hx).2; omega))) (.gd ?_ (.lt (.val ?_))))
      · refine jOk_of (k := 10) (n := 10) (by decide +kernel) (fun y hy => ?_) (by rw [List.length_map]; omega) (by omega)
        obtain ⟨k, hk, q⟩ := List.mem_map.mp hy
        rw [← q]
        exact sI_le (by omega) (by have := (pc k hk).1; omega) (by have := (pc k hk).2; omega)
      · have := join_len (" " : Str) (by decide +kernel) (ys := cols.map sI) (k := 10) (n := 10) (fun y hy => by
          obtain ⟨k, hk, q⟩ := List.mem_map.mp hy
          rw [← q]
          exact sI_le (by omega) (by have := (pc k hk).1; omega) (by have := (pc k hk).2; omega)) (by rw [List.length_map]; omega)
        omega
    · have lt0 := lt_ok sm (tsT_ok sm)
      refine .bindS lt0 (.bindS lt0 ((changed_ok hs tl0).bind fun z5 h5 => .gd (by have := bigE; simp only [List.length_cons, List.length_nil]; omega) (.lpxu (fun t ht => ?_) ((changed_ok h5.2.2 hn).bind fun z6 h6 => .gd (by have := bigE; simp only [List.length_cons, List.length_nil]; omega) (.lpxu (fun t ht => ?_) (.val rfl))))))
      · have tl9 : t.length ≤ 900 := by
          rcases List.mem_append.mp ht with h | h
          · rw [List.mem_singleton.mp h]
            omega
          · exact h5.1 t h
        exact .bindS (read0_ok tl9) (.val rfl)
      · have tl9 : t.length ≤ 900 := by
          rcases List.mem_append.mp ht with h | h
          · rw [List.mem_singleton.mp h]
            omega
          · exact h6.1 t h
        exact .bindS (read1_ok tl9) (.val rfl)
end Tw

namespace Tw
open PySem L2
theorem all_mk {l : PySem.W.OpenLaw} {w : World} {K : PySem.W.Frag} {h : Heap} {mg : Str → Option Value} {fa : Addr} (X : K.In h) (G : h.Ns mainGlobals mg) (hfa : mg "law" = some (.ref fa)) {t_MOST_DIGITS t_DIGITS : Tok}
    {C_InvalidText : Addr}
    {f_is_integer : Addr} {od_is_integer an_is_integer : Option Addr} {sl_is_integer : Array (Option Value)} {oc_is_integer kV_is_integer dc_is_integer pm_is_integer cd_is_integer ct_is_integer : Value}
    {f_are_ties : Addr} {od_are_ties an_are_ties : Option Addr} {sl_are_ties : Array (Option Value)} {oc_are_ties kV_are_ties dc_are_ties pm_are_ties cd_are_ties ct_are_ties : Value}
    {f_is_web : Addr} {od_is_web an_is_web : Option Addr} {sl_is_web : Array (Option Value)} {oc_is_web kV_is_web dc_is_web pm_is_web cd_is_web ct_is_web : Value}
    {f_read_number : Addr} {od_read_number an_read_number : Option Addr} {sl_read_number : Array (Option Value)} {oc_read_number kV_read_number dc_read_number pm_read_number cd_read_number ct_read_number : Value}
    {f_read_ties : Addr} {od_read_ties an_read_ties : Option Addr} {sl_read_ties : Array (Option Value)} {oc_read_ties kV_read_ties dc_read_ties pm_read_ties cd_read_ties ct_read_ties : Value}
    {f_show_ties : Addr} {od_show_ties an_show_ties : Option Addr} {sl_show_ties : Array (Option Value)} {oc_show_ties kV_show_ties dc_show_ties pm_show_ties cd_show_ties ct_show_ties : Value}
    {f_show_web : Addr} {od_show_web an_show_web : Option Addr} {sl_show_web : Array (Option Value)} {oc_show_web kV_show_web dc_show_web pm_show_web cd_show_web ct_show_web : Value}
    {f_show_colours : Addr} {od_show_colours an_show_colours : Option Addr} {sl_show_colours : Array (Option Value)} {oc_show_colours kV_show_colours dc_show_colours pm_show_colours cd_show_colours ct_show_colours : Value}
    {f_read_web : Addr} {od_read_web an_read_web : Option Addr} {sl_read_web : Array (Option Value)} {oc_read_web kV_read_web dc_read_web pm_read_web cd_read_web ct_read_web : Value}
    {f_read_colours : Addr} {od_read_colours an_read_colours : Option Addr} {sl_read_colours : Array (Option Value)} {oc_read_colours kV_read_colours dc_read_colours pm_read_colours cd_read_colours ct_read_colours : Value}
    {f__law_deck : Addr} {od__law_deck an__law_deck : Option Addr} {sl__law_deck : Array (Option Value)} {oc__law_deck kV__law_deck dc__law_deck pm__law_deck cd__law_deck ct__law_deck : Value}
    {f__law_draw : Addr} {od__law_draw an__law_draw : Option Addr} {sl__law_draw : Array (Option Value)} {oc__law_draw kV__law_draw dc__law_draw pm__law_draw cd__law_draw ct__law_draw : Value}
    {f__law_is_integer : Addr} {od__law_is_integer an__law_is_integer : Option Addr} {sl__law_is_integer : Array (Option Value)} {oc__law_is_integer kV__law_is_integer dc__law_is_integer pm__law_is_integer cd__law_is_integer ct__law_is_integer : Value}
    {f__law_same_list : Addr} {od__law_same_list an__law_same_list : Option Addr} {sl__law_same_list : Array (Option Value)} {oc__law_same_list kV__law_same_list dc__law_same_list pm__law_same_list cd__law_same_list ct__law_same_list : Value}
    {f__law_same_rows : Addr} {od__law_same_rows an__law_same_rows : Option Addr} {sl__law_same_rows : Array (Option Value)} {oc__law_same_rows kV__law_same_rows dc__law_same_rows pm__law_same_rows cd__law_same_rows ct__law_same_rows : Value}
    {f__law_text : Addr} {od__law_text an__law_text : Option Addr} {sl__law_text : Array (Option Value)} {oc__law_text kV__law_text dc__law_text pm__law_text cd__law_text ct__law_text : Value}
    {f__law_small_web : Addr} {od__law_small_web an__law_small_web : Option Addr} {sl__law_small_web : Array (Option Value)} {oc__law_small_web kV__law_small_web dc__law_small_web pm__law_small_web cd__law_small_web ct__law_small_web : Value}
    {f__law_number : Addr} {od__law_number an__law_number : Option Addr} {sl__law_number : Array (Option Value)} {oc__law_number kV__law_number dc__law_number pm__law_number cd__law_number ct__law_number : Value}
    {f__law_due_web : Addr} {od__law_due_web an__law_due_web : Option Addr} {sl__law_due_web : Array (Option Value)} {oc__law_due_web kV__law_due_web dc__law_due_web pm__law_due_web cd__law_due_web ct__law_due_web : Value}
    {f__law_due_colours : Addr} {od__law_due_colours an__law_due_colours : Option Addr} {sl__law_due_colours : Array (Option Value)} {oc__law_due_colours kV__law_due_colours dc__law_due_colours pm__law_due_colours cd__law_due_colours ct__law_due_colours : Value}
    {f__law_is_read : Addr} {od__law_is_read an__law_is_read : Option Addr} {sl__law_is_read : Array (Option Value)} {oc__law_is_read kV__law_is_read dc__law_is_read pm__law_is_read cd__law_is_read ct__law_is_read : Value}
    {f__law_char : Addr} {od__law_char an__law_char : Option Addr} {sl__law_char : Array (Option Value)} {oc__law_char kV__law_char dc__law_char pm__law_char cd__law_char ct__law_char : Value}
    {f__law_changed : Addr} {od__law_changed an__law_changed : Option Addr} {sl__law_changed : Array (Option Value)} {oc__law_changed kV__law_changed dc__law_changed pm__law_changed cd__law_changed ct__law_changed : Value}
    {f_law : Addr} {od_law an_law : Option Addr} {sl_law : Array (Option Value)} {oc_law kV_law dc_law pm_law cd_law ct_law : Value}
    (z_MOST_DIGITS : PySem.W.nsIn K mainGlobals "MOST_DIGITS" = some (some (Value.int (30 : Int) t_MOST_DIGITS)))
    (z_DIGITS : PySem.W.nsIn K mainGlobals "DIGITS" = some (some (Value.str ("0123456789" : Str) t_DIGITS)))
    (n_int : PySem.W.nsIn K mainGlobals "int" = some none)
    (n_isinstance : PySem.W.nsIn K mainGlobals "isinstance" = some none)
    (n_bool : PySem.W.nsIn K mainGlobals "bool" = some none)
    (n_list : PySem.W.nsIn K mainGlobals "list" = some none)
    (n_enumerate : PySem.W.nsIn K mainGlobals "enumerate" = some none)
    (n_len : PySem.W.nsIn K mainGlobals "len" = some none)
    (n_str : PySem.W.nsIn K mainGlobals "str" = some none)
    (n_range : PySem.W.nsIn K mainGlobals "range" = some none)
    (n_all : PySem.W.nsIn K mainGlobals "all" = some none)
    (n_set : PySem.W.nsIn K mainGlobals "set" = some none)
    (n_sorted : PySem.W.nsIn K mainGlobals "sorted" = some none)
    (n_min : PySem.W.nsIn K mainGlobals "min" = some none)
    (n_max : PySem.W.nsIn K mainGlobals "max" = some none)
    (a_InvalidText : PySem.W.nsIn K mainGlobals "InvalidText" = some (some (.ref C_InvalidText)))
    (x_InvalidText : PySem.W.excIn K C_InvalidText [.type "ValueError", .type "Exception", .type "BaseException", .type "object"] "ValueError.__new__" = true)
    (k_InvalidText : PySem.W.keepIn K (.ref C_InvalidText) = true)
    (b_InvalidText : PySem.W.subIn K (.ref C_InvalidText) (.type "BaseException") = some true)
    (t_InvalidText : PySem.W.typeIn K (.ref C_InvalidText) = some (.type "type"))
    (i_InvalidText : PySem.W.isClsIn K C_InvalidText = true)
    (s_InvalidText : PySem.W.subIn K (.ref C_InvalidText) (.ref C_InvalidText) = some true)
    (a_is_integer : PySem.W.nsIn K mainGlobals "is_integer" = some (some (.ref f_is_integer)))
    (l_is_integer : K.lookup f_is_integer = some ⟨oc_is_integer, od_is_integer, .func (PySem.W.fnOf "is_integer" "is_integer" (defArgs s_is_integer) (defBody s_is_integer) (defScope s_is_integer) .none kV_is_integer dc_is_integer pm_is_integer an_is_integer cd_is_integer ct_is_integer), sl_is_integer⟩)
    (c_is_integer : PySem.W.codeIn K cd_is_integer "is_integer" = true)
    (k_is_integer : PySem.W.keepIn K (.ref f_is_integer) = true)
    (a_are_ties : PySem.W.nsIn K mainGlobals "are_ties" = some (some (.ref f_are_ties)))
    (l_are_ties : K.lookup f_are_ties = some ⟨oc_are_ties, od_are_ties, .func (PySem.W.fnOf "are_ties" "are_ties" (defArgs s_are_ties) (defBody s_are_ties) (defScope s_are_ties) .none kV_are_ties dc_are_ties pm_are_ties an_are_ties cd_are_ties ct_are_ties), sl_are_ties⟩)
    (c_are_ties : PySem.W.codeIn K cd_are_ties "are_ties" = true)
    (k_are_ties : PySem.W.keepIn K (.ref f_are_ties) = true)
    (a_is_web : PySem.W.nsIn K mainGlobals "is_web" = some (some (.ref f_is_web)))
    (l_is_web : K.lookup f_is_web = some ⟨oc_is_web, od_is_web, .func (PySem.W.fnOf "is_web" "is_web" (defArgs s_is_web) (defBody s_is_web) (defScope s_is_web) .none kV_is_web dc_is_web pm_is_web an_is_web cd_is_web ct_is_web), sl_is_web⟩)
    (c_is_web : PySem.W.codeIn K cd_is_web "is_web" = true)
    (k_is_web : PySem.W.keepIn K (.ref f_is_web) = true)
    (a_read_number : PySem.W.nsIn K mainGlobals "read_number" = some (some (.ref f_read_number)))
    (l_read_number : K.lookup f_read_number = some ⟨oc_read_number, od_read_number, .func (PySem.W.fnOf "read_number" "read_number" (defArgs s_read_number) (defBody s_read_number) (defScope s_read_number) .none kV_read_number dc_read_number pm_read_number an_read_number cd_read_number ct_read_number), sl_read_number⟩)
    (c_read_number : PySem.W.codeIn K cd_read_number "read_number" = true)
    (k_read_number : PySem.W.keepIn K (.ref f_read_number) = true)
    (a_read_ties : PySem.W.nsIn K mainGlobals "read_ties" = some (some (.ref f_read_ties)))
    (l_read_ties : K.lookup f_read_ties = some ⟨oc_read_ties, od_read_ties, .func (PySem.W.fnOf "read_ties" "read_ties" (defArgs s_read_ties) (defBody s_read_ties) (defScope s_read_ties) .none kV_read_ties dc_read_ties pm_read_ties an_read_ties cd_read_ties ct_read_ties), sl_read_ties⟩)
    (c_read_ties : PySem.W.codeIn K cd_read_ties "read_ties" = true)
    (k_read_ties : PySem.W.keepIn K (.ref f_read_ties) = true)
    (a_show_ties : PySem.W.nsIn K mainGlobals "show_ties" = some (some (.ref f_show_ties)))
    (l_show_ties : K.lookup f_show_ties = some ⟨oc_show_ties, od_show_ties, .func (PySem.W.fnOf "show_ties" "show_ties" (defArgs s_show_ties) (defBody s_show_ties) (defScope s_show_ties) .none kV_show_ties dc_show_ties pm_show_ties an_show_ties cd_show_ties ct_show_ties), sl_show_ties⟩)
    (c_show_ties : PySem.W.codeIn K cd_show_ties "show_ties" = true)
    (k_show_ties : PySem.W.keepIn K (.ref f_show_ties) = true)
    (a_show_web : PySem.W.nsIn K mainGlobals "show_web" = some (some (.ref f_show_web)))
    (l_show_web : K.lookup f_show_web = some ⟨oc_show_web, od_show_web, .func (PySem.W.fnOf "show_web" "show_web" (defArgs s_show_web) (defBody s_show_web) (defScope s_show_web) .none kV_show_web dc_show_web pm_show_web an_show_web cd_show_web ct_show_web), sl_show_web⟩)
    (c_show_web : PySem.W.codeIn K cd_show_web "show_web" = true)
    (k_show_web : PySem.W.keepIn K (.ref f_show_web) = true)
    (a_show_colours : PySem.W.nsIn K mainGlobals "show_colours" = some (some (.ref f_show_colours)))
    (l_show_colours : K.lookup f_show_colours = some ⟨oc_show_colours, od_show_colours, .func (PySem.W.fnOf "show_colours" "show_colours" (defArgs s_show_colours) (defBody s_show_colours) (defScope s_show_colours) .none kV_show_colours dc_show_colours pm_show_colours an_show_colours cd_show_colours ct_show_colours), sl_show_colours⟩)
    (c_show_colours : PySem.W.codeIn K cd_show_colours "show_colours" = true)
    (k_show_colours : PySem.W.keepIn K (.ref f_show_colours) = true)
    (a_read_web : PySem.W.nsIn K mainGlobals "read_web" = some (some (.ref f_read_web)))
    (l_read_web : K.lookup f_read_web = some ⟨oc_read_web, od_read_web, .func (PySem.W.fnOf "read_web" "read_web" (defArgs s_read_web) (defBody s_read_web) (defScope s_read_web) .none kV_read_web dc_read_web pm_read_web an_read_web cd_read_web ct_read_web), sl_read_web⟩)
    (c_read_web : PySem.W.codeIn K cd_read_web "read_web" = true)
    (k_read_web : PySem.W.keepIn K (.ref f_read_web) = true)
    (a_read_colours : PySem.W.nsIn K mainGlobals "read_colours" = some (some (.ref f_read_colours)))
    (l_read_colours : K.lookup f_read_colours = some ⟨oc_read_colours, od_read_colours, .func (PySem.W.fnOf "read_colours" "read_colours" (defArgs s_read_colours) (defBody s_read_colours) (defScope s_read_colours) .none kV_read_colours dc_read_colours pm_read_colours an_read_colours cd_read_colours ct_read_colours), sl_read_colours⟩)
    (c_read_colours : PySem.W.codeIn K cd_read_colours "read_colours" = true)
    (k_read_colours : PySem.W.keepIn K (.ref f_read_colours) = true)
    (a__law_deck : PySem.W.nsIn K mainGlobals "_law_deck" = some (some (.ref f__law_deck)))
    (l__law_deck : K.lookup f__law_deck = some ⟨oc__law_deck, od__law_deck, .func (PySem.W.fnOf "_law_deck" "_law_deck" (defArgs s__law_deck) (defBody s__law_deck) (defScope s__law_deck) .none kV__law_deck dc__law_deck pm__law_deck an__law_deck cd__law_deck ct__law_deck), sl__law_deck⟩)
    (c__law_deck : PySem.W.codeIn K cd__law_deck "_law_deck" = true)
    (k__law_deck : PySem.W.keepIn K (.ref f__law_deck) = true)
    (a__law_draw : PySem.W.nsIn K mainGlobals "_law_draw" = some (some (.ref f__law_draw)))
    (l__law_draw : K.lookup f__law_draw = some ⟨oc__law_draw, od__law_draw, .func (PySem.W.fnOf "_law_draw" "_law_draw" (defArgs s__law_draw) (defBody s__law_draw) (defScope s__law_draw) .none kV__law_draw dc__law_draw pm__law_draw an__law_draw cd__law_draw ct__law_draw), sl__law_draw⟩)
    (c__law_draw : PySem.W.codeIn K cd__law_draw "_law_draw" = true)
    (k__law_draw : PySem.W.keepIn K (.ref f__law_draw) = true)
    (a__law_is_integer : PySem.W.nsIn K mainGlobals "_law_is_integer" = some (some (.ref f__law_is_integer)))
    (l__law_is_integer : K.lookup f__law_is_integer = some ⟨oc__law_is_integer, od__law_is_integer, .func (PySem.W.fnOf "_law_is_integer" "_law_is_integer" (defArgs s__law_is_integer) (defBody s__law_is_integer) (defScope s__law_is_integer) .none kV__law_is_integer dc__law_is_integer pm__law_is_integer an__law_is_integer cd__law_is_integer ct__law_is_integer), sl__law_is_integer⟩)
    (c__law_is_integer : PySem.W.codeIn K cd__law_is_integer "_law_is_integer" = true)
    (k__law_is_integer : PySem.W.keepIn K (.ref f__law_is_integer) = true)
    (a__law_same_list : PySem.W.nsIn K mainGlobals "_law_same_list" = some (some (.ref f__law_same_list)))
    (l__law_same_list : K.lookup f__law_same_list = some ⟨oc__law_same_list, od__law_same_list, .func (PySem.W.fnOf "_law_same_list" "_law_same_list" (defArgs s__law_same_list) (defBody s__law_same_list) (defScope s__law_same_list) .none kV__law_same_list dc__law_same_list pm__law_same_list an__law_same_list cd__law_same_list ct__law_same_list), sl__law_same_list⟩)
    (c__law_same_list : PySem.W.codeIn K cd__law_same_list "_law_same_list" = true)
    (k__law_same_list : PySem.W.keepIn K (.ref f__law_same_list) = true)
    (a__law_same_rows : PySem.W.nsIn K mainGlobals "_law_same_rows" = some (some (.ref f__law_same_rows)))
    (l__law_same_rows : K.lookup f__law_same_rows = some ⟨oc__law_same_rows, od__law_same_rows, .func (PySem.W.fnOf "_law_same_rows" "_law_same_rows" (defArgs s__law_same_rows) (defBody s__law_same_rows) (defScope s__law_same_rows) .none kV__law_same_rows dc__law_same_rows pm__law_same_rows an__law_same_rows cd__law_same_rows ct__law_same_rows), sl__law_same_rows⟩)
    (c__law_same_rows : PySem.W.codeIn K cd__law_same_rows "_law_same_rows" = true)
    (k__law_same_rows : PySem.W.keepIn K (.ref f__law_same_rows) = true)
    (a__law_text : PySem.W.nsIn K mainGlobals "_law_text" = some (some (.ref f__law_text)))
    (l__law_text : K.lookup f__law_text = some ⟨oc__law_text, od__law_text, .func (PySem.W.fnOf "_law_text" "_law_text" (defArgs s__law_text) (defBody s__law_text) (defScope s__law_text) .none kV__law_text dc__law_text pm__law_text an__law_text cd__law_text ct__law_text), sl__law_text⟩)
    (c__law_text : PySem.W.codeIn K cd__law_text "_law_text" = true)
    (k__law_text : PySem.W.keepIn K (.ref f__law_text) = true)
    (a__law_small_web : PySem.W.nsIn K mainGlobals "_law_small_web" = some (some (.ref f__law_small_web)))
    (l__law_small_web : K.lookup f__law_small_web = some ⟨oc__law_small_web, od__law_small_web, .func (PySem.W.fnOf "_law_small_web" "_law_small_web" (defArgs s__law_small_web) (defBody s__law_small_web) (defScope s__law_small_web) .none kV__law_small_web dc__law_small_web pm__law_small_web an__law_small_web cd__law_small_web ct__law_small_web), sl__law_small_web⟩)
    (c__law_small_web : PySem.W.codeIn K cd__law_small_web "_law_small_web" = true)
    (k__law_small_web : PySem.W.keepIn K (.ref f__law_small_web) = true)
    (a__law_number : PySem.W.nsIn K mainGlobals "_law_number" = some (some (.ref f__law_number)))
    (l__law_number : K.lookup f__law_number = some ⟨oc__law_number, od__law_number, .func (PySem.W.fnOf "_law_number" "_law_number" (defArgs s__law_number) (defBody s__law_number) (defScope s__law_number) .none kV__law_number dc__law_number pm__law_number an__law_number cd__law_number ct__law_number), sl__law_number⟩)
    (c__law_number : PySem.W.codeIn K cd__law_number "_law_number" = true)
    (k__law_number : PySem.W.keepIn K (.ref f__law_number) = true)
    (a__law_due_web : PySem.W.nsIn K mainGlobals "_law_due_web" = some (some (.ref f__law_due_web)))
    (l__law_due_web : K.lookup f__law_due_web = some ⟨oc__law_due_web, od__law_due_web, .func (PySem.W.fnOf "_law_due_web" "_law_due_web" (defArgs s__law_due_web) (defBody s__law_due_web) (defScope s__law_due_web) .none kV__law_due_web dc__law_due_web pm__law_due_web an__law_due_web cd__law_due_web ct__law_due_web), sl__law_due_web⟩)
    (c__law_due_web : PySem.W.codeIn K cd__law_due_web "_law_due_web" = true)
    (k__law_due_web : PySem.W.keepIn K (.ref f__law_due_web) = true)
    (a__law_due_colours : PySem.W.nsIn K mainGlobals "_law_due_colours" = some (some (.ref f__law_due_colours)))
    (l__law_due_colours : K.lookup f__law_due_colours = some ⟨oc__law_due_colours, od__law_due_colours, .func (PySem.W.fnOf "_law_due_colours" "_law_due_colours" (defArgs s__law_due_colours) (defBody s__law_due_colours) (defScope s__law_due_colours) .none kV__law_due_colours dc__law_due_colours pm__law_due_colours an__law_due_colours cd__law_due_colours ct__law_due_colours), sl__law_due_colours⟩)
    (c__law_due_colours : PySem.W.codeIn K cd__law_due_colours "_law_due_colours" = true)
    (k__law_due_colours : PySem.W.keepIn K (.ref f__law_due_colours) = true)
    (a__law_is_read : PySem.W.nsIn K mainGlobals "_law_is_read" = some (some (.ref f__law_is_read)))
    (l__law_is_read : K.lookup f__law_is_read = some ⟨oc__law_is_read, od__law_is_read, .func (PySem.W.fnOf "_law_is_read" "_law_is_read" (defArgs s__law_is_read) (defBody s__law_is_read) (defScope s__law_is_read) .none kV__law_is_read dc__law_is_read pm__law_is_read an__law_is_read cd__law_is_read ct__law_is_read), sl__law_is_read⟩)
    (c__law_is_read : PySem.W.codeIn K cd__law_is_read "_law_is_read" = true)
    (k__law_is_read : PySem.W.keepIn K (.ref f__law_is_read) = true)
    (a__law_char : PySem.W.nsIn K mainGlobals "_law_char" = some (some (.ref f__law_char)))
    (l__law_char : K.lookup f__law_char = some ⟨oc__law_char, od__law_char, .func (PySem.W.fnOf "_law_char" "_law_char" (defArgs s__law_char) (defBody s__law_char) (defScope s__law_char) .none kV__law_char dc__law_char pm__law_char an__law_char cd__law_char ct__law_char), sl__law_char⟩)
    (c__law_char : PySem.W.codeIn K cd__law_char "_law_char" = true)
    (k__law_char : PySem.W.keepIn K (.ref f__law_char) = true)
    (a__law_changed : PySem.W.nsIn K mainGlobals "_law_changed" = some (some (.ref f__law_changed)))
    (l__law_changed : K.lookup f__law_changed = some ⟨oc__law_changed, od__law_changed, .func (PySem.W.fnOf "_law_changed" "_law_changed" (defArgs s__law_changed) (defBody s__law_changed) (defScope s__law_changed) .none kV__law_changed dc__law_changed pm__law_changed an__law_changed cd__law_changed ct__law_changed), sl__law_changed⟩)
    (c__law_changed : PySem.W.codeIn K cd__law_changed "_law_changed" = true)
    (k__law_changed : PySem.W.keepIn K (.ref f__law_changed) = true)
    (a_law : PySem.W.nsIn K mainGlobals "law" = some (some (.ref f_law)))
    (l_law : K.lookup f_law = some ⟨oc_law, od_law, .func (PySem.W.fnOf "law" "law" (defArgs s_law) (defBody s_law) (defScope s_law) .none kV_law dc_law pm_law an_law cd_law ct_law), sl_law⟩)
    (c_law : PySem.W.codeIn K cd_law "law" = true)
    (k_law : PySem.W.keepIn K (.ref f_law) = true) :
    ∃ fd : FuncData, (∀ (s : Shared) (v : Value), BindsTo s fd ⟨[v], []⟩ [("script", v)]) ∧ ∀ base : Heap, K.In base → base.Ns mainGlobals mg → FnOk l.prog w K mg base CX0 12 fa fd ["script"] (sp_law74 K) := by
  have e := hfa.symm.trans (PySem.W.mg_of X G a_law)
  have e2 : f_law = fa := by
    cases e
    rfl
  subst e2
  have F_is_integer := fun_mk (st := s_is_integer) l_is_integer c_is_integer k_is_integer
  have F_are_ties := fun_mk (st := s_are_ties) l_are_ties c_are_ties k_are_ties
  have F_is_web := fun_mk (st := s_is_web) l_is_web c_is_web k_is_web
  have F_read_number := fun_mk (st := s_read_number) l_read_number c_read_number k_read_number
  have F_read_ties := fun_mk (st := s_read_ties) l_read_ties c_read_ties k_read_ties
  have F_show_ties := fun_mk (st := s_show_ties) l_show_ties c_show_ties k_show_ties
  have F_show_web := fun_mk (st := s_show_web) l_show_web c_show_web k_show_web
  have F_show_colours := fun_mk (st := s_show_colours) l_show_colours c_show_colours k_show_colours
  have F_read_web := fun_mk (st := s_read_web) l_read_web c_read_web k_read_web
  have F_read_colours := fun_mk (st := s_read_colours) l_read_colours c_read_colours k_read_colours
  have F__law_deck := fun_mk (st := s__law_deck) l__law_deck c__law_deck k__law_deck
  have F__law_draw := fun_mk (st := s__law_draw) l__law_draw c__law_draw k__law_draw
  have F__law_is_integer := fun_mk (st := s__law_is_integer) l__law_is_integer c__law_is_integer k__law_is_integer
  have F__law_same_list := fun_mk (st := s__law_same_list) l__law_same_list c__law_same_list k__law_same_list
  have F__law_same_rows := fun_mk (st := s__law_same_rows) l__law_same_rows c__law_same_rows k__law_same_rows
  have F__law_text := fun_mk (st := s__law_text) l__law_text c__law_text k__law_text
  have F__law_small_web := fun_mk (st := s__law_small_web) l__law_small_web c__law_small_web k__law_small_web
  have F__law_number := fun_mk (st := s__law_number) l__law_number c__law_number k__law_number
  have F__law_due_web := fun_mk (st := s__law_due_web) l__law_due_web c__law_due_web k__law_due_web
  have F__law_due_colours := fun_mk (st := s__law_due_colours) l__law_due_colours c__law_due_colours k__law_due_colours
  have F__law_is_read := fun_mk (st := s__law_is_read) l__law_is_read c__law_is_read k__law_is_read
  have F__law_char := fun_mk (st := s__law_char) l__law_char c__law_char k__law_char
  have F__law_changed := fun_mk (st := s__law_changed) l__law_changed c__law_changed k__law_changed
  have F_law := fun_mk (st := s_law) l_law c_law k_law
  let T : Env K mg := {
    C_InvalidText := C_InvalidText
    g_InvalidText := PySem.W.mg_of X G a_InvalidText
    x_InvalidText := x_InvalidText
    k_InvalidText := k_InvalidText
    b_InvalidText := b_InvalidText
    t_InvalidText := t_InvalidText
    e_InvalidText := exm9 b_InvalidText i_InvalidText t_InvalidText s_InvalidText
    f_is_integer := f_is_integer
    d_is_integer := _
    F_is_integer := F_is_integer
    g_is_integer := PySem.W.mg_of X G a_is_integer
    b_is_integer := F_is_integer.binds (ps := ["value"]) fun _ _ _ _ _ _ us hl => match us, hl with | [_], _ => rfl
    f_are_ties := f_are_ties
    d_are_ties := _
    F_are_ties := F_are_ties
    g_are_ties := PySem.W.mg_of X G a_are_ties
    b_are_ties := F_are_ties.binds (ps := ["value", "size"]) fun _ _ _ _ _ _ us hl => match us, hl with | [_, _], _ => rfl
    f_is_web := f_is_web
    d_is_web := _
    F_is_web := F_is_web
    g_is_web := PySem.W.mg_of X G a_is_web
    b_is_web := F_is_web.binds (ps := ["value"]) fun _ _ _ _ _ _ us hl => match us, hl with | [_], _ => rfl
    f_read_number := f_read_number
    d_read_number := _
    F_read_number := F_read_number
    g_read_number := PySem.W.mg_of X G a_read_number
    b_read_number := F_read_number.binds (ps := ["word"]) fun _ _ _ _ _ _ us hl => match us, hl with | [_], _ => rfl
    f_read_ties := f_read_ties
    d_read_ties := _
    F_read_ties := F_read_ties
    g_read_ties := PySem.W.mg_of X G a_read_ties
    b_read_ties := F_read_ties.binds (ps := ["word"]) fun _ _ _ _ _ _ us hl => match us, hl with | [_], _ => rfl
    f_show_ties := f_show_ties
    d_show_ties := _
    F_show_ties := F_show_ties
    g_show_ties := PySem.W.mg_of X G a_show_ties
    b_show_ties := F_show_ties.binds (ps := ["ties"]) fun _ _ _ _ _ _ us hl => match us, hl with | [_], _ => rfl
    f_show_web := f_show_web
    d_show_web := _
    F_show_web := F_show_web
    g_show_web := PySem.W.mg_of X G a_show_web
    b_show_web := F_show_web.binds (ps := ["web"]) fun _ _ _ _ _ _ us hl => match us, hl with | [_], _ => rfl
    f_show_colours := f_show_colours
    d_show_colours := _
    F_show_colours := F_show_colours
    g_show_colours := PySem.W.mg_of X G a_show_colours
    b_show_colours := F_show_colours.binds (ps := ["colours"]) fun _ _ _ _ _ _ us hl => match us, hl with | [_], _ => rfl
    f_read_web := f_read_web
    d_read_web := _
    F_read_web := F_read_web
    g_read_web := PySem.W.mg_of X G a_read_web
    b_read_web := F_read_web.binds (ps := ["text"]) fun _ _ _ _ _ _ us hl => match us, hl with | [_], _ => rfl
    f_read_colours := f_read_colours
    d_read_colours := _
    F_read_colours := F_read_colours
    g_read_colours := PySem.W.mg_of X G a_read_colours
    b_read_colours := F_read_colours.binds (ps := ["text"]) fun _ _ _ _ _ _ us hl => match us, hl with | [_], _ => rfl
    f__law_deck := f__law_deck
    d__law_deck := _
    F__law_deck := F__law_deck
    g__law_deck := PySem.W.mg_of X G a__law_deck
    b__law_deck := F__law_deck.binds (ps := ["script", "at"]) fun _ _ _ _ _ _ us hl => match us, hl with | [_, _], _ => rfl
    f__law_draw := f__law_draw
    d__law_draw := _
    F__law_draw := F__law_draw
    g__law_draw := PySem.W.mg_of X G a__law_draw
    b__law_draw := F__law_draw.binds (ps := ["deck", "many"]) fun _ _ _ _ _ _ us hl => match us, hl with | [_, _], _ => rfl
    f__law_is_integer := f__law_is_integer
    d__law_is_integer := _
    F__law_is_integer := F__law_is_integer
    g__law_is_integer := PySem.W.mg_of X G a__law_is_integer
    b__law_is_integer := F__law_is_integer.binds (ps := ["value"]) fun _ _ _ _ _ _ us hl => match us, hl with | [_], _ => rfl
    f__law_same_list := f__law_same_list
    d__law_same_list := _
    F__law_same_list := F__law_same_list
    g__law_same_list := PySem.W.mg_of X G a__law_same_list
    b__law_same_list := F__law_same_list.binds (ps := ["value", "due"]) fun _ _ _ _ _ _ us hl => match us, hl with | [_, _], _ => rfl
    f__law_same_rows := f__law_same_rows
    d__law_same_rows := _
    F__law_same_rows := F__law_same_rows
    g__law_same_rows := PySem.W.mg_of X G a__law_same_rows
    b__law_same_rows := F__law_same_rows.binds (ps := ["value", "due"]) fun _ _ _ _ _ _ us hl => match us, hl with | [_, _], _ => rfl
    f__law_text := f__law_text
    d__law_text := _
    F__law_text := F__law_text
    g__law_text := PySem.W.mg_of X G a__law_text
    b__law_text := F__law_text.binds (ps := ["web"]) fun _ _ _ _ _ _ us hl => match us, hl with | [_], _ => rfl
    f__law_small_web := f__law_small_web
    d__law_small_web := _
    F__law_small_web := F__law_small_web
    g__law_small_web := PySem.W.mg_of X G a__law_small_web
    b__law_small_web := F__law_small_web.binds (ps := ["deck", "most"]) fun _ _ _ _ _ _ us hl => match us, hl with | [_, _], _ => rfl
    f__law_number := f__law_number
    d__law_number := _
    F__law_number := F__law_number
    g__law_number := PySem.W.mg_of X G a__law_number
    b__law_number := F__law_number.binds (ps := ["word"]) fun _ _ _ _ _ _ us hl => match us, hl with | [_], _ => rfl
    f__law_due_web := f__law_due_web
    d__law_due_web := _
    F__law_due_web := F__law_due_web
    g__law_due_web := PySem.W.mg_of X G a__law_due_web
    b__law_due_web := F__law_due_web.binds (ps := ["text"]) fun _ _ _ _ _ _ us hl => match us, hl with | [_], _ => rfl
    f__law_due_colours := f__law_due_colours
    d__law_due_colours := _
    F__law_due_colours := F__law_due_colours
    g__law_due_colours := PySem.W.mg_of X G a__law_due_colours
    b__law_due_colours := F__law_due_colours.binds (ps := ["text"]) fun _ _ _ _ _ _ us hl => match us, hl with | [_], _ => rfl
    f__law_is_read := f__law_is_read
    d__law_is_read := _
    F__law_is_read := F__law_is_read
    g__law_is_read := PySem.W.mg_of X G a__law_is_read
    b__law_is_read := F__law_is_read.binds (ps := ["kind", "text"]) fun _ _ _ _ _ _ us hl => match us, hl with | [_, _], _ => rfl
    f__law_char := f__law_char
    d__law_char := _
    F__law_char := F__law_char
    g__law_char := PySem.W.mg_of X G a__law_char
    b__law_char := F__law_char.binds (ps := ["deck"]) fun _ _ _ _ _ _ us hl => match us, hl with | [_], _ => rfl
    f__law_changed := f__law_changed
    d__law_changed := _
    F__law_changed := F__law_changed
    g__law_changed := PySem.W.mg_of X G a__law_changed
    b__law_changed := F__law_changed.binds (ps := ["deck", "text"]) fun _ _ _ _ _ _ us hl => match us, hl with | [_, _], _ => rfl
    f_law := f_law
    d_law := _
    F_law := F_law
    g_law := PySem.W.mg_of X G a_law
    b_law := F_law.binds (ps := ["script"]) fun _ _ _ _ _ _ us hl => match us, hl with | [_], _ => rfl
    t_MOST_DIGITS := t_MOST_DIGITS
    z_MOST_DIGITS := PySem.W.mg_of X G z_MOST_DIGITS
    t_DIGITS := t_DIGITS
    z_DIGITS := PySem.W.mg_of X G z_DIGITS
    n_int := PySem.W.mg_none_of X G n_int
    n_isinstance := PySem.W.mg_none_of X G n_isinstance
    n_bool := PySem.W.mg_none_of X G n_bool
    n_list := PySem.W.mg_none_of X G n_list
    n_enumerate := PySem.W.mg_none_of X G n_enumerate
    n_len := PySem.W.mg_none_of X G n_len
    n_str := PySem.W.mg_none_of X G n_str
    n_range := PySem.W.mg_none_of X G n_range
    n_all := PySem.W.mg_none_of X G n_all
    n_set := PySem.W.mg_none_of X G n_set
    n_sorted := PySem.W.mg_none_of X G n_sorted
    n_min := PySem.W.mg_none_of X G n_min
    n_max := PySem.W.mg_none_of X G n_max }
  exact ⟨PySem.W.fnOf "law" "law" (defArgs s_law) (defBody s_law) (defScope s_law) .none kV_law dc_law pm_law an_law cd_law ct_law, fun s v => .of_eq rfl, fun base _ _ => ok_law74 T⟩
theorem walkT {l : PySem.W.OpenLaw} {q : Program} {loose : List Str} {XP : (Str → Option Value) → Heap → Prop} {YP : World → Heap → Prop} {d : DefRec} {K : Params → PySem.W.Frag} (hn : l.most = some 63) (hdf : d.params.defaults = [])
    (hY : ∀ (w : World) (h : Heap), YP w h → (K w.params).In h) (F : ∀ (w : World) (mg : Str → Option Value) (fa : Addr) (h : Heap), (K w.params).In h → h.Ns mainGlobals mg → mg d.name = some (.ref fa) →
      ∃ fd : FuncData, (∀ (s : Shared) (u : Value), BindsTo s fd ⟨[u], []⟩ [("script", u)]) ∧ ∀ base : Heap, (K w.params).In base → base.Ns mainGlobals mg → FnOk l.prog w (K w.params) mg base CX0 12 fa fd ["script"] (sp_law74 (K w.params))) :
    PySem.W.WalkO q loose XP YP l.row.toRowW d [] (fun f vs => PySem.call f vs) :=
  L2.walk_of (n := 63) (k := 12) (x := "script") (CX := fun _ => CX0) (sp := fun w => sp_law74 (K w.params)) hn (by decide) hdf ⟨rfl, by decide, by decide⟩ hY F (fun _ H a ns _ _ hS => ⟨H, a, ns, true, rfl, Ex.refl _, hS, law74_ok ns, fun _ _ _ => rfl⟩) fun _ _ _ _ _ z => z
end Tw

open PySem PySem.W PyProof.Rows in
set_option maxRecDepth 100000 in
set_option maxHeartbeats 0 in
theorem PySem.Challenge.cw_tintonce_k74_whole_each_text_is_the_one_holds : PySem.Challenge.rw_tintonce_k74_whole_each_text_is_the_one.Holds := by
  w_on; o_law; k_head; (case hw => w_witness2)
  k_fill
  refine Tw.walkT (l := PySem.Challenge.rw_tintonce_k74_whole_each_text_is_the_one) rfl rfl (fun w h Y => PySem.W.kIn_of Y) ?F
  case F =>
    intro w mg fa h KX G hmg
    refine' Tw.all_mk KX G hmg ?z_MOST_DIGITS ?z_DIGITS ?n_int ?n_isinstance ?n_bool ?n_list ?n_enumerate ?n_len ?n_str ?n_range ?n_all ?n_set ?n_sorted ?n_min ?n_max ?a_InvalidText ?x_InvalidText ?k_InvalidText ?b_InvalidText ?t_InvalidText ?i_InvalidText ?s_InvalidText ?a_is_integer ?l_is_integer ?c_is_integer ?k_is_integer ?a_are_ties ?l_are_ties ?c_are_ties ?k_are_ties ?a_is_web ?l_is_web ?c_is_web ?k_is_web ?a_read_number ?l_read_number ?c_read_number ?k_read_number ?a_read_ties ?l_read_ties ?c_read_ties ?k_read_ties ?a_show_ties ?l_show_ties ?c_show_ties ?k_show_ties ?a_show_web ?l_show_web ?c_show_web ?k_show_web ?a_show_colours ?l_show_colours ?c_show_colours ?k_show_colours ?a_read_web ?l_read_web ?c_read_web ?k_read_web ?a_read_colours ?l_read_colours ?c_read_colours ?k_read_colours ?a__law_deck ?l__law_deck ?c__law_deck ?k__law_deck ?a__law_draw ?l__law_draw ?c__law_draw ?k__law_draw ?a__law_is_integer ?l__law_is_integer ?c__law_is_integer ?k__law_is_integer ?a__law_same_list ?l__law_same_list ?c__law_same_list ?k__law_same_list ?a__law_same_rows ?l__law_same_rows ?c__law_same_rows ?k__law_same_rows ?a__law_text ?l__law_text ?c__law_text ?k__law_text ?a__law_small_web ?l__law_small_web ?c__law_small_web ?k__law_small_web ?a__law_number ?l__law_number ?c__law_number ?k__law_number ?a__law_due_web ?l__law_due_web ?c__law_due_web ?k__law_due_web ?a__law_due_colours ?l__law_due_colours ?c__law_due_colours ?k__law_due_colours ?a__law_is_read ?l__law_is_read ?c__law_is_read ?k__law_is_read ?a__law_char ?l__law_char ?c__law_char ?k__law_char ?a__law_changed ?l__law_changed ?c__law_changed ?k__law_changed ?a_law ?l_law ?c_law ?k_law
    (case z_MOST_DIGITS => k_is)
    (case z_DIGITS => k_is)
    (case n_int => k_is)
    (case n_isinstance => k_is)
    (case n_bool => k_is)
    (case n_list => k_is)
    (case n_enumerate => k_is)
    (case n_len => k_is)
    (case n_str => k_is)
    (case n_range => k_is)
    (case n_all => k_is)
    (case n_set => k_is)
    (case n_sorted => k_is)
    (case n_min => k_is)
    (case n_max => k_is)
    (case a_InvalidText => k_is)
    (case x_InvalidText => k_exc)
    (case k_InvalidText => k_is)
    (case b_InvalidText => k_is)
    (case t_InvalidText => k_is)
    (case i_InvalidText => k_is)
    (case s_InvalidText => first | rfl | k_is)
    (case a_is_integer => k_is)
    (case l_is_integer => k_is)
    (case c_is_integer => k_is)
    (case k_is_integer => k_is)
    (case a_are_ties => k_is)
    (case l_are_ties => k_is)
    (case c_are_ties => k_is)
    (case k_are_ties => k_is)
    (case a_is_web => k_is)
    (case l_is_web => k_is)
    (case c_is_web => k_is)
    (case k_is_web => k_is)
    (case a_read_number => k_is)
    (case l_read_number => k_is)
    (case c_read_number => k_is)
    (case k_read_number => k_is)
    (case a_read_ties => k_is)
    (case l_read_ties => k_is)
    (case c_read_ties => k_is)
    (case k_read_ties => k_is)
    (case a_show_ties => k_is)
    (case l_show_ties => k_is)
    (case c_show_ties => k_is)
    (case k_show_ties => k_is)
    (case a_show_web => k_is)
    (case l_show_web => k_is)
    (case c_show_web => k_is)
    (case k_show_web => k_is)
    (case a_show_colours => k_is)
    (case l_show_colours => k_is)
    (case c_show_colours => k_is)
    (case k_show_colours => k_is)
    (case a_read_web => k_is)
    (case l_read_web => k_is)
    (case c_read_web => k_is)
    (case k_read_web => k_is)
    (case a_read_colours => k_is)
    (case l_read_colours => k_is)
    (case c_read_colours => k_is)
    (case k_read_colours => k_is)
    (case a__law_deck => k_is)
    (case l__law_deck => k_is)
    (case c__law_deck => k_is)
    (case k__law_deck => k_is)
    (case a__law_draw => k_is)
    (case l__law_draw => k_is)
    (case c__law_draw => k_is)
    (case k__law_draw => k_is)
    (case a__law_is_integer => k_is)
    (case l__law_is_integer => k_is)
    (case c__law_is_integer => k_is)
    (case k__law_is_integer => k_is)
    (case a__law_same_list => k_is)
    (case l__law_same_list => k_is)
    (case c__law_same_list => k_is)
    (case k__law_same_list => k_is)
    (case a__law_same_rows => k_is)
    (case l__law_same_rows => k_is)
    (case c__law_same_rows => k_is)
    (case k__law_same_rows => k_is)
    (case a__law_text => k_is)
    (case l__law_text => k_is)
    (case c__law_text => k_is)
    (case k__law_text => k_is)
    (case a__law_small_web => k_is)
    (case l__law_small_web => k_is)
    (case c__law_small_web => k_is)
    (case k__law_small_web => k_is)
    (case a__law_number => k_is)
    (case l__law_number => k_is)
    (case c__law_number => k_is)
    (case k__law_number => k_is)
    (case a__law_due_web => k_is)
    (case l__law_due_web => k_is)
    (case c__law_due_web => k_is)
    (case k__law_due_web => k_is)
    (case a__law_due_colours => k_is)
    (case l__law_due_colours => k_is)
    (case c__law_due_colours => k_is)
    (case k__law_due_colours => k_is)
    (case a__law_is_read => k_is)
    (case l__law_is_read => k_is)
    (case c__law_is_read => k_is)
    (case k__law_is_read => k_is)
    (case a__law_char => k_is)
    (case l__law_char => k_is)
    (case c__law_char => k_is)
    (case k__law_char => k_is)
    (case a__law_changed => k_is)
    (case l__law_changed => k_is)
    (case c__law_changed => k_is)
    (case k__law_changed => k_is)
    (case a_law => k_is)
    (case l_law => k_is)
    (case c_law => k_is)
    (case k_law => k_is)
